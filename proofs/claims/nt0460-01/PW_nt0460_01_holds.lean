import PyProof.Rows.All
import Wide.All
import OpenK.AllK
import Wide.FinOn
import PySem.Challenge.RW_nt0460_01
open PySem PySem.W PyProof.Rows
set_option Elab.async false
set_option genSizeOf false
set_option genInjectivity false
set_option genCtorIdx false
set_option bootstrap.genMatcherCode false
set_option linter.unusedVariables false
set_option linter.unusedSimpArgs false
set_option maxHeartbeats 2000000
set_option maxRecDepth 3000
namespace Nl
inductive T where
 | n (k : Nat) | v (i : Nat) | a (x y : T) | s (x y : T) | k (k : Nat) (x : T) | r (x : T) (k : Nat) | c (x : T) | g (x : T)
inductive C where
 | ff | le (x y : T) | lt (x y : T) | eq (x y : T) | zz (x y : T) | gP (x y : T) | ne (x y : T) | LE (x y : T) | LT (x y : T) | EQ (x y : T) | zA (x y : T) | vz (x y : T) | NE (x y : T)
noncomputable def nth {α : Type} (d : α) (l : List α) : Nat → α := List.rec (fun _ => d) (fun x _ h i => Nat.rec x (fun j _ => h j) i) l
section
variable (A : List Nat) (B : List Int)
noncomputable def dN (t : T) : Nat := T.rec (fun k => k) (fun i => nth 0 A i) (fun _ _ x y => x + y) (fun _ _ _ _ => 0) (fun k _ x => k * x) (fun _ k x => x * k) (fun _ _ => 0) (fun _ _ => 0) t
noncomputable def dZ (t : T) : Int := T.rec (fun k => Int.ofNat k) (fun i => nth 0 B i) (fun _ _ x y => x + y) (fun _ _ x y => x - y) (fun k _ x => Int.ofNat k * x) (fun _ k x => x * Int.ofNat k) (fun x _ => (dN A x : Nat)) (fun _ x => -x) t
noncomputable def dC (c : C) : Prop := C.rec False (fun x y => dN A x ≤ dN A y) (fun x y => dN A x < dN A y) (fun x y => dN A x = dN A y) (fun x y => ¬ dN A x ≤ dN A y) (fun x y => ¬ dN A x < dN A y) (fun x y => ¬ dN A x = dN A y)
 (fun x y => dZ A B x ≤ dZ A B y) (fun x y => dZ A B x < dZ A B y) (fun x y => dZ A B x = dZ A B y) (fun x y => ¬ dZ A B x ≤ dZ A B y) (fun x y => ¬ dZ A B x < dZ A B y) (fun x y => ¬ dZ A B x = dZ A B y) c
noncomputable def imp (G : C) (l : List C) : Prop := List.rec (dC A B G) (fun c _ h => dC A B c → h) l
noncomputable def ad (p : List Int) : List Int → List Int := List.rec (fun q => q) (fun a p h q => List.rec (a :: p) (fun b q _ => (a + b) :: h q) q) p
noncomputable def sc (k : Int) (p : List Int) : List Int := p.map (k * ·)
noncomputable def ut (i : Nat) : List Int := Nat.rec [1] (fun _ h => 0 :: h) i
noncomputable def ob (x y : Option (List Int)) (f : List Int → List Int → List Int) : Option (List Int) := x.bind fun p => y.bind fun q => some (f p q)
noncomputable def sb (p q : List Int) : List Int := ad p (sc (-1) q)
noncomputable def pN (t : T) : Option (List Int) := T.rec (fun k => some [Int.ofNat k]) (fun i => some (ut (2 * i + 1))) (fun _ _ x y => ob x y ad) (fun _ _ _ _ => none) (fun k _ x => x.bind fun p => some (sc k p)) (fun _ k x => x.bind fun p => some (sc k p)) (fun _ _ => none) (fun _ _ => none) t
noncomputable def pZ (t : T) : Option (List Int) := T.rec (fun k => some [Int.ofNat k]) (fun i => some (ut (2 * i + 2))) (fun _ _ x y => ob x y ad) (fun _ _ x y => ob x y sb) (fun k _ x => x.bind fun p => some (sc k p)) (fun _ k x => x.bind fun p => some (sc k p)) (fun x _ => pN x) (fun _ x => x.bind fun p => some (sc (-1) p)) t
noncomputable def at_ (k : Nat) : Int := Nat.rec 1 (fun j _ => bif Nat.beq (j % 2) 0 then (nth 0 A (j / 2) : Nat) else nth 0 B (j / 2)) k
noncomputable def ev (p : List Int) : Nat → Int := List.rec (fun _ => 0) (fun c _ h k => c * at_ A B k + h (k + 1)) p
theorem mz (p : List Int) : ∀ (q : List Int) (k : Nat), ev A B (ad p q) k = ev A B p k + ev A B q k := by
 induction p with
 | nil => intro q k; exact (Int.zero_add _).symm
 | cons a p h =>
  intro q k
  cases q with
  | nil => exact (Int.add_zero _).symm
  | cons b q =>
   show (a + b) * at_ A B k + ev A B (ad p q) (k + 1) = (a * at_ A B k + ev A B p (k + 1)) + (b * at_ A B k + ev A B q (k + 1))
   rw [h q (k + 1), Int.add_mul, Int.add_assoc, Int.add_assoc, Int.add_left_comm (b * _)]
theorem jg (c : Int) (p : List Int) : ∀ k : Nat, ev A B (sc c p) k = c * ev A B p k := by
 induction p with
 | nil => intro k; exact (Int.mul_zero _).symm
 | cons a p h =>
  intro k
  show (c * a) * at_ A B k + ev A B (sc c p) (k + 1) = c * (a * at_ A B k + ev A B p (k + 1))
  rw [h (k + 1), Int.mul_add, Int.mul_assoc]
theorem wZ (p q : List Int) (k : Nat) : ev A B (sb p q) k = ev A B p k - ev A B q k := by
 unfold sb; rw [mz, jg, Int.neg_one_mul]; rfl
theorem w7 (i : Nat) : ∀ k : Nat, ev A B (ut i) k = at_ A B (k + i) := by
 induction i with
 | zero => intro k; show 1 * at_ A B k + 0 = _; rw [Int.one_mul, Int.add_zero]; rfl
 | succ i h => intro k; show 0 * at_ A B k + ev A B (ut i) (k + 1) = _; rw [Int.zero_mul, Int.zero_add, h (k + 1), Nat.add_assoc, Nat.add_comm 1 i]
theorem DK (i : Nat) : ev A B (ut (2 * i + 1)) 0 = (nth 0 A i : Nat) := by
 rw [w7, Nat.zero_add]
 show (bif Nat.beq ((2 * i) % 2) 0 then ((nth 0 A ((2 * i) / 2) : Nat) : Int) else _) = _
 rw [Nat.mul_mod_right, Nat.mul_div_cancel_left i (by decide)]; rfl
theorem DL (i : Nat) : ev A B (ut (2 * i + 2)) 0 = nth 0 B i := by
 rw [w7, Nat.zero_add]
 show (bif Nat.beq ((2 * i + 1) % 2) 0 then _ else nth 0 B ((2 * i + 1) / 2)) = _
 rw [Nat.mul_add_mod, Nat.mul_add_div (by decide)]; rfl
theorem w8 (c : Int) : ev A B [c] 0 = c := by show c * 1 + 0 = c; rw [Int.mul_one, Int.add_zero]
theorem uF {x y : Option (List Int)} {f r} (h : ob x y f = some r) : ∃ p q, x = some p ∧ y = some q ∧ f p q = r := by
 cases x with
 | none => cases h
 | some p => cases y with
  | none => cases h
  | some q => cases h; exact ⟨p, q, rfl, rfl, rfl⟩
theorem rp {x : Option (List Int)} {f : List Int → List Int} {r} (h : (x.bind fun p => some (f p)) = some r) : ∃ p, x = some p ∧ f p = r := by
 cases x with
 | none => cases h
 | some p => cases h; exact ⟨p, rfl, rfl⟩
theorem pf (t : T) : ∀ {p : List Int}, pN t = some p → ev A B p 0 = (dN A t : Nat) := by
 induction t with
 | n k => intro p h; cases h; exact w8 A B _
 | v i => intro p h; cases h; exact DK A B i
 | a x y hx hy => intro p h; obtain ⟨q, r, h1, h2, rfl⟩ := uF h; rw [mz, hx h1, hy h2]; rfl
 | k k x hx => intro p h; obtain ⟨q, e, rfl⟩ := rp h; rw [jg, hx e]; rfl
 | r x k hx => intro p h; obtain ⟨q, e, rfl⟩ := rp h; rw [jg, hx e, Int.mul_comm]; rfl
 | s x y => intro p h; cases h
 | c x => intro p h; cases h
 | g x => intro p h; cases h
theorem rq (t : T) : ∀ {p : List Int}, pZ t = some p → ev A B p 0 = dZ A B t := by
 induction t with
 | n k => intro p h; cases h; exact w8 A B _
 | v i => intro p h; cases h; exact DL A B i
 | a x y hx hy => intro p h; obtain ⟨q, r, h1, h2, rfl⟩ := uF h; rw [mz, hx h1, hy h2]; rfl
 | s x y hx hy => intro p h; obtain ⟨q, r, h1, h2, rfl⟩ := uF h; rw [wZ, hx h1, hy h2]; rfl
 | k k x hx => intro p h; obtain ⟨q, e, rfl⟩ := rp h; rw [jg, hx e]; rfl
 | r x k hx => intro p h; obtain ⟨q, e, rfl⟩ := rp h; rw [jg, hx e, Int.mul_comm]; rfl
 | c x => intro p h; exact pf A B x h
 | g x hx => intro p h; obtain ⟨q, e, rfl⟩ := rp h; rw [jg, hx e, Int.neg_one_mul]; rfl
noncomputable def lf (f : T → Option (List Int)) (e : Bool) (k : Int) (x y : T) : Option (Bool × List Int) := (ob (f y) (f x) fun q p => ad [k] (sb q p)).bind fun r => some (e, r)
noncomputable def hy (c : C) : Option (Bool × List Int) := C.rec none (lf pN false 0) (lf pN false (-1)) (lf pN true 0) (fun x y => lf pN false (-1) y x) (fun x y => lf pN false 0 y x) (fun _ _ => none)
 (lf pZ false 0) (lf pZ false (-1)) (lf pZ true 0) (fun x y => lf pZ false (-1) y x) (fun x y => lf pZ false 0 y x) (fun _ _ => none) c
noncomputable def ng (c : C) : C := C.rec (.le (.n 0) (.n 0)) .zz .gP (fun _ _ => .le (.n 0) (.n 0)) .le .lt .eq .zA .vz (fun _ _ => .le (.n 0) (.n 0)) .LE .LT .EQ c
noncomputable def gd (b : Bool) (w : Int) : Bool := b || Int.rec (fun _ => true) (fun _ => false) w
noncomputable def sm (l : List C) : List Int → List Int → Option (List Int) := List.rec (fun _ acc => some acc)
 (fun c _ h ws acc => List.rec none (fun w ws _ => (hy c).bind fun r => bif gd r.1 w then h ws (ad acc (sc w r.2)) else none) ws) l
noncomputable def FT (c : Int) : Bool := Int.rec (fun n => Nat.beq n 0) (fun _ => true) c
noncomputable def pz (c : Int) : Bool := Int.rec (fun n => Nat.beq n 0) (fun _ => false) c
noncomputable def FU (c : Int) : Bool := Int.rec (fun _ => false) (fun _ => true) c
noncomputable def bad (p : List Int) : Nat → Bool := List.rec (fun _ => true) (fun c _ h k => (bif Nat.beq (k % 2) 0 then FT c else pz c) && h (k + 1)) p
noncomputable def ta (l : List C) (G : C) (ws : List Int) : Bool := Option.rec false (fun p => List.rec false (fun c p _ => FU c && bad p 0) p) (sm (ng G :: l) ws [])
theorem iZ {f : T → Option (List Int)} {d : T → Int} (hf : ∀ t {p}, f t = some p → ev A B p 0 = d t) {e k x y b p} (h : lf f e k x y = some (b, p)) : b = e ∧ ev A B p 0 = k + (d y - d x) := by
 obtain ⟨r, h1, h2⟩ := Option.bind_eq_some_iff.mp h
 cases h2
 obtain ⟨q, p, e1, e2, rfl⟩ := uF h1
 rw [mz, wZ, w8, hf _ e1, hf _ e2]
 exact ⟨rfl, rfl⟩
theorem uG {x y e : Int} {b : Bool} (hc : x ≤ y) (h : b = false ∧ e = 0 + (y - x)) : 0 ≤ e ∧ (b = true → e = 0) := ⟨by omega, fun q => nomatch h.1.symm.trans q⟩
theorem y_lt {x y e : Int} {b : Bool} (hc : x < y) (h : b = false ∧ e = -1 + (y - x)) : 0 ≤ e ∧ (b = true → e = 0) := ⟨by omega, fun q => nomatch h.1.symm.trans q⟩
theorem y_eq {x y e : Int} {b : Bool} (hc : x = y) (h : b = true ∧ e = 0 + (y - x)) : 0 ≤ e ∧ (b = true → e = 0) := by
 have q : e = 0 := by rw [h.2, hc, Int.sub_self]; rfl
 exact ⟨Int.le_of_eq q.symm, fun _ => q⟩
theorem DM (c : C) {b p} (h : hy c = some (b, p)) (hc : dC A B c) : 0 ≤ ev A B p 0 ∧ (b = true → ev A B p 0 = 0) := by
 cases c with
 | ff => cases h
 | ne x y => cases h
 | NE x y => cases h
 | le x y => exact uG (Int.ofNat_le.mpr hc) (iZ A B (pf A B) h)
 | lt x y => exact y_lt (Int.ofNat_lt.mpr hc) (iZ A B (pf A B) h)
 | eq x y => exact y_eq (congrArg _ hc) (iZ A B (pf A B) h)
 | zz x y => exact y_lt (Int.ofNat_lt.mpr (Nat.lt_of_not_le hc)) (iZ A B (pf A B) h)
 | gP x y => exact uG (Int.ofNat_le.mpr (Nat.le_of_not_lt hc)) (iZ A B (pf A B) h)
 | LE x y => exact uG hc (iZ A B (rq A B) h)
 | LT x y => exact y_lt hc (iZ A B (rq A B) h)
 | EQ x y => exact y_eq hc (iZ A B (rq A B) h)
 | zA x y => exact y_lt (Int.not_le.mp hc) (iZ A B (rq A B) h)
 | vz x y => exact uG (Int.not_lt.mp hc) (iZ A B (rq A B) h)
theorem DN (G : C) (hc : ¬ dC A B G) : dC A B (ng G) := by
 cases G with
 | ff => exact Nat.le_refl _
 | eq x y => exact Nat.le_refl _
 | EQ x y => exact Nat.le_refl _
 | le x y => exact hc
 | lt x y => exact hc
 | LE x y => exact hc
 | LT x y => exact hc
 | zz x y => exact Classical.byContradiction hc
 | gP x y => exact Classical.byContradiction hc
 | ne x y => exact Classical.byContradiction hc
 | zA x y => exact Classical.byContradiction hc
 | vz x y => exact Classical.byContradiction hc
 | NE x y => exact Classical.byContradiction hc
theorem zB (k : Nat) (h : Nat.beq (k % 2) 0 = true) : 0 ≤ at_ A B (k + 1) := by
 show 0 ≤ bif Nat.beq (k % 2) 0 then ((nth 0 A (k / 2) : Nat) : Int) else _
 rw [h]; exact Int.natCast_nonneg _
theorem Ci (p : List Int) : ∀ k, bad p k = true → ev A B p (k + 1) ≤ 0 := by
 induction p with
 | nil => intro k _; exact Int.le_refl 0
 | cons c p ih =>
  intro k h
  obtain ⟨h1, h2⟩ := (Bool.and_eq_true _ _).mp h
  have e : c * at_ A B (k + 1) ≤ 0 := by
   cases q : Nat.beq (k % 2) 0 with
   | true =>
    rw [q] at h1
    have : c ≤ 0 := by
     cases c with
     | ofNat n => rw [Nat.eq_of_beq_eq_true h1]; exact Int.le_refl 0
     | negSucc n => exact Int.le_of_lt (Int.negSucc_lt_zero n)
    exact Int.mul_nonpos_of_nonpos_of_nonneg this (zB A B k q)
   | false =>
    rw [q] at h1
    have : c = 0 := by
     cases c with
     | ofNat n => rw [Nat.eq_of_beq_eq_true h1]; rfl
     | negSucc n => cases h1
    rw [this, Int.zero_mul]; exact Int.le_refl 0
  exact Int.add_le_add e (ih (k + 1) h2)
theorem DO {b : Bool} {w e : Int} (h : gd b w = true) (k : 0 ≤ e ∧ (b = true → e = 0)) : 0 ≤ w * e := by
 cases b with
 | true => rw [k.2 rfl, Int.mul_zero]; exact Int.le_refl 0
 | false => cases w with
  | ofNat n => exact Int.mul_nonneg (Int.natCast_nonneg n) k.1
  | negSucc n => cases h
theorem BD {c : C} {l ws acc p} (h : sm (c :: l) ws acc = some p) : ∃ ws' acc', sm l ws' acc' = some p ∧ (dC A B c → 0 ≤ ev A B acc 0 → 0 ≤ ev A B acc' 0) := by
 cases ws with
 | nil => cases h
 | cons w ws =>
  obtain ⟨⟨b, r⟩, h1, h2⟩ := Option.bind_eq_some_iff.mp h
  dsimp only at h2
  cases q : gd b w with
  | false => rw [q] at h2; cases h2
  | true =>
   rw [q] at h2
   exact ⟨ws, _, h2, fun hc ha => by rw [mz, jg]; exact Int.add_nonneg ha (DO q (DM A B c h1 hc))⟩
theorem DP (G : C) (p : List Int) (hp : ¬ 0 ≤ ev A B p 0) (l : List C) : ∀ ws acc, sm l ws acc = some p → (¬ dC A B G → 0 ≤ ev A B acc 0) → imp A B G l := by
 induction l with
 | nil => intro ws acc h ha; cases h; exact Classical.byContradiction fun q => hp (ha q)
 | cons c l ih =>
  intro ws acc h ha hc
  obtain ⟨ws', acc', h1, h2⟩ := BD A B h
  exact ih ws' acc' h1 fun hG => h2 hc (ha hG)
theorem lin (l : List C) (G : C) (ws : List Int) (h : ta l G ws = true) : imp A B G l := by
 unfold ta at h
 cases e : sm (ng G :: l) ws [] with
 | none => rw [e] at h; cases h
 | some p =>
  rw [e] at h
  cases p with
  | nil => cases h
  | cons c p =>
   obtain ⟨h1, h2⟩ := (Bool.and_eq_true _ _).mp h
   obtain ⟨ws', acc', g1, g2⟩ := BD A B e
   refine DP A B G _ (fun q => ?_) l ws' acc' g1 fun hG => g2 (DN A B G hG) (Int.le_refl 0)
   have x : ev A B p 1 ≤ 0 := Ci A B p 0 h2
   cases c with
   | ofNat n => cases h1
   | negSucc n => exact absurd (Int.le_trans q (Int.add_le_add_left x _)) (Int.not_le.mpr (by rw [Int.add_zero, show at_ A B 0 = 1 from rfl, Int.mul_one]; exact Int.negSucc_lt_zero n))
end
theorem BE {A B G G' G''} (f : dC A B G → dC A B G' → dC A B G'') (l : List C) : imp A B G l → imp A B G' l → imp A B G'' l := by
 induction l with
 | nil => exact f
 | cons c l ih => exact fun x y h => ih (x h) (y h)
theorem ln (A : List Nat) (l : List C) (G : C) (ws : List Int) (h : ta l G ws = true) : imp A [] G l := lin A [] l G ws h
theorem lie (A : List Nat) (l : List C) (x y : T) (ws ws' : List Int) (h : ta l (.le x y) ws = true) (h' : ta l (.le y x) ws' = true) : imp A [] (.eq x y) l := BE Nat.le_antisymm l (lin A [] l _ ws h) (lin A [] l _ ws' h')
theorem kv (A : List Nat) (B : List Int) (l : List C) (x y : T) (ws ws' : List Int) (h : ta l (.LE x y) ws = true) (h' : ta l (.LE y x) ws' = true) : imp A B (.EQ x y) l := BE Int.le_antisymm l (lin A B l _ ws h) (lin A B l _ ws' h')
theorem ai {a b : Nat} (h : Nat.ble a b = true) : a ≤ b := Nat.le_of_ble_eq_true h
theorem md {x k : Nat} : x % (k + 1) < k + 1 := Nat.mod_lt _ (Nat.succ_pos k)
theorem dm {x k : Nat} : k * (x / k) + x % k = x := Nat.div_add_mod x k
theorem na1 {a : Int} : -a ≤ (a.natAbs : Nat) := by omega
theorem FV {a b : Nat} : a ≤ a - b + b := by omega
theorem vA {a b : Nat} : a - b ≤ a := Nat.sub_le a b
theorem aM {a b : Nat} (h : b ≤ a) : a - b + b = a := Nat.sub_add_cancel h
theorem zC {a b : Nat} (h : a ≤ b) : a - b = 0 := Nat.sub_eq_zero_of_le h
end Nl
open Nl (ai lin ln lie kv md dm FV vA aM zC na1)
namespace Nt
set_option genCtorIdx true
inductive V where
 | none | bool (b : Bool) | int (i : Int) | str (s : List Nat) | ref (a : Nat)
inductive O where
 | list (vs : List V)
 | ro (vs : List V)
 | tup (vs : List V)
 | range (a b c : Int)
 | inst (C d : Nat)
 | dict (fs : List (Nat × V))
noncomputable abbrev Hp := List (Nat × O)
noncomputable def O.mA : O → Bool
 | .list _ => true
 | .dict _ => true
 | _ => false
inductive Upd (a : Nat) (o o' : O) : Hp → Hp → Prop
 | here {t} : Upd a o o' ((a, o) :: t) ((a, o') :: t)
 | there {p t t'} : Upd a o o' t t' → Upd a o o' (p :: t) (p :: t')
noncomputable abbrev ap := Nat → Option V
noncomputable def ap.set (ρ : ap) (i : Nat) (v : V) : ap := fun j => if j = i then some v else ρ j
set_option genCtorIdx false
mutual
inductive E where
 | var (i : Nat)
 | ae (i : Int) | aA (s : List Nat) | aZ (b : Bool) | bO
 | glob (g : Nat)
 | bin (op : Operator) (a b : E)
 | neg (a : E) | inv (a : E) | not (a : E)
 | and_ (es : Es) | or_ (es : Es)
 | cmp (op : CmpOp) (a b : E)
 | gf (op op' : CmpOp) (a b c : E)
 | du (t a b : E)
 | call (f : Nat) (args : Es)
 | blt (f : Nat) (args : Es)
 | meth (m : Nat) (o : E) (args : Es)
 | gU (f : Nat) (o : E) (args : Es)
 | attr (o : E) (a : Nat)
 | idx (o i : E)
 | slice (o lo hi : E)
 | list (es : Es) | tup (es : Es)
 | comp (x : Nat) (elt iter cond : E)
inductive Es where
 | nil | cons (e : E) (r : Es)
end
mutual
inductive S where
 | ex (e : E)
 | asg (i : Nat) (e : E)
 | p9 (is : List Nat) (e : E)
 | aE (o : E) (a : Nat) (e : E)
 | cM (o i e : E)
 | aQ (i : Nat) (op : Operator) (e : E)
 | mB (o : E) (a : Nat) (op : Operator) (e : E)
 | gM (o i : E) (op : Operator) (e : E)
 | ite (t : E) (a b : Ss)
 | for_ (i : Nat) (it : E) (b : Ss)
 | fH (t : E) (b : Ss)
 | ret (e : E) | uH
 | cont
 | try_ (b : Ss)
 | raise
 | rep (i k : Nat)
inductive Ss where
 | nil | cons (s : S) (r : Ss)
end
set_option genCtorIdx true
inductive Fl where
 | next | cont | ret (v : V)
noncomputable def truth (v : V) (H : Hp) (Q : Bool → Prop) : Prop :=
 match v with
 | .none => Q false
 | .bool b => Q b
 | .int i => Q (decide (i ≠ 0))
 | .str s => s.length ≤ 10000 ∧ Q (decide (s ≠ []))
 | .ref a => ∃ vs, (a, O.list vs) ∈ H ∧ vs.length ≤ 10000 ∧ Q (decide (vs ≠ []))
noncomputable def binI (op : Operator) (i j : Int) (H : Hp) (Q : V → Hp → Prop) : Prop :=
 match op with
 | .Add => Q (.int (i + j)) H
 | .Sub => Q (.int (i - j)) H
 | .Mult => (-(2 ^ 64) < j ∧ j < 2 ^ 64) ∧ Q (.int (i * j)) H
 | .FloorDiv => (j ≠ 0 ∧ j.natAbs < 1073741824) ∧ Q (.int (i.fdiv j)) H
 | .Mod => j ≠ 0 ∧ Q (.int (i.fmod j)) H
 | .LShift => (0 ≤ j ∧ j ≤ 1000 ∧ i.natAbs < 2 ^ 64) ∧ Q (.int (i * 2 ^ j.toNat)) H
 | .RShift => 0 ≤ j ∧ Q (.int (i.fdiv (2 ^ j.toNat))) H
 | .BitOr => Q (.int (Builtin.bitOr i j)) H
 | .BitAnd => Q (.int (Builtin.bitAnd i j)) H
 | .BitXor => Q (.int (Builtin.bitXor i j)) H
 | _ => False
noncomputable def tc (op : Operator) (P : Prop) : Prop := match op with
 | .Add => P
 | _ => False
noncomputable def td (op : Operator) (P : Prop) : Prop := match op with
 | .Mult => P
 | _ => False
noncomputable def mC (y : V) (P : Nat → Prop) : Prop := match y with
 | .ref b => P b
 | _ => False
noncomputable def vInt (y : V) (P : Int → Prop) : Prop := match y with
 | .int b => P b
 | _ => False
noncomputable def vStr (y : V) (P : List Nat → Prop) : Prop := match y with
 | .str b => P b
 | _ => False
noncomputable def cn (op : Operator) (x y : V) (H : Hp) (Q : V → Hp → Prop) : Prop :=
 match x with
 | .int i => vInt y fun j => binI op i j H Q
 | .str a => match y with
  | .str b => tc op (a.length + b.length ≤ 10000 ∧ Q (.str (a ++ b)) H)
  | .int n => td op ((-1000 ≤ n ∧ n ≤ 1000 ∧ a.length ≤ 10) ∧ Q (.str (List.replicate n.toNat a).flatten) H)
  | _ => False
 | .ref a => match y with
  | .ref b => tc op (∃ vs ws, (a, O.list vs) ∈ H ∧ (b, O.list ws) ∈ H ∧ vs.length + ws.length ≤ 10000 ∧ ∀ c, Q (.ref c) ((c, .list (vs ++ ws)) :: H))
  | .int n => td op (∃ vs, (a, O.list vs) ∈ H ∧ (vs.length ≤ 10 ∧ -1000 ≤ n ∧ n ≤ 1000) ∧ ∀ c, Q (.ref c) ((c, .list (List.replicate n.toNat vs).flatten) :: H))
  | _ => False
 | _ => False
noncomputable def kY (x i : V) (H : Hp) (Q : V → Hp → Prop) : Prop :=
 match x with
 | .ref a => vInt i fun k => ∃ vs, ((a, O.list vs) ∈ H ∨ (a, O.tup vs) ∈ H) ∧ vs.length ≤ 10000 ∧
   ((0 ≤ k ∧ ∃ v, vs[k.toNat]? = some v ∧ Q v H) ∨ (k < 0 ∧ -(vs.length : Int) ≤ k ∧ (∃ v, vs[(k + vs.length).toNat]? = some v ∧ Q v H) ∧ (a, O.list vs) ∈ H))
 | .str s => vInt i fun k => 0 ≤ k ∧ s.length ≤ 10000 ∧ ∃ c, s[k.toNat]? = some c ∧ Q (.str [c]) H
 | _ => False
theorem iA {y P} (h : mC y P) : ∃ b, y = .ref b ∧ P b := by cases y <;> first | exact ⟨_, rfl, h⟩ | exact False.elim h
theorem lV {y P} (h : vInt y P) : ∃ b, y = .int b ∧ P b := by cases y <;> first | exact ⟨_, rfl, h⟩ | exact False.elim h
theorem fJ {y P} (h : vStr y P) : ∃ b, y = .str b ∧ P b := by cases y <;> first | exact ⟨_, rfl, h⟩ | exact False.elim h
theorem mD {op P} (h : tc op P) : op = .Add ∧ P := by cases op <;> first | exact ⟨rfl, h⟩ | exact False.elim h
theorem ru {op P} (h : td op P) : op = .Mult ∧ P := by cases op <;> first | exact ⟨rfl, h⟩ | exact False.elim h
noncomputable def qb (x : V) (a : Nat) (eH : Nat → Nat → Bool) (H : Hp) (Q : V → Hp → Prop) : Prop :=
 ∃ xa C d fs v, x = .ref xa ∧ (xa, O.inst C d) ∈ H ∧ (d, O.dict fs) ∈ H ∧ fs.lookup a = some v ∧ eH C a = true ∧ Q v H
noncomputable def fset (fs : List (Nat × V)) (a : Nat) (v : V) : List (Nat × V) :=
 match fs with
 | [] => [(a, v)]
 | p :: r => if p.1 = a then (a, v) :: r else p :: fset r a v
noncomputable def dB (x : V) (a : Nat) (v : V) (eH : Nat → Nat → Bool) (H : Hp) (Q : Hp → Prop) : Prop :=
 ∃ xa C d fs H', x = .ref xa ∧ (xa, O.inst C d) ∈ H ∧ Upd d (.dict fs) (.dict (fset fs a v)) H H' ∧ fs.length ≤ 100 ∧ eH C a = true ∧ Q H'
noncomputable def eI (x i v : V) (H : Hp) (Q : Hp → Prop) : Prop :=
 ∃ xa k vs H', x = .ref xa ∧ i = .int k ∧ vs.length ≤ 10000 ∧ ((0 ≤ k ∧ k < vs.length ∧ Upd xa (.list vs) (.list (vs.set k.toNat v)) H H') ∨
  (k < 0 ∧ -(vs.length : Int) ≤ k ∧ Upd xa (.list vs) (.list (vs.set (k + vs.length).toNat v)) H H')) ∧ Q H'
set_option genCtorIdx false
noncomputable abbrev st (s : List Nat) : Str := ⟨s.toArray⟩
noncomputable def un (x : Str) : List Nat := x.cps.toList
noncomputable def bN (lo hi st : Int) : List Int :=
 (List.range (Builtin.Range.rangeSize lo hi st).toNat).map fun (k : Nat) => lo + st * (k : Int)
inductive Src : V → Hp → Option Nat → List V → Prop
 | list {a vs H} : (a, O.list vs) ∈ H → vs.length ≤ 10000 → Src (.ref a) H (some a) vs
 | tup {a vs H} : (a, O.tup vs) ∈ H → vs.length ≤ 10000 → Src (.ref a) H none vs
 | rng {a lo hi st H} : (a, O.range lo hi st) ∈ H → (-10000 ≤ lo ∧ lo ≤ 10000 ∧ -10000 ≤ hi ∧ hi ≤ 10000 ∧ -10000 ≤ st ∧ st ≤ 10000 ∧ st ≠ 0) → Src (.ref a) H none ((bN lo hi st).map .int)
 | str {s H} : s.length ≤ 10000 → (∀ c ∈ s, c < 128) → Src (.str s) H none (s.map fun c => .str [c])
noncomputable def alive (src : Option Nat) (items : List V) (H : Hp) : Prop :=
 match src with
 | none => True
 | some a => (a, O.list items) ∈ H
noncomputable def Sb (H' H : Hp) : Prop := ∃ L : Hp, L.Perm H' ∧ L.Sublist H
theorem Sb.refl {H : Hp} : Sb H H := ⟨H, .refl _, .refl _⟩
theorem Sb.of {H' H : Hp} (h : H'.Sublist H) : Sb H' H := ⟨H', .refl _, h⟩
inductive Pick (c : Nat × O) : Hp → Hp → Prop
 | here {t} : Pick c (c :: t) t
 | there {d t t'} : Pick c t t' → Pick c (d :: t) (d :: t')
theorem Sb.nil {H : Hp} : Sb [] H := ⟨[], .refl _, List.nil_sublist _⟩
theorem Sb.skip {H' H : Hp} {d : Nat × O} (h : Sb H' H) : Sb H' (d :: H) := let ⟨L, p, q⟩ := h; ⟨L, p, q.cons _⟩
theorem Sb.keep {H' H : Hp} {d : Nat × O} (h : Sb H' H) : Sb (d :: H') (d :: H) := let ⟨L, p, q⟩ := h; ⟨d :: L, p.cons _, q.cons_cons _⟩
theorem Sb.pick {T H H₁ : Hp} {c : Nat × O} (p : Pick c H H₁) (h : Sb T H₁) : Sb (c :: T) H := by
 induction p generalizing T with
 | here => exact h.keep
 | @there d t t' p ih =>
  obtain ⟨L, e, q⟩ := h
  cases q with
  | cons _ q => exact (ih ⟨L, e, q⟩).skip
  | cons_cons _ q =>
   rename_i l₁
   obtain ⟨L', e', q'⟩ := ih (T := l₁) ⟨l₁, .refl _, q⟩
   exact ⟨d :: L', ((e'.cons d).trans (.swap ..)).trans (e.cons c), q'.cons_cons _⟩
theorem Sb.subset {H' H : Hp} (h : Sb H' H) : ∀ p ∈ H', p ∈ H := fun _ hp => let ⟨_, e, q⟩ := h; q.subset (e.mem_iff.mpr hp)
noncomputable abbrev SQ := Fl → ap → Hp → Prop
noncomputable def forL (body : ap → Hp → SQ → Prop) (src : Option Nat) (items : List V) (i : Nat) : List V → ap → Hp → SQ → Prop
 | [], ρ, H, Q => alive src items H ∧ Q .next ρ H
 | x :: r, ρ, H, Q => alive src items H ∧ body (ρ.set i x) H (fun fl af H' => match fl with
   | .ret v => Q (.ret v) af H'
   | _ => ∃ aH, Sb aH H' ∧ forL body src items i r af aH Q)
noncomputable def eg (cond : ap → Hp → (Bool → Hp → Prop) → Prop) (elt : ap → Hp → (V → Hp → Prop) → Prop) (src : Option Nat) (items : List V) (i : Nat) (ρ : ap) : List V → List V → Hp → (List V → Hp → Prop) → Prop
 | [], acc, H, Q => alive src items H ∧ Q acc H
 | x :: r, acc, H, Q => alive src items H ∧ cond (ρ.set i x) H (fun b H₁ => match b with
   | true => elt (ρ.set i x) H₁ (fun v H₂ => acc.length ≤ 1000 ∧ eg cond elt src items i ρ r (acc ++ [v]) H₂ Q)
   | false => eg cond elt src items i ρ r acc H₁ Q)
noncomputable def eB (t : ap → Hp → (Bool → Hp → Prop) → Prop) (body : ap → Hp → SQ → Prop) : Nat → ap → Hp → SQ → Prop
 | 0, _, _, _ => False
 | n + 1, ρ, H, Q => t ρ H (fun b H₁ => match b with
   | true => body ρ H₁ (fun fl af H' => match fl with
     | .ret v => Q (.ret v) af H'
     | _ => ∃ aH, Sb aH H' ∧ eB t body n af aH Q)
   | false => Q .next ρ H₁)
inductive Den (H : Hp) : V → PyData → Prop
 | int (i) : Den H (.int i) (.int i)
 | str (s) : Den H (.str s) (.str (st s))
 | lints {a} {is : List Int} : (a, O.list (is.map .int)) ∈ H → Den H (.ref a) (.list (is.map .int))
 | te {a} {ss : List (List Nat)} : (a, O.list (ss.map .str)) ∈ H → Den H (.ref a) (.list (ss.map fun s => .str (st s)))
inductive rA (H : Hp) : List V → List PyData → Prop
 | nil : rA H [] []
 | cons {v d vs ds} : Den H v d → rA H vs ds → rA H (v :: vs) (d :: ds)
inductive mF (H : Hp) : V → PyData → Prop
 | of {v d} : Den H v d → mF H v d
 | tup {a vs ds} : (a, O.tup vs) ∈ H → rA H vs ds → mF H (.ref a) (.tuple ds)
noncomputable def DQ (op : CmpOp) (i j : Int) (H : Hp) (Q : V → Hp → Prop) : Prop :=
 match op with
 | .Eq => Q (.bool (decide (i = j))) H
 | .NotEq => Q (.bool (decide (i ≠ j))) H
 | .Lt => Q (.bool (decide (i < j))) H
 | .LtE => Q (.bool (decide (i ≤ j))) H
 | .Gt => Q (.bool (decide (j < i))) H
 | .GtE => Q (.bool (decide (j ≤ i))) H
 | _ => False
noncomputable def DR (op : CmpOp) (a s : List Nat) (H : Hp) (Q : V → Hp → Prop) : Prop :=
 match op with
 | .Eq => Q (.bool (decide (a = s))) H
 | .NotEq => Q (.bool (decide (a ≠ s))) H
 | .In => ∃ c, a = [c] ∧ Q (.bool (decide (c ∈ s))) H
 | _ => False
noncomputable def BF (op : CmpOp) (b : Bool) (H : Hp) (Q : V → Hp → Prop) : Prop :=
 match op with
 | .Is => Q (.bool b) H
 | .IsNot => Q (.bool (!b)) H
 | _ => False
noncomputable def w9 (op : CmpOp) (P : Prop) : Prop := match op with
 | .Eq => P
 | _ => False
noncomputable def BG (op : CmpOp) (P : Prop) : Prop := match op with
 | .In => P
 | _ => False
theorem uI {op P} (h : w9 op P) : op = .Eq ∧ P := by cases op <;> first | exact ⟨rfl, h⟩ | exact False.elim h
theorem zD {op P} (h : BG op P) : op = .In ∧ P := by cases op <;> first | exact ⟨rfl, h⟩ | exact False.elim h
noncomputable def ez (op : CmpOp) (x y : V) (H : Hp) (Q : V → Hp → Prop) : Prop :=
 match x with
 | .int i => match y with
  | .int j => DQ op i j H Q
  | .ref a => BG op (∃ is : List Int, (a, O.list (is.map .int)) ∈ H ∧ is.length ≤ 100 ∧ Q (.bool (decide (i ∈ is))) H)
  | _ => False
 | .str a => vStr y fun b => DR op a b H Q
 | .bool a => match y with
  | .bool b => w9 op (Q (.bool (decide (a = b))) H)
  | _ => False
 | .none => match y with
  | .none => BF op true H Q
  | _ => False
 | .ref a => match y with
  | .none => BF op false H Q
  | .ref b => w9 op (∃ da db, mF H (.ref a) da ∧ mF H (.ref b) db ∧ SeqAt.shaped da = true ∧ SeqAt.shaped db = true ∧ Q (.bool (PyData.eqv da db)) H)
  | _ => False
noncomputable def v1 (vs : List V) (P : V → Prop) : Prop := match vs with
 | [v] => P v
 | _ => False
theorem rB {vs P} (h : v1 vs P) : ∃ v, vs = [v] ∧ P v := by
 cases vs with
 | nil => exact False.elim h
 | cons x r => cases r with
  | nil => exact ⟨x, rfl, h⟩
  | cons _ _ => exact False.elim h
noncomputable def DS (vs : List V) (H : Hp) (Q : V → Hp → Prop) : Prop :=
 match vs with
 | .int lo :: r => match r with
  | [] => (-10000 ≤ lo ∧ lo ≤ 10000) ∧ ∀ a, Q (.ref a) ((a, .range 0 lo 1) :: H)
  | .int hi :: r => match r with
   | [] => (-10000 ≤ lo ∧ lo ≤ 10000 ∧ -10000 ≤ hi ∧ hi ≤ 10000) ∧ ∀ a, Q (.ref a) ((a, .range lo hi 1) :: H)
   | x :: r => match r with
    | [] => vInt x fun st => (-10000 ≤ lo ∧ lo ≤ 10000 ∧ -10000 ≤ hi ∧ hi ≤ 10000 ∧ -10000 ≤ st ∧ st < 0) ∧ ∀ a, Q (.ref a) ((a, .range lo hi st) :: H)
    | _ => False
  | _ => False
 | _ => False
noncomputable def DT (x : V) (H : Hp) (Q : V → Hp → Prop) : Prop :=
 match x with
 | .str s => s.length ≤ 10000 ∧ Q (.int s.length) H
 | .ref a => ∃ ws, (a, O.list ws) ∈ H ∧ ws.length ≤ 10000 ∧ Q (.int ws.length) H
 | _ => False
noncomputable def xe (f : Nat) (vs : List V) (H : Hp) (Q : V → Hp → Prop) : Prop :=
 match f with
 | 0 => v1 vs fun v => DT v H Q
 | 1 => DS vs H Q
 | 2 => v1 vs fun v => vInt v fun i => Q (.int i.natAbs) H
 | 3 => match vs with
  | x :: r => vInt x fun i => v1 r fun y => vInt y fun j => Q (.int (max i j)) H
  | [] => False
 | 4 => v1 vs fun v => vInt v fun i => (0 ≤ i ∧ i < 10 ^ 20) ∧ Q (.str (un (Str.ofString (toString i)))) H
 | _ => False
noncomputable def gV (m : Nat) (o : V) (vs : List V) (H : Hp) (Q : V → Hp → Prop) : Prop :=
 v1 vs fun v => match m with
 | 0 => mC o fun a => ∃ xs H', Upd a (.list xs) (.list (xs ++ [v])) H H' ∧ xs.length ≤ 1000 ∧ Q .none H'
 | 1 => mC o fun a => mC v fun b => ∃ xs ys H', (b, O.list ys) ∈ H ∧ Upd a (.list xs) (.list (xs ++ ys)) H H' ∧ xs.length ≤ 1000 ∧ ys.length ≤ 1000 ∧ Q .none H'
 | 2 => vStr o fun s => vStr v fun p => (s.length ≤ 1000 ∧ p.length ≤ 1000) ∧ Q (.int (Txt.find (st s) (st p))) H
 | 3 => vStr o fun s => vStr v fun p => (s.length ≤ 1000 ∧ 0 < p.length) ∧ ∀ a, Q (.ref a) ((a, .list ((Txt.split (st s) (st p)).map fun x => .str (un x))) :: H)
 | 4 => vStr o fun s => mC v fun a => ∃ ss : List (List Nat), (a, O.list (ss.map .str)) ∈ H ∧ (s.length ≤ 10 ∧ ss.length ≤ 1000 ∧ ∀ t ∈ ss, t.length ≤ 100) ∧ Q (.str (un (Txt.join (st s) (ss.map st)))) H
 | _ => False
noncomputable def rC (m : Nat) (o : V) (H : Hp) : Prop :=
 match m with
 | 0 => mC o fun a => ∃ vs, (a, O.list vs) ∈ H
 | 1 => mC o fun a => ∃ vs, (a, O.list vs) ∈ H
 | 2 => vStr o fun _ => True
 | 3 => vStr o fun _ => True
 | 4 => vStr o fun _ => True
 | _ => False
structure Cfg where
 Sp : Nat → List V → Hp → (V → Hp → Prop) → Prop
 gv : Nat → V
 eH : Nat → Nat → Bool
 vB : Nat → Nat → Bool
noncomputable def zE (C : Cfg) (f : Nat) (o : V) (H : Hp) (Q : Hp → Prop) : Prop :=
 ∃ x c d fs, o = .ref x ∧ (x, O.inst c d) ∈ H ∧ (d, O.dict fs) ∈ H ∧ C.vB c f = true ∧ Q H
mutual
noncomputable def ay (C : Cfg) : E → ap → Hp → (V → Hp → Prop) → Prop
 | .var i => fun ρ H Q => ∃ v, ρ i = some v ∧ Q v H
 | .ae i => fun _ H Q => Q (.int i) H
 | .aA s => fun _ H Q => Q (.str s) H
 | .aZ b => fun _ H Q => Q (.bool b) H
 | .bO => fun _ H Q => Q .none H
 | .glob g => fun _ H Q => Q (C.gv g) H
 | .bin op a b => fun ρ H Q => ay C a ρ H fun x H₁ => ay C b ρ H₁ fun y H₂ => cn op x y H₂ Q
 | .neg a => fun ρ H Q => ay C a ρ H fun x H₁ => ∃ i, x = .int i ∧ Q (.int (-i)) H₁
 | .inv a => fun ρ H Q => ay C a ρ H fun x H₁ => ∃ i, x = .int i ∧ Q (.int (Builtin.bitNot i)) H₁
 | .not a => fun ρ H Q => ay C a ρ H fun x H₁ => truth x H₁ fun b => Q (.bool (!b)) H₁
 | .and_ es => fun ρ H Q => tf C es ρ H Q
 | .or_ es => fun ρ H Q => xf C es ρ H Q
 | .cmp op a b => fun ρ H Q => ay C a ρ H fun x H₁ => ay C b ρ H₁ fun y H₂ => ez op x y H₂ Q
 | .gf op op' a b c => fun ρ H Q => ay C a ρ H fun x H₁ => ay C b ρ H₁ fun y H₂ => ez op x y H₂ fun r aD => truth r aD fun t => match t with
   | true => ay C c ρ aD fun z eJ => ez op' y z eJ Q
   | false => Q r aD
 | .du t a b => fun ρ H Q => ce C t ρ H fun c H₁ => match c with
   | true => ay C a ρ H₁ Q
   | false => ay C b ρ H₁ Q
 | .call f args => fun ρ H Q => cN C args ρ H fun vs H₁ => C.Sp f vs H₁ Q
 | .blt f args => fun ρ H Q => cN C args ρ H fun vs H₁ => xe f vs H₁ Q
 | .meth m o args => fun ρ H Q => ay C o ρ H fun x H₁ => rC m x H₁ ∧ cN C args ρ H₁ fun vs H₂ => gV m x vs H₂ Q
 | .gU f o args => fun ρ H Q => ay C o ρ H fun x H₁ => zE C f x H₁ fun H₁ => cN C args ρ H₁ fun vs H₂ => C.Sp f (x :: vs) H₂ Q
 | .attr o a => fun ρ H Q => ay C o ρ H fun x H₁ => qb x a C.eH H₁ Q
 | .idx o i => fun ρ H Q => ay C o ρ H fun x H₁ => ay C i ρ H₁ fun y H₂ => kY x y H₂ Q
 | .slice o lo hi => fun ρ H Q => ay C o ρ H fun x H₁ => ay C lo ρ H₁ fun l H₂ => ay C hi ρ H₂ fun h aD =>
   ∃ (a : Nat) (vs : List V) (lo' hi' : Int), x = .ref a ∧ ((a, O.list vs) ∈ aD ∨ (a, O.ro vs) ∈ aD) ∧ vs.length ≤ 10000 ∧ (l = .none ∧ lo' = 0 ∨ l = .int lo' ∧ 0 ≤ lo' ∧ lo' ≤ 10000) ∧
    (h = .none ∧ hi' = vs.length ∨ h = .int hi' ∧ 0 ≤ hi' ∧ hi' ≤ 10000) ∧ ∀ c, Q (.ref c) ((c, .list ((vs.take hi'.toNat).drop lo'.toNat)) :: aD)
 | .list es => fun ρ H Q => cN C es ρ H fun vs H₁ => vs.length ≤ 100 ∧ ∀ a, Q (.ref a) ((a, .list vs) :: H₁)
 | .tup es => fun ρ H Q => cN C es ρ H fun vs H₁ => vs.length ≤ 100 ∧ ∀ a, Q (.ref a) ((a, .tup vs) :: H₁)
 | .comp x elt iter cond => fun ρ H Q => ay C iter ρ H fun v H₁ => ∃ src items, Src v H₁ src items ∧
   eg (ce C cond) (ay C elt) src items x ρ items [] H₁ fun acc H₂ => ∀ a, Q (.ref a) ((a, .list acc) :: H₂)
noncomputable def cN (C : Cfg) : Es → ap → Hp → (List V → Hp → Prop) → Prop
 | .nil => fun _ H Q => Q [] H
 | .cons e r => fun ρ H Q => ay C e ρ H fun v H₁ => cN C r ρ H₁ fun vs H₂ => Q (v :: vs) H₂
noncomputable def tf (C : Cfg) : Es → ap → Hp → (V → Hp → Prop) → Prop
 | .nil => fun _ _ _ => False
 | .cons e .nil => fun ρ H Q => ay C e ρ H Q
 | .cons e r => fun ρ H Q => ay C e ρ H fun v H₁ => truth v H₁ fun b => match b with
   | true => tf C r ρ H₁ Q
   | false => Q v H₁
noncomputable def xf (C : Cfg) : Es → ap → Hp → (V → Hp → Prop) → Prop
 | .nil => fun _ _ _ => False
 | .cons e .nil => fun ρ H Q => ay C e ρ H Q
 | .cons e r => fun ρ H Q => ay C e ρ H fun v H₁ => truth v H₁ fun b => match b with
   | true => Q v H₁
   | false => xf C r ρ H₁ Q
noncomputable def ce (C : Cfg) : E → ap → Hp → (Bool → Hp → Prop) → Prop
 | .not a => fun ρ H Q => ce C a ρ H fun b H₁ => Q (!b) H₁
 | .and_ es => fun ρ H Q => dO C es ρ H Q
 | .or_ es => fun ρ H Q => tg C es ρ H Q
 | .du t a b => fun ρ H Q => ce C t ρ H fun c H₁ => match c with
   | true => ce C a ρ H₁ Q
   | false => ce C b ρ H₁ Q
 | .cmp op a b => fun ρ H Q => ay C a ρ H fun x H₁ => ay C b ρ H₁ fun y H₂ => ez op x y H₂ fun v aD => truth v aD fun b => Q b aD
 | .gf op op' a b c => fun ρ H Q => ay C a ρ H fun x H₁ => ay C b ρ H₁ fun y H₂ => ez op x y H₂ fun r aD => truth r aD fun t => match t with
   | true => ay C c ρ aD fun z eJ => ez op' y z eJ fun v gW => truth v gW fun b => Q b gW
   | false => Q false aD
 | .aZ b => fun _ H Q => Q b H
 | .var i => fun ρ H Q => ∃ v, ρ i = some v ∧ truth v H fun b => Q b H
 | .bin op a b => fun ρ H Q => ay C a ρ H fun x H₁ => ay C b ρ H₁ fun y H₂ => cn op x y H₂ fun v aD => truth v aD fun b => Q b aD
 | .call f args => fun ρ H Q => cN C args ρ H fun vs H₁ => C.Sp f vs H₁ fun v aD => truth v aD fun b => Q b aD
 | .attr o a => fun ρ H Q => ay C o ρ H fun x H₁ => qb x a C.eH H₁ fun v aD => truth v aD fun b => Q b aD
 | .idx o i => fun ρ H Q => ay C o ρ H fun x H₁ => ay C i ρ H₁ fun y H₂ => kY x y H₂ fun v aD => truth v aD fun b => Q b aD
 | _ => fun _ _ _ => False
noncomputable def dO (C : Cfg) : Es → ap → Hp → (Bool → Hp → Prop) → Prop
 | .nil => fun _ H Q => Q true H
 | .cons e r => fun ρ H Q => ce C e ρ H fun b H₁ => match b with
   | true => dO C r ρ H₁ Q
   | false => Q false H₁
noncomputable def tg (C : Cfg) : Es → ap → Hp → (Bool → Hp → Prop) → Prop
 | .nil => fun _ H Q => Q false H
 | .cons e r => fun ρ H Q => ce C e ρ H fun b H₁ => match b with
   | true => Q true H₁
   | false => tg C r ρ H₁ Q
end
noncomputable def jw (ρ : ap) : List Nat → List V → ap
 | i :: is, v :: vs => jw (ρ.set i v) is vs
 | _, _ => ρ
noncomputable def dE (x y : V) : Prop :=
 match x, y with
 | .int _, _ => True
 | .str _, .str _ => True
 | _, _ => False
mutual
noncomputable def wpS (C : Cfg) : S → ap → Hp → SQ → Prop
 | .ex e => fun ρ H Q => ay C e ρ H fun _ H₁ => Q .next ρ H₁
 | .asg i e => fun ρ H Q => ay C e ρ H fun v H₁ => Q .next (ρ.set i v) H₁
 | .p9 is e => fun ρ H Q => ay C e ρ H fun v H₁ => ∃ a vs, v = .ref a ∧ ((a, O.tup vs) ∈ H₁ ∨ (a, O.list vs) ∈ H₁) ∧ (vs.length = is.length ∧ vs.length ≤ 10000) ∧ Q .next (jw ρ is vs) H₁
 | .aE o a e => fun ρ H Q => ay C e ρ H fun v H₁ => ay C o ρ H₁ fun x H₂ => dB x a v C.eH H₂ fun aD => Q .next ρ aD
 | .cM o i e => fun ρ H Q => ay C e ρ H fun v H₁ => ay C o ρ H₁ fun x H₂ => ay C i ρ H₂ fun y aD => eI x y v aD fun eJ => Q .next ρ eJ
 | .aQ i op e => fun ρ H Q => ∃ x, ρ i = some x ∧ ay C e ρ H fun y H₁ => dE x y ∧ cn op x y H₁ fun v H₂ => Q .next (ρ.set i v) H₂
 | .mB o a op e => fun ρ H Q => ay C o ρ H fun x H₁ => qb x a C.eH H₁ fun old H₂ => ay C e ρ H₂ fun y aD => dE old y ∧ cn op old y aD fun v eJ => dB x a v C.eH eJ fun gW => Q .next ρ gW
 | .gM o i op e => fun ρ H Q => ay C o ρ H fun x H₁ => ay C i ρ H₁ fun k H₂ => kY x k H₂ fun old aD => ay C e ρ aD fun y eJ => dE old y ∧ cn op old y eJ fun v gW => eI x k v gW fun xg => Q .next ρ xg
 | .ite t a b => fun ρ H Q => ce C t ρ H fun c H₁ => match c with
   | true => cB C a ρ H₁ Q
   | false => cB C b ρ H₁ Q
 | .for_ i it b => fun ρ H Q => ay C it ρ H fun v H₁ => ∃ src items, Src v H₁ src items ∧ ∃ H₂, Sb H₂ H₁ ∧ forL (cB C b) src items i items ρ H₂ Q
 | .fH t b => fun ρ H Q => ∃ H₂, Sb H₂ H ∧ ∃ n, eB (ce C t) (cB C b) n ρ H₂ Q
 | .ret e => fun ρ H Q => ay C e ρ H fun v H₁ => Q (.ret v) ρ H₁
 | .uH => fun ρ H Q => Q (.ret .none) ρ H
 | .cont => fun ρ H Q => Q .cont ρ H
 | .try_ b => fun ρ H Q => cB C b ρ H Q
 | .raise => fun _ _ _ => False
 | .rep i k => fun ρ H Q => ∃ r n, ρ i = some (.str r) ∧ ρ k = some (.int n) ∧ (1 ≤ n ∧ n ≤ 9 ∧ r.length ≤ 100) ∧
   Q .next (ρ.set i (.str (un (Txt.replace (st r) (st (List.replicate n.toNat 46)) (Str.ofString (toString n)))))) H
noncomputable def cB (C : Cfg) : Ss → ap → Hp → SQ → Prop
 | .nil => fun ρ H Q => Q .next ρ H
 | .cons s r => fun ρ H Q => wpS C s ρ H fun fl af H' => match fl with
   | .next => cB C r af H' Q
   | f => Q f af H'
end
noncomputable def aN : V → Value → Prop
 | .none, v => v = .none
 | .bool b, v => v = .bool b
 | .int i, v => ∃ t, v = .int i t
 | .str s, v => ∃ t, v = .str (st s) t
 | .ref a, v => v = .ref a
inductive aF : List V → List Value → Prop
 | nil : aF [] []
 | cons {V v Vs vs} : aN V v → aF Vs vs → aF (V :: Vs) (v :: vs)
theorem aF.length {Vs vs} (h : aF Vs vs) : vs.length = Vs.length := by
 induction h with
 | nil => rfl
 | cons _ _ ih => simp [ih]
theorem aF.get {Vs vs} (h : aF Vs vs) : ∀ {i : Nat} {v : V}, Vs[i]? = some v → ∃ x, vs[i]? = some x ∧ aN v x := by
 induction h with
 | nil => intro i v e; simp at e
 | cons h1 _ ih =>
  intro i v e
  cases i with
  | zero => simp only [List.getElem?_cons_zero, Option.some.injEq] at e ⊢; subst e; exact ⟨_, rfl, h1⟩
  | succ i => simp only [List.getElem?_cons_succ] at e ⊢; exact ih e
theorem aF.set {Vs vs} (h : aF Vs vs) : ∀ {i : Nat} {v : V} {x : Value}, aN v x → aF (Vs.set i v) (vs.set i x) := by
 induction h with
 | nil => intro i v x _; exact .nil
 | cons h1 h2 ih =>
  intro i v x hv
  cases i with
  | zero => exact .cons hv h2
  | succ i => exact .cons h1 (ih hv)
theorem aF.append {Vs vs Ws ws} (h : aF Vs vs) (h' : aF Ws ws) : aF (Vs ++ Ws) (vs ++ ws) := by
 induction h with
 | nil => exact h'
 | cons h1 _ ih => exact .cons h1 ih
theorem aF.take {Vs vs} (h : aF Vs vs) : ∀ n, aF (Vs.take n) (vs.take n) := by
 induction h with
 | nil => intro n; simp; exact .nil
 | cons h1 _ ih => intro n; cases n with
  | zero => exact .nil
  | succ n => exact .cons h1 (ih n)
theorem aF.drop {Vs vs} (h : aF Vs vs) : ∀ n, aF (Vs.drop n) (vs.drop n) := by
 induction h with
 | nil => intro n; simp; exact .nil
 | cons h1 h2 ih => intro n; cases n with
  | zero => exact .cons h1 h2
  | succ n => exact ih n
theorem aF.rep {Vs vs} (h : aF Vs vs) : ∀ n, aF (List.replicate n Vs).flatten (List.replicate n vs).flatten := by
 intro n
 induction n with
 | zero => exact .nil
 | succ n ih => simp only [List.replicate_succ, List.flatten_cons]; exact h.append ih
noncomputable def attrs : List Str := ["files", "ranks", "size", "full", "has_double", "has_castling", "file_masks", "rank_masks", "rays", "king", "knight", "pawn", "castles", "rights_lost",
 "state", "pieces", "ep", "rights", "side", "geo", "zob", "board", "kinds", "sides", "half", "key", "history"]
noncomputable def attrName (k : Nat) : Str := attrs.getD k Str.empty
inductive eK : List (Nat × V) → List DictEntry → Prop
 | nil : eK [] []
 | cons {k V fs e es t} : k < attrs.length → e.key = .str (attrName k) t → aN V e.val → eK fs es → eK ((k, V) :: fs) (e :: es)
theorem eK.length {fs es} (h : eK fs es) : es.length = fs.length := by
 induction h with
 | nil => rfl
 | cons _ _ _ _ ih => simp [ih]
theorem oO : ∀ j, j < attrs.length → ∀ k, k < attrs.length → (attrName j == attrName k) = true → j = k := by decide +kernel
theorem eK.noRef {fs es} (h : eK fs es) : es.any (·.refKey) = false := by
 induction h with
 | nil => rfl
 | cons _ hk _ _ ih => simp only [List.any_cons, ih, Bool.or_false]; unfold DictEntry.refKey; rw [hk]
theorem kZ {k j : Nat} {t : Tok} (hk : k < attrs.length) (hj : j < attrs.length) : (Value.str (attrName k) t).isStr (attrName j) = decide (k = j) := by
 show (attrName k == attrName j) = _
 by_cases e : k = j
 ·subst e; simp
 ·rw [decide_eq_false e]
  exact Bool.eq_false_iff.mpr fun q => e (oO k hk j hj q)
theorem eK.find {fs es} (h : eK fs es) {j : Nat} (hj : j < attrs.length) : ∀ {v : V}, fs.lookup j = some v → ∃ x, getL (attrName j) es = some (some x) ∧ aN v x := by
 unfold getL
 induction h with
 | nil => intro v e; cases e
 | @cons k W fs e es t hk hkey hv hr ih =>
  intro v hl
  simp only [List.find?_cons, hkey, kZ hk hj]
  simp only [List.lookup_cons] at hl
  by_cases q : k = j
  ·subst q
   simp only [beq_self_eq_true, Option.some.injEq] at hl
   subst hl
   exact ⟨e.val, by simp, hv⟩
  ·have q' : (j == k) = false := by simp; exact fun z => q z.symm
   rw [q'] at hl
   obtain ⟨x, hx, hv'⟩ := ih hl
   refine ⟨x, ?_, hv'⟩
   simp only [decide_eq_false q]
   have hr' : (e :: es).any (·.refKey) = es.any (·.refKey) := by
    simp only [List.any_cons]; unfold DictEntry.refKey; rw [hkey]; simp
   rw [hr']
   exact hx
theorem eK.put {fs es} (h : eK fs es) {j : Nat} (hj : j < attrs.length) {v : V} {x : Value} {hs : Int} {t : Tok} (hv : aN v x) :
  eK (fset fs j v) (putL (attrName j) hs (.str (attrName j) t) x es) := by
 induction h with
 | nil => exact .cons hj rfl hv .nil
 | @cons k W fs e es t' hk hkey hv' hr ih =>
  unfold putL fset
  rw [hkey, kZ hk hj]
  by_cases q : k = j
  ·subst q
   simp only [decide_true, if_true]
   exact .cons hk rfl hv hr
  ·simp only [decide_eq_false q, Bool.false_eq_true, if_false, q]
   exact .cons hk hkey hv' ih
noncomputable def Cell (h : Heap) (a : Nat) : O → Prop
 | .list vs => ∃ ws n, h.get? a = some { cls := .type "list", data := .seq ws n } ∧ aF vs ws.toList
 | .ro vs => ∃ ws, h.IsList a ws ∧ aF vs ws.toList
 | .tup vs => ∃ ws, h.IsTuple a ws ∧ aF vs ws.toList
 | .range lo hi st => ∃ t u v, IsRange h a lo hi st t u v
 | .inst C d => h.get? a = some (instObj C d)
 | .dict fs => ∃ es n, h.get? a = some (dictOf es n) ∧ eK fs es
theorem Cell.keep {h h' : Heap} {a : Nat} {o : O} (c : Cell h a o) (k : h'.get? a = h.get? a) : Cell h' a o := by
 cases o with
 | list vs => obtain ⟨ws, n, e, r⟩ := c; exact ⟨ws, n, k.trans e, r⟩
 | ro vs => obtain ⟨ws, ⟨o, e, x⟩, r⟩ := c; exact ⟨ws, ⟨o, k.trans e, x⟩, r⟩
 | tup vs => obtain ⟨ws, ⟨o, e, x⟩, r⟩ := c; exact ⟨ws, ⟨o, k.trans e, x⟩, r⟩
 | range lo hi st => obtain ⟨t, u, v, e⟩ := c; exact ⟨t, u, v, k.trans e⟩
 | inst C d => exact k.trans c
 | dict fs => obtain ⟨es, n, e, r⟩ := c; exact ⟨es, n, k.trans e, r⟩
theorem Cell.some {h : Heap} {a : Nat} {o : O} (c : Cell h a o) : ∃ x, h.get? a = some x := by
 cases o with
 | list vs => obtain ⟨ws, n, e, r⟩ := c; exact ⟨_, e⟩
 | ro vs => obtain ⟨ws, ⟨o, e, x⟩, r⟩ := c; exact ⟨_, e⟩
 | tup vs => obtain ⟨ws, ⟨o, e, x⟩, r⟩ := c; exact ⟨_, e⟩
 | range lo hi st => obtain ⟨t, u, v, e⟩ := c; exact ⟨_, e⟩
 | inst C d => exact ⟨_, c⟩
 | dict fs => obtain ⟨es, n, e, r⟩ := c; exact ⟨_, e⟩
noncomputable def jx (H : Hp) (b : Nat) : Prop := ∃ o, (b, o) ∈ H ∧ o.mA = true
structure Rep (base : Heap) (ac : OsState) (H : Hp) (s : Shared) : Prop where
 keep : ∀ b o, base.get? b = some o → s.heap.get? b = some o
 cells : ∀ p ∈ H, Cell s.heap p.1 p.2
 nd : (H.map (·.1)).Nodup
 own : ∀ p ∈ H, p.2.mA = true → base.get? p.1 = none
 os : s.os = ac
 gens : s.gens = #[]
structure Step (X : Nat → Prop) (H : Hp) (s : Shared) (H' : Hp) (s' : Shared) : Prop where
 same : ∀ b o, s.heap.get? b = some o → ¬ jx H b → ¬ X b → s'.heap.get? b = some o
 more : ∀ b, jx H' b → jx H b ∨ s.heap.get? b = none
 live : ∀ b o, s.heap.get? b = some o → ∃ o', s'.heap.get? b = some o'
 keys : ∀ b o, (b, o) ∈ H' → (∃ o', (b, o') ∈ H) ∨ s.heap.get? b = none
noncomputable abbrev aL : Nat → Prop := fun _ => False
theorem Step.refl {X H s} : Step X H s H s := ⟨fun _ _ e _ _ => e, fun _ h => .inl h, fun _ _ e => ⟨_, e⟩, fun _ _ h => .inl ⟨_, h⟩⟩
theorem Step.trans {X H s H' s' aH s''} (x : Step X H s H' s') (y : Step X H' s' aH s'') : Step X H s aH s'' := by
 refine ⟨fun b o e hm hx => y.same b o (x.same b o e hm hx) (fun q => ?_) hx, fun b q => ?_, fun b o e => ?_, fun b o h => ?_⟩
 ·rcases x.more b q with q | q
  ·exact hm q
  ·rw [q] at e; cases e
 ·rcases y.more b q with q | q
  ·exact x.more b q
  ·cases e : s.heap.get? b with
   | none => exact .inr rfl
   | some o => obtain ⟨o', e'⟩ := x.live b o e; rw [q] at e'; cases e'
 ·obtain ⟨o', e'⟩ := x.live b o e
  exact y.live b o' e'
 ·rcases y.keys b o h with ⟨o', q⟩ | q
  ·exact x.keys b o' q
  ·cases e : s.heap.get? b with
   | none => exact .inr rfl
   | some o => obtain ⟨o', e'⟩ := x.live b o e; rw [q] at e'; cases e'
section
variable {base : Heap} {ac : OsState} {H H' aH : Hp} {s s' s'' : Shared} {X : Nat → Prop}
theorem Rep.xh (R : Rep base ac H s) {a : Nat} {o : O} (h : (a, o) ∈ H) : ∃ x, s.heap.get? a = some x := (R.cells _ h).some
theorem Rep.cell (R : Rep base ac H s) {a : Nat} {o : O} (h : (a, o) ∈ H) : Cell s.heap a o := R.cells _ h
theorem kx {H : Hp} (nd : (H.map (·.1)).Nodup) {a : Nat} {o o' : O} (h : (a, o) ∈ H) (h' : (a, o') ∈ H) : o = o' := by
 induction H with
 | nil => cases h
 | cons p r ih =>
  simp only [List.map_cons, List.nodup_cons] at nd
  rcases List.mem_cons.mp h with e | h <;> rcases List.mem_cons.mp h' with e' | h'
  ·rw [← e] at e'; injection e' with _ q; exact q.symm
  ·exact absurd (List.mem_map.mpr ⟨_, h', by rw [← e]⟩) nd.1
  ·exact absurd (List.mem_map.mpr ⟨_, h, by rw [← e']⟩) nd.1
  ·exact ih nd.2 h h'
theorem Rep.grow (R : Rep base ac H s) (hk : ∀ b o, s.heap.get? b = some o → s'.heap.get? b = some o) (ho : s'.os = s.os) (hg : s'.gens = s.gens) : Rep base ac H s' where
 keep := fun b o e => hk b o (R.keep b o e)
 cells := fun p hp => by
  obtain ⟨x, e⟩ := (R.cells p hp).some
  exact (R.cells p hp).keep ((hk _ _ e).trans e.symm)
 nd := R.nd
 own := R.own
 os := ho.trans R.os
 gens := hg.trans R.gens
theorem Step.grow (hk : ∀ b o, s.heap.get? b = some o → s'.heap.get? b = some o) : Step X H s H s' := ⟨fun b o e _ _ => hk b o e, fun _ h => .inl h, fun b o e => ⟨_, hk b o e⟩, fun _ _ h => .inl ⟨_, h⟩⟩
theorem Rep.new (R : Rep base ac H s) {a : Nat} {o : O} (hk : ∀ b o, s.heap.get? b = some o → s'.heap.get? b = some o) (hn : s.heap.get? a = none) (hc : Cell s'.heap a o)
  (ho : s'.os = s.os) (hg : s'.gens = s.gens) : Rep base ac ((a, o) :: H) s' where
 keep := fun b o e => hk b o (R.keep b o e)
 cells := fun p hp => by
  rcases List.mem_cons.mp hp with rfl | hp
  ·exact hc
  ·exact (R.grow hk ho hg).cells p hp
 nd := by
  simp only [List.map_cons, List.nodup_cons]
  refine ⟨fun h => ?_, R.nd⟩
  obtain ⟨p, hp, e⟩ := List.mem_map.mp h
  obtain ⟨x, q⟩ := (R.cells p hp).some
  rw [e, hn] at q; cases q
 own := fun p hp hm => by
  rcases List.mem_cons.mp hp with rfl | hp
  ·cases e : base.get? a with
   | none => rfl
   | some x => rw [R.keep _ _ e] at hn; cases hn
  ·exact R.own p hp hm
 os := ho.trans R.os
 gens := hg.trans R.gens
theorem Step.new {a : Nat} {o : O} (hk : ∀ b o, s.heap.get? b = some o → s'.heap.get? b = some o) (hn : s.heap.get? a = none) : Step X H s ((a, o) :: H) s' :=
 ⟨fun b o e _ _ => hk b o e, fun b h => by
  obtain ⟨o', h, hm⟩ := h
  rcases List.mem_cons.mp h with e | h
  ·injection e with e _; subst e; exact .inr hn
  ·exact .inl ⟨_, h, hm⟩, fun b o e => ⟨_, hk b o e⟩, fun b o' h => by
  rcases List.mem_cons.mp h with e | h
  ·injection e with e _; subst e; exact .inr hn
  ·exact .inl ⟨_, h⟩⟩
theorem Upd.mem {a : Nat} {o o' : O} (u : Upd a o o' H H') : (a, o) ∈ H := by
 induction u with
 | here => exact .head _
 | there _ ih => exact .tail _ ih
theorem Upd.keys {a : Nat} {o o' : O} (u : Upd a o o' H H') : H'.map (·.1) = H.map (·.1) := by
 induction u with
 | here => rfl
 | there _ ih => simp only [List.map_cons, ih]
theorem Upd.cases {a : Nat} {o o' : O} (u : Upd a o o' H H') : ∀ p ∈ H', p = (a, o') ∨ p ∈ H := by
 induction u with
 | here => intro p hp; rcases List.mem_cons.mp hp with e | h; exact .inl e; exact .inr (.tail _ h)
 | there _ ih =>
  intro p hp
  rcases List.mem_cons.mp hp with e | h
  ·exact .inr (e ▸ .head _)
  ·rcases ih p h with q | q
   ·exact .inl q
   ·exact .inr (.tail _ q)
theorem Upd.mem' {a : Nat} {o o' : O} (u : Upd a o o' H H') : (a, o') ∈ H' := by
 induction u with
 | here => exact .head _
 | there _ ih => exact .tail _ ih
theorem Rep.upd (R : Rep base ac H s) {a : Nat} {o o' : O} (u : Upd a o o' H H') (hm : o.mA = true)
  (hk : ∀ b x, b ≠ a → s.heap.get? b = some x → s'.heap.get? b = some x) (hc : Cell s'.heap a o') (ho : s'.os = s.os) (hg : s'.gens = s.gens) : Rep base ac H' s' where
 keep := fun b x e => hk b x (fun q => by subst q; rw [R.own _ u.mem hm] at e; cases e) (R.keep b x e)
 cells := fun p hp => by
  by_cases q : p.1 = a
  ·have e : p = (a, o') := by
    have nd : (H'.map (·.1)).Nodup := by rw [u.keys]; exact R.nd
    have h1 : (a, p.2) ∈ H' := by rw [← q]; exact hp
    have := kx nd h1 u.mem'
    rw [← q, ← this]
   subst e; exact hc
  ·rcases u.cases p hp with e | h
   ·subst e; exact absurd rfl q
   ·obtain ⟨x, e⟩ := (R.cells p h).some
    exact (R.cells p h).keep ((hk _ _ q e).trans e.symm)
 nd := by rw [u.keys]; exact R.nd
 own := fun p hp hm' => by
  rcases u.cases p hp with e | h
  ·subst e; exact R.own (a, o) u.mem hm
  ·exact R.own p h hm'
 os := ho.trans R.os
 gens := hg.trans R.gens
theorem Step.upd {a : Nat} {o o' : O} (u : Upd a o o' H H') (hm : o.mA = true)
  (hk : ∀ b x, b ≠ a → s.heap.get? b = some x → s'.heap.get? b = some x) (hc : Cell s'.heap a o') : Step X H s H' s' :=
 ⟨fun b x e h _ => hk b x (fun q => h ⟨o, q ▸ u.mem, hm⟩) e, fun b h => by
  obtain ⟨x, h, hx⟩ := h
  rcases u.cases _ h with e | h
  ·injection e with e _; subst e; exact .inl ⟨o, u.mem, hm⟩
  ·exact .inl ⟨x, h, hx⟩, fun b x e => by
  by_cases q : b = a
  ·subst q; exact hc.some
  ·exact ⟨x, hk b x q e⟩, fun b x h => by
  rcases u.cases _ h with e | h
  ·injection e with e _; subst e; exact .inl ⟨o, u.mem⟩
  ·exact .inl ⟨x, h⟩⟩
theorem Rep.both (R : Rep base ac H s) {a : Nat} {o o' : O} (u : Upd a o o' H H') (hm : o.mA = true)
  (hk : ∀ b x, b ≠ a → s.heap.get? b = some x → s'.heap.get? b = some x) (hc : Cell s'.heap a o') (ho : s'.os = s.os) (hg : s'.gens = s.gens) : Rep base ac H' s' ∧ Step X H s H' s' :=
 ⟨R.upd u hm hk hc ho hg, Step.upd u hm hk hc⟩
theorem Rep.drop (R : Rep base ac H s) (hs : Sb H' H) : Rep base ac H' s where
 keep := R.keep
 cells := fun p hp => R.cells p (hs.subset p hp)
 nd := by
  obtain ⟨L, e, q⟩ := hs
  exact (e.map (·.1)).nodup_iff.mp (R.nd.sublist (q.map _))
 own := fun p hp => R.own p (hs.subset p hp)
 os := R.os
 gens := R.gens
theorem Step.drop (x : Step X H s H' s') (hs : Sb aH H') : Step X H s aH s' :=
 ⟨x.same, fun b h => let ⟨o, h, hm⟩ := h; x.more b ⟨o, hs.subset _ h, hm⟩, x.live, fun b o h => x.keys b o (hs.subset _ h)⟩
theorem Step.weaken (x : Step aL H s H' s') : Step X H s H' s' := ⟨fun b o e hm _ => x.same b o e hm id, x.more, x.live, x.keys⟩
end
inductive dF {α β : Type} (Rel : α → β → Prop) (base : Heap) (ac : OsState) (X : Nat → Prop) (H : Hp) (s : Shared) (Q : α → Hp → Prop) (b : β) (s' : Shared) : Prop
 | mk (a : α) (H' : Hp) (q : Q a H') (r : Rel a b) (R : Rep base ac H' s') (x : Step X H s H' s')
noncomputable abbrev Post := @dF V Value aN
theorem dF.of {α β : Type} {Rel : α → β → Prop} {base : Heap} {ac : OsState} {X : Nat → Prop} {H H' : Hp} {s s' : Shared} {Q : α → Hp → Prop} {a : α} {b : β} (q : Q a H') (r : Rel a b) (p : Rep base ac H' s' ∧ Step X H s H' s') : dF Rel base ac X H s Q b s' := ⟨a, H', q, r, p.1, p.2⟩
section
variable {prog : Program} {w : World} {A : Around} {E : Value → Shared → Prop} {base : Heap} {ac : OsState} {H : Hp} {s : Shared} {Q : V → Hp → Prop}
theorem aw {v : Value} {V : V} {tk : Nat} (R : Rep base ac H s) (q : Q V H) (r : aN V v) : Post base ac aL H s Q v { s with toks := tk } :=
 ⟨V, H, q, r, R.grow (s' := { s with toks := tk }) (fun _ _ e => e) rfl rfl, Step.grow (s' := { s with toks := tk }) fun _ _ e => e⟩
theorem aC {v : Value} {V : V} (R : Rep base ac H s) (q : Q V H) (r : aN V v) : Post base ac aL H s Q v s :=
 ⟨V, H, q, r, R, Step.refl⟩
theorem aU (h : Heap) (o : Obj) : ∀ b x, h.get? b = some x → (h.push o).get? b = some x := fun _ _ e => Heap.get?_push_of_some _ e
theorem bL (h : Heap) : h.get? h.objs.size = none := by
 cases e : h.get? h.objs.size with
 | none => rfl
 | some x => exact absurd (Heap.lt_size e) (Nat.lt_irrefl _)
theorem cq {o : O} {ob : Obj} {tk : Nat} (R : Rep base ac H s) (hc : Cell (s.heap.push ob) s.heap.objs.size o) (q : Q (.ref s.heap.objs.size) ((s.heap.objs.size, o) :: H)) :
  Post base ac aL H s Q (.ref s.heap.objs.size) { s with heap := s.heap.push ob, toks := tk } :=
 ⟨.ref _, _, q, rfl, R.new (s' := { s with heap := s.heap.push ob, toks := tk }) (aU _ _) (bL _) hc rfl rfl, Step.new (s' := { s with heap := s.heap.push ob, toks := tk }) (aU _ _) (bL _)⟩
theorem xj {op : Operator} {i j : Int} {t u : Tok} (R : Rep base ac H s) (h : cn op (.int i) (.int j) H Q) :
  wpAny (model prog w) A (binaryOp op (.int i t) (.int j u)) (Post base ac aL H s Q) E s := by
 cases op <;> first | exact False.elim h | skip
 case Add => exact PyProof.Rows.add_int (aw R h ⟨_, rfl⟩)
 case Sub => exact PyProof.Rows.sub_int (aw R h ⟨_, rfl⟩)
 case Mult => exact PyProof.Rows.mul_int (aw R h.2 ⟨_, rfl⟩) (IntMulOk.of_right (intBits_le_64 h.1.1 h.1.2))
 case Mod => exact PyProof.Rows.mod_int' h.1 (aw R h.2 ⟨_, rfl⟩)
 case FloorDiv => exact PyProof.Rows.floordiv_int h.1.1 (aw R h.2 ⟨_, rfl⟩) (.inl (PyProof.noPylong_small h.1.2))
 case LShift => obtain ⟨⟨h1, h2, h3⟩, q⟩ := h; exact PyProof.Rows.lshift_int_small h1 (by exact lin [] [_] [.LE (.v 0) (.n 1000)] (.LE (.v 0) (.n 1000000)) [1,1] rfl h2) h3 (aw R q ⟨_, rfl⟩)
 case RShift => exact PyProof.Rows.rshift_int h.1 (aw R h.2 ⟨_, rfl⟩)
 case BitOr => exact PyProof.Rows.or_int (aw R h ⟨_, rfl⟩)
 case BitXor => exact PyProof.Rows.xor_int (aw R h ⟨_, rfl⟩)
 case BitAnd => exact PyProof.Rows.and_int (aw R h ⟨_, rfl⟩)
theorem vC {op : Operator} {i j : Int} {t u : Tok} (R : Rep base ac H s) (h : cn op (.int i) (.int j) H Q) :
  wpAny (model prog w) A (inplaceOp op (.int i t) (.int j u)) (Post base ac aL H s Q) E s := by
 cases op <;> first | exact False.elim h | skip
 case Add => exact PyProof.Rows.iadd_int (aw R h ⟨_, rfl⟩)
 case Sub => exact PyProof.Rows.isub_int (aw R h ⟨_, rfl⟩)
 case Mult => exact PyProof.Rows.imul_int (aw R h.2 ⟨_, rfl⟩) (IntMulOk.of_right (intBits_le_64 h.1.1 h.1.2))
 case Mod => exact PyProof.Rows.imod_int h.1 (aw R h.2 ⟨_, rfl⟩)
 case FloorDiv => exact PyProof.Rows.ifloordiv_int h.1.1 (aw R h.2 ⟨_, rfl⟩) (.inl (PyProof.noPylong_small h.1.2))
 case LShift => obtain ⟨⟨h1, h2, h3⟩, q⟩ := h; exact PyProof.Rows.ilshift_int_small h1 (by exact lin [] [_] [.LE (.v 0) (.n 1000)] (.LE (.v 0) (.n 1000000)) [1,1] rfl h2) h3 (aw R q ⟨_, rfl⟩)
 case RShift => exact PyProof.Rows.irshift_int h.1 (aw R h.2 ⟨_, rfl⟩)
 case BitOr => exact PyProof.Rows.ior_int (aw R h ⟨_, rfl⟩)
 case BitXor => exact PyProof.Rows.ixor_int (aw R h ⟨_, rfl⟩)
 case BitAnd => exact PyProof.Rows.iand_int (aw R h ⟨_, rfl⟩)
theorem mG (a b : List Nat) : st a ++ st b = st (a ++ b) := by
 show Str.mk _ = Str.mk _
 simp [st]
theorem bH (a : List Nat) : (st a).length = a.length := by simp [st, Str.length]
theorem xk (a : List Nat) : un (st a) = a := by simp [un, st]
theorem Cj (x : Str) : st (un x) = x := by simp [un, st]
theorem jy (x : Str) (t : Tok) : aN (.str (un x)) (.str x t) := ⟨t, by rw [Cj]⟩
theorem aX {n : Nat} (h : n ≤ 20000) : n ≤ sizeLine := by rw [sizeLine_eq]; (exact ln [_] [.le (.v 0) (.n 20000)] (.le (.v 0) (.n 16777216)) [1,1] rfl h)
theorem xl {a b : List Nat} {t u : Tok} (R : Rep base ac H s) (h : cn .Add (.str a) (.str b) H Q) :
  wpAny (model prog w) A (binaryOp .Add (.str (st a) t) (.str (st b) u)) (Post base ac aL H s Q) E s := by
 obtain ⟨hl, q⟩ := h
 exact PyProof.Rows.add_str (fun t' tk => aw R q ⟨t', by rw [mG]⟩) (by rw [bH, bH]; exact aX (by (exact ln [_,_] [.le (.a (.v 0) (.v 1)) (.n 10000)] (.le (.a (.v 0) (.v 1)) (.n 20000)) [1,1] rfl hl)))
theorem vD {a b : List Nat} {t u : Tok} (R : Rep base ac H s) (h : cn .Add (.str a) (.str b) H Q) :
  wpAny (model prog w) A (inplaceOp .Add (.str (st a) t) (.str (st b) u)) (Post base ac aL H s Q) E s := by
 obtain ⟨hl, q⟩ := h
 exact PyProof.Rows.iadd_str (fun t' tk => aw R q ⟨t', by rw [mG]⟩) (by rw [bH, bH]; exact aX (by (exact ln [_,_] [.le (.a (.v 0) (.v 1)) (.n 10000)] (.le (.a (.v 0) (.v 1)) (.n 20000)) [1,1] rfl hl)))
end
structure dv (A : Around) (k : Nat) : Prop where
 hh : A.handled = none
 dp : A.depth + k ≤ 900
 un : A.units + 8 * k ≤ 9000
theorem th : cLine = 9900 := rfl
theorem pg : recursionLimit = 1000 := rfl
section
variable {prog : Program} {w : World} {A : Around} {E : Value → Shared → Prop} {base : Heap} {ac : OsState} {H H' : Hp} {s : Shared} {Q : V → Hp → Prop}
theorem jz {l : Addr} {items : Array Value} {n : Nat} {k : Int} {t : Tok} {v : Value} {Q : Unit → Shared → Prop} (ho : s.heap.get? l = some { cls := .type "list", data := .seq items n })
  (h0 : 0 ≤ k) (hfit : k < 2 ^ 63) (hn : k < items.size)
  (hQ : ∀ h', h'.get? l = some { cls := .type "list", data := .seq (items.setIfInBounds k.toNat v) n } → Heap.SameBut l s.heap h' → Q () { s with heap := h' }) :
  wpAny (model prog w) A (setItem (.ref l) (.int k t) v) Q E s := by
 have hl : s.heap.IsList l items := ⟨_, ho, rfl, n, rfl⟩
 have hd : ({ cls := .type "list", data := .seq items n } : Obj).data = .seq items n := rfl
 unfold setItem
 try with_reducible refine wpAny_holding ?_
 first | refine wpAny_bind (wpAny_pure ?_) | skip
 refine wpAny_bind (wpAny_sequenceKey hl.typeIs (by decide) ?_)
 refine wpAny_bind (wpAny_callSpecial?_slot (name := Str.ofString "__setitem__") hl.typeIs slot_list_setitem
  (wpAny_call_entry slot_list_setitem hl.typeIs entry_list_setitem ?_ (args_list_setitem _ _ _)))
 show wpAny _ _ (Builtin.List.listSubscript? (.int k t) >>= _) _ _ s
 refine wpAny_bind (wpAny_listSubscript_int (fitsIndex_of h0 hfit) ?_)
 clear hfit
 obtain ⟨j, rfl⟩ := Int.eq_ofNat_of_zero_le h0
 have hj : j < items.size := by exact Int.ofNat_lt.mp hn
 have hx' : items[j]? = some items[j] := Array.getElem?_eq_getElem hj
 show wpAny _ _ ((seqItemAt l j >>= fun r => pure (r.map (j, ·))) >>= _) _ _ s
 refine wpAny_bind (wpAny_bind (wpAny_seqItemAt ho hd (wpAny_pure ?_)))
 rw [hx']
 show wpAny _ _ (setSeqItemAt l j v >>= _) _ _ s
 have e : Obj.mapSeq (·.setIfInBounds j v) { cls := .type "list", data := .seq items n } = { cls := .type "list", data := .seq (items.setIfInBounds j v) n } := by
  simp [Obj.mapSeq]
 have hfin : (s.heap.update l (Obj.mapSeq (·.setIfInBounds j v))).get? l = some { cls := .type "list", data := .seq (items.setIfInBounds j v) n } := by
  rw [Heap.get?_update_self _ ho (by rw [e]; rfl), e]
 refine wpAny_bind (wpAny_setSeqItemAt ho hd ?_)
 first
  | exact wpAny_bind (wpAny_pure (wpAny_pure ⟨.none, rfl, wpAny_pure (hQ _ hfin (Heap.SameBut.update ..))⟩))
  | exact wpAny_pure ⟨.none, rfl, wpAny_pure (hQ _ hfin (Heap.SameBut.update ..))⟩
theorem jA {l : Addr} {items : Array Value} {n : Nat} {k : Int} {t : Tok} {v : Value} {Q : Unit → Shared → Prop} (ho : s.heap.get? l = some { cls := .type "list", data := .seq items n })
  (h0 : k < 0) (hfit : -(2 ^ 63) ≤ k) (hn : -(items.size : Int) ≤ k)
  (hQ : ∀ h', h'.get? l = some { cls := .type "list", data := .seq (items.setIfInBounds (k + items.size).toNat v) n } → Heap.SameBut l s.heap h' → Q () { s with heap := h' }) :
  wpAny (model prog w) A (setItem (.ref l) (.int k t) v) Q E s := by
 have hl : s.heap.IsList l items := ⟨_, ho, rfl, n, rfl⟩
 have hd : ({ cls := .type "list", data := .seq items n } : Obj).data = .seq items n := rfl
 unfold setItem
 try with_reducible refine wpAny_holding ?_
 first | refine wpAny_bind (wpAny_pure ?_) | skip
 refine wpAny_bind (wpAny_sequenceKey hl.typeIs (by decide) ?_)
 refine wpAny_bind (wpAny_callSpecial?_slot (name := Str.ofString "__setitem__") hl.typeIs slot_list_setitem
  (wpAny_call_entry slot_list_setitem hl.typeIs entry_list_setitem ?_ (args_list_setitem _ _ _)))
 show wpAny _ _ (Builtin.List.listSubscript? (.int k t) >>= _) _ _ s
 refine wpAny_bind (wpAny_listSubscript_int (fitsIndex_neg h0 hfit) ?_)
 clear hfit
 have hidx := seqIndex_neg h0 hn
 have hj : (k + items.size).toNat < items.size := by (exact lin [_,_] [_] [.LT (.v 0) (.n 0),.EQ (.c (.v 0)) (.a (.v 0) (.c (.v 1)))] (.lt (.v 0) (.v 1)) [1,1,1] rfl h0 (Int.toNat_of_nonneg (lin [_] [_] [.LE (.g (.c (.v 0))) (.v 0)] (.LE (.n 0) (.a (.v 0) (.c (.v 0)))) [1,1] rfl hn)))
 generalize (k + items.size).toNat = j at *
 obtain ⟨i, rfl⟩ : ∃ j : Nat, k = Int.negSucc j := by
  cases k with
  | ofNat n => exact absurd h0 (Int.not_lt.mpr (Int.natCast_nonneg n))
  | negSucc n => exact ⟨n, rfl⟩
 have hx : items[j]? = some items[j] := Array.getElem?_eq_getElem hj
 show wpAny _ _ ((Builtin.List.listItems (.ref l) >>= fun xs => pure ((seqIndex? (Int.negSucc i) xs.size).bind fun i => xs[i]?.map (i, ·))) >>= _) _ _ s
 refine wpAny_bind (wpAny_bind ?_)
 show wpAny _ _ (seqItems? (.ref l) >>= _) _ _ s
 refine wpAny_bind (wpAny_seqItems ho hd (wpAny_pure (wpAny_pure ?_)))
 rw [hidx]
 simp only [Option.bind_some, hx, Option.map_some]
 show wpAny _ _ (setSeqItemAt l j v >>= _) _ _ s
 have e : Obj.mapSeq (·.setIfInBounds j v) { cls := .type "list", data := .seq items n } = { cls := .type "list", data := .seq (items.setIfInBounds j v) n } := by
  simp [Obj.mapSeq]
 have hfin : (s.heap.update l (Obj.mapSeq (·.setIfInBounds j v))).get? l = some { cls := .type "list", data := .seq (items.setIfInBounds j v) n } := by
  rw [Heap.get?_update_self _ ho (by rw [e]; rfl), e]
 refine wpAny_bind (wpAny_setSeqItemAt ho hd ?_)
 first
  | exact wpAny_bind (wpAny_pure (wpAny_pure ⟨.none, rfl, wpAny_pure (hQ _ hfin (Heap.SameBut.update ..))⟩))
  | exact wpAny_pure ⟨.none, rfl, wpAny_pure (hQ _ hfin (Heap.SameBut.update ..))⟩
theorem i7 {k : Int} {n : Nat} (h0 : 0 ≤ k) (h1 : k.toNat < n) : seqIndex? k n = some k.toNat := by
 unfold seqIndex?
 have : ¬ k < 0 := by exact Int.not_lt.mpr h0
 simp only [this, if_false]
 rw [if_pos (by simp only [Bool.and_eq_true, decide_eq_true_eq]; (exact ⟨lin [] [_] [.LE (.n 0) (.v 0)] (.LE (.n 0) (.v 0)) [1,1] rfl h0, lin [_,_] [_] [.lt (.v 1) (.v 0),.EQ (.c (.v 1)) (.v 0)] (.LT (.v 0) (.c (.v 0))) [1,1,-1] rfl h1 (Int.toNat_of_nonneg h0)⟩))]
theorem fW {ws : Array Value} {i : Nat} {x : Value} (h : ws.toList[i]? = some x) : ws[i]? = some x := by
 rw [← Array.getElem?_toList]; exact h
theorem mH {a i : V} {x y : Value} (R : Rep base ac H s) (hx : aN a x) (hy : aN i y) (h : kY a i H Q) :
  wpAny (model prog w) A (getItem x y) (Post base ac aL H s Q) E s := by
 cases a <;> cases i <;> first | exact False.elim h | skip
 case str.int b k =>
  obtain ⟨t, rfl⟩ := hx; obtain ⟨u, rfl⟩ := hy
  obtain ⟨h0, hl, c, hc, q⟩ := h
  have hk : k.toNat < b.length := by
   rcases Nat.lt_or_ge k.toNat b.length with z | z
   ·exact z
   ·rw [List.getElem?_eq_none z] at hc; cases hc
  refine PyProof.Rows.getItem_str (c := c) ?_ ?_ (aw R q ⟨s.toks, by rfl⟩)
  ·simp; (exact ⟨lin [] [_] [.LE (.n 0) (.v 0)] (.LE (.g (.n 9223372036854775808)) (.v 0)) [1,1] rfl h0, lin [_,_] [_] [.le (.v 0) (.n 10000),.lt (.v 1) (.v 0),.EQ (.c (.v 1)) (.v 0)] (.LT (.v 0) (.n 9223372036854775808)) [1,1,1,-1] rfl hl hk (Int.toNat_of_nonneg h0)⟩)
  ·have e : seqIndex? k (st b).length = some k.toNat := by
    rw [bH]; exact i7 h0 hk
   rw [e, Option.bind_some]
   simpa using hc
 case ref.int r k =>
  obtain rfl := hx; obtain ⟨u, rfl⟩ := hy
  obtain ⟨vs, hm, hl, hc⟩ := h
  rcases hm with hm | hm
  ·obtain ⟨ws, n, ho, hr⟩ := R.cell hm
   have hsz := hr.length
   rw [Array.length_toList] at hsz
   rcases hc with ⟨h0, v, hv, q⟩ | ⟨h0, h1, ⟨v, hv, q⟩, _⟩
   ·obtain ⟨x, hx, rx⟩ := hr.get hv
    have hk : k.toNat < vs.length := by
     rcases Nat.lt_or_ge k.toNat vs.length with z | z
     ·exact z
     ·rw [List.getElem?_eq_none z] at hv; cases hv
    exact wpAny_getItem_list ⟨_, ho, rfl, n, rfl⟩ h0 (by omega) (fW hx) (aC R q rx)
   ·rw [← hsz] at hv h1
    obtain ⟨x, hx, rx⟩ := hr.get hv
    exact wpAny_getItem_list_neg ⟨_, ho, rfl, n, rfl⟩ h0 h1 (by omega) (fW hx) (aC R q rx)
  ·obtain ⟨ws, ⟨o, ho, hcl, n, hd⟩, hr⟩ := R.cell hm
   have hsz := hr.length
   rw [Array.length_toList] at hsz
   rcases hc with ⟨h0, v, hv, q⟩ | ⟨h0, h1, ⟨v, hv, q⟩, hm'⟩
   ·obtain ⟨x, hx, rx⟩ := hr.get hv
    have hk : k.toNat < vs.length := by
     rcases Nat.lt_or_ge k.toNat vs.length with z | z
     ·exact z
     ·rw [List.getElem?_eq_none z] at hv; cases hv
    refine PyProof.Rows.getItem_tuple (j := k.toNat) ⟨_, ho, hcl, n, hd⟩ (by omega) (by omega) ?_ (fW hx) (aC R q rx)
    exact i7 h0 (by exact ln [_,_,_] [.eq (.v 1) (.v 2),.lt (.v 0) (.v 2)] (.lt (.v 0) (.v 1)) [1,-1,1] rfl hsz hk)
   ·have := kx R.nd hm hm'; cases this
theorem i8 {a i b : V} {x y z : Value} {Qu : Hp → Prop} (R : Rep base ac H s) (hx : aN a x) (hy : aN i y) (hz : aN b z) (h : eI a i b H Qu) :
  wpAny (model prog w) A (setItem x y z) (fun _ s' => ∃ H', Qu H' ∧ Rep base ac H' s' ∧ Step aL H s H' s') E s := by
 obtain ⟨xa, k, vs, H', rfl, rfl, hl, hc, q⟩ := h
 obtain rfl := hx; obtain ⟨u, rfl⟩ := hy
 rcases hc with ⟨h0, h1, U⟩ | ⟨h0, h1, U⟩
 ·obtain ⟨ws, n, ho, hr⟩ := R.cell U.mem
  have hsz := hr.length
  rw [Array.length_toList] at hsz
  refine jz ho h0 (by omega) (by (exact lin [_,_] [_] [.LT (.v 0) (.c (.v 1)),.eq (.v 0) (.v 1)] (.LT (.v 0) (.c (.v 0))) [1,1,-1] rfl h1 hsz)) fun h' e sb => ⟨H', q, ?_⟩
  refine R.both (s' := { s with heap := h' }) U rfl (fun b x hb e => (sb.2 b hb).trans e) ⟨_, n, e, ?_⟩ rfl rfl
  rw [Array.toList_setIfInBounds]; exact hr.set hz
 ·obtain ⟨ws, n, ho, hr⟩ := R.cell U.mem
  have hsz := hr.length
  rw [Array.length_toList] at hsz
  refine jA ho h0 (by omega) (by (exact lin [_,_] [_] [.LE (.g (.c (.v 1))) (.v 0),.eq (.v 0) (.v 1)] (.LE (.g (.c (.v 0))) (.v 0)) [1,1,-1] rfl h1 hsz)) fun h' e sb => ⟨H', q, ?_⟩
  refine R.both (s' := { s with heap := h' }) U rfl (fun b x hb e => (sb.2 b hb).trans e) ⟨_, n, e, ?_⟩ rfl rfl
  rw [Array.toList_setIfInBounds, hsz]; exact hr.set hz
theorem qf {a : V} {x : Value} {Qb : Bool → Prop} (R : Rep base ac H s) (hx : aN a x) (h : truth a H Qb) :
  wpAny (model prog w) A (truthy x) (fun b s' => Qb b ∧ ∃ tk, s' = { s with toks := tk }) E s := by
 cases a with
 | none => obtain rfl := hx; exact truthy_none ⟨h, s.toks, rfl⟩
 | bool b => obtain rfl := hx; exact wpAny_truthy_bool ⟨h, s.toks, rfl⟩
 | int i =>
  obtain ⟨t, rfl⟩ := hx
  refine PyProof.Rows.truthy_int ⟨?_, s.toks, rfl⟩
  have e : (i != 0) = decide (i ≠ 0) := by by_cases z : i = 0 <;> simp [z]
  rw [e]; exact h
 | str b =>
  obtain ⟨t, rfl⟩ := hx
  obtain ⟨hl, h⟩ := h
  refine PySem.P.truthy_str (by rw [bH]; omega) ⟨?_, _, rfl⟩
  have e : (((st b).length : Int) != 0) = decide (b ≠ []) := by
   rw [bH]; cases b <;> simp
   (exact ln [_] [] (.NE (.a (.c (.v 0)) (.n 1)) (.n 0)) [1] rfl)
  rw [e]; exact h
 | ref r =>
  obtain rfl := hx
  obtain ⟨vs, hm, hl, q⟩ := h
  obtain ⟨ws, n, ho, hr⟩ := R.cell hm
  have hsz := hr.length
  rw [Array.length_toList] at hsz
  refine wpAny_truthy_list ⟨_, ho, rfl, n, rfl⟩ (by omega) ⟨?_, _, rfl⟩
  have e : (!ws.isEmpty) = decide (vs ≠ []) := by
   cases vs with
   | nil => simp at hsz; subst hsz; rfl
   | cons _ _ => simp [Array.isEmpty, hsz]
  rw [e]; exact q
end
section
variable {prog : Program} {w : World} {A : Around} {E : Value → Shared → Prop} {base : Heap} {ac : OsState} {H H' : Hp} {s : Shared} {Q : V → Hp → Prop}
theorem iT (xs : Array Value) : ∀ (n : Nat) (acc : Array Value), (List.foldl (fun x1 x2 => x1 ++ x2) acc (List.replicate n xs)).toList = acc.toList ++ (List.replicate n xs.toList).flatten := by
 intro n
 induction n with
 | zero => intro acc; simp
 | succ n ih => intro acc; simp only [List.replicate_succ, List.foldl_cons, List.flatten_cons]; rw [ih]; simp
theorem jB (xs : Array Nat) : ∀ (n : Nat) (acc : Array Nat), (List.foldl (fun x1 x2 => x1 ++ x2) acc (List.replicate n xs)).toList = acc.toList ++ (List.replicate n xs.toList).flatten := by
 intro n
 induction n with
 | zero => intro acc; simp
 | succ n ih => intro acc; simp only [List.replicate_succ, List.foldl_cons, List.flatten_cons]; rw [ih]; simp
theorem zF (a : List Nat) (n : Int) : Txt.mul (st a) n = st (List.replicate n.toNat a).flatten := by
 unfold Txt.mul
 split
 ·rename_i h
  have : n.toNat = 0 := by omega
  rw [this]; rfl
 ·split
  ·rename_i h h2
   simp only [Bool.or_eq_true, beq_iff_eq] at h2
   rcases h2 with h2 | h2
   ·subst h2; simp
   ·rw [bH] at h2
    have : a = [] := List.length_eq_zero_iff.mp h2
    subst this
    simp
  ·have e : (List.foldl (fun x1 x2 => x1 ++ x2) #[] (List.replicate n.toNat (st a).cps)) = (List.replicate n.toNat a).flatten.toArray := by
    apply Array.toList_inj.mp
    rw [jB]; simp
   exact congrArg Str.mk e
theorem mI {a : List Nat} {n : Int} {t u : Tok} (R : Rep base ac H s) (h : cn .Mult (.str a) (.int n) H Q) :
  wpAny (model prog w) A (binaryOp .Mult (.str (st a) t) (.int n u)) (Post base ac aL H s Q) E s := by
 obtain ⟨⟨h0, h1, h2⟩, q⟩ := h
 refine SB.mul ⟨?_, fun hn _ => ?_, fun hn _ => ?_⟩ fun t' k => aw R q ⟨t', by rw [zF]⟩
 ·simp only [Bool.or_eq_false_iff, decide_eq_false_iff_not]; exact ⟨by omega, by omega⟩
 ·rw [bH]
  have : (2 ^ 63 - 1) / n ≥ 1000000 := by
   rw [ge_iff_le, Int.le_ediv_iff_mul_le (by omega)]; omega
  omega
 ·rw [bH]
  have hk : n.toNat ≤ 1000 := by omega
  have := Nat.mul_le_mul h2 hk
  unfold Builtin.Str.tooLong
  rw [sizeLine_eq]
  exact decide_eq_false (by omega)
theorem ti {op : Operator} {a b : V} {x y : Value} (R : Rep base ac H s) (hx : aN a x) (hy : aN b y) (h : cn op a b H Q) :
  wpAny (model prog w) A (binaryOp op x y) (Post base ac aL H s Q) E s := by
 cases a <;> cases b
 case int.int => obtain ⟨t, rfl⟩ := hx; obtain ⟨u, rfl⟩ := hy; exact xj R h
 case str.str =>
  obtain ⟨t, rfl⟩ := hx; obtain ⟨u, rfl⟩ := hy
  obtain ⟨rfl, h⟩ := mD h
  exact xl R h
 case str.int =>
  obtain ⟨t, rfl⟩ := hx; obtain ⟨u, rfl⟩ := hy
  obtain ⟨rfl, h⟩ := ru h
  exact mI R h
 case ref.ref =>
  obtain rfl := hx; obtain rfl := hy
  obtain ⟨rfl, h⟩ := mD h
  obtain ⟨vs, ws, hm, hm', hl, q⟩ := h
  obtain ⟨xs, n, ho, hr⟩ := R.cell hm
  obtain ⟨ys, n', ho', hr'⟩ := R.cell hm'
  have l1 := hr.length; have l2 := hr'.length
  rw [Array.length_toList] at l1 l2
  refine concat_meets ⟨_, ho, rfl⟩ ⟨_, ho', rfl⟩ noFill_list_add seq_list_add PySem.F.slot_list_add PySem.F.entry_list_add (PySem.F.args_list_add_2 _ _)
   (AutoSeq1.list___add___list_list_0 _ xs n _ ys n' (aX (by omega))) ⟨ho, ho', ?_⟩
  exact cq (o := .list (vs ++ ws)) R ⟨_, 0, Heap.get?_push_size _ rfl, by rw [Array.toList_append]; exact hr.append hr'⟩ (q _)
 case ref.int =>
  obtain rfl := hx; obtain ⟨u, rfl⟩ := hy
  obtain ⟨rfl, h⟩ := ru h
  obtain ⟨vs, hm, ⟨hl, h1, h2⟩, q⟩ := h
  obtain ⟨xs, n, ho, hr⟩ := R.cell hm
  have l1 := hr.length
  rw [Array.length_toList] at l1
  rename_i r k
  have hk : k.toNat ≤ 1000 := by omega
  have hmul : xs.size * k.toNat ≤ 10 * 1000 := Nat.mul_le_mul (by omega) hk
  refine wpAny_binaryOp_repeat_ref (T := "list") (U := "int") (by decide) ⟨_, ho, rfl⟩ (fun s' => typeIs_int s' k u) noFill_list_mul F.fills_int_mul F.slot_int_rmul repeat_list F.slot_int_index.lookup
   (call_meets F.slot_int_rmul (typeIs_int s k u) F.entry_int_rmul (F.args_int_rmul_2 _ _) (int___rmul___int_list k u r xs n)
    ⟨ho, rfl, ⟨_, ho, rfl⟩, call_meets F.slot_list_mul ⟨_, ho, rfl⟩ F.entry_list_mul (F.args_list_mul_2 _ _)
     (AutoListH.list___mul___list_int_3 r xs n k u (by simp [Builtin.List.listFitsIndex]; omega) (by omega) (by simp [Builtin.List.listTooLong, sizeLine]; omega))
     ⟨ho, ?_⟩⟩)
  refine cq (o := .list (List.replicate k.toNat vs).flatten) R ⟨_, 0, Heap.get?_push_size _ rfl, ?_⟩ (q _)
  rw [iT]
  by_cases z : xs.isEmpty = true
  ·rw [if_pos z]
   have : xs.toList = [] := by simpa using z
   have e : vs = [] := by rw [this] at hr; cases hr; rfl
   subst e
   have f : ∀ n : Nat, (List.replicate n ([] : List V)).flatten = [] := by intro n; simp
   rw [f]; simp; exact .nil
  ·rw [if_neg z]
   simpa using hr.rep k.toNat
 all_goals exact False.elim h
theorem rD {op : Operator} {a b : V} {x y : Value} (R : Rep base ac H s) (hx : aN a x) (hy : aN b y) (h : cn op a b H Q) (hn : ∀ r, a ≠ .ref r) (hn2 : ¬ (∃ t n, a = .str t ∧ b = .int n)) :
  wpAny (model prog w) A (inplaceOp op x y) (Post base ac aL H s Q) E s := by
 cases a <;> cases b
 case int.int => obtain ⟨t, rfl⟩ := hx; obtain ⟨u, rfl⟩ := hy; exact vC R h
 case str.str =>
  obtain ⟨t, rfl⟩ := hx; obtain ⟨u, rfl⟩ := hy
  obtain ⟨rfl, h⟩ := mD h
  exact vD R h
 case str.int => exact absurd ⟨_, _, rfl, rfl⟩ hn2
 case ref.ref => exact absurd rfl (hn _)
 case ref.int => exact absurd rfl (hn _)
 all_goals exact False.elim h
end
theorem rE : ∀ {is : List Int} {ws : List Value}, aF (is.map .int) ws → IntsAre ws is
 | [], _, h => by cases h; exact .nil
 | i :: is, _, h => by
  cases h with
  | cons h1 h2 => obtain ⟨t, rfl⟩ := h1; exact .cons i t (rE h2)
theorem i9 {H : Hp} {base : Heap} {ac : OsState} {s : Shared} (R : Rep base ac H s) {v : V} {d : PyData} (D : Den H v d) : ∀ {x : Value}, aN v x → ∃ as, Reads s.heap x d as := by
 have Ck : ∀ {is : List Int} {ws : List Value}, aF (is.map .int) ws → ∃ as, ReadsAll s.heap ws (is.map .int) as := by
  intro is
  induction is with
  | nil => intro ws h; cases h; exact ⟨_, .nil⟩
  | cons i is ih =>
   intro ws h
   cases h with
   | cons h1 h2 => obtain ⟨t, rfl⟩ := h1; obtain ⟨as, q⟩ := ih h2; exact ⟨_, .cons (.int i t) q⟩
 have Cl : ∀ {ss : List (List Nat)} {ws : List Value}, aF (ss.map .str) ws → ∃ as, ReadsAll s.heap ws (ss.map fun s => .str (st s)) as := by
  intro ss
  induction ss with
  | nil => intro ws h; cases h; exact ⟨_, .nil⟩
  | cons i is ih =>
   intro ws h
   cases h with
   | cons h1 h2 => obtain ⟨t, rfl⟩ := h1; obtain ⟨as, q⟩ := ih h2; exact ⟨_, .cons (.str _ t) q⟩
 intro x hx
 cases D with
 | int i => obtain ⟨t, rfl⟩ := hx; exact ⟨_, .int i t⟩
 | str a => obtain ⟨t, rfl⟩ := hx; exact ⟨_, .str _ t⟩
 | lints hm => obtain rfl := hx; obtain ⟨ws, n, ho, hr⟩ := R.cell hm; obtain ⟨as, q⟩ := Ck hr; exact ⟨_, .list ho rfl rfl q⟩
 | te hm => obtain rfl := hx; obtain ⟨ws, n, ho, hr⟩ := R.cell hm; obtain ⟨as, q⟩ := Cl hr; exact ⟨_, .list ho rfl rfl q⟩
theorem mJ {H : Hp} {base : Heap} {ac : OsState} {s : Shared} (R : Rep base ac H s) {vs : List V} {ds : List PyData} (D : rA H vs ds) : ∀ {xs : List Value}, aF vs xs → ∃ as, ReadsAll s.heap xs ds as := by
 induction D with
 | nil => intro xs h; cases h; exact ⟨_, .nil⟩
 | cons d _ ih =>
  intro xs h
  cases h with
  | cons h1 h2 => obtain ⟨as, q⟩ := i9 R d h1; obtain ⟨bs, q'⟩ := ih h2; exact ⟨_, .cons q q'⟩
theorem gX {H : Hp} {base : Heap} {ac : OsState} {s : Shared} (R : Rep base ac H s) {v : V} {d : PyData} (D : mF H v d) : ∀ {x : Value}, aN v x → ∃ as, Reads s.heap x d as := by
 intro x hx
 cases D with
 | of d => exact i9 R d hx
 | tup hm D =>
  obtain rfl := hx
  obtain ⟨ws, ⟨o, ho, hc, n, hd⟩, hr⟩ := R.cell hm
  obtain ⟨as, q⟩ := mJ R D hr
  exact ⟨_, .tuple ho hc hd q⟩
theorem qg (is : List Int) (i : Int) : is.any (· == i) = decide (i ∈ is) := by
 induction is with
 | nil => rfl
 | cons a r ih =>
  rw [List.any_cons, ih]
  by_cases h : a = i
  ·subst h; simp
  ·have h' : ¬ i = a := fun e => h e.symm
   rw [show (a == i) = false from beq_eq_false_iff_ne.mpr h, Bool.false_or]
   simp [List.mem_cons, h']
theorem zG {a b : List Nat} : st a = st b ↔ a = b := by
 constructor
 ·intro h
  have := congrArg un h
  rwa [xk, xk] at this
 ·rintro rfl; rfl
theorem uJ (a b : List Nat) : (st a == st b) = decide (a = b) := by
 by_cases h : a = b
 ·subst h; simp
 ·rw [decide_eq_false h]; exact beq_eq_false_iff_ne.mpr fun e => h (zG.mp e)
theorem xm (a b : Int) : (a != b) = decide (a ≠ b) := by by_cases h : a = b <;> simp [h]
section
variable {prog : Program} {w : World} {A : Around} {E : Value → Shared → Prop} {base : Heap} {ac : OsState} {H H' : Hp} {s : Shared} {Q : V → Hp → Prop}
theorem dG {op : CmpOp} {a b : V} {x y : Value} (hA : dv A 0) (R : Rep base ac H s) (hx : aN a x) (hy : aN b y) (h : ez op a b H Q) :
  wpAny (model prog w) A (compareOp op x y) (Post base ac aL H s Q) E s := by
 have hu := hA.un
 cases a <;> cases b
 case int.int =>
  obtain ⟨t, rfl⟩ := hx; obtain ⟨u, rfl⟩ := hy
  cases op <;> first | exact False.elim h | skip
  case Eq => exact PyProof.Rows.eq_int (aC R h rfl)
  case NotEq => exact PyProof.Rows.ne_int (aC R h (by show Value.bool _ = .bool _; rw [xm]))
  case Lt => exact PyProof.Rows.lt_int (aC R h rfl)
  case LtE => exact PyProof.Rows.le_int (aC R h rfl)
  case Gt => exact PyProof.Rows.gt_int (aC R h rfl)
  case GtE => exact PyProof.Rows.ge_int (aC R h rfl)
 case str.str =>
  obtain ⟨t, rfl⟩ := hx; obtain ⟨u, rfl⟩ := hy
  cases op <;> first | exact False.elim h | skip
  case Eq => exact PyProof.Rows.eq_str (aC R h (by show Value.bool _ = .bool _; rw [uJ]))
  case NotEq => exact PyProof.Rows.ne_str (aC R h (by show Value.bool (!(_ == _)) = .bool _; rw [uJ]; simp))
  case In =>
   obtain ⟨c, rfl, q⟩ := h
   exact PyProof.Rows.in_str (aC R q (by
    show Value.bool _ = .bool _
    exact congrArg Value.bool (StrLaws.found_one (st _) c)))
 case bool.bool =>
  obtain rfl := hx; obtain rfl := hy
  obtain ⟨rfl, h⟩ := uI h
  exact PyProof.Rows.eq_bool (aC R h rfl)
 case ref.none =>
  obtain rfl := hx; obtain rfl := hy
  cases op <;> first | exact False.elim h | skip
  case Is => exact wpAny_is_other rfl (by intro e; cases e) (aC R h rfl)
  case IsNot => exact wpAny_isNot_other rfl (by intro e; cases e) (aC R h rfl)
 case none.none =>
  obtain rfl := hx; obtain rfl := hy
  cases op <;> first | exact False.elim h | skip
  case Is => exact wpAny_is_self rfl (aC R h rfl)
  case IsNot => exact wpAny_isNot_self rfl (aC R h rfl)
 case int.ref =>
  obtain ⟨t, rfl⟩ := hx; obtain rfl := hy
  obtain ⟨rfl, h⟩ := zD h
  ·obtain ⟨is, hm, hl, q⟩ := h
   obtain ⟨ws, n, ho, hr⟩ := R.cell hm
   refine PyProof.Rows.in_list_ints (vs := ws.toList) ⟨_, ho, rfl, n, by simp⟩ (rE hr) (aC R q ?_)
   show Value.bool _ = .bool _
   rw [qg]
 case ref.ref =>
  obtain rfl := hx; obtain rfl := hy
  obtain ⟨rfl, h⟩ := uI h
  ·obtain ⟨da, db, ha, hb, sa, sb, q⟩ := h
   obtain ⟨as, ra⟩ := gX R ha rfl
   obtain ⟨bs, rb⟩ := gX R hb rfl
   exact eq_dataH ra rb sa sb (by rw [th]; (exact ln [_] [.le (.a (.v 0) (.k 8 (.n 0))) (.n 9000)] (.lt (.a (.v 0) (.n 64)) (.n 9900)) [1,1] rfl hu)) (aC R q rfl)
 all_goals exact False.elim h
end
noncomputable def attrOk (K : Frag) (C : Addr) (name : Str) : Bool :=
 plainGet K C name && hasDictIn K C && (match findIn K (.ref C) name with | some attr => noGet K attr | none => false) &&
 (findIn K (.ref C) "__setattr__" == some (some (.builtin "object.__setattr__"))) && plainOver K C && (takerIn K C name == some none)
section
variable {prog : Program} {w : World} {A : Around} {E : Value → Shared → Prop} {base : Heap} {ac : OsState} {H H' : Hp} {s : Shared} {Q : V → Hp → Prop} {K : Frag}
theorem tj {a : V} {x : Value} (h : aN a x) : handedIn x = true := by
 cases a with
 | none => obtain rfl := h; rfl
 | bool b => obtain rfl := h; rfl
 | int i => obtain ⟨t, rfl⟩ := h; rfl
 | str s => obtain ⟨t, rfl⟩ := h; rfl
 | ref r => obtain rfl := h; rfl
theorem mK {x C d : Nat} {fs : List (Nat × V)} (R : Rep base ac H s) (hi : (x, O.inst C d) ∈ H) (hd : (d, O.dict fs) ∈ H) :
  ∃ es n, W.InstAt s.heap x (instObj C d) C (some (dictOf es n)) ∧ eK fs es := by
 obtain ⟨es, n, ho, hr⟩ := R.cell hd
 exact ⟨es, n, ⟨R.cell hi, rfl, rfl, ho⟩, hr⟩
theorem k7 {eH : Nat → Nat → Bool} (hC : ∀ C a, eH C a = true → a < attrs.length ∧ attrOk K C (attrName a) = true) (hK : K.In base) {x : V} {v : Value} {a : Nat} {expr : Bool}
  (R : Rep base ac H s) (hx : aN x v) (h : qb x a eH H Q) : wpAny (model prog w) A (getAttr v (attrName a) expr) (Post base ac aL H s Q) E s := by
 obtain ⟨xa, C, d, fs, y, rfl, hi, hd, hl, ho, q⟩ := h
 obtain rfl := hx
 obtain ⟨ha, hk⟩ := hC C a ho
 obtain ⟨es, n, I, hr⟩ := mK R hi hd
 obtain ⟨z, hz, rz⟩ := hr.find ha hl
 unfold attrOk at hk
 simp only [Bool.and_eq_true] at hk
 obtain ⟨⟨⟨⟨⟨k1, k2⟩, k3⟩, _⟩, _⟩, _⟩ := hk
 split at k3
 ·rename_i attr Cn
  exact get_value (hK.keeps R.keep) I (plainGet_of k1).1 (findObj_own k2 Cn k3 hz) (tj rz) (aw R q rz)
 ·cases k3
theorem qh {x C dx : Addr} {name : Str} {v : Value} {es : List DictEntry} {n : Nat} {Qu : Unit → Shared → Prop} (X : K.In s.heap)
  (I : W.InstAt s.heap x (instObj C dx) C (some (dictOf es n))) (hs : findIn K (.ref C) "__setattr__" = some (some (.builtin "object.__setattr__"))) (hp : plainOver K C = true)
  (ht : takerIn K C name = some none) (hh : hasDictIn K C = true) (hl : es.any (·.refKey) = false) (hz : es.length ≤ 900)
  (h : ∀ h', h'.get? dx = some (dictOf (putL name (PyData.keyHash w.params name) (.str name (s.toks + 1)) v es) (putN name es n)) → Heap.SameBut dx s.heap h' → Qu () { s with heap := h', toks := s.toks + 2 }) :
  wpAny (model prog w) A (setAttr (.ref x) name v) Qu E s := by
 refine set_plain X I hs ?_
 refine osa_open (s := { s with toks := s.toks + 1 }) X I hp ht fun b => ?_
 obtain ⟨cd, hc, hd'⟩ := any_some hh
 obtain ⟨hx, hcl, hn, D⟩ := I
 dsimp only [instObj] at D
 have D : s.heap.get? dx = some (dictOf es n) := D
 refine wpAny_bind (wpAny_pure (wpAny_bind (wpAny_bind (wpAny_loadPart hx (wpAny_bind (Looks.here (s := { s with toks := s.toks + 1 }) (looks_clsIn X hc) ?_))))))
 rw [hd']
 refine wpAny_pure (a := some dx) (wpAny_bind (wpAny_pure (wpAny_bind ?_)))
 unfold nsSet
 refine wpAny_bind (wpAny_bind (wpAny_askSetting (wpAny_pure (wpAny_bind (wpAny_mkText (wpAny_bind (wpAny_loadPart D ?_)))))))
 have c : (!es.toArray.any (·.key.isStr name) && es.toArray.any (·.refKey)) = false := by
  rw [show es.toArray.any (·.refKey) = es.any (·.refKey) by rw [← Array.any_toList], hl, Bool.and_false]
 dsimp only [dictOf]
 rw [aRefKeyMayBeTheName_at, c]
 have put := putName_dict name (PyData.keyHash w.params name) (.str name (s.toks + 1)) v es n
 have G : (s.heap.update dx (Obj.putName name (PyData.keyHash w.params name) (.str name (s.toks + 1)) v)).get? dx = some (dictOf (putL name (PyData.keyHash w.params name) (.str name (s.toks + 1)) v es) (putN name es n)) := by
  rw [Heap.get?_update_self _ D (by rw [put]; rfl), put]
 refine wpAny_updatePart D ?_
 refine wpAny_bind (wpAny_lookBehind G (pastItsLine_dict ?_) ?_)
 ·rw [List.size_toArray, sizeLine_eq]
  have : ∀ (name : Str) (h : Int) (k v : Value) (es : List DictEntry), (putL name h k v es).length ≤ es.length + 1 := by
   intro name h k v es
   induction es with
   | nil => simp [putL]
   | cons e r ih => unfold putL; split <;> simp <;> (exact ih)
  have := this name (PyData.keyHash w.params name) (.str name (s.toks + 1)) v es
  (exact ln [_,_] [.le (.v 1) (.n 900),.le (.v 0) (.a (.v 1) (.n 1))] (.le (.v 0) (.a (.n 16777216) (.n 1))) [1,1,1] rfl hz this)
 ·exact wpAny_pure (h _ G (Heap.SameBut.update ..))
theorem gY {eH : Nat → Nat → Bool} (hC : ∀ C a, eH C a = true → a < attrs.length ∧ attrOk K C (attrName a) = true) (hK : K.In base) {x y : V} {v z : Value} {a : Nat} {Qu : Hp → Prop}
  (R : Rep base ac H s) (hx : aN x v) (hz : aN y z) (h : dB x a y eH H Qu) :
  wpAny (model prog w) A (setAttr v (attrName a) z) (fun _ s' => ∃ H', Qu H' ∧ Rep base ac H' s' ∧ Step aL H s H' s') E s := by
 obtain ⟨xa, C, d, fs, H', rfl, hi, U, hl, ho, q⟩ := h
 obtain rfl := hx
 obtain ⟨ha, hk⟩ := hC C a ho
 obtain ⟨es, n, I, hr⟩ := mK R hi U.mem
 unfold attrOk at hk
 simp only [Bool.and_eq_true, beq_iff_eq] at hk
 obtain ⟨⟨⟨⟨⟨k1, k2⟩, k3⟩, k4⟩, k5⟩, k6⟩ := hk
 refine qh (hK.keeps R.keep) I k4 k5 k6 k2 hr.noRef (by rw [hr.length]; (exact ln [_] [.le (.v 0) (.n 100)] (.le (.v 0) (.n 900)) [1,1] rfl hl)) fun h' g sb => ⟨H', q, ?_⟩
 exact R.both (s' := { s with heap := h', toks := s.toks + 2 }) U rfl (fun b x hb e => (sb.2 b hb).trans e) ⟨_, _, g, hr.put ha hz⟩ rfl rfl
end
noncomputable def jC : Nat → Value
 | 0 => .builtin "len"
 | 1 => .type "range"
 | 2 => .builtin "abs"
 | 3 => .builtin "max"
 | 4 => .type "str"
 | _ => .none
noncomputable def pi : Nat → Str
 | 0 => "append"
 | 1 => "extend"
 | 2 => "find"
 | 3 => "split"
 | 4 => "join"
 | _ => Str.empty
noncomputable def jD : Nat → String
 | 0 => "list.append"
 | 1 => "list.extend"
 | 2 => "str.find"
 | 3 => "str.split"
 | 4 => "str.join"
 | _ => ""
section
variable {prog : Program} {w : World} {A : Around} {E : Value → Shared → Prop} {base : Heap} {ac : OsState} {H H' : Hp} {s : Shared} {Q : V → Hp → Prop} {K : Frag}
theorem tm {f : Nat} {vs : List V} {ws : List Value} (hA : dv A 0) (R : Rep base ac H s) (hv : aF vs ws) (h : xe f vs H Q) :
  wpAny (model prog w) A (call (jC f) ws) (Post base ac aL H s Q) E s := by
 match f with
 | 0 =>
  obtain ⟨v, rfl, h⟩ := rB h
  cases hv with
  | cons h1 h2 =>
   cases h2
   cases v <;> first | exact False.elim h | skip
   ·obtain ⟨t, rfl⟩ := h1; exact PyProof.Rows.len_str (by rw [bH]; have := h.1; omega) (aw R h.2 ⟨_, by rw [bH]⟩)
   ·obtain rfl := h1
    obtain ⟨xs, hm, hl, q⟩ := h
    obtain ⟨ys, n, ho, hr⟩ := R.cell hm
    have l1 := hr.length
    rw [Array.length_toList] at l1
    exact Calls.call_len_list ⟨_, ho, rfl, n, rfl⟩ (by omega) (aw R q ⟨_, by rw [l1]⟩)
 | 1 =>
  cases hv with
  | nil => exact False.elim h
  | @cons v1 w1 vs ws h1 h2 =>
   cases v1 <;> first | exact False.elim h | skip
   obtain ⟨t, rfl⟩ := h1
   cases h2 with
   | nil => exact call_range_1 (cq (o := .range 0 _ 1) R ⟨_, _, _, IsRange.new ..⟩ (h.2 _))
   | @cons v2 w2 vs ws h2 h3 =>
    cases v2 <;> first | exact False.elim h | skip
    obtain ⟨u, rfl⟩ := h2
    cases h3 with
    | nil => exact call_range_2 (cq (o := .range _ _ 1) R ⟨_, _, _, IsRange.new ..⟩ (h.2 _))
    | @cons v3 w3 vs ws h3 h4 =>
     cases h4 with
     | cons _ _ => exact False.elim h
     | nil =>
      cases v3 <;> first | exact False.elim h | skip
      obtain ⟨v, rfl⟩ := h3
      obtain ⟨⟨_, _, _, _, _, _⟩, q⟩ := h
      exact call_range_3 (by omega) (cq (o := .range _ _ _) R ⟨_, _, _, IsRange.new ..⟩ (q _)) (.inl (PyProof.noPylong_small (by omega)))
 | 2 =>
  obtain ⟨v, rfl, h⟩ := rB h
  obtain ⟨i, rfl, h⟩ := lV h
  cases hv with
  | cons h1 h2 =>
   cases h2; obtain ⟨t, rfl⟩ := h1
   refine call_abs_int fun u tk => aw R h ⟨u, ?_⟩
   congr 1
   split <;> omega
 | 3 =>
  cases hv with
  | nil => exact False.elim h
  | @cons x w vs ws h1 h2 =>
   obtain ⟨i, rfl, h⟩ := lV h
   obtain ⟨y, rfl, h⟩ := rB h
   obtain ⟨j, rfl, h⟩ := lV h
   cases h2 with
   | cons h2 h3 =>
    cases h3; obtain ⟨t, rfl⟩ := h1; obtain ⟨u, rfl⟩ := h2
    refine max_two_ints hA.hh fun h' tk hk => ?_
    refine ⟨_, H, h, ?_, R.grow (s' := { s with heap := h', toks := tk }) hk rfl rfl, Step.grow (s' := { s with heap := h', toks := tk }) hk⟩
    split
    ·exact ⟨_, congrArg (fun z => Value.int z _) (by omega)⟩
    ·exact ⟨_, congrArg (fun z => Value.int z _) (by omega)⟩
 | 4 =>
  obtain ⟨v, rfl, h⟩ := rB h
  obtain ⟨i, rfl, ⟨h0, hb⟩, q⟩ := lV h
  cases hv with
  | cons h1 h2 =>
   cases h2; obtain ⟨t, rfl⟩ := h1
   refine PySem.P.str_of_int ?_ (aw R q (jy _ _))
   have : i.natAbs < 2 ^ 67 := by omega
   by_cases z : i.natAbs = 0
   ·rw [z]; decide
   ·exact Nat.lt_of_lt_of_le ((Nat.log2_lt z).mpr this) (by decide)
 | f + 5 => exact False.elim h
theorem gZ (xs ys : Array Value) (n : Nat) : ∃ n', Obj.mapSeq (fun x => x ++ ys) { cls := .type "list", data := .seq xs n } = { cls := .type "list", data := .seq (xs ++ ys) n' } := by
 simp only [Obj.mapSeq]
 exact ⟨_, rfl⟩
theorem rF : ∀ {ss : List (List Nat)} {ws : List Value}, aF (ss.map .str) ws → ∃ l : List (Str × Tok), ws = strValues l ∧ l.map (·.1) = ss.map st
 | [], _, h => by cases h; exact ⟨[], rfl, rfl⟩
 | i :: is, _, h => by
  cases h with
  | cons h1 h2 =>
   obtain ⟨t, rfl⟩ := h1
   obtain ⟨l, rfl, e⟩ := rF h2
   exact ⟨(st i, t) :: l, rfl, by simp [e]⟩
theorem rG : ∀ l : List (Str × Tok), aF ((l.map (·.1)).map fun x => V.str (un x)) (strValues l)
 | [] => .nil
 | (x, t) :: l => .cons (jy x t) (rG l)
theorem qj {a p : List Nat} {t u : Tok} (R : Rep base ac H s) (hl : a.length ≤ 1000 ∧ 0 < p.length)
  (h : ∀ r, Q (.ref r) ((r, .list ((Txt.split (st a) (st p)).map fun x => .str (un x))) :: H)) :
  wpAny (model prog w) A (call (.builtin "str.split") [.str (st a) t, .str (st p) u]) (Post base ac aL H s Q) E s := by
 have hy : ((st p).length == 0) = false := by rw [bH]; simp; exact fun e => by rw [e] at hl; exact absurd hl.2 (by simp)
 have hx0 : (st a).length ≤ 1000 := by rw [bH]; exact hl.1
 have hx : (st a).length ≤ sizeLine := aX (by exact ln [_] [.le (.v 0) (.n 1000)] (.le (.v 0) (.n 20000)) [1,1] rfl hx0)
 generalize st a = x at *
 generalize st p = y at *
 have fin : ∀ (l : List (Str × Tok)) (k : Nat), l.map (·.1) = Txt.split x y →
   Post base ac aL H s Q (.ref s.heap.objs.size) { s with heap := s.heap.push { cls := .type "list", data := .seq (strValues l).toArray }, toks := k } := fun l k e =>
  cq (o := .list ((Txt.split x y).map fun x => .str (un x))) R ⟨_, 0, Heap.get?_push_size _ rfl, by rw [← e]; simpa using rG l⟩ (h _)
 have hn : (Builtin.Str.partsBetween x (Builtin.Str.occurrences x y 0 x.length (x.length + 1)) y.length).length ≤ sizeLine := by
  rw [length_partsBetween]
  have := StrLaws.occ_length_le x y 0 x.length (x.length + 1)
  exact aX (by (exact ln [_,_] [.le (.v 1) (.n 1000),.le (.v 0) (.a (.v 1) (.n 1))] (.le (.a (.v 0) (.n 1)) (.n 20000)) [1,1,1] rfl hx0 this))
 cases h1 : (decide (x.length < y.length) || decide (Builtin.Str.strKind x < Builtin.Str.strKind y))
 ·cases hf : (Builtin.Str.occurrences x y 0 x.length (x.length + 1)).isEmpty
  ·refine call_meets F.slot_str_split (typeIs_str _ _ _) F.entry_str_split (F.args_str_split_2 _ _) (meets_str_split_sep x y t u h1 hy hf hx hn) ?_
   rw [strsFrom_eq]
   exact fin (numbered s.toks _) _ ((numbered_texts _ _).trans ((if_neg (ne_true_of_eq_false h1)).trans (if_neg (ne_true_of_eq_false hf))).symm)
  ·exact call_meets F.slot_str_split (typeIs_str _ _ _) F.entry_str_split (F.args_str_split_2 _ _) (meets_str_split_not_found x y t u h1 hy hf)
    (fin [(x, t)] s.toks ((if_neg (ne_true_of_eq_false h1)).trans (if_pos hf)).symm)
 ·exact call_meets F.slot_str_split (typeIs_str _ _ _) F.entry_str_split (F.args_str_split_2 _ _) (meets_str_split_cannot_occur x y t u h1)
   (fin [(x, t)] s.toks (if_pos h1).symm)
theorem mL (sep : Nat) : ∀ (l : List Str) (acc : Nat), (∀ x ∈ l, x.length ≤ 100) → l.foldl (fun n (x : Str) => n + x.length + sep) acc ≤ acc + l.length * (100 + sep)
 | [], acc, _ => by simp
 | x :: l, acc, h => by
  have h1 := h x (.head _)
  have := mL sep l (acc + x.length + sep) fun y hy => h y (.tail _ hy)
  simp only [List.foldl_cons, List.length_cons, Nat.add_mul, Nat.one_mul]
  (exact ln [_,_,_,_,_] [.le (.v 4) (.n 100),.le (.v 0) (.a (.a (.a (.v 1) (.v 4)) (.v 3)) (.v 2))] (.le (.v 0) (.a (.v 1) (.a (.v 2) (.a (.n 100) (.v 3))))) [1,1,1] rfl h1 this)
theorem rH {m : Nat} {o : V} {vs : List V} {x : Value} {ws : List Value} (R : Rep base ac H s) (hx : aN o x) (hv : aF vs ws) (h : gV m o vs H Q) :
  wpAny (model prog w) A (call (.builtin (jD m)) (x :: ws)) (Post base ac aL H s Q) E s := by
 obtain ⟨v, rfl, h⟩ := rB h
 cases hv with
 | cons h1 h2 =>
 cases h2
 match m with
 | 0 =>
   obtain ⟨r, rfl, h⟩ := iA h
   obtain rfl := hx
   obtain ⟨xs, H', U, hl, q⟩ := h
   obtain ⟨ys, n, ho, hr⟩ := R.cell U.mem
   have l1 := hr.length
   rw [Array.length_toList] at l1
   refine wpAny_list_append_plain ⟨n, ho⟩ (fun h' g sb => .of (a := V.none) (Rel := aN) q rfl ?_) (aX (by exact ln [_,_] [.le (.v 1) (.n 1000),.eq (.v 0) (.v 1)] (.le (.v 0) (.n 20000)) [1,1,1] rfl hl l1))
   obtain ⟨n', g⟩ := g
   exact R.both (s' := { s with heap := h' }) U rfl (fun b x hb e => (sb.2 b hb).trans e) ⟨_, n', g, by rw [Array.toList_push]; exact hr.append (.cons h1 .nil)⟩ rfl rfl
 | 1 =>
   obtain ⟨r, rfl, h⟩ := iA h
   obtain ⟨b, rfl, h⟩ := iA h
   obtain rfl := hx; obtain rfl := h1
   obtain ⟨xs, ys, H', hm, U, l1, l2, q⟩ := h
   obtain ⟨xa, n, ho, hr⟩ := R.cell U.mem
   obtain ⟨ya, n2, ho2, hr2⟩ := R.cell hm
   have e1 := hr.length; have e2 := hr2.length
   rw [Array.length_toList] at e1 e2
   refine call_meets PySem.F.slot_list_extend ⟨_, ho, rfl⟩ PySem.F.entry_list_extend (PySem.F.args_list_extend_2 _ _)
    (PySem.AutoSeq1.list_extend_list_list_0 r xa n b ya n2 (by simp [Builtin.List.listTooLong, sizeLine]; (exact fun qz => ln [_,_,_,_] [.le (.v 2) (.n 1000),.le (.v 3) (.n 1000),.eq (.v 0) (.v 2),.eq (.v 1) (.v 3)] (.le (.a (.v 0) (.v 1)) (.n 16777216)) [1,1,1,1,1] rfl l1 l2 e1 e2)) (aX (by exact ln [_,_] [.le (.v 1) (.n 1000),.eq (.v 0) (.v 1)] (.le (.v 0) (.n 20000)) [1,1,1] rfl l1 e1)) (Nat.le_succ_of_le (aX (by (exact ln [_,_,_,_] [.le (.v 2) (.n 1000),.le (.v 3) (.n 1000),.eq (.v 0) (.v 2),.eq (.v 1) (.v 3)] (.le (.a (.v 0) (.v 1)) (.n 20000)) [1,1,1,1,1] rfl l1 l2 e1 e2))))) ⟨ho, ho2, ?_⟩
   obtain ⟨n', en⟩ := gZ xa ya n
   have g : (s.heap.update r (Obj.mapSeq fun x => x ++ ya)).get? r = some { cls := .type "list", data := .seq (xa ++ ya) n' } := by
    rw [Heap.get?_update_self _ ho (by rw [en]; rfl), en]
   have sb := Heap.SameBut.update s.heap r (Obj.mapSeq fun x => x ++ ya)
   exact .of (a := V.none) (Rel := aN) q rfl (R.both (s' := { s with heap := s.heap.update r (Obj.mapSeq fun x => x ++ ya) }) U rfl (fun b x hb e => (sb.2 b hb).trans e) ⟨_, n', g, by rw [Array.toList_append]; exact hr.append hr2⟩ rfl rfl)
 | 2 =>
   obtain ⟨sp, rfl, h⟩ := fJ h
   obtain ⟨pp, rfl, h⟩ := fJ h
   obtain ⟨t, rfl⟩ := hx; obtain ⟨u, rfl⟩ := h1; exact SC.find (aw R h.2 ⟨_, rfl⟩)
 | 3 =>
   obtain ⟨sp, rfl, h⟩ := fJ h
   obtain ⟨pp, rfl, h⟩ := fJ h
   obtain ⟨t, rfl⟩ := hx; obtain ⟨u, rfl⟩ := h1; exact qj R h.1 h.2
 | 4 =>
   obtain ⟨sp, rfl, h⟩ := fJ h
   obtain ⟨ra, rfl, h⟩ := iA h
   obtain ⟨t, rfl⟩ := hx; obtain rfl := h1
   obtain ⟨ss, hm, ⟨l1, l2, l3⟩, q⟩ := h
   obtain ⟨ya, n2, ho2, hr2⟩ := R.cell hm
   obtain ⟨l, e, e'⟩ := rF hr2
   refine SC.join (l := l) (texts := ss.map st) ⟨_, ho2, rfl, n2, by rw [← e]⟩ e' ?_ fun t' k => aw R q (jy _ _)
   unfold JoinOk
   rw [Bool.not_eq_true']
   unfold Builtin.Str.tooLong
   have b := mL (st sp).length (ss.map st) 0 (fun x hx => by
    obtain ⟨y, hy, rfl⟩ := List.mem_map.mp hx
    rw [bH]; exact l3 y hy)
   rw [List.length_map] at b
   rw [bH] at b ⊢
   have b2 : ss.length * (100 + sp.length) ≤ 1000 * (100 + 10) := Nat.mul_le_mul l2 (Nat.add_le_add_left l1 100)
   refine decide_eq_false (Nat.not_lt.mpr ?_)
   rw [sizeLine_eq, List.foldl_toArray]
   (exact ln [_,_] [.le (.v 0) (.a (.n 0) (.v 1)),.le (.v 1) (.k 1000 (.a (.n 100) (.n 10)))] (.le (.v 0) (.n 16777216)) [1,1,1] rfl b b2)
 | m + 5 => exact False.elim h
end
noncomputable def rI : List Nat → List Nat → Bool
 | [], [] => true
 | a :: x, b :: y => Nat.beq a b && rI x y
 | _, _ => false
theorem ql : ∀ {x y : List Nat}, rI x y = true → x = y
 | [], [], _ => rfl
 | [], _ :: _, h => by cases h
 | _ :: _, [], h => by cases h
 | a :: x, b :: y, h => by
  simp only [rI, Bool.and_eq_true] at h
  rw [Nat.eq_of_beq_eq_true h.1, ql h.2]
noncomputable def seq (a b : Str) : Bool := rI a.cps.toList b.cps.toList
theorem seq_eq {a b : Str} (h : seq a b = true) : a = b := by
 have := ql h
 cases a; cases b
 congr 1
 exact Array.toList_inj.mp this
noncomputable def lk (names : List (Str × NameKind)) (x : Str) : Option NameKind :=
 match names with
 | [] => none
 | (y, k) :: r => match seq x y with
  | true => some k
  | false => lk r x
theorem cV : ∀ {names : List (Str × NameKind)} {x : Str} {k : NameKind}, lk names x = some k → (x, k) ∈ names
 | (y, k') :: r, x, k, h => by
  unfold lk at h
  split at h
  ·rename_i e; cases h; rw [seq_eq e]; exact .head _
  ·exact .tail _ (cV h)
noncomputable def isVar : Option NameKind → Bool
 | some .local => true
 | some .cell => true
 | some .free => true
 | _ => false
noncomputable def mM : Option NameKind → Bool
 | some .globalImplicit => true
 | _ => false
structure Tb where
 gn : List Str
 fn : List Str
 mn : List Str
noncomputable def gh : Nat → Str
 | 0 => "len"
 | 1 => "range"
 | 2 => "abs"
 | 3 => "max"
 | 4 => "str"
 | _ => Str.empty
noncomputable def DU : Str := "__debug__"
noncomputable def cld : Str := "__classdict__"
noncomputable def bw (x : Str) : Bool := !seq x DU && !seq x cld
noncomputable abbrev bA := List (Str × NameKind)
noncomputable def cr (inner outer : bA) : Bool := inner.all fun p => match p.2 with
 | .free => isVar (lk outer p.1) && (match lk outer p.1 with | some .local => false | _ => true)
 | .cell => false
 | _ => true
noncomputable def gi (inner : bA) : Bool := inner.all fun p => match p.2 with
 | .local => (match lk inner p.1 with | some .local => true | _ => false)
 | _ => true
noncomputable def dot0 : Str := ".0"
noncomputable def eL (inner : bA) (y : Str) : Bool := inner.all fun p => match p.2 with
 | .local => seq p.1 y || seq p.1 dot0
 | _ => true
theorem bS {c : Prop} [Decidable c] {g : c → Bool} (e : (if h : c then g h else false) = true) : ∃ h, g h = true := by
 by_cases h : c
 ·rw [dif_pos h] at e; exact ⟨h, e⟩
 ·rw [dif_neg h] at e; cases e
noncomputable def iB (x : Expr) (f : BoolOp → List Expr → Bool) : Bool := if h : x.ctorIdx = 0 then Expr.BoolOp.elim (motive_1 := fun _ => Bool) x h (fun l es _ => f l es) else false
@[elab_as_elim] theorem fK {x f} {P : Expr → Prop} (e : iB x f = true) (g : ∀ l es p, f l es = true → P (.BoolOp l es p)) : P x := (bS e).elim fun h _ => Expr.BoolOp.elim (motive_1 := fun x => iB x f = true → P x) x h g e
noncomputable def jE (x : Expr) (f : Expr → Operator → Expr → Bool) : Bool := if h : x.ctorIdx = 2 then Expr.BinOp.elim (motive_1 := fun _ => Bool) x h (fun a o b _ => f a o b) else false
@[elab_as_elim] theorem jh {x f} {P : Expr → Prop} (e : jE x f = true) (g : ∀ a o b p, f a o b = true → P (.BinOp a o b p)) : P x := (bS e).elim fun h _ => Expr.BinOp.elim (motive_1 := fun x => jE x f = true → P x) x h g e
noncomputable def eM (x : Expr) (f : UnaryOp → Expr → Bool) : Bool := if h : x.ctorIdx = 3 then Expr.UnaryOp.elim (motive_1 := fun _ => Bool) x h (fun u a _ => f u a) else false
@[elab_as_elim] theorem eC {x f} {P : Expr → Prop} (e : eM x f = true) (g : ∀ u a p, f u a = true → P (.UnaryOp u a p)) : P x := (bS e).elim fun h _ => Expr.UnaryOp.elim (motive_1 := fun x => eM x f = true → P x) x h g e
noncomputable def mN (x : Expr) (f : Expr → Expr → Expr → Bool) : Bool := if h : x.ctorIdx = 5 then Expr.IfExp.elim (motive_1 := fun _ => Bool) x h (fun a b c _ => f a b c) else false
@[elab_as_elim] theorem mO {x f} {P : Expr → Prop} (e : mN x f = true) (g : ∀ a b c p, f a b c = true → P (.IfExp a b c p)) : P x := (bS e).elim fun h _ => Expr.IfExp.elim (motive_1 := fun x => mN x f = true → P x) x h g e
noncomputable def g7 (x : Expr) (f : Expr → List Comprehension → Scope → Bool) : Bool := if h : x.ctorIdx = 8 then Expr.ListComp.elim (motive_1 := fun _ => Bool) x h (fun a g sc _ => f a g sc) else false
@[elab_as_elim] theorem oP {x f} {P : Expr → Prop} (e : g7 x f = true) (g : ∀ a g sc p, f a g sc = true → P (.ListComp a g sc p)) : P x := (bS e).elim fun h _ => Expr.ListComp.elim (motive_1 := fun x => g7 x f = true → P x) x h g e
noncomputable def gz (x : Expr) (f : Expr → List CmpOp → List Expr → Bool) : Bool := if h : x.ctorIdx = 15 then Expr.Compare.elim (motive_1 := fun _ => Bool) x h (fun a os es _ => f a os es) else false
@[elab_as_elim] theorem eD {x f} {P : Expr → Prop} (e : gz x f = true) (g : ∀ a os es p, f a os es = true → P (.Compare a os es p)) : P x := (bS e).elim fun h _ => Expr.Compare.elim (motive_1 := fun x => gz x f = true → P x) x h g e
noncomputable def fL (x : Expr) (f : Expr → List Expr → List Keyword → Pos → Bool) : Bool := if h : x.ctorIdx = 16 then Expr.Call.elim (motive_1 := fun _ => Bool) x h (fun a es kw p => f a es kw p) else false
@[elab_as_elim] theorem dH {x f} {P : Expr → Prop} (e : fL x f = true) (g : ∀ a es kw p, f a es kw p = true → P (.Call a es kw p)) : P x := (bS e).elim fun h _ => Expr.Call.elim (motive_1 := fun x => fL x f = true → P x) x h g e
noncomputable def ct (x : Expr) (f : Const → Bool) : Bool := if h : x.ctorIdx = 19 then Expr.Constant.elim (motive_1 := fun _ => Bool) x h (fun v _ _ => f v) else false
@[elab_as_elim] theorem cb {x f} {P : Expr → Prop} (e : ct x f = true) (g : ∀ v k p, f v = true → P (.Constant v k p)) : P x := (bS e).elim fun h _ => Expr.Constant.elim (motive_1 := fun x => ct x f = true → P x) x h g e
noncomputable def bJ (x : Expr) (f : Expr → Str → Pos → Bool) : Bool := if h : x.ctorIdx = 20 then Expr.Attribute.elim (motive_1 := fun _ => Bool) x h (fun a y p => f a y p) else false
@[elab_as_elim] theorem bE {x f} {P : Expr → Prop} (e : bJ x f = true) (g : ∀ a y p, f a y p = true → P (.Attribute a y p)) : P x := (bS e).elim fun h _ => Expr.Attribute.elim (motive_1 := fun x => bJ x f = true → P x) x h g e
noncomputable def cy (x : Expr) (f : Expr → Expr → Bool) : Bool := if h : x.ctorIdx = 21 then Expr.Subscript.elim (motive_1 := fun _ => Bool) x h (fun a b _ => f a b) else false
@[elab_as_elim] theorem cu {x f} {P : Expr → Prop} (e : cy x f = true) (g : ∀ a b p, f a b = true → P (.Subscript a b p)) : P x := (bS e).elim fun h _ => Expr.Subscript.elim (motive_1 := fun x => cy x f = true → P x) x h g e
noncomputable def bK (x : Expr) (f : Str → Bool) : Bool := if h : x.ctorIdx = 23 then Expr.Name.elim (motive_1 := fun _ => Bool) x h (fun y _ => f y) else false
@[elab_as_elim] theorem bo {x f} {P : Expr → Prop} (e : bK x f = true) (g : ∀ y p, f y = true → P (.Name y p)) : P x := (bS e).elim fun h _ => Expr.Name.elim (motive_1 := fun x => bK x f = true → P x) x h g e
noncomputable def qm (x : Expr) (f : List Expr → Bool) : Bool := if h : x.ctorIdx = 24 then Expr.List.elim (motive_1 := fun _ => Bool) x h (fun es _ => f es) else false
@[elab_as_elim] theorem vE {x f} {P : Expr → Prop} (e : qm x f = true) (g : ∀ es p, f es = true → P (.List es p)) : P x := (bS e).elim fun h _ => Expr.List.elim (motive_1 := fun x => qm x f = true → P x) x h g e
noncomputable def jF (x : Expr) (f : List Expr → Bool) : Bool := if h : x.ctorIdx = 25 then Expr.Tuple.elim (motive_1 := fun _ => Bool) x h (fun es _ _ => f es) else false
@[elab_as_elim] theorem mP {x f} {P : Expr → Prop} (e : jF x f = true) (g : ∀ es k p, f es = true → P (.Tuple es k p)) : P x := (bS e).elim fun h _ => Expr.Tuple.elim (motive_1 := fun x => jF x f = true → P x) x h g e
noncomputable def mQ (x : Expr) (f : Option Expr → Option Expr → Option Expr → Bool) : Bool := if h : x.ctorIdx = 26 then Expr.Slice.elim (motive_1 := fun _ => Bool) x h (fun m n q _ => f m n q) else false
@[elab_as_elim] theorem tn {x f} {P : Expr → Prop} (e : mQ x f = true) (g : ∀ m n q p, f m n q = true → P (.Slice m n q p)) : P x := (bS e).elim fun h _ => Expr.Slice.elim (motive_1 := fun x => mQ x f = true → P x) x h g e
noncomputable def mR {α : Type} (l : List α) (f : α → Bool) : Bool := match l with
 | [x] => f x
 | _ => false
@[elab_as_elim] theorem eh {α : Type} {l : List α} {f : α → Bool} {P : List α → Prop} (e : mR l f = true) (g : ∀ x, f x = true → P [x]) : P l := by
 cases l with
 | nil => cases e
 | cons x r => cases r with
  | nil => exact g x e
  | cons _ _ => cases e
noncomputable def zH {α : Type} (l : List α) (f : α → α → Bool) : Bool := match l with
 | x :: r => mR r (f x)
 | _ => false
@[elab_as_elim] theorem mS {α : Type} {l : List α} {f : α → α → Bool} {P : List α → Prop} (e : zH l f = true) (g : ∀ x y, f x y = true → P [x, y]) : P l := by
 cases l with
 | nil => cases e
 | cons x r => exact eh (P := fun r => P (x :: r)) e (g x)
theorem ag {a b : Bool} (e : (a && b) = true) : a = true ∧ b = true := by cases a with | false => cases e | true => exact ⟨rfl, e⟩
theorem mT {a b : Bool} (e : (!a && b) = true) : a = false ∧ b = true := by cases a with | false => exact ⟨rfl, e⟩ | true => cases e
theorem mU {a b : Bool} (e : (a || b) = true) : a = true ∨ b = true := by cases a with | true => exact .inl rfl | false => exact .inr e
@[elab_as_elim] theorem uK {α : Type} {l : Option α} {P : Option α → Prop} (e : l.isNone = true) (g : P none) : P l := by cases l with | none => exact g | some _ => cases e
@[elab_as_elim] theorem eO {α : Type} {l : List α} {P : List α → Prop} (e : l.isEmpty = true) (g : P []) : P l := by cases l with | nil => exact g | cons _ _ => cases e
noncomputable def lJ (k : Nat) (x : Expr) : Bool := decide (x.ctorIdx = k)
@[elab_as_elim] theorem qn {x} {P : Expr → Prop} (e : lJ 23 x = true) (g : ∀ y p, P (.Name y p)) : P x := Expr.Name.elim (motive_1 := P) x (of_decide_eq_true e) g
noncomputable def iC (x : Expr) : Bool := lJ 23 x || (lJ 20 x || (lJ 21 x || lJ 19 x))
noncomputable def mV (x : Expr) : Bool := !decide (x.ctorIdx = 26)
noncomputable def qo (x : Expr) : Bool := !decide (x.ctorIdx = 7)
noncomputable def tq (f : Expr → Bool) (c : Bool) : List Expr → Bool
 | [] => c
 | x :: r => f x && r.isEmpty
noncomputable def cInt (v : Const) (i : Int) : Bool := if h : v.ctorIdx = 2 then Const.int.elim (motive := fun _ => Bool) v h (fun j => decide (i = j)) else false
theorem zI {v i} (e : cInt v i = true) : v = .int i := (bS e).elim fun h _ => Const.int.elim (motive := fun v => cInt v i = true → v = .int i) v h (fun j e => congrArg Const.int (of_decide_eq_true e).symm) e
noncomputable def cStr (v : Const) (i : List Nat) : Bool := if h : v.ctorIdx = 5 then Const.str.elim (motive := fun _ => Bool) v h (fun j => rI i j.cps.toList) else false
theorem zJ {v i} (e : cStr v i = true) : ∃ y, v = .str y ∧ i = y.cps.toList := (bS e).elim fun h _ => Const.str.elim (motive := fun v => cStr v i = true → ∃ y, v = .str y ∧ i = y.cps.toList) v h (fun y e => ⟨y, rfl, ql e⟩) e
noncomputable def cBool (v : Const) (i : Bool) : Bool := if h : v.ctorIdx = 1 then Const.bool.elim (motive := fun _ => Bool) v h (fun j => i == j) else false
theorem xn {v i} (e : cBool v i = true) : v = .bool i := (bS e).elim fun h _ => Const.bool.elim (motive := fun v => cBool v i = true → v = .bool i) v h (fun j e => congrArg Const.bool (eq_of_beq e).symm) e
theorem xo {v : Const} (e : decide (v.ctorIdx = 0) = true) : v = .none := Const.none.elim (motive := fun v => v = .none) v (of_decide_eq_true e) rfl
noncomputable def BI : Option NameKind → Bool
 | some k => decide (k = .local)
 | none => false
theorem zK {o} (e : BI o = true) : o = some .local := by cases o with | none => cases e | some _ => exact congrArg _ (of_decide_eq_true e)
noncomputable def tr : E → Bool
 | .bO => true
 | _ => false
noncomputable def qp : E → Bool
 | .aZ b => b
 | _ => false
noncomputable def xp (f : Expr → Bool) (c : Bool) : Option Expr → Bool
 | some x => f x
 | none => c
noncomputable def xq (names : bA) (sl : List Str) (i : Nat) (y : Str) (scope : Scope) (it : Expr) : Bool :=
 Nat.blt i sl.length && (seq y (sl.getD i Str.empty) && (decide (scope.kind = .function) && (cr scope.names names && (gi scope.names && (eL scope.names y && (BI (lk scope.names y) && qo it))))))
structure xr (names : bA) (sl : List Str) (i : Nat) (y : Str) (scope : Scope) (it : Expr) : Prop where
 d1 : i < sl.length
 d2 : y = sl.getD i Str.empty
 d3 : scope.kind = .function
 d4 : cr scope.names names = true
 d5 : gi scope.names = true
 d6 : eL scope.names y = true
 d7 : lk scope.names y = some .local
 d8 : qo it = true
theorem qr {a b : Nat} (h : Nat.blt a b = true) : a < b := Nat.le_of_ble_eq_true h
theorem xt {names sl i y scope it} (h : xq names sl i y scope it = true) : xr names sl i y scope it := by
 obtain ⟨d1, h⟩ := ag h
 obtain ⟨d2, h⟩ := ag h
 obtain ⟨d3, h⟩ := ag h
 obtain ⟨d4, h⟩ := ag h
 obtain ⟨d5, h⟩ := ag h
 obtain ⟨d6, h⟩ := ag h
 obtain ⟨d7, h⟩ := ag h
 exact ⟨qr d1, seq_eq d2, of_decide_eq_true d3, d4, d5, d6, zK d7, h⟩
theorem mW {it : Expr} {env : PySem.Env} {z : Value} (h : qo it = true) : foldedSetIterable it env z = pure z := by
 cases it <;> first | rfl | exact absurd h Bool.false_ne_true
mutual
noncomputable def aI (tb : Tb) (names : bA) (sl : List Str) : E → Expr → Bool
 | .var i => fun x => bK x fun x => Nat.blt i sl.length && (seq x (sl.getD i Str.empty) && (isVar (lk names x) && bw x))
 | .ae i => fun x => ct x fun c => cInt c i
 | .aA s => fun x => ct x fun c => cStr c s
 | .aZ b => fun x => ct x fun c => cBool c b
 | .bO => fun x => ct x fun c => decide (c.ctorIdx = 0)
 | .glob g => fun x => bK x fun x => Nat.blt g tb.gn.length && (seq x (tb.gn.getD g Str.empty) && (mM (lk names x) && bw x))
 | .bin op a b => fun x => jE x fun l op' r => decide (op = op') && (aI tb names sl a l && aI tb names sl b r)
 | .neg a => fun x => eM x fun u l => decide (u = .USub) && aI tb names sl a l
 | .inv a => fun x => eM x fun u l => decide (u = .Invert) && aI tb names sl a l
 | .not a => fun x => eM x fun u l => decide (u = .Not) && aI tb names sl a l
 | .and_ es => fun x => iB x fun u vs => decide (u = .And) && bV tb names sl es vs
 | .or_ es => fun x => iB x fun u vs => decide (u = .Or) && bV tb names sl es vs
 | .cmp op a b => fun x => gz x fun l os rs => mR os fun op' => mR rs fun r => decide (op = op') && (!behindInMarks op' r && (aI tb names sl a l && aI tb names sl b r))
 | .gf op op1 a b c => fun x => gz x fun l os rs => zH os fun op' BJ => zH rs fun m r =>
  decide (op = op') && (decide (op1 = BJ) && (!behindInMarks BJ r && (aI tb names sl a l && (aI tb names sl b m && aI tb names sl c r))))
 | .du t a b => fun x => mN x fun t' a' b' => aI tb names sl t t' && (aI tb names sl a a' && aI tb names sl b b')
 | .call f args => fun x => fL x fun g es kw _ => bK g fun x =>
  kw.isEmpty && (Nat.blt f tb.fn.length && (!seq (tb.fn.getD f Str.empty) Str.empty && (seq x (tb.fn.getD f Str.empty) && (mM (lk names x) && (bw x && bV tb names sl args es)))))
 | .blt f args => fun x => fL x fun g es kw _ => bK g fun x => kw.isEmpty && (Nat.blt f 5 && (seq x (gh f) && (mM (lk names x) && (bw x && bV tb names sl args es))))
 | .meth m o args => fun x => fL x fun g es kw pos => bJ g fun oe name apos =>
  kw.isEmpty && (Nat.blt m 5 && (seq name (pi m) && ((apos.endLine == pos.line) && (Nat.blt es.length 20 && (iC oe && (aI tb names sl o oe && bV tb names sl args es))))))
 | .gU f o args => fun x => fL x fun g es kw pos => bJ g fun oe name apos =>
  kw.isEmpty && (Nat.blt f tb.mn.length && (seq name (tb.mn.getD f Str.empty) && ((apos.endLine == pos.line) && (Nat.blt es.length 20 && (iC oe && (aI tb names sl o oe && bV tb names sl args es))))))
 | .attr o a => fun x => bJ x fun oe name _ => seq name (attrName a) && (iC oe && aI tb names sl o oe)
 | .idx o i => fun x => cy x fun oe ie => mV ie && (aI tb names sl o oe && aI tb names sl i ie)
 | .slice o lo hi => fun x => cy x fun oe ie => mQ ie fun l h q => lJ 23 oe && (q.isNone && (aI tb names sl o oe && (xp (aI tb names sl lo) (tr lo) l && xp (aI tb names sl hi) (tr hi) h)))
 | .list es => fun x => qm x fun vs => bV tb names sl es vs
 | .tup es => fun x => jF x fun vs => bV tb names sl es vs
 | .comp i elt iter cond => fun x => g7 x fun e gs scope => mR gs fun g => bK g.target fun y => decide (g.is_async = 0) && (xq names sl i y scope g.iter && (aI tb names sl iter g.iter && (aI tb scope.names sl elt e && tq (aI tb scope.names sl cond) (qp cond) g.ifs)))
noncomputable def bV (tb : Tb) (names : bA) (sl : List Str) : Es → List Expr → Bool
 | .nil => fun x => x.isEmpty
 | .cons e r => fun x => match x with
  | x :: xs => aI tb names sl e x && bV tb names sl r xs
  | [] => false
end
@[elab_as_elim] theorem uL {tb names sl i elt iter cond x} {P : Expr → Prop} (e : aI tb names sl (.comp i elt iter cond) x = true)
  (g : ∀ e y px it ifs scope pos, xr names sl i y scope it → aI tb names sl iter it = true → aI tb scope.names sl elt e = true → tq (aI tb scope.names sl cond) (qp cond) ifs = true → P (.ListComp e [⟨.Name y px, it, ifs, 0⟩] scope pos)) : P x := by
 refine oP e fun el gs scope pos h => ?_
 refine eh h fun ge h => ?_
 obtain ⟨gt, it, ifs, ga⟩ := ge
 replace h : bK gt _ = true := h
 refine bo h fun y px h => ?_
 obtain ⟨d0, h⟩ := ag h
 obtain ⟨d1, h⟩ := ag h
 obtain ⟨d2, h⟩ := ag h
 obtain ⟨d3, d4⟩ := ag h
 have e0 : ga = 0 := of_decide_eq_true d0
 rw [e0]
 exact g el y px it ifs scope pos (xt d1) d2 d3 d4
noncomputable def iD (a b : Option NameKind) : Prop :=
 match a with
 | some .local => b = some .local
 | some .cell => b = some .cell
 | some .free => b = some .cell ∨ b = some .free
 | some .globalImplicit => b = some .globalImplicit
 | _ => True
structure Loc (names : bA) (sl : List Str) (ρ : ap) (env : PySem.Env) (H : Hp) (s : Shared) : Prop where
 kind : env.scope.kind = .function
 glob : env.globals = mainGlobals
 bi : env.builtins = builtinsNs
 dw : ∀ x, iD (lk names x) (env.kindOf x)
 ns : ∃ m, s.heap.Ns env.locals m ∧ ∀ i v, i < sl.length → ρ i = some v → env.kindOf (sl.getD i Str.empty) = some .local → ∃ x, m (sl.getD i Str.empty) = some x ∧ aN v x
 cells : ∀ i v, i < sl.length → ρ i = some v → (env.kindOf (sl.getD i Str.empty) = some .cell ∨ env.kindOf (sl.getD i Str.empty) = some .free) →
  ∃ c x, env.cells.lookup (sl.getD i Str.empty) = some c ∧ s.heap.IsCell c (some x) ∧ aN v x
 off : ¬ jx H env.locals
 jG : ∀ x c, env.cells.lookup x = some c → ¬ jx H c
 live : ∀ x c, env.cells.lookup x = some c → ∃ v, s.heap.IsCell c v
 cl : ∀ x, (env.kindOf x = some .cell ∨ env.kindOf x = some .free) → ∃ c, env.cells.lookup x = some c
 rJ : ∀ i, i < sl.length → seq (sl.getD i Str.empty) dot0 = false
 inj : ∀ i j, i < sl.length → j < sl.length → sl.getD i Str.empty = sl.getD j Str.empty → i = j
theorem IsCell.at' {h h' : Heap} {c : Nat} {v : Option Value} (x : h.IsCell c v) (e : ∀ o, h.get? c = some o → h'.get? c = some o) : h'.IsCell c v :=
 let ⟨o, a, b⟩ := x; ⟨o, e o a, b⟩
theorem Loc.step {names sl ρ env H s H' s'} (L : Loc names sl ρ env H s) (x : Step aL H s H' s') : Loc names sl ρ env H' s' := by
 obtain ⟨m, hm, hv⟩ := L.ns
 have hL : ∃ o, s.heap.get? env.locals = some o := by obtain ⟨o, _, _, h, _⟩ := hm; exact ⟨o, h⟩
 have hC : ∀ x c, env.cells.lookup x = some c → ∃ o, s.heap.get? c = some o := fun x c e => by
  obtain ⟨v, o, h, _⟩ := L.live x c e; exact ⟨o, h⟩
 have kc : ∀ x c, env.cells.lookup x = some c → ∀ o, s.heap.get? c = some o → s'.heap.get? c = some o := fun y c e o h => x.same c o h (L.jG y c e) id
 refine ⟨L.kind, L.glob, L.bi, L.dw, ⟨m, hm.at' fun o e => x.same _ o e L.off id, hv⟩, fun i v hi e k => ?_, fun q => ?_, fun y c e q => ?_, fun y c e => ?_, L.cl, L.rJ, L.inj⟩
 ·obtain ⟨c, z, h1, h2, h3⟩ := L.cells i v hi e k
  exact ⟨c, z, h1, IsCell.at' h2 (kc _ _ h1), h3⟩
 ·rcases x.more _ q with q | q
  ·exact L.off q
  ·obtain ⟨o, h⟩ := hL; rw [q] at h; cases h
 ·rcases x.more _ q with q | q
  ·exact L.jG y c e q
  ·obtain ⟨o, h⟩ := hC y c e; rw [q] at h; cases h
 ·obtain ⟨v, h⟩ := L.live y c e
  exact ⟨v, IsCell.at' h (kc _ _ e)⟩
theorem Loc.toks {names sl ρ env H s} (L : Loc names sl ρ env H s) (tk : Nat) : Loc names sl ρ env H { s with toks := tk } :=
 L.step (s' := { s with toks := tk }) (Step.grow (s' := { s with toks := tk }) fun _ _ e => e)
theorem pj : ∀ x : List Nat, rI x x = true
 | [] => rfl
 | a :: x => by simp [rI, pj x]
theorem gj (a : Str) : seq a a = true := pj _
theorem g8 {x : Str} (h : bw x = true) : (x == ("__debug__" : Str)) = false := by
 cases e : (x == ("__debug__" : Str)) with
 | false => rfl
 | true =>
  have : x = DU := eq_of_beq e
  subst this
  unfold bw at h
  rw [gj] at h
  cases h
theorem rK {x : Str} (h : bw x = true) : (x == ("__classdict__" : Str)) = false := by
 cases e : (x == ("__classdict__" : Str)) with
 | false => rfl
 | true =>
  have : x = cld := eq_of_beq e
  subst this
  unfold bw at h
  rw [gj, Bool.not_true, Bool.and_false] at h
  cases h
noncomputable abbrev mX := @dF Bool Bool (fun a b => a = b)
noncomputable def lW (prog : Program) (w : World) (base : Heap) (ac : OsState) (Sp : List V → Hp → (V → Hp → Prop) → Prop) (fv : Value) (k : Nat) : Prop :=
 ∀ (A : Around) (ws : List Value) (vs : List V) (H : Hp) (Q : V → Hp → Prop) (s : Shared) (E : Value → Shared → Prop), dv A k → Sp vs H Q → aF vs ws → Rep base ac H s →
  wpAny (model prog w) A (call fv ws) (Post base ac aL H s Q) E s
structure Wd (prog : Program) (w : World) (base : Heap) (ac : OsState) (K : Frag) (C : Cfg) (tb : Tb) (fv : Nat → Value) (k : Nat) : Prop where
 hK : K.In base
 hC : ∀ c a, C.eH c a = true → a < attrs.length ∧ attrOk K c (attrName a) = true
 hM : ∀ c f, C.vB c f = true → ∃ fa, fv f = .ref fa ∧ findIn K (.ref c) (tb.mn.getD f Str.empty) = some (some (.ref fa)) ∧ typeIn K (.ref fa) = some (.type "function") ∧
  plainGet K c (tb.mn.getD f Str.empty) = true ∧ keepIn K (.ref fa) = true ∧ (∀ a < attrs.length, (attrName a == tb.mn.getD f Str.empty) = false)
 zL : ∃ mg mb, base.Ns mainGlobals mg ∧ base.Ns builtinsNs mb ∧
  (∀ g, g < tb.gn.length → ∃ v, mg (tb.gn.getD g Str.empty) = some v ∧ aN (C.gv g) v) ∧
  (∀ f, f < tb.fn.length → tb.fn.getD f Str.empty ≠ Str.empty → mg (tb.fn.getD f Str.empty) = some (fv f) ∧ keepIn K (fv f) = true) ∧
  (∀ i, i < 5 → mg (gh i) = none ∧ mb (gh i) = some (jC i))
 xu : base.NoLimit
 call : ∀ f, lW prog w base ac (C.Sp f) (fv f) k
section
variable {prog : Program} {w : World} {A : Around} {Eh : Value → Shared → Prop} {base : Heap} {ac : OsState} {H H₁ : Hp} {s s₁ s₂ : Shared} {K : Frag} {C : Cfg} {tb : Tb} {fv : Nat → Value} {k : Nat}
 {names : bA} {sl : List Str} {ρ : ap} {env : PySem.Env}
theorem dF.trans {α β : Type} {Rel : α → β → Prop} {Q : α → Hp → Prop} {v : β} (x : Step aL H s H₁ s₁) (p : dF Rel base ac aL H₁ s₁ Q v s₂) : dF Rel base ac aL H s Q v s₂ :=
 let ⟨a, H', q, r, R', y⟩ := p; ⟨a, H', q, r, R', x.trans y⟩
end
section
variable (prog : Program) (w : World) (base : Heap) (ac : OsState) (C : Cfg) (tb : Tb) (k : Nat)
noncomputable def PE (e : E) : Prop := ∀ (names : bA) (sl : List Str) (x : Expr) (A : Around) (ρ : ap) (env : PySem.Env) (H : Hp) (s : Shared) (Q : V → Hp → Prop) (Eh : Value → Shared → Prop),
 aI tb names sl e x = true → dv A k → Rep base ac H s → Loc names sl ρ env H s → ay C e ρ H Q → wpAny (model prog w) A (eval x env) (Post base ac aL H s Q) Eh s
noncomputable def PT (e : E) : Prop := ∀ (names : bA) (sl : List Str) (x : Expr) (A : Around) (ρ : ap) (env : PySem.Env) (H : Hp) (s : Shared) (Q : Bool → Hp → Prop) (Eh : Value → Shared → Prop),
 aI tb names sl e x = true → dv A k → Rep base ac H s → Loc names sl ρ env H s → ce C e ρ H Q → wpAny (model prog w) A (isTrue x env (eval x env)) (mX base ac aL H s Q) Eh s
noncomputable def mY (es : Es) : Prop := ∀ (names : bA) (sl : List Str) (xs : List Expr) (pos : Pos) (A : Around) (ρ : ap) (env : PySem.Env) (H : Hp) (s : Shared) (Q : List V → Hp → Prop) (Eh : Value → Shared → Prop),
 bV tb names sl es xs = true → dv A k → Rep base ac H s → Loc names sl ρ env H s → cN C es ρ H Q → wpAny (model prog w) A (spliced (backTo pos (starEach xs env))) (dF aF base ac aL H s Q) Eh s
noncomputable def rL (es : Es) : Prop := ∀ (names : bA) (sl : List Str) (xs : List Expr) (pos : Pos) (A : Around) (ρ : ap) (env : PySem.Env) (H : Hp) (s : Shared) (Q : V → Hp → Prop) (Eh : Value → Shared → Prop),
 bV tb names sl es xs = true → dv A k → Rep base ac H s → Loc names sl ρ env H s → tf C es ρ H Q → wpAny (model prog w) A (boolOp pos .And (evalEach xs env)) (Post base ac aL H s Q) Eh s
noncomputable def xv (es : Es) : Prop := ∀ (names : bA) (sl : List Str) (xs : List Expr) (pos : Pos) (A : Around) (ρ : ap) (env : PySem.Env) (H : Hp) (s : Shared) (Q : V → Hp → Prop) (Eh : Value → Shared → Prop),
 bV tb names sl es xs = true → dv A k → Rep base ac H s → Loc names sl ρ env H s → xf C es ρ H Q → wpAny (model prog w) A (boolOp pos .Or (evalEach xs env)) (Post base ac aL H s Q) Eh s
noncomputable def mZ (es : Es) : Prop := ∀ (names : bA) (sl : List Str) (xs : List Expr) (A : Around) (ρ : ap) (env : PySem.Env) (H : Hp) (s : Shared) (Q : Bool → Hp → Prop) (Eh : Value → Shared → Prop),
 bV tb names sl es xs = true → dv A k → Rep base ac H s → Loc names sl ρ env H s → dO C es ρ H Q → wpAny (model prog w) A (allTrue .And xs env) (mX base ac aL H s Q) Eh s
noncomputable def rM (es : Es) : Prop := ∀ (names : bA) (sl : List Str) (xs : List Expr) (A : Around) (ρ : ap) (env : PySem.Env) (H : Hp) (s : Shared) (Q : Bool → Hp → Prop) (Eh : Value → Shared → Prop),
 bV tb names sl es xs = true → dv A k → Rep base ac H s → Loc names sl ρ env H s → tg C es ρ H Q → wpAny (model prog w) A (allTrue .Or xs env) (mX base ac aL H s Q) Eh s
end
theorem tu {tb names sl} (e : E) (a : Expr) (p : Pos) : aI tb names sl e (.Starred a p) = false := by
 cases e <;> rfl
theorem eP {tb names sl} {e : E} {x : Expr} {xs : List Expr} {env : PySem.Env} (h : aI tb names sl e x = true) : starEach (x :: xs) env = (false, eval x env) :: starEach xs env := by
 cases x <;> first | rfl | (rw [tu] at h; cases h)
theorem dI {tb names sl} {env : PySem.Env} {pos : Pos} : ∀ {es : Es} {xs : List Expr}, bV tb names sl es xs = true → (backTo pos (starEach xs env)).any (·.1) = false
 | .nil, [], _ => rfl
 | .nil, _ :: _, h => by cases h
 | .cons e r, [], h => by cases h
 | .cons e r, x :: xs, h => by
  simp only [bV, Bool.and_eq_true] at h
  rw [eP h.1]
  have := dI (env := env) (pos := pos) h.2
  simp only [backTo, List.map_cons, List.any_cons, Bool.false_or] at this ⊢
  exact this
section
variable {prog : Program} {w : World} {A : Around} {Eh : Value → Shared → Prop} {base : Heap} {ac : OsState} {H H₁ : Hp} {s s₁ s₂ : Shared} {K : Frag} {C : Cfg} {tb : Tb} {fv : Nat → Value} {k : Nat}
 {names : bA} {sl : List Str} {ρ : ap} {env : PySem.Env}
theorem dv.zero (h : dv A k) : dv A 0 := ⟨h.hh, by have := h.dp; (exact Nat.le_of_add_right_le this), by have := h.un; (exact Nat.le_of_add_right_le this)⟩
theorem k8 {x : Str} {i : Nat} {v : V} {Q : V → Hp → Prop} (hi : i < sl.length) (hx : x = sl.getD i Str.empty) (hv : isVar (lk names x) = true) (hd : bw x = true)
  (R : Rep base ac H s) (L : Loc names sl ρ env H s) (e : ρ i = some v) (q : Q v H) : wpAny (model prog w) A (loadName env x) (Post base ac aL H s Q) Eh s := by
 have kd := L.dw x
 have fin : ∀ c z, env.cells.lookup x = some c → s.heap.IsCell c (some z) → aN v z → (env.kindOf x = some .cell ∨ env.kindOf x = some .free) → wpAny (model prog w) A (loadName env x) (Post base ac aL H s Q) Eh s := by
  intro c z h1 h2 h3 h4
  rcases h4 with h4 | h4
  ·exact wpAny_loadName_cell L.kind h4 h1 h2 (aC R q h3)
  ·exact wpAny_loadName_free L.kind h4 h1 h2 (aC R q h3) (rK hd)
 have pn : (env.kindOf x = some .cell ∨ env.kindOf x = some .free) → wpAny (model prog w) A (loadName env x) (Post base ac aL H s Q) Eh s := by
  intro h
  obtain ⟨c, z, h1, h2, h3⟩ := L.cells i v hi e (hx ▸ h)
  exact fin c z (hx ▸ h1) h2 h3 h
 cases hk : lk names x with
 | none => rw [hk] at hv; cases hv
 | some kk =>
  rw [hk] at hv kd
  cases kk <;> first | cases hv | skip
  case some.local.refl =>
   obtain ⟨m, hm, hl⟩ := L.ns
   obtain ⟨z, h1, h2⟩ := hl i v hi e (hx ▸ kd)
   exact wpAny_loadName_local L.kind kd hm (hx ▸ h1) (aC R q h2)
  case some.cell.refl => exact pn (.inl kd)
  case some.free.refl => exact pn kd
theorem fN {x : Str} {p : Pos} {i : Nat} {v : V} {Q : V → Hp → Prop} (hi : i < sl.length) (hx : x = sl.getD i Str.empty) (hv : isVar (lk names x) = true) (hd : bw x = true)
  (R : Rep base ac H s) (L : Loc names sl ρ env H s) (e : ρ i = some v) (q : Q v H) : wpAny (model prog w) A (eval (.Name x p) env) (Post base ac aL H s Q) Eh s :=
 wpAny_Name (k8 hi hx hv hd R L e q) (g8 hd)
theorem k9 {x : Str} {p : Pos} {mg : Str → Option Value} {z : Value} {Q : Value → Shared → Prop} (hm : base.Ns mainGlobals mg) (e : mg x = some z) (hg : mM (lk names x) = true) (hd : bw x = true)
  (R : Rep base ac H s) (L : Loc names sl ρ env H s) (q : Q z s) : wpAny (model prog w) A (eval (.Name x p) env) Q Eh s := by
 refine wpAny_Name ?_ (g8 hd)
 have kd := L.dw x
 cases hk : lk names x with
 | none => rw [hk] at hg; cases hg
 | some kk =>
  rw [hk] at hg kd
  cases kk <;> first | cases hg | skip
  rw [loadName_read L.kind kd]
  exact Calls.loadGlobal_global (by rw [L.glob]; exact hm.keeps R.keep) e q
theorem ld {x : Str} {p : Pos} {mg mb : Str → Option Value} {z : Value} {Q : Value → Shared → Prop} (hm : base.Ns mainGlobals mg) (hb : base.Ns builtinsNs mb) (e : mg x = none) (e' : mb x = some z) (hg : mM (lk names x) = true) (hd : bw x = true)
  (R : Rep base ac H s) (L : Loc names sl ρ env H s) (q : Q z s) : wpAny (model prog w) A (eval (.Name x p) env) Q Eh s := by
 refine wpAny_Name ?_ (g8 hd)
 have kd := L.dw x
 cases hk : lk names x with
 | none => rw [hk] at hg; cases hg
 | some kk =>
  rw [hk] at hg kd
  cases kk <;> first | cases hg | skip
  rw [loadName_read L.kind kd]
  exact Calls.loadGlobal_builtin (by rw [L.glob]; exact hm.keeps R.keep) e (by rw [L.bi]; exact hb.keeps R.keep) e' q
end
section
variable {prog : Program} {w : World} {base : Heap} {ac : OsState} {K : Frag} {C : Cfg} {tb : Tb} {fv : Nat → Value} {k : Nat}
theorem aG {α β : Type} {A : Around} {Eh : Value → Shared → Prop} {H : Hp} {s : Shared} {Rel : α → β → Prop} {M : Model} {t : Sem β} {P : β → Shared → Prop} {Q₁ : α → Hp → Prop}
  (h : wpAny M A t (dF Rel base ac aL H s Q₁) Eh s)
  (g : ∀ a b H₁ s₁, Q₁ a H₁ → Rel a b → Rep base ac H₁ s₁ → Step aL H s H₁ s₁ → P b s₁) : wpAny M A t P Eh s :=
 wpAny_mono h (fun b s₁ ⟨a, H₁, q, r, R, x⟩ => g a b H₁ s₁ q r R x) fun _ _ e => e
theorem lift {α β : Type} {A : Around} {Eh : Value → Shared → Prop} {H H₁ : Hp} {s s₁ : Shared} {Rel : α → β → Prop} {M : Model} {t : Sem β} {Q : α → Hp → Prop}
  (x : Step aL H s H₁ s₁) (h : wpAny M A t (dF Rel base ac aL H₁ s₁ Q) Eh s₁) : wpAny M A t (dF Rel base ac aL H s Q) Eh s₁ :=
 wpAny_mono h (fun _ _ p => p.trans x) fun _ _ e => e
theorem cv {α β : Type} {H H₂ : Hp} {s s₂ : Shared} {Rel : α → β → Prop} {Q : α → Hp → Prop} {a : α} {b : β} (x : Step aL H s H₂ s₂) (R : Rep base ac H₂ s₂) (r : Rel a b) (q : Q a H₂) : dF Rel base ac aL H s Q b s₂ :=
 ⟨a, H₂, q, r, R, x⟩
theorem stepT {H : Hp} {s : Shared} {tk : Nat} : Step aL H s H { s with toks := tk } := Step.grow (s' := { s with toks := tk }) fun _ _ e => e
theorem eQ {H : Hp} {s : Shared} {tk : Nat} (R : Rep base ac H s) : Rep base ac H { s with toks := tk } := R.grow (s' := { s with toks := tk }) (fun _ _ e => e) rfl rfl
theorem uM (i : Nat) : PE prog w base ac C tb k (.var i) := by
 intro names sl x A ρ env H s Q Eh hc hA R L h
 refine bo hc fun y p hc => ?_
 obtain ⟨h1, hc⟩ := ag hc
 obtain ⟨h2, hc⟩ := ag hc
 obtain ⟨h3, h4⟩ := ag hc
 obtain ⟨v, e, q⟩ := h
 exact fN (by simpa [Nat.blt_eq] using h1) (seq_eq h2) h3 h4 R L e q
theorem xw (i : Int) : PE prog w base ac C tb k (.ae i) := by
 intro names sl x A ρ env H s Q Eh hc hA R L h
 refine cb hc fun v kk p hc => ?_
 obtain rfl := zI hc
 exact wpAny_Constant_int (aw R h ⟨_, rfl⟩)
theorem xy (i : List Nat) : PE prog w base ac C tb k (.aA i) := by
 intro names sl x A ρ env H s Q Eh hc hA R L h
 refine cb hc fun v kk p hc => ?_
 obtain ⟨y, rfl, rfl⟩ := zJ hc
 exact wpAny_Constant_str (aw R h (by show ∃ t, _ = _; exact ⟨s.toks, by rw [st]⟩))
theorem pq (b : Bool) : PE prog w base ac C tb k (.aZ b) := by
 intro names sl x A ρ env H s Q Eh hc hA R L h
 refine cb hc fun v kk p hc => ?_
 obtain rfl := xn hc
 exact wpAny_Constant_bool (aC R h rfl)
theorem vF : PE prog w base ac C tb k .bO := by
 intro names sl x A ρ env H s Q Eh hc hA R L h
 refine cb hc fun v kk p hc => ?_
 obtain rfl := xo hc
 exact wpAny_Constant_none (aC R h rfl)
theorem xz (W : Wd prog w base ac K C tb fv k) (g : Nat) : PE prog w base ac C tb k (.glob g) := by
 intro names sl x A ρ env H s Q Eh hc hA R L h
 refine bo hc fun y p hc => ?_
 obtain ⟨h1, hc⟩ := ag hc
 obtain ⟨h2, hc⟩ := ag hc
 obtain ⟨h3, h4⟩ := ag hc
 obtain ⟨mg, mb, m1, m2, hg, _, _⟩ := W.zL
 obtain ⟨v, e, r⟩ := hg g (by simpa [Nat.blt_eq] using h1)
 exact k9 m1 ((seq_eq h2) ▸ e) h3 h4 R L (aC R h r)
theorem uN {op : Operator} {a b : E} (ha : PE prog w base ac C tb k a) (hb : PE prog w base ac C tb k b) : PE prog w base ac C tb k (.bin op a b) := by
 intro names sl x A ρ env H s Q Eh hc hA R L h
 refine jh hc fun l o r p hc => ?_
 obtain ⟨h1, hc⟩ := ag hc
 obtain ⟨h2, h3⟩ := ag hc
 obtain rfl := of_decide_eq_true h1
 exact wpAny_BinOp (aG (ha _ _ _ _ _ _ _ _ _ _ h2 hA R L h) fun V1 v1 H1 s1 q1 r1 R1 x1 => aG (hb _ _ _ _ _ _ _ _ _ _ h3 hA R1 (L.step x1) q1) fun V2 v2 H2 s2 q2 r2 R2 x2 =>
  lift (x1.trans x2) (ti R2 r1 r2 q2))
theorem zM {a : E} (ha : PE prog w base ac C tb k a) : PE prog w base ac C tb k (.neg a) := by
 intro names sl x A ρ env H s Q Eh hc hA R L h
 refine eC hc fun u l p hc => ?_
 obtain ⟨h1, hc⟩ := ag hc
 obtain rfl := of_decide_eq_true h1
 refine wpAny_UnaryOp (aG (ha _ _ _ _ _ _ _ _ _ _ hc hA R L h) fun V1 v1 H1 s1 q1 r1 R1 x1 => ?_)
 obtain ⟨i, rfl, q⟩ := q1
 obtain ⟨t, rfl⟩ := r1
 exact lift x1 (PyProof.Rows.neg_int (aw R1 q ⟨_, rfl⟩))
theorem zN {a : E} (ha : PE prog w base ac C tb k a) : PE prog w base ac C tb k (.inv a) := by
 intro names sl x A ρ env H s Q Eh hc hA R L h
 refine eC hc fun u l p hc => ?_
 obtain ⟨h1, hc⟩ := ag hc
 obtain rfl := of_decide_eq_true h1
 refine wpAny_UnaryOp (aG (ha _ _ _ _ _ _ _ _ _ _ hc hA R L h) fun V1 v1 H1 s1 q1 r1 R1 x1 => ?_)
 obtain ⟨i, rfl, q⟩ := q1
 obtain ⟨t, rfl⟩ := r1
 exact lift x1 (PyProof.Rows.invert_int (aw R1 q ⟨_, rfl⟩))
theorem fO {A : Around} {Eh : Value → Shared → Prop} {H : Hp} {s : Shared} {a : V} {x : Value} {Qb : Bool → Prop} {P : Bool → Shared → Prop} (R : Rep base ac H s) (hx : aN a x) (h : truth a H Qb)
  (g : ∀ b tk, Qb b → P b { s with toks := tk }) : wpAny (model prog w) A (truthy x) P Eh s :=
 wpAny_mono (qf R hx h) (fun b s' ⟨q, tk, e⟩ => e ▸ g b tk q) fun _ _ e => e
theorem zO {a : E} (ha : PE prog w base ac C tb k a) : PE prog w base ac C tb k (.not a) := by
 intro names sl x A ρ env H s Q Eh hc hA R L h
 refine eC hc fun u l p hc => ?_
 obtain ⟨h1, hc⟩ := ag hc
 obtain rfl := of_decide_eq_true h1
 exact wpAny_UnaryOp (aG (ha _ _ _ _ _ _ _ _ _ _ hc hA R L h) fun V1 v1 H1 s1 q1 r1 R1 x1 =>
  not_of (fO R1 r1 q1 fun b tk q => cv (Rel := aN) (a := .bool (!b)) (b := .bool (!b)) (x1.trans stepT) (eQ R1) rfl q))
theorem zP {es : Es} (he : rL prog w base ac C tb k es) : PE prog w base ac C tb k (.and_ es) := by
 intro names sl x A ρ env H s Q Eh hc hA R L h
 refine fK hc fun u l p hc => ?_
 obtain ⟨h1, hc⟩ := ag hc
 obtain rfl := of_decide_eq_true h1
 exact he _ _ _ _ _ _ _ _ _ _ _ hc hA R L h
theorem Co {es : Es} (he : xv prog w base ac C tb k es) : PE prog w base ac C tb k (.or_ es) := by
 intro names sl x A ρ env H s Q Eh hc hA R L h
 refine fK hc fun u l p hc => ?_
 obtain ⟨h1, hc⟩ := ag hc
 obtain rfl := of_decide_eq_true h1
 exact he _ _ _ _ _ _ _ _ _ _ _ hc hA R L h
theorem zQ {op : CmpOp} {a b : E} (ha : PE prog w base ac C tb k a) (hb : PE prog w base ac C tb k b) : PE prog w base ac C tb k (.cmp op a b) := by
 intro names sl x A ρ env H s Q Eh hc hA R L h
 refine eD hc fun l os rs p hc => ?_
 refine eh hc fun o hc => ?_
 refine eh hc fun r hc => ?_
 obtain ⟨h1, hc⟩ := ag hc
 obtain ⟨h0, hc⟩ := mT hc
 obtain ⟨h2, h3⟩ := ag hc
 obtain rfl := of_decide_eq_true h1
 exact wpAny_Compare1 (aG (ha _ _ _ _ _ _ _ _ _ _ h2 hA R L h) fun V1 v1 H1 s1 q1 r1 R1 x1 => aG (hb _ _ _ _ _ _ _ _ _ _ h3 hA R1 (L.step x1) q1) fun V2 v2 H2 s2 q2 r2 R2 x2 =>
  lift (x1.trans x2) (dG hA.zero R2 r1 r2 q2)) h0
theorem xA {op op1 : CmpOp} {a b c : E} (ha : PE prog w base ac C tb k a) (hb : PE prog w base ac C tb k b) (hcc : PE prog w base ac C tb k c) : PE prog w base ac C tb k (.gf op op1 a b c) := by
 intro names sl x A ρ env H s Q Eh hc hA R L h
 refine eD hc fun l os rs p hc => ?_
 refine mS hc fun o o' hc => ?_
 refine mS hc fun mm r hc => ?_
 obtain ⟨h1, hc⟩ := ag hc
 obtain ⟨h1', hc⟩ := ag hc
 obtain ⟨h0, hc⟩ := mT hc
 obtain ⟨h2, hc⟩ := ag hc
 obtain ⟨h3, h4⟩ := ag hc
 obtain rfl := of_decide_eq_true h1
 obtain rfl := of_decide_eq_true h1'
 refine Compare_chain (aG (ha _ _ _ _ _ _ _ _ _ _ h2 hA R L h) fun V1 v1 H1 s1 q1 r1 R1 x1 => ?_) (by simp only [lastMarks]; exact h0)
 refine wpAny_bind (wpAny_holding (aG (hb _ _ _ _ _ _ _ _ _ _ h3 hA R1 (L.step x1) q1) fun V2 v2 H2 s2 q2 r2 R2 x2 => wpAny_bind (wpAny_standAt (wpAny_bind (wpAny_holding (aG (dG hA.zero R2 r1 r2 q2) fun V3 v3 H3 s3 q3 r3 R3 x3 => ?_))))))
 refine wpAny_bind (wpAny_release' (wpAny_bind (wpAny_holding (fO R3 r3 q3 fun t tk q => ?_))))
 have xx : Step aL H s H3 { s3 with toks := tk } := ((x1.trans x2).trans x3).trans stepT
 cases t with
 | false => exact wpAny_pure (cv xx (eQ R3) r3 q)
 | true =>
  have L3 := L.step xx
  refine wpAny_bind (wpAny_holding (aG (hcc _ _ _ _ _ _ _ _ _ _ h4 hA (eQ R3) L3 q) fun V4 v4 H4 s4 q4 r4 R4 x4 => wpAny_bind (wpAny_standAt (wpAny_operate' ?_))))
  exact lift (xx.trans x4) (dG hA.zero R4 r2 r4 q4)
theorem zR {t a b : E} (ht : PT prog w base ac C tb k t) (ha : PE prog w base ac C tb k a) (hb : PE prog w base ac C tb k b) : PE prog w base ac C tb k (.du t a b) := by
 intro names sl x A ρ env H s Q Eh hc hA R L h
 refine mO hc fun t' a' b' p hc => ?_
 obtain ⟨h1, hc⟩ := ag hc
 obtain ⟨h2, h3⟩ := ag hc
 refine wpAny_IfExp (aG (ht _ _ _ _ _ _ _ _ _ _ h1 hA R L h) fun b1 b2 H1 s1 q1 r1 R1 x1 => ?_)
 subst r1
 cases b1 with
 | true => exact lift x1 (ha _ _ _ _ _ _ _ _ _ _ h2 hA R1 (L.step x1) q1)
 | false => exact lift x1 (hb _ _ _ _ _ _ _ _ _ _ h3 hA R1 (L.step x1) q1)
end
section
variable {prog : Program} {w : World} {base : Heap} {ac : OsState} {K : Frag} {C : Cfg} {tb : Tb} {fv : Nat → Value} {k : Nat}
theorem fP {names : bA} {sl : List Str} {xs : List Expr} {pos : Pos} {A : Around} {ρ : ap} {env : PySem.Env} {H : Hp} {s : Shared} {Q : List V → Hp → Prop} {Eh : Value → Shared → Prop} {f : Value} {es : Es}
  (he : mY prog w base ac C tb k es) (hc : bV tb names sl es xs = true) (hA : dv A k) (R : Rep base ac H s) (L : Loc names sl ρ env H s) (h : cN C es ρ H Q) {P : Args → Shared → Prop}
  (g : ∀ vs ws H₁ s₁, Q vs H₁ → aF vs ws → Rep base ac H₁ s₁ → Step aL H s H₁ s₁ → P ⟨ws, []⟩ s₁) :
  wpAny (model prog w) A (evalArgs f true (backTo pos (starEach xs env)) []) P Eh s := by
 have h1 := he names sl xs pos A ρ env H s Q Eh hc hA R L h
 cases es with
 | nil =>
  cases xs with
  | nil =>
   refine evalArgs_nil3 ?_
   exact g [] [] H s h .nil R Step.refl
  | cons _ _ => cases hc
 | cons e r =>
  cases xs with
  | nil => cases hc
  | cons x xs =>
   have hc1 : aI tb names sl e x = true := by
    simp only [bV, Bool.and_eq_true] at hc; exact hc.1
   rw [eP hc1] at h1 ⊢
   exact Calls.evalArgs_plain (aG h1 fun vs ws H1 s1 q r R1 x1 => g vs ws H1 s1 q r R1 x1)
theorem rN (W : Wd prog w base ac K C tb fv k) {f : Nat} {es : Es} (he : mY prog w base ac C tb k es) : PE prog w base ac C tb k (.call f es) := by
 intro names sl x A ρ env H s Q Eh hc hA R L h
 refine dH hc fun g es' kw p hc => ?_
 refine bo hc fun y q hc => ?_
 obtain ⟨hkw, hc⟩ := ag hc
 refine eO hkw ?_
 obtain ⟨h1, hc⟩ := ag hc
 obtain ⟨h1', hc⟩ := mT hc
 obtain ⟨h2, hc⟩ := ag hc
 obtain ⟨h3, hc⟩ := ag hc
 obtain ⟨h4, h5⟩ := ag hc
 obtain ⟨mg, mb, m1, m2, _, hf, _⟩ := W.zL
 have hx := seq_eq h2
 subst hx
 obtain ⟨e, hk⟩ := hf f (by simpa [Nat.blt_eq] using h1) (fun q => by rw [q, gj] at h1'; cases h1')
 refine wpAny_Call_NameR (k9 m1 e h3 h4 R L ?_)
 refine callWith_of (P := K.In) (by simp [dI h5]) (keeps_K hk) (fP he h5 hA R L h fun vs ws H1 s1 q r R1 x1 => ?_)
 exact ⟨W.hK.keeps R1.keep, lift x1 (W.call f A ws vs H1 Q s1 Eh hA q r R1)⟩
theorem g9 {f : Nat} {M : Model} {h : Heap} : ∃ kk, (kk = Keeper.frame ∨ kk = Keeper.machine ∨ kk = Keeper.boundFrame) ∧ Looks M h (keeperOf (jC f)) kk := by
 refine ⟨.machine, .inr (.inl rfl), Looks.of_pure ?_⟩
 unfold jC
 split <;> rfl
theorem pt {i : String} {M : Model} {h : Heap} : ∃ kk, (kk = Keeper.frame ∨ kk = Keeper.machine ∨ kk = Keeper.boundFrame) ∧ Looks M h (keeperOf (.builtin i)) kk :=
 ⟨.machine, .inr (.inl rfl), Looks.of_pure rfl⟩
theorem zS (W : Wd prog w base ac K C tb fv k) {f : Nat} {es : Es} (he : mY prog w base ac C tb k es) : PE prog w base ac C tb k (.blt f es) := by
 intro names sl x A ρ env H s Q Eh hc hA R L h
 refine dH hc fun g es' kw p hc => ?_
 refine bo hc fun y q hc => ?_
 obtain ⟨hkw, hc⟩ := ag hc
 refine eO hkw ?_
 obtain ⟨h1, hc⟩ := ag hc
 obtain ⟨h2, hc⟩ := ag hc
 obtain ⟨h3, hc⟩ := ag hc
 obtain ⟨h4, h5⟩ := ag hc
 obtain ⟨mg, mb, m1, m2, _, _, hb⟩ := W.zL
 have hx := seq_eq h2
 subst hx
 obtain ⟨e, e'⟩ := hb f (by simpa [Nat.blt_eq] using h1)
 refine wpAny_Call_NameR (ld m1 m2 e e' h3 h4 R L ?_)
 refine callWith_of (P := fun _ => True) (by simp [dI h5]) (fun _ _ => g9) (fP he h5 hA R L h fun vs ws H1 s1 q r R1 x1 => ?_)
 exact ⟨trivial, lift x1 (tm hA.zero R1 r q)⟩
theorem ci {o : Expr} {attr : Str} {env : PySem.Env} {whole : Sem Value} (h : iC o = true) : attributeBase o attr env whole = whole := by
 rcases mU h with h | h
 ·exact qn (P := fun o => attributeBase o attr env whole = whole) h fun _ _ => rfl
 rcases mU h with h | h
 ·exact Expr.Attribute.elim (motive_1 := fun o => attributeBase o attr env whole = whole) o (of_decide_eq_true h) fun _ _ _ => rfl
 rcases mU h with h | h
 ·exact Expr.Subscript.elim (motive_1 := fun o => attributeBase o attr env whole = whole) o (of_decide_eq_true h) fun _ _ _ => rfl
 ·exact Expr.Constant.elim (motive_1 := fun o => attributeBase o attr env whole = whole) o (of_decide_eq_true h) fun _ _ _ => rfl
theorem uO {tb names sl} {env : PySem.Env} {pos : Pos} {es : Es} {xs : List Expr} (h : bV tb names sl es xs = true) (hl : Nat.blt xs.length 20 = true) :
  ((backTo pos (starEach xs env)).all (fun x => !x.1) && (backToKw pos (keywordEach [] env)).all (fun x => x.1.isSome) && decide (xs.length + ([] : List Keyword).length + (if ([] : List Keyword).isEmpty then 0 else 1) < 30)) = true := by
 have p := dI (env := env) (pos := pos) h
 have a : (backTo pos (starEach xs env)).all (fun x => !x.1) = true := by
  rw [List.all_eq_true]
  intro y hy
  rw [List.any_eq_false] at p
  simpa using p y hy
 have l : xs.length < 20 := by simpa [Nat.blt_eq] using hl
 rw [a]
 simp [backToKw, keywordEach]
 (exact ln [_] [.lt (.v 0) (.n 20)] (.lt (.v 0) (.n 30)) [1,1] rfl l)
theorem xB {A : Around} {Eh : Value → Shared → Prop} {H : Hp} {s : Shared} {m : Nat} {V : V} {v : Value} {pos : Pos} {trees : List (Bool × Sem Value)} {Q : Value → Shared → Prop} (R : Rep base ac H s) (r : aN V v) (pre : rC m V H)
  (fin : wpAny (model prog w) A (callWith pos (.builtin (jD m)) [v] trees []) Q Eh s) : MethodOn prog w A (pi m) pos v trees Q Eh s := by
 rcases m with _ | _ | _ | _ | _ | m
 ·skip
  obtain ⟨a0, rfl, vs, hm⟩ := iA pre
  obtain ⟨ws, n, ho, hr⟩ := R.cell hm
  obtain rfl := r
  exact ⟨"list", "list.append", F.plainAttrs_list, F.slot_list_append, F.type_list_append, ⟨_, ho, rfl⟩, fun a e => by cases e; exact ⟨_, ho, rfl⟩, fin⟩
 ·skip
  obtain ⟨a0, rfl, vs, hm⟩ := iA pre
  obtain ⟨ws, n, ho, hr⟩ := R.cell hm
  obtain rfl := r
  exact ⟨"list", "list.extend", F.plainAttrs_list, F.slot_list_extend, F.type_list_extend, ⟨_, ho, rfl⟩, fun a e => by cases e; exact ⟨_, ho, rfl⟩, fin⟩
 ·skip
  obtain ⟨a0, rfl, _⟩ := fJ pre
  obtain ⟨t, rfl⟩ := r
  exact ⟨"str", "str.find", F.plainAttrs_str, F.slot_str_find, F.type_str_find, typeIs_str _ _ _, (fun a e => by cases e), fin⟩
 ·skip
  obtain ⟨a0, rfl, _⟩ := fJ pre
  obtain ⟨t, rfl⟩ := r
  exact ⟨"str", "str.split", F.plainAttrs_str, F.slot_str_split, F.type_str_split, typeIs_str _ _ _, (fun a e => by cases e), fin⟩
 ·skip
  obtain ⟨a0, rfl, _⟩ := fJ pre
  obtain ⟨t, rfl⟩ := r
  exact ⟨"str", "str.join", F.plainAttrs_str, F.slot_str_join, F.type_str_join, typeIs_str _ _ _, (fun a e => by cases e), fin⟩
 ·exact False.elim pre
theorem xC {m : Nat} {o : E} {es : Es} (ho : PE prog w base ac C tb k o) (he : mY prog w base ac C tb k es) : PE prog w base ac C tb k (.meth m o es) := by
 intro names sl x A ρ env H s Q Eh hc hA R L h
 refine dH hc fun g xs kw pos hc => ?_
 refine bE hc fun oe nm apos hc => ?_
 obtain ⟨hkw, hc⟩ := ag hc
 refine eO hkw ?_
 obtain ⟨h1, hc⟩ := ag hc
 obtain ⟨h2, hc⟩ := ag hc
 obtain ⟨h3, hc⟩ := ag hc
 obtain ⟨h4, hc⟩ := ag hc
 obtain ⟨h5, hc⟩ := ag hc
 obtain ⟨h6, h7⟩ := ag hc
 obtain rfl := seq_eq h2
 refine wpAny_Call_method_late (ci h5) (uO h7 h4) h3 rfl (aG (ho _ _ _ _ _ _ _ _ _ _ h6 hA R L h) fun V1 v1 H1 s1 q1 r1 R1 x1 => ?_)
 obtain ⟨pre, q1⟩ := q1
 have tail : ∀ {pp : Pos} {as : List (Bool × Sem Value)}, as.any (·.1) = false → wpAny (model prog w) A (evalArgs (.builtin (jD m)) true as []) (fun a s₂ => ∃ vs H2, a.kw = [] ∧ gV m V1 vs H2 Q ∧ aF vs a.pos ∧ Rep base ac H2 s₂ ∧ Step aL H s H2 s₂) Eh s1 →
   wpAny (model prog w) A (callWith pp (.builtin (jD m)) [v1] as []) (Post base ac aL H s Q) Eh s1 := by
  intro pp as hp ha
  refine callWith_of (P := fun _ => True) (by simp [hp]) (fun _ _ => pt) (wpAny_mono ha (fun a s2 ⟨vs, H2, e, q, r, R2, x2⟩ => ⟨trivial, ?_⟩) fun _ _ e => e)
  rw [e]
  exact lift x2 (rH R2 r1 r q)
 have args : wpAny (model prog w) A (evalArgs (.builtin (jD m)) true (backTo pos (starEach xs env)) []) (fun a s₂ => ∃ vs H2, a.kw = [] ∧ gV m V1 vs H2 Q ∧ aF vs a.pos ∧ Rep base ac H2 s₂ ∧ Step aL H s H2 s₂) Eh s1 :=
  fP he h7 hA R1 (L.step x1) q1 fun vs ws H2 s2 q r R2 x2 => ⟨vs, H2, rfl, q, r, R2, x1.trans x2⟩
 have fin := tail (pp := pos) (dI h7) args
 exact xB R1 r1 pre fin
theorem vG (W : Wd prog w base ac K C tb fv k) {f : Nat} {o : E} {es : Es} (ho : PE prog w base ac C tb k o) (he : mY prog w base ac C tb k es) : PE prog w base ac C tb k (.gU f o es) := by
 intro names sl x A ρ env H s Q Eh hc hA R L h
 refine dH hc fun g xs kw pos hc => ?_
 refine bE hc fun oe nm apos hc => ?_
 obtain ⟨hkw, hc⟩ := ag hc
 refine eO hkw ?_
 obtain ⟨h1, hc⟩ := ag hc
 obtain ⟨h2, hc⟩ := ag hc
 obtain ⟨h3, hc⟩ := ag hc
 obtain ⟨h4, hc⟩ := ag hc
 obtain ⟨h5, hc⟩ := ag hc
 obtain ⟨h6, h7⟩ := ag hc
 obtain rfl := seq_eq h2
 have few := uO (env := env) (pos := pos) h7 h4
 rw [arm_eval_Call, ci h5]
 refine wpAny_bind (aG (ho _ _ _ _ _ _ _ _ _ _ h6 hA R L h) fun V1 v1 H1 s1 q1 r1 R1 x1 => ?_)
 obtain ⟨xa, c, d, fs, rfl, hi, hd, hM, q1⟩ := q1
 obtain rfl := r1
 obtain ⟨fa, e1, e2, e3, e4, e5, e6⟩ := W.hM c f hM
 obtain ⟨es', n, I, hr⟩ := mK R1 hi hd
 have K1 : K.In s1.heap := W.hK.keeps R1.keep
 have hl : shadowIn (some (dictOf es' n)) (tb.mn.getD f Str.empty) = some false := by
  show (lookIn _ (dictOf es' n)).map _ = _
  rw [lookIn_dict]
  unfold getL
  have : es'.find? (·.key.isStr (tb.mn.getD f Str.empty)) = none := by
   rw [List.find?_eq_none]
   intro z hz
   have key : ∀ {fs : List (Nat × V)} {es : List DictEntry}, eK fs es → z ∈ es → z.key.isStr (tb.mn.getD f Str.empty) = false := by
    intro fs es hr
    induction hr with
    | nil => intro h; cases h
    | cons hk hkey _ _ ih =>
     intro h
     rcases List.mem_cons.mp h with h | h
     ·subst h; rw [hkey]; exact e6 _ hk
     ·exact ih h
   simpa using key hr hz
  rw [this]
  simp [hr.noRef]
 refine wpAny_bind (wpAny_standAt ?_)
 have hform : methodCallForm (xs.length + ([] : List Keyword).length) (backTo pos (starEach xs env)) (backToKw pos (keywordEach [] env)) = true := few
 have hpos : methodCallPos true oe env apos pos = pure pos := by unfold methodCallPos; simp [h3]
 unfold methodCall
 rw [hform]
 refine wpAny_bind (wpAny_holding (method_fn K1 I (plainGet_of e4).1 (plainGet_of e4).2 e2 e3 hl ?_))
 refine wpAny_bind (wpAny_of_eq hpos ?_)
 refine callWith_of (P := K.In) (by simp [dI h7, backToKw, keywordEach]) (keeps_K e5) (fP he h7 hA R1 (L.step x1) q1 fun vs ws H2 s2 q r R2 x2 => ?_)
 refine ⟨W.hK.keeps R2.keep, lift (x1.trans x2) ?_⟩
 have := W.call f A (.ref xa :: ws) (.ref xa :: vs) H2 Q s2 Eh hA q (.cons rfl r) R2
 rw [e1] at this
 exact this
theorem rO (W : Wd prog w base ac K C tb fv k) {o : E} {a : Nat} (ho : PE prog w base ac C tb k o) : PE prog w base ac C tb k (.attr o a) := by
 intro names sl x A ρ env H s Q Eh hc hA R L h
 refine bE hc fun oe nm p hc => ?_
 obtain ⟨h1, hc⟩ := ag hc
 obtain ⟨h2, h3⟩ := ag hc
 obtain rfl := seq_eq h1
 refine Attribute_any_ (aG (ho _ _ _ _ _ _ _ _ _ _ h3 hA R L h) fun V1 v1 H1 s1 q1 r1 R1 x1 => lift x1 (k7 W.hC W.hK R1 r1 q1)) ?_
 show (do let o ← attributeBase oe (attrName a) env (eval oe env); standAt p.atName; let r ← holding [o] (getAttr o (attrName a) true); letTemporaryGo oe o r; pure r) = _
 rw [ci h2]
theorem tv {H : Hp} {s : Shared} {x i : V} {v : Value} {Q : V → Hp → Prop} (R : Rep base ac H s) (h : kY x i H Q) (r : aN x v) :
  ∃ T id, s.TypeIs v T ∧ typeLookup (.type T) "__getitem__" = pure (some (.builtin id)) := by
 cases x <;> cases i <;> first | exact False.elim h | skip
 case str.int => obtain ⟨t, rfl⟩ := r; exact ⟨"str", _, typeIs_str _ _ _, F.slot_str_getitem.lookup⟩
 case ref.int =>
  obtain rfl := r
  obtain ⟨vs, hm, _⟩ := h
  rcases hm with hm | hm
  ·obtain ⟨ws, n, ho, hr⟩ := R.cell hm
   exact ⟨"list", _, ⟨_, ho, rfl⟩, slot_list_getitem.lookup⟩
  ·obtain ⟨ws, ⟨o, ho, hcl, _⟩, hr⟩ := R.cell hm
   exact ⟨"tuple", _, ⟨_, ho, hcl⟩, F.slot_tuple_getitem.lookup⟩
theorem uP {o i : E} (ho : PE prog w base ac C tb k o) (hi : PE prog w base ac C tb k i) : PE prog w base ac C tb k (.idx o i) := by
 intro names sl x A ρ env H s Q Eh hc hA R L h
 refine cu hc fun oe ie p hc => ?_
 obtain ⟨h1, hc⟩ := ag hc
 obtain ⟨h2, h3⟩ := ag hc
 refine Subscript_ (aG (ho _ _ _ _ _ _ _ _ _ _ h2 hA R L h) fun V1 v1 H1 s1 q1 r1 R1 x1 => aG (hi _ _ _ _ _ _ _ _ _ _ h3 hA R1 (L.step x1) q1) fun V2 v2 H2 s2 q2 r2 R2 x2 => ?_)
 obtain ⟨T, id, hT, hl⟩ := tv R2 q2 r1
 refine tail_any (ops := [v1, v2]) hT hl (lift (x1.trans x2) (mH R2 r1 r2 q2)) ?_
 cases ie <;> first | rfl | (exact absurd h1 Bool.false_ne_true)
theorem lK (xs : Array Value) (lo hi : Option Int) (a b : Nat) (ha : lo = none ∧ a = 0 ∨ lo = some (a : Int)) (hb : hi = none ∧ b = xs.size ∨ hi = some (b : Int)) :
  (slicePick xs lo hi none).toList = (xs.toList.take b).drop a := by
 have e1 : lo.elim 0 (clipAt xs.size) = min a xs.size := by
  rcases ha with ⟨rfl, rfl⟩ | rfl
  ·simp
  ·exact clipAt_nat _ _
 have e2 : hi.elim xs.size (clipAt xs.size) = min b xs.size := by
  rcases hb with ⟨rfl, rfl⟩ | rfl
  ·simp
  ·exact clipAt_nat _ _
 have hn : xs.size = xs.toList.length := by simp
 rw [slicePick_plain, e1, e2, hn, List.drop_take]
 generalize xs.toList = l
 rcases Nat.le_total a l.length with h | h
 ·rw [Nat.min_eq_left h]
  rcases Nat.le_total b l.length with g | g
  ·rw [Nat.min_eq_left g]
  ·rw [Nat.min_eq_right g, List.take_of_length_le (Nat.le_of_eq (List.length_drop ..)), List.take_of_length_le (by rw [List.length_drop]; exact Nat.sub_le_sub_right g a)]
 ·rw [Nat.min_eq_right h, List.drop_length, List.drop_eq_nil_of_le h, List.take_nil, List.take_nil]
theorem vH {o lo hi : E} (ho : PE prog w base ac C tb k o) (hl : PE prog w base ac C tb k lo) (hh : PE prog w base ac C tb k hi) : PE prog w base ac C tb k (.slice o lo hi) := by
 intro names sl x A ρ env H s Q Eh hc hA R L h
 refine cu hc fun oe ie p2 hc => ?_
 refine tn hc fun l hh' q p1 hc => ?_
 obtain ⟨h0, hc⟩ := ag hc
 obtain ⟨hq, hc⟩ := ag hc
 refine uK hq ?_
 obtain ⟨h1, hc⟩ := ag hc
 obtain ⟨h2, h3⟩ := ag hc
 have part : ∀ {e : E} {x : Option Expr} {H : Hp} {s : Shared} {Q : V → Hp → Prop}, PE prog w base ac C tb k e → xp (aI tb names sl e) (tr e) x = true → Rep base ac H s → Loc names sl ρ env H s → ay C e ρ H Q → wpAny (model prog w) A (evalPart x env) (Post base ac aL H s Q) Eh s := by
  intro e x H s Q hp hx R L h
  cases x with
  | some x => exact hp _ _ _ _ _ _ _ _ _ _ hx hA R L h
  | none =>
   cases e <;> first | (exact absurd hx Bool.false_ne_true) | skip
   exact wpAny_pure (aC R h rfl)
 refine wpAny_Subscript_list_slice (aG (ho _ _ _ _ _ _ _ _ _ _ h1 hA R L h) fun V1 v1 H1 s1 q1 r1 R1 x1 => aG (part hl h2 R1 (L.step x1) q1) fun V2 v2 H2 s2 q2 r2 R2 x2 =>
  aG (part hh h3 R2 (L.step (x1.trans x2)) q2) fun V3 v3 H3 s3 q3 r3 R3 x3 => ?_) ?_
 ·obtain ⟨a, vs, lo', hi', rfl, hm, hsz, hlo, hhi, q⟩ := q3
  obtain rfl := r1
  have lst : ∃ ws, s3.heap.IsList a ws ∧ aF vs ws.toList := by
   rcases hm with hm | hm
   ·obtain ⟨ws, n, ho, hr⟩ := R3.cell hm; exact ⟨ws, ⟨_, ho, rfl, n, rfl⟩, hr⟩
   ·exact R3.cell hm
  obtain ⟨ws, hlist, hr⟩ := lst
  have l1 := hr.length
  rw [Array.length_toList] at l1
  obtain ⟨qt, pl, hpl⟩ : ∃ qt, IsPart v2 qt ∧ (qt = none ∧ lo'.toNat = 0 ∨ qt = some ((lo'.toNat : Nat) : Int)) := by
   rcases hlo with ⟨rfl, rfl⟩ | ⟨rfl, h0, _⟩
   ·obtain rfl := r2; exact ⟨none, .none, .inl ⟨rfl, rfl⟩⟩
   ·obtain ⟨t, rfl⟩ := r2; exact ⟨_, .int _ t, .inr (by congr 1; (exact kv [_] [_] [.EQ (.c (.v 0)) (.v 0)] (.v 0) (.c (.v 0)) [1,-1] [1,1] rfl rfl (Int.toNat_of_nonneg h0)))⟩
  obtain ⟨phi, ph, FW⟩ : ∃ phi, IsPart v3 phi ∧ (phi = none ∧ hi'.toNat = ws.size ∨ phi = some ((hi'.toNat : Nat) : Int)) := by
   rcases hhi with ⟨rfl, rfl⟩ | ⟨rfl, h0, _⟩
   ·obtain rfl := r3; exact ⟨none, .none, .inl ⟨rfl, by (exact Eq.symm l1)⟩⟩
   ·obtain ⟨t, rfl⟩ := r3; exact ⟨_, .int _ t, .inr (by congr 1; (exact kv [_] [_] [.EQ (.c (.v 0)) (.v 0)] (.v 0) (.c (.v 0)) [1,-1] [1,1] rfl rfl (Int.toNat_of_nonneg h0)))⟩
  refine ⟨a, ws, qt, phi, rfl, hlist, aX (by exact ln [_,_] [.le (.v 1) (.n 10000),.eq (.v 0) (.v 1)] (.le (.v 0) (.n 20000)) [1,1,1] rfl hsz l1), pl, ph, ?_⟩
  have hk : ∀ b o, s3.heap.get? b = some o → ((s3.heap.push { cls := .type "slice", data := .fields #[v2, v3, .none] }).push { cls := .type "list", data := .seq (slicePick ws qt phi none) }).get? b = some o :=
   fun b o e => aU _ _ _ _ (aU _ _ _ _ e)
  have hsz' : (s3.heap.push { cls := .type "slice", data := .fields #[v2, v3, .none] }).objs.size = s3.heap.objs.size + 1 := by simp [Heap.push]
  have hnone : s3.heap.get? (s3.heap.objs.size + 1) = none := by
   cases e : s3.heap.get? (s3.heap.objs.size + 1) with
   | none => rfl
   | some x => exact absurd (Heap.lt_size e) (Nat.not_lt.mpr (Nat.le_succ _))
  have hget : ((s3.heap.push { cls := .type "slice", data := .fields #[v2, v3, .none] }).push { cls := .type "list", data := .seq (slicePick ws qt phi none) }).get? (s3.heap.objs.size + 1) = some { cls := .type "list", data := .seq (slicePick ws qt phi none) } := by
   rw [← hsz']; exact Heap.get?_push_size _ rfl
  refine cv (Rel := aN) (a := .ref (s3.heap.objs.size + 1)) (((x1.trans x2).trans x3).trans (Step.new (o := .list ((vs.take hi'.toNat).drop lo'.toNat)) hk hnone)) (R3.new hk hnone ⟨_, 0, hget, ?_⟩ rfl rfl) rfl (q _)
  rw [lK ws qt phi _ _ hpl FW]
  exact (hr.take _).drop _
 ·intro o r
  exact qn h0 fun _ _ => rfl
theorem xD {es : Es} (he : mY prog w base ac C tb k es) : PE prog w base ac C tb k (.list es) := by
 intro names sl x A ρ env H s Q Eh hc hA R L h
 refine vE hc fun vs p hc => ?_
 refine List_ (aG (he _ _ _ _ _ _ _ _ _ _ _ hc hA R L h) fun vs ws H1 s1 q1 r1 R1 x1 => ?_)
 have l1 := r1.length
 refine lift x1 (wpAny_newList (cq (tk := s1.toks) (o := .list vs) R1 ⟨_, 0, Heap.get?_push_size _ rfl, by simpa using r1⟩ (q1.2 _)) (aX (by have := q1.1; (exact ln [_,_] [.le (.v 1) (.n 100),.eq (.v 0) (.v 1)] (.le (.v 0) (.n 20000)) [1,1,1] rfl q1.1 l1))))
theorem zT {es : Es} (he : mY prog w base ac C tb k es) : PE prog w base ac C tb k (.tup es) := by
 intro names sl x A ρ env H s Q Eh hc hA R L h
 refine mP hc fun vs kk p hc => ?_
 refine Tuple_ (aG (he _ _ _ _ _ _ _ _ _ _ _ hc hA R L h) fun vs ws H1 s1 q1 r1 R1 x1 => ?_)
 have l1 := r1.length
 refine lift x1 (wpAny_newTuple (cq (tk := s1.toks) (o := .tup vs) R1 ⟨_, ⟨_, Heap.get?_push_size _ rfl, rfl, 0, rfl⟩, by simpa using r1⟩ (q1.2 _)) (aX (by have := q1.1; (exact ln [_,_] [.le (.v 1) (.n 100),.eq (.v 0) (.v 1)] (.le (.v 0) (.n 20000)) [1,1,1] rfl q1.1 l1))))
end
section
variable {prog : Program} {w : World} {base : Heap} {ac : OsState} {K : Frag} {C : Cfg} {tb : Tb} {fv : Nat → Value} {k : Nat}
theorem xE : mY prog w base ac C tb k .nil := by
 intro names sl xs pos A ρ env H s Q Eh hc hA R L h
 cases xs with
 | cons _ _ => cases hc
 | nil =>
  exact wpAny_items_nil (cv Step.refl R .nil h)
theorem vI {e : E} {r : Es} (he : PE prog w base ac C tb k e) (hr : mY prog w base ac C tb k r) : mY prog w base ac C tb k (.cons e r) := by
 intro names sl xs pos A ρ env H s Q Eh hc hA R L h
 cases xs with
 | nil => cases hc
 | cons x xs =>
  replace hc := ag hc
  refine wpAny_items_cons (aG (he _ _ _ _ _ _ _ _ _ _ hc.1 hA R L h) fun V1 v1 H1 s1 q1 r1 R1 x1 => ?_) (eP hc.1)
  refine wpAny_mono (hr _ _ _ pos _ _ _ _ _ _ _ hc.2 hA R1 (L.step x1) q1) (fun vs s2 ⟨as, H2, q2, r2, R2, x2⟩ => ?_) fun _ _ e => e
  exact ⟨V1 :: as, H2, q2, .cons r1 r2, R2, x1.trans x2⟩
theorem vJ : rL prog w base ac C tb k .nil := by
 intro names sl xs pos A ρ env H s Q Eh hc hA R L h
 exact h.elim
theorem xF : xv prog w base ac C tb k .nil := by
 intro names sl xs pos A ρ env H s Q Eh hc hA R L h
 exact h.elim
theorem tw {e : E} {r : Es} (he : PE prog w base ac C tb k e) (hr : rL prog w base ac C tb k r) : rL prog w base ac C tb k (.cons e r) := by
 intro names sl xs pos A ρ env H s Q Eh hc hA R L h
 cases xs with
 | nil => cases hc
 | cons x xs =>
  replace hc := ag hc
  cases r with
  | nil =>
   cases xs with
   | cons _ _ => cases hc.2
   | nil =>
    exact he _ _ _ _ _ _ _ _ _ _ hc.1 hA R L h
  | cons e2 r2 =>
   cases xs with
   | nil => cases hc.2
   | cons x2 xs =>
    show wpAny _ _ (eval x env >>= fun v => standAt pos >>= fun _ => holding [v] (truthy v) >>= fun t => _) _ _ s
    refine wpAny_bind (aG (he _ _ _ _ _ _ _ _ _ _ hc.1 hA R L h) fun V1 v1 H1 s1 q1 r1 R1 x1 => wpAny_bind (wpAny_standAt (wpAny_bind (wpAny_holding (fO R1 r1 q1 fun b tk q => ?_)))))
    cases b with
    | false => exact wpAny_pure (cv (x1.trans stepT) (eQ R1) r1 q)
    | true => exact lift (x1.trans stepT) (hr _ _ _ pos _ _ _ _ _ _ _ hc.2 hA (eQ R1) (L.step (x1.trans stepT)) q)
theorem vK {e : E} {r : Es} (he : PE prog w base ac C tb k e) (hr : xv prog w base ac C tb k r) : xv prog w base ac C tb k (.cons e r) := by
 intro names sl xs pos A ρ env H s Q Eh hc hA R L h
 cases xs with
 | nil => cases hc
 | cons x xs =>
  replace hc := ag hc
  cases r with
  | nil =>
   cases xs with
   | cons _ _ => cases hc.2
   | nil =>
    exact he _ _ _ _ _ _ _ _ _ _ hc.1 hA R L h
  | cons e2 r2 =>
   cases xs with
   | nil => cases hc.2
   | cons x2 xs =>
    show wpAny _ _ (eval x env >>= fun v => standAt pos >>= fun _ => holding [v] (truthy v) >>= fun t => _) _ _ s
    refine wpAny_bind (aG (he _ _ _ _ _ _ _ _ _ _ hc.1 hA R L h) fun V1 v1 H1 s1 q1 r1 R1 x1 => wpAny_bind (wpAny_standAt (wpAny_bind (wpAny_holding (fO R1 r1 q1 fun b tk q => ?_)))))
    cases b with
    | true => exact wpAny_pure (cv (x1.trans stepT) (eQ R1) r1 q)
    | false => exact lift (x1.trans stepT) (hr _ _ _ pos _ _ _ _ _ _ _ hc.2 hA (eQ R1) (L.step (x1.trans stepT)) q)
theorem tx : mZ prog w base ac C tb k .nil := by
 intro names sl xs A ρ env H s Q Eh hc hA R L h
 cases xs with
 | cons _ _ => cases hc
 | nil =>
  exact wpAny_allTrue_And_nil (cv Step.refl R rfl h)
theorem vL : rM prog w base ac C tb k .nil := by
 intro names sl xs A ρ env H s Q Eh hc hA R L h
 cases xs with
 | cons _ _ => cases hc
 | nil =>
  exact wpAny_allTrue_Or_nil (cv Step.refl R rfl h)
theorem rP {e : E} {r : Es} (he : PT prog w base ac C tb k e) (hr : mZ prog w base ac C tb k r) : mZ prog w base ac C tb k (.cons e r) := by
 intro names sl xs A ρ env H s Q Eh hc hA R L h
 cases xs with
 | nil => cases hc
 | cons x xs =>
  replace hc := ag hc
  refine wpAny_allTrue_And_cons (aG (he _ _ _ _ _ _ _ _ _ _ hc.1 hA R L h) fun b b' H1 s1 q1 r1 R1 x1 => ?_)
  subst r1
  cases b with
  | false => exact cv x1 R1 rfl q1
  | true => exact lift x1 (hr _ _ _ _ _ _ _ _ _ _ hc.2 hA R1 (L.step x1) q1)
theorem ty {e : E} {r : Es} (he : PT prog w base ac C tb k e) (hr : rM prog w base ac C tb k r) : rM prog w base ac C tb k (.cons e r) := by
 intro names sl xs A ρ env H s Q Eh hc hA R L h
 cases xs with
 | nil => cases hc
 | cons x xs =>
  replace hc := ag hc
  refine wpAny_allTrue_Or_cons (aG (he _ _ _ _ _ _ _ _ _ _ hc.1 hA R L h) fun b b' H1 s1 q1 r1 R1 x1 => ?_)
  subst r1
  cases b with
  | true => exact cv x1 R1 rfl q1
  | false => exact lift x1 (hr _ _ _ _ _ _ _ _ _ _ hc.2 hA R1 (L.step x1) q1)
theorem qu {e : E} (he : PE prog w base ac C tb k e) {names : bA} {sl : List Str} {x : Expr} {A : Around} {ρ : ap} {env : PySem.Env} {H : Hp} {s : Shared} {Q : Bool → Hp → Prop} {Eh : Value → Shared → Prop}
  (hc : aI tb names sl e x = true) (hA : dv A k) (R : Rep base ac H s) (L : Loc names sl ρ env H s) (h : ay C e ρ H fun v H₁ => truth v H₁ fun b => Q b H₁)
  (hw : isTrue x env (eval x env) = (do let v ← eval x env; standAt x.pos; holding [v] (truthy v))) : wpAny (model prog w) A (isTrue x env (eval x env)) (mX base ac aL H s Q) Eh s :=
 isTrue_plain (aG (he _ _ _ _ _ _ _ _ _ _ hc hA R L h) fun V1 v1 H1 s1 q1 r1 R1 x1 => fO R1 r1 q1 fun b tk q => cv (x1.trans stepT) (eQ R1) rfl q) hw
theorem zU {a : E} (ha : PT prog w base ac C tb k a) : PT prog w base ac C tb k (.not a) := by
 intro names sl x A ρ env H s Q Eh hc hA R L h
 refine eC hc fun u l p hc => ?_
 obtain ⟨h1, hc⟩ := ag hc
 obtain rfl := of_decide_eq_true h1
 exact isTrue_not (aG (ha _ _ _ _ _ _ _ _ _ _ hc hA R L h) fun b b' H1 s1 q1 r1 R1 x1 => by subst r1; exact cv x1 R1 rfl q1)
theorem zV {es : Es} (he : mZ prog w base ac C tb k es) : PT prog w base ac C tb k (.and_ es) := by
 intro names sl x A ρ env H s Q Eh hc hA R L h
 refine fK hc fun u l p hc => ?_
 obtain ⟨h1, hc⟩ := ag hc
 obtain rfl := of_decide_eq_true h1
 exact wpAny_isTrue_BoolOp (he _ _ _ _ _ _ _ _ _ _ hc hA R L h)
theorem Cp {es : Es} (he : rM prog w base ac C tb k es) : PT prog w base ac C tb k (.or_ es) := by
 intro names sl x A ρ env H s Q Eh hc hA R L h
 refine fK hc fun u l p hc => ?_
 obtain ⟨h1, hc⟩ := ag hc
 obtain rfl := of_decide_eq_true h1
 exact wpAny_isTrue_BoolOp (he _ _ _ _ _ _ _ _ _ _ hc hA R L h)
theorem zW {t a b : E} (ht : PT prog w base ac C tb k t) (ha : PT prog w base ac C tb k a) (hb : PT prog w base ac C tb k b) : PT prog w base ac C tb k (.du t a b) := by
 intro names sl x A ρ env H s Q Eh hc hA R L h
 refine mO hc fun t' a' b' p hc => ?_
 obtain ⟨h1, hc⟩ := ag hc
 obtain ⟨h2, h3⟩ := ag hc
 refine isTrue_IfExp (aG (ht _ _ _ _ _ _ _ _ _ _ h1 hA R L h) fun b1 b2 H1 s1 q1 r1 R1 x1 => ?_)
 subst r1
 cases b1 with
 | true => exact lift x1 (ha _ _ _ _ _ _ _ _ _ _ h2 hA R1 (L.step x1) q1)
 | false => exact lift x1 (hb _ _ _ _ _ _ _ _ _ _ h3 hA R1 (L.step x1) q1)
theorem zX {op : CmpOp} {a b : E} (ha : PE prog w base ac C tb k a) (hb : PE prog w base ac C tb k b) : PT prog w base ac C tb k (.cmp op a b) := by
 intro names sl x A ρ env H s Q Eh hc hA R L h
 refine eD hc fun l os rs p hc => ?_
 refine eh hc fun o hc => ?_
 refine eh hc fun r hc => ?_
 obtain ⟨h1, hc⟩ := ag hc
 obtain ⟨h0, hc⟩ := mT hc
 obtain ⟨h2, h3⟩ := ag hc
 obtain rfl := of_decide_eq_true h1
 exact wpAny_isTrue_Compare1 (aG (ha _ _ _ _ _ _ _ _ _ _ h2 hA R L h) fun V1 v1 H1 s1 q1 r1 R1 x1 => aG (hb _ _ _ _ _ _ _ _ _ _ h3 hA R1 (L.step x1) q1) fun V2 v2 H2 s2 q2 r2 R2 x2 =>
  aG (dG hA.zero R2 r1 r2 q2) fun V3 v3 H3 s3 q3 r3 R3 x3 => fO R3 r3 q3 fun b tk q => cv (((x1.trans x2).trans x3).trans stepT) (eQ R3) rfl q) h0
theorem xG {op op1 : CmpOp} {a b c : E} (ha : PE prog w base ac C tb k a) (hb : PE prog w base ac C tb k b) (hcc : PE prog w base ac C tb k c) : PT prog w base ac C tb k (.gf op op1 a b c) := by
 intro names sl x A ρ env H s Q Eh hc hA R L h
 refine eD hc fun l os rs p hc => ?_
 refine mS hc fun o o' hc => ?_
 refine mS hc fun mm r hc => ?_
 obtain ⟨h1, hc⟩ := ag hc
 obtain ⟨h1', hc⟩ := ag hc
 obtain ⟨h0, hc⟩ := mT hc
 obtain ⟨h2, hc⟩ := ag hc
 obtain ⟨h3, h4⟩ := ag hc
 obtain rfl := of_decide_eq_true h1
 obtain rfl := of_decide_eq_true h1'
 refine isTrue_chain (aG (ha _ _ _ _ _ _ _ _ _ _ h2 hA R L h) fun V1 v1 H1 s1 q1 r1 R1 x1 => ?_) (by simp only [lastMarks]; exact h0)
 show wpAny _ _ (holding [v1] _ >>= fun _ => standAt _ >>= fun _ => holding _ (compareOp op v1 _) >>= fun _ => release _ _ >>= fun _ => holding _ (truthy _) >>= fun t => if t = true then _ else pure false) _ _ s1
 refine wpAny_bind (wpAny_holding (aG (hb _ _ _ _ _ _ _ _ _ _ h3 hA R1 (L.step x1) q1) fun V2 v2 H2 s2 q2 r2 R2 x2 => wpAny_bind (wpAny_standAt (wpAny_bind (wpAny_holding (aG (dG hA.zero R2 r1 r2 q2) fun V3 v3 H3 s3 q3 r3 R3 x3 => ?_))))))
 refine wpAny_bind (wpAny_release' (wpAny_bind (wpAny_holding (fO R3 r3 q3 fun t tk q => ?_))))
 have xx : Step aL H s H3 { s3 with toks := tk } := ((x1.trans x2).trans x3).trans stepT
 cases t with
 | false => exact wpAny_pure (cv xx (eQ R3) rfl q)
 | true =>
  have L3 := L.step xx
  refine wpAny_bind (wpAny_holding (aG (hcc _ _ _ _ _ _ _ _ _ _ h4 hA (eQ R3) L3 q) fun V4 v4 H4 s4 q4 r4 R4 x4 => wpAny_bind (wpAny_standAt (wpAny_bind (wpAny_operate' (aG (dG hA.zero R4 r2 r4 q4) fun V5 v5 H5 s5 q5 r5 R5 x5 => ?_))))))
  exact wpAny_holding (fO R5 r5 q5 fun b tk q => cv (((xx.trans x4).trans x5).trans stepT) (eQ R5) rfl q)
theorem vM (b : Bool) : PT prog w base ac C tb k (.aZ b) := by
 intro names sl x A ρ env H s Q Eh hc hA R L h
 exact qu (C := C) (pq b) hc hA R L h (cb hc fun _ _ _ _ => rfl)
theorem zY (i : Nat) : PT prog w base ac C tb k (.var i) := by
 intro names sl x A ρ env H s Q Eh hc hA R L h
 exact qu (C := C) (uM i) hc hA R L h (bo hc fun _ _ _ => rfl)
theorem qv {e : E} (he : PE prog w base ac C tb k e) (hw : ∀ ρ H Q, ce C e ρ H Q → ay C e ρ H fun v H₁ => truth v H₁ fun b => Q b H₁)
  (hx : ∀ names sl x env, aI tb names sl e x = true → isTrue x env (eval x env) = (do let v ← eval x env; standAt x.pos; holding [v] (truthy v))) : PT prog w base ac C tb k e := by
 intro names sl x A ρ env H s Q Eh hc hA R L h
 exact qu he hc hA R L (hw _ _ _ h) (hx _ _ _ _ hc)
theorem zZ {op : Operator} {a b : E} (he : PE prog w base ac C tb k (.bin op a b)) : PT prog w base ac C tb k (.bin op a b) := by
 exact qv he (fun ρ H Q h => h) fun names sl x env hc => jh hc fun _ _ _ _ _ => rfl
theorem xH {f : Nat} {es : Es} (he : PE prog w base ac C tb k (.call f es)) : PT prog w base ac C tb k (.call f es) := by
 exact qv he (fun ρ H Q h => h) fun names sl x env hc => dH hc fun _ _ _ _ _ => rfl
theorem xI {o : E} {a : Nat} (he : PE prog w base ac C tb k (.attr o a)) : PT prog w base ac C tb k (.attr o a) := by
 exact qv he (fun ρ H Q h => h) fun names sl x env hc => bE hc fun _ _ _ _ => rfl
theorem Aa {o i : E} (he : PE prog w base ac C tb k (.idx o i)) : PT prog w base ac C tb k (.idx o i) := by
 exact qv he (fun ρ H Q h => h) fun names sl x env hc => cu hc fun _ _ _ _ => rfl
end
section
variable {prog : Program} {w : World} {A : Around} {Eh : Value → Shared → Prop} {base : Heap} {ac : OsState} {H H' : Hp} {s s' : Shared} {X : Nat → Prop}
noncomputable def Quiet (H : Hp) (s : Shared) (b : Nat) : Prop := ¬ jx H b ∧ ∃ o, s.heap.get? b = some o
theorem Quiet.step {b : Nat} (q : Quiet H s b) (x : Step X H s H' s') (hx : ¬ X b) : Quiet H' s' b := by
 obtain ⟨h1, o, h2⟩ := q
 refine ⟨fun m => ?_, o, x.same b o h2 h1 hx⟩
 rcases x.more b m with m | m
 ·exact h1 m
 ·rw [m] at h2; cases h2
theorem Quiet.get {b : Nat} {o : Obj} (q : Quiet H s b) (x : Step X H s H' s') (hx : ¬ X b) (e : s.heap.get? b = some o) : s'.heap.get? b = some o := x.same b o e q.1 hx
noncomputable def Hid (base : Heap) (H : Hp) (s : Shared) (b : Nat) : Prop := base.get? b = none ∧ (∀ o, (b, o) ∉ H) ∧ ∃ o, s.heap.get? b = some o
theorem Hid.step {b : Nat} (q : Hid base H s b) (x : Step X H s H' s') : Hid base H' s' b := by
 obtain ⟨h0, h1, o, h2⟩ := q
 refine ⟨h0, fun o' m => ?_, x.live b o h2⟩
 rcases x.keys b o' m with ⟨HN, m⟩ | m
 ·exact h1 _ m
 ·rw [m] at h2; cases h2
theorem Hid.quiet {b : Nat} (q : Hid base H s b) : Quiet H s b := ⟨fun ⟨o, m, _⟩ => q.2.1 o m, q.2.2⟩
theorem Rep.fresh (R : Rep base ac H s) {b : Nat} (e : s.heap.get? b = none) : base.get? b = none ∧ ∀ o, (b, o) ∉ H := by
 refine ⟨?_, fun o m => ?_⟩
 ·cases q : base.get? b with
  | none => rfl
  | some x => rw [R.keep _ _ q] at e; cases e
 ·obtain ⟨x, q⟩ := R.xh m
  rw [e] at q; cases q
theorem Rep.hid (R : Rep base ac H s) {b : Nat} (h0 : base.get? b = none) (h1 : ∀ o, (b, o) ∉ H) (hk : ∀ a o, a ≠ b → s.heap.get? a = some o → s'.heap.get? a = some o) (ho : s'.os = s.os) (hg : s'.gens = s.gens) : Rep base ac H s' where
 keep := fun a o e => hk a o (fun q => by subst q; rw [h0] at e; cases e) (R.keep a o e)
 cells := fun p hp => by
  obtain ⟨x, e⟩ := (R.cells p hp).some
  exact (R.cells p hp).keep ((hk _ _ (fun q => h1 p.2 (by rw [← q]; exact hp)) e).trans e.symm)
 nd := R.nd
 own := R.own
 os := ho.trans R.os
 gens := hg.trans R.gens
theorem Step.hid {s₀ : Shared} {H₀ : Hp} {b : Nat} (x : Step X H₀ s₀ H s) (h0 : s₀.heap.get? b = none) (hk : ∀ a o, a ≠ b → s.heap.get? a = some o → s'.heap.get? a = some o) : Step X H₀ s₀ H s' where
 same := fun a o e m q => hk a o (fun z => by subst z; rw [h0] at e; cases e) (x.same a o e m q)
 more := x.more
 live := fun a o e => by
  obtain ⟨o', e'⟩ := x.live a o e
  exact ⟨o', hk a o' (fun z => by subst z; rw [h0] at e; cases e) e'⟩
 keys := x.keys
structure Wk (prog : Program) (w : World) (A : Around) (base : Heap) (ac : OsState) (I : Addr) (src : Option Nat) (items : List V) (St : Nat → Heap → Prop) (fp : List Addr) : Prop where
 frame : ∀ i h h', St i h → (∀ b ∈ fp, ∀ o, h.get? b = some o → h'.get? b = some o) → St i h'
 item : ∀ i V (s : Shared) H (Q : Option Value → Shared → Prop) E, items[i]? = some V → Rep base ac H s → alive src items H → St i s.heap →
  (∀ v h' tk, aN V v → St (i + 1) h' → (∀ b o, b ≠ I → s.heap.get? b = some o → h'.get? b = some o) → (∃ o, h'.get? I = some o) → Q (some v) { s with heap := h', toks := tk }) → wpAny (model prog w) A (pyNext (.ref I)) Q E s
 done : ∀ (s : Shared) H (Q : Option Value → Shared → Prop) E, Rep base ac H s → alive src items H → St items.length s.heap →
  (∀ h' tk, (∀ b o, b ≠ I → s.heap.get? b = some o → h'.get? b = some o) → Q none { s with heap := h', toks := tk }) → wpAny (model prog w) A (pyNext (.ref I)) Q E s
 self : ∀ i (s : Shared) (Q : Value → Shared → Prop) (E : Value → Shared → Prop), St i s.heap → Q (.ref I) s → wpAny (model prog w) A (pyIter (.ref I)) Q E s
 here : ∀ i h, St i h → ∃ o, h.get? I = some o
theorem tz {I : Addr} {n : Nat} {P : Nat → Value → Prop} {St : Nat → Heap → Prop} {fp : List Addr} {items : List V} (W : Walks prog w A I fp [I] n P St) (hn : n = items.length)
  (hP : ∀ i v V, items[i]? = some V → P i v → aN V v) (hI : ∀ i h, St i h → ∃ o, h.get? I = some o) : Wk prog w A base ac I none items St fp where
 frame := fun i h h' a b => W.frame i h h' a b
 item := fun i V s H Q E hi R al st g => by
  have hlt : i < n := by
   rw [hn]
   exact (List.getElem?_eq_some_iff.mp hi).1
  exact W.item i s Q E hlt st fun v h' tk p st' hk => g v h' tk (hP i v V hi p) st' (fun b o hb e => hk b o (by simpa using hb) e) (hI _ _ st')
 done := fun s H Q E R al st g => W.done s Q E (hn ▸ st) fun h' tk hk => g h' tk fun b o hb e => hk b o (by simpa using hb) e
 self := W.self
 here := hI
theorem xJ (hh : A.handled = none) {I ax : Addr} {items : List V} : Wk prog w A base ac I (some ax) items (fun i h => h.IsListIter I ax i) [I] where
 frame := fun i h h' a b => let ⟨o, e, r⟩ := a; ⟨o, b I (by simp) o e, r⟩
 item := fun i V s H Q E hi R al st g => by
  obtain ⟨ws, n, ho, hr⟩ := R.cell al
  obtain ⟨x, hx, hv⟩ := hr.get hi
  refine wpAny_pyNext_list_item st ⟨_, ho, rfl, n, rfl⟩ (x := x) (by simpa using hx) fun h' hit' hs' => ?_
  exact g x h' s.toks hv hit' (fun b o hb e => hs'.extBut b o hb e) (by obtain ⟨o, e, _⟩ := hit'; exact ⟨o, e⟩)
 done := fun s H Q E R al st g => by
  obtain ⟨ws, n, ho, hr⟩ := R.cell al
  have hl := hr.length
  rw [Array.length_toList] at hl
  exact wpAny_pyNext_list_end hh st ⟨_, ho, rfl, n, rfl⟩ (by simp [hl]) fun h' he' => g h' s.toks fun b o hb e => he' b o hb e
 self := fun _ _ _ _ st hQ => wpAny_pyIter_listiter st hQ
 here := fun i h st => let ⟨o, e, _⟩ := st; ⟨o, e⟩
theorem qw {lo hi st : Int} (h : -10000 ≤ lo ∧ lo ≤ 10000 ∧ -10000 ≤ hi ∧ hi ≤ 10000 ∧ -10000 ≤ st ∧ st ≤ 10000 ∧ st ≠ 0) : Builtin.Range.small lo hi st = true := by
 obtain ⟨h1, h2, h3, h4, h5, h6, h7⟩ := h
 have fl : ∀ i : Int, -100000 ≤ i → i ≤ 100000 → Builtin.Range.rangeFitsLong i = true := fun i a b => by
  unfold Builtin.Range.rangeFitsLong
  simp only [Bool.and_eq_true, decide_eq_true_eq]
  constructor <;> omega
 have sz : -100000 ≤ Builtin.Range.rangeSize lo hi st ∧ Builtin.Range.rangeSize lo hi st ≤ 100000 := by
  unfold Builtin.Range.rangeSize
  split <;> split <;> first | (first | exact ⟨ln [] [] (.LE (.g (.n 100000)) (.n 0)) [1] rfl, ln [] [] (.LE (.n 0) (.n 100000)) [1] rfl⟩ | omega) | skip
  ·have a := Int.ediv_nonneg (a := hi - lo - 1) (b := st) (by omega) (by omega)
   have b := Int.ediv_le_self (a := hi - lo - 1) st (by omega)
   (exact ⟨lin [] [_] [.LE (.n 0) (.v 0)] (.LE (.g (.n 100000)) (.a (.v 0) (.n 1))) [1,1] rfl a, lin [] [_,_,_] [.LE (.g (.n 10000)) (.v 1),.LE (.v 2) (.n 10000),.LE (.v 0) (.s (.s (.v 2) (.v 1)) (.n 1))] (.LE (.a (.v 0) (.n 1)) (.n 100000)) [1,1,1,1] rfl h1 h4 b⟩)
  ·have a := Int.ediv_nonneg (a := lo - hi - 1) (b := -st) (by omega) (by omega)
   have b := Int.ediv_le_self (a := lo - hi - 1) (-st) (by omega)
   (exact ⟨lin [] [_] [.LE (.n 0) (.v 0)] (.LE (.g (.n 100000)) (.a (.v 0) (.n 1))) [1,1] rfl a, lin [] [_,_,_] [.LE (.v 1) (.n 10000),.LE (.g (.n 10000)) (.v 2),.LE (.v 0) (.s (.s (.v 1) (.v 2)) (.n 1))] (.LE (.a (.v 0) (.n 1)) (.n 100000)) [1,1,1,1] rfl h2 h3 b⟩)
 unfold Builtin.Range.small
 rw [fl _ sz.1 sz.2, fl lo (by (exact lin [] [_] [.LE (.g (.n 10000)) (.v 0)] (.LE (.g (.n 100000)) (.v 0)) [1,1] rfl h1)) (by exact lin [] [_] [.LE (.v 0) (.n 10000)] (.LE (.v 0) (.n 100000)) [1,1] rfl h2), fl hi (by (exact lin [] [_] [.LE (.g (.n 10000)) (.v 0)] (.LE (.g (.n 100000)) (.v 0)) [1,1] rfl h3)) (by exact lin [] [_] [.LE (.v 0) (.n 10000)] (.LE (.v 0) (.n 100000)) [1,1] rfl h4), fl st (by (exact lin [] [_] [.LE (.g (.n 10000)) (.v 0)] (.LE (.g (.n 100000)) (.v 0)) [1,1] rfl h5)) (by exact lin [] [_] [.LE (.v 0) (.n 10000)] (.LE (.v 0) (.n 100000)) [1,1] rfl h6), fl (hi + (st - 1)) (by (exact lin [] [_,_] [.LE (.g (.n 10000)) (.v 0),.LE (.g (.n 10000)) (.v 1)] (.LE (.g (.n 100000)) (.a (.v 0) (.s (.v 1) (.n 1)))) [1,1,1] rfl h3 h5)) (by (exact lin [] [_,_] [.LE (.v 0) (.n 10000),.LE (.v 1) (.n 10000)] (.LE (.a (.v 0) (.s (.v 1) (.n 1))) (.n 100000)) [1,1,1] rfl h4 h6)), fl (hi + (st + 1)) (by (exact lin [] [_,_] [.LE (.g (.n 10000)) (.v 0),.LE (.g (.n 10000)) (.v 1)] (.LE (.g (.n 100000)) (.a (.v 0) (.a (.v 1) (.n 1)))) [1,1,1] rfl h3 h5)) (by (exact lin [] [_,_] [.LE (.v 0) (.n 10000),.LE (.v 1) (.n 10000)] (.LE (.a (.v 0) (.a (.v 1) (.n 1))) (.n 100000)) [1,1,1] rfl h4 h6))]
 simp
theorem hB {v : V} {x : Value} {src : Option Nat} {items : List V} {P : Value → Shared → Prop} (hh : A.handled = none) (R : Rep base ac H s) (hs : Src v H src items) (hv : aN v x)
  (g : ∀ St fp ob, Wk prog w A base ac s.heap.objs.size src items St fp → St 0 (s.heap.push ob) → (∀ b ∈ fp, b = s.heap.objs.size ∨ (∃ o, (b, o) ∈ H) ∧ Quiet H s b) → P (.ref s.heap.objs.size) { s with heap := s.heap.push ob }) :
  wpAny (model prog w) A (pyIter x) P Eh s := by
 cases hs with
 | @list a vs H hm hl =>
  obtain rfl := hv
  obtain ⟨ws, n, ho, hr⟩ := R.cell hm
  exact wpAny_pyIter_list ⟨_, ho, rfl, n, rfl⟩ (g _ _ _ (xJ hh) ⟨_, Heap.get?_push_size _ rfl, rfl, rfl⟩ fun b hb => .inl (by simpa using hb))
 | @tup a vs H hm hl =>
  obtain rfl := hv
  obtain ⟨ws, ⟨o, ho, hc, n, hd⟩, hr⟩ := R.cell hm
  have hne : a ≠ s.heap.objs.size := Nat.ne_of_lt (Heap.lt_size ho)
  have hlen := hr.length
  rw [Array.length_toList] at hlen
  refine wpAny_pyIter_tuple ⟨o, ho, hc, n, hd⟩ (g _ _ _ (tz (Walks.tuple hh _ a hne ws) hlen (fun i v V hV p => ?_) fun i h st => let ⟨⟨o, e, _⟩, _⟩ := st; ⟨o, e⟩)
   ⟨⟨_, Heap.get?_push_size _ rfl, rfl, rfl⟩, ⟨o, aU _ _ _ _ ho, hc, n, hd⟩⟩ fun b hb => ?_)
  ·obtain ⟨z, hz, r⟩ := hr.get hV
   have e : ws[i]? = some v := p
   rw [Array.getElem?_toList] at hz
   rw [e] at hz
   injection hz with hz
   exact hz ▸ r
  ·simp only [List.mem_cons, List.not_mem_nil, or_false] at hb
   rcases hb with hb | hb
   ·exact .inl hb
   ·subst hb
    refine .inr ⟨⟨_, hm⟩, fun ⟨o', m, hm'⟩ => ?_, o, ho⟩
    have := kx R.nd hm m
    subst this; cases hm'
 | @rng a lo hi st H hm hsm =>
  obtain rfl := hv
  obtain ⟨t, u, z, e⟩ := R.cell hm
  have h0 : 0 ≤ Builtin.Range.rangeSize lo hi st := by
   unfold Builtin.Range.rangeSize
   split <;> split <;> first | (first | exact Int.natCast_nonneg _ | omega) | skip
   ·have := Int.ediv_nonneg (a := hi - lo - 1) (b := st) (by omega) (by omega); (exact lin [] [_] [.LE (.n 0) (.v 0)] (.LE (.n 0) (.a (.v 0) (.n 1))) [1,1] rfl this)
   ·have := Int.ediv_nonneg (a := lo - hi - 1) (b := -st) (by omega) (by omega); (exact lin [] [_] [.LE (.n 0) (.v 0)] (.LE (.n 0) (.a (.v 0) (.n 1))) [1,1] rfl this)
  refine wpAny_pyIter_range e (qw hsm) (g _ _ _ (tz (Walks.range hh _ lo st (Builtin.Range.rangeSize lo hi st).toNat) (by simp [bN]) (fun i v V hV p => ?_) fun i h st => ⟨_, st⟩) ?_ fun b hb => .inl (by simpa using hb))
  ·obtain ⟨t, rfl⟩ := p
   simp only [bN, List.map_map, List.getElem?_map, Option.map_eq_some_iff, Function.comp_apply] at hV
   obtain ⟨y, hy, rfl⟩ := hV
   rw [List.getElem?_range] at hy
   ·injection hy with hy; subst hy
    exact ⟨t, by rw [Int.mul_comm]⟩
   ·have := (List.getElem?_eq_some_iff.mp hy).1; simpa using this
  ·show IsRangeIter _ _ _ _ _
   unfold IsRangeIter
   rw [Heap.get?_push_size _ rfl]
   have e1 : lo + ((0 : Nat) : Int) * st = lo := by simp
   have e2 : (((Builtin.Range.rangeSize lo hi st).toNat : Nat) : Int) - ((0 : Nat) : Int) = Builtin.Range.rangeSize lo hi st := by simp [Int.toNat_of_nonneg h0]
   rw [e1, e2]
 | @str q H hl hc =>
  obtain ⟨t, rfl⟩ := hv
  refine wpAny_pyIter_ascii (by simpa [st] using hc) (g _ _ _ (tz (Walks.strAscii hh _ (Nt.st q) t) (by simp [st]) (fun i v V hV p => ?_) fun i h st => let ⟨o, e, _⟩ := st; ⟨o, e⟩) ⟨_, Heap.get?_push_size _ rfl, rfl, rfl⟩ fun b hb => .inl (by simpa using hb))
  obtain ⟨c, u, h1, rfl⟩ := p
  have h1' : q[i]? = some c := by simpa [Nt.st] using h1
  simp only [List.getElem?_map, h1', Option.map_some, Option.some.injEq] at hV
  subst hV
  exact ⟨u, rfl⟩
end
section
variable {prog : Program} {w : World} {A : Around} {Eh : Value → Shared → Prop} {base : Heap} {ac : OsState} {H H' : Hp} {s s' : Shared} {X : Nat → Prop}
theorem cJ : ∀ (names : bA) (x : Str), lk names x = names.lookup x
 | [], x => rfl
 | (y, k) :: r, x => by
  unfold lk
  rw [List.lookup_cons]
  cases e : seq x y with
  | true => rw [seq_eq e]; simp
  | false =>
   have : (x == y) = false := by
    cases q : x == y with
    | false => rfl
    | true => rw [eq_of_beq q, gj] at e; cases e
   rw [this]
   exact cJ r x
theorem Step.fresh {b : Nat} (x : Step X H s H' s') (e : s'.heap.get? b = none) : s.heap.get? b = none := by
 cases q : s.heap.get? b with
 | none => rfl
 | some o => obtain ⟨o', e'⟩ := x.live b o q; rw [e] at e'; cases e'
theorem Hid.hid {b c : Nat} (q : Hid base H s c) (hne : c ≠ b) (hk : ∀ a o, a ≠ b → s.heap.get? a = some o → s'.heap.get? a = some o) : Hid base H s' c :=
 ⟨q.1, q.2.1, let ⟨o, e⟩ := q.2.2; ⟨o, hk c o hne e⟩⟩
theorem Quiet.hid {b c : Nat} (q : Quiet H s c) (hne : c ≠ b) (hk : ∀ a o, a ≠ b → s.heap.get? a = some o → s'.heap.get? a = some o) : Quiet H s' c :=
 ⟨q.1, let ⟨o, e⟩ := q.2; ⟨o, hk c o hne e⟩⟩
theorem Rep.tA (R : Rep base ac H s) {b : Nat} {o : O} (h : Hid base H s b) (hc : Cell s.heap b o) : Rep base ac ((b, o) :: H) s where
 keep := R.keep
 cells := fun p hp => by
  rcases List.mem_cons.mp hp with rfl | hp
  ·exact hc
  ·exact R.cells p hp
 nd := by
  simp only [List.map_cons, List.nodup_cons]
  refine ⟨fun q => ?_, R.nd⟩
  obtain ⟨p, hp, e⟩ := List.mem_map.mp q
  exact h.2.1 p.2 (by rw [← e]; exact hp)
 own := fun p hp hm => by
  rcases List.mem_cons.mp hp with rfl | hp
  ·exact h.1
  ·exact R.own p hp hm
 os := R.os
 gens := R.gens
theorem Step.tA {b : Nat} {o : O} (x : Step X H s H' s') (e : s.heap.get? b = none) : Step X H s ((b, o) :: H') s' where
 same := x.same
 more := fun c ⟨o', m, hm⟩ => by
  rcases List.mem_cons.mp m with q | m
  ·injection q with q _; subst q; exact .inr e
  ·exact x.more c ⟨o', m, hm⟩
 live := x.live
 keys := fun c o' m => by
  rcases List.mem_cons.mp m with q | m
  ·injection q with q _; subst q; exact .inr e
  ·exact x.keys c o' m
theorem hE {env : PySem.Env} : ∀ (ns : bA), (∀ p ∈ ns, p.2 = .free → ∃ c, env.cells.lookup p.1 = some c) →
  ∀ acc : List (Str × Addr), ∃ cl, (forIn ns acc fun p cs => if p.2 == .free then do let c ← cellOf env p.1; pure (ForInStep.yield ((p.1, c) :: cs)) else (pure (ForInStep.yield cs) : Sem _)) = pure cl ∧
   (∀ p ∈ ns, p.2 = .free → cl.lookup p.1 = env.cells.lookup p.1) ∧ (∀ x, (∃ c, acc.lookup x = some c ∧ env.cells.lookup x = some c) → cl.lookup x = env.cells.lookup x) ∧
   (∀ x c, cl.lookup x = some c → acc.lookup x = some c ∨ env.cells.lookup x = some c)
 | [], _, acc => ⟨acc, rfl, (fun _ h => by cases h), (fun x ⟨c, h1, h2⟩ => h1.trans h2.symm), (fun _ _ h => .inl h)⟩
 | (n, k) :: r, h, acc => by
  by_cases e : k = .free
  ·subst e
   obtain ⟨c, hc⟩ := h (n, .free) (.head _) rfl
   have hcell : cellOf env n = pure c := by unfold cellOf; rw [hc]
   obtain ⟨cl, h1, h2, h3, h4⟩ := hE r (fun p hp => h p (.tail _ hp)) ((n, c) :: acc)
   refine ⟨cl, ?_, fun p hp hf => ?_, fun x ⟨d, a1, a2⟩ => ?_, fun x d hd => ?_⟩
   ·rw [List.forIn_cons]
    show ((if (NameKind.free == NameKind.free) = true then (do let c ← cellOf env n; pure (ForInStep.yield ((n, c) :: acc)) : Sem _) else _) >>= _) = _
    have e1 : (if (NameKind.free == NameKind.free) = true then (do let c ← cellOf env n; pure (ForInStep.yield ((n, c) :: acc)) : Sem (ForInStep (List (Str × Addr)))) else pure (ForInStep.yield acc)) = pure (ForInStep.yield ((n, c) :: acc)) := by
     rw [hcell]; rfl
    rw [e1]
    exact h1
   ·rcases List.mem_cons.mp hp with q | hp
    ·subst q
     exact h3 n ⟨c, by simp [List.lookup_cons], hc⟩
    ·exact h2 p hp hf
   ·refine h3 x ?_
    by_cases q : x = n
    ·subst q; exact ⟨c, by simp [List.lookup_cons], hc⟩
    ·have z : (x == n) = false := by simpa using q
     exact ⟨d, by rw [List.lookup_cons, z]; exact a1, a2⟩
   ·rcases h4 x d hd with q | q
    ·by_cases z : x = n
     ·subst z
      simp only [List.lookup_cons, beq_self_eq_true, Option.some.injEq] at q
      subst q; exact .inr hc
     ·rw [List.lookup_cons] at q
      have : (x == n) = false := by simpa using z
      rw [this] at q
      exact .inl q
    ·exact .inr q
  ·obtain ⟨cl, h1, h2, h3, h4⟩ := hE r (fun p hp => h p (.tail _ hp)) acc
   refine ⟨cl, ?_, fun p hp hf => ?_, h3, h4⟩
   ·rw [List.forIn_cons]
    have e0 : (k == NameKind.free) = false := by simpa using e
    have e1 : (if (k == NameKind.free) = true then (do let c ← cellOf env n; pure (ForInStep.yield ((n, c) :: acc)) : Sem (ForInStep (List (Str × Addr)))) else pure (ForInStep.yield acc)) = pure (ForInStep.yield acc) := by
     rw [e0]; rfl
    show ((if (k == NameKind.free) = true then (do let c ← cellOf env n; pure (ForInStep.yield ((n, c) :: acc)) : Sem _) else _) >>= _) = _
    rw [e1]
    exact h1
   ·rcases List.mem_cons.mp hp with q | hp
    ·subst q; exact absurd hf e
    ·exact h2 p hp hf
theorem hH {scope : Scope} {env : PySem.Env} (h : ∀ p ∈ scope.names, p.2 = .free → ∃ c, env.cells.lookup p.1 = some c) :
  ∃ cl, closureFor scope env = pure cl ∧ (∀ p ∈ scope.names, p.2 = .free → cl.lookup p.1 = env.cells.lookup p.1) ∧ (∀ x c, cl.lookup x = some c → env.cells.lookup x = some c) := by
 obtain ⟨cl, h1, h2, h3, h4⟩ := hE scope.names h []
 refine ⟨cl, ?_, h2, fun x c e => ?_⟩
 ·unfold closureFor
  rw [show (pure cl : Sem _) = (pure cl >>= pure) from rfl, ← h1]
 ·rcases h4 x c e with q | q
  ·cases q
  ·exact q
theorem gN {env : PySem.Env} : ∀ (ns : bA) (y : Str),
  (ns.map fun (n, k) => if (k == NameKind.free && env.scope.kind == .function && env.kindOf n == some .cell) then (n, NameKind.cell) else (n, k)).lookup y =
   (ns.lookup y).map fun k => if (k == NameKind.free && env.scope.kind == .function && env.kindOf y == some .cell) then NameKind.cell else k
 | [], y => rfl
 | (n, k) :: r, y => by
  rw [List.map_cons]
  show List.lookup y ((if (k == NameKind.free && env.scope.kind == .function && env.kindOf n == some .cell) = true then (n, NameKind.cell) else (n, k)) :: _) = _
  cases e : y == n with
  | true =>
   have := eq_of_beq e
   subst this
   split <;> rename_i q
   ·simp only [List.lookup_cons, beq_self_eq_true, Option.map_some, if_pos q]
   ·simp only [List.lookup_cons, beq_self_eq_true, Option.map_some, if_neg q]
  | false =>
   have ih := @gN env r y
   split <;> (rw [List.lookup_cons, List.lookup_cons]; simp only [e]; exact ih)
theorem cW {scope : Scope} {cl : List (Str × Addr)} {Cf : Addr} {env : PySem.Env} (y : Str) :
  (compEnvC scope cl Cf env).kindOf y = (lk scope.names y).map fun k => if (k == NameKind.free && env.scope.kind == .function && env.kindOf y == some .cell) then NameKind.cell else k := by
 rw [cJ]
 exact gN scope.names y
theorem vN {names : bA} {sl : List Str} {ρ : ap} {env : PySem.Env} {scope : Scope} {cl : List (Str × Addr)} {Cf : Addr} {i : Nat} {y : Str} {V : V} {v : Value} {m : Str → Option Value} (L : Loc names sl ρ env H s)
  (hk : scope.kind = .function) (hi : i < sl.length) (hy : y = sl.getD i Str.empty) (hf : cr scope.names names = true) (hl : lk scope.names y = some .local) (ho : eL scope.names y = true)
  (h1 : ∀ p ∈ scope.names, p.2 = .free → cl.lookup p.1 = env.cells.lookup p.1) (h2 : ∀ x c, cl.lookup x = some c → env.cells.lookup x = some c)
  (hn : s.heap.Ns Cf m) (hm : m y = some v) (hv : aN V v) (hh : Hid base H s Cf) : Loc scope.names sl (ρ.set i V) (compEnvC scope cl Cf env) H s where
 kind := hk
 glob := L.glob
 bi := L.bi
 dw := fun x => by
  rw [cW]
  cases e : lk scope.names x with
  | none => trivial
  | some k =>
   cases k
   case free =>
    show some _ = some _ ∨ some _ = some _
    dsimp only
    split
    ·exact .inl rfl
    ·exact .inr rfl
   all_goals simp [iD]
 ns := ⟨m, hn, fun j u hj e kk => by
  rw [cW] at kk
  cases q : lk scope.names (sl.getD j Str.empty) with
  | none => rw [q] at kk; cases kk
  | some k =>
   rw [q] at kk
   have hloc : k = .local := by
    simp only [Option.map_some, Option.some.injEq] at kk
    split at kk
    ·cases kk
    ·exact kk
   subst hloc
   have hmem := cV q
   unfold eL at ho
   rw [List.all_eq_true] at ho
   have e0 := ho _ hmem
   simp only [Bool.or_eq_true] at e0
   have e1 := seq_eq (e0.resolve_right (by rw [L.rJ j hj]; exact Bool.false_ne_true))
   have e2 : j = i := L.inj j i hj hi (e1.trans hy)
   subst e2
   simp only [ap.set, if_true, Option.some.injEq] at e
   subst e
   exact ⟨v, by rw [← hy]; exact hm, hv⟩⟩
 cells := fun j u hj e kk => by
  rw [cW] at kk
  have hfree : lk scope.names (sl.getD j Str.empty) = some .free := by
   unfold cr at hf
   rw [List.all_eq_true] at hf
   cases q : lk scope.names (sl.getD j Str.empty) with
   | none => rw [q] at kk; simp at kk
   | some k =>
    rw [q] at kk
    have := hf _ (cV q)
    cases k <;> simp at kk <;> first | rfl | (exact absurd this Bool.false_ne_true)
  have hmem := cV hfree
  have hne : j ≠ i := fun e => by
   subst e
   rw [hy, hfree] at hl
   cases hl
  have eρ : ρ j = some u := by
   simp only [ap.set, if_neg hne] at e
   exact e
  have hout : env.kindOf (sl.getD j Str.empty) = some .cell ∨ env.kindOf (sl.getD j Str.empty) = some .free := by
   unfold cr at hf
   rw [List.all_eq_true] at hf
   have a := hf _ hmem
   simp only [Bool.and_eq_true] at a
   have b := L.dw (sl.getD j Str.empty)
   cases q : lk names (sl.getD j Str.empty) with
   | none => rw [q] at a; exact absurd a.1 Bool.false_ne_true
   | some k =>
    rw [q] at a b
    cases k <;> simp [isVar, iD] at a b <;> first | exact b | exact .inl b
  obtain ⟨c, x, a1, a2, a3⟩ := L.cells j u hj eρ hout
  exact ⟨c, x, (h1 _ hmem rfl).trans a1, a2, a3⟩
 off := hh.quiet.1
 jG := fun x c e => L.jG x c (h2 x c e)
 live := fun x c e => L.live x c (h2 x c e)
 cl := fun x kk => by
  have hfree : lk scope.names x = some .free := by
   unfold cr at hf
   rw [List.all_eq_true] at hf
   rw [cW] at kk
   cases q : lk scope.names x with
   | none => rw [q] at kk; simp at kk
   | some k =>
    rw [q] at kk
    have := hf _ (cV q)
    cases k <;> simp at kk <;> first | rfl | (exact absurd this Bool.false_ne_true)
  have hmem := cV hfree
  unfold cr at hf
  rw [List.all_eq_true] at hf
  have a := hf _ hmem
  simp only [Bool.and_eq_true] at a
  have b := L.dw x
  have : env.kindOf x = some .cell ∨ env.kindOf x = some .free := by
   cases q : lk names x with
   | none => rw [q] at a; exact absurd a.1 Bool.false_ne_true
   | some k =>
    rw [q] at a b
    cases k <;> simp [isVar, iD] at a b <;> first | exact b | exact .inl b
  obtain ⟨c, e⟩ := L.cl x this
  exact ⟨c, (h1 _ hmem rfl).trans e⟩
 rJ := L.rJ
 inj := L.inj
end
section
variable {prog : Program} {w : World} {base : Heap} {ac : OsState} {K : Frag} {C : Cfg} {tb : Tb} {fv : Nat → Value} {k : Nat}
theorem Hid.at {H : Hp} {s s' : Shared} {b c : Nat} (h : Hid base H s b) (hk : ∀ a o, a ≠ c → s.heap.get? a = some o → s'.heap.get? a = some o) (ex : ∃ o, s'.heap.get? c = some o) : Hid base H s' b :=
 ⟨h.1, h.2.1, (Decidable.em (b = c)).elim (fun e => e ▸ ex) fun e => h.2.2.imp fun o z => hk b o e z⟩
theorem Quiet.at {H : Hp} {s s' : Shared} {b c : Nat} (h : Quiet H s b) (hk : ∀ a o, a ≠ c → s.heap.get? a = some o → s'.heap.get? a = some o) (ex : ∃ o, s'.heap.get? c = some o) : Quiet H s' b :=
 ⟨h.1, (Decidable.em (b = c)).elim (fun e => e ▸ ex) fun e => h.2.imp fun o z => hk b o e z⟩
structure Bd (base : Heap) (ac : OsState) (H : Hp) (s : Shared) (I D Cf : Nat) (fp : List Nat) (H' : Hp) (s' : Shared) : Prop where
 R : Rep base ac H' s'
 x : Step aL H s H' s'
 hI : Hid base H' s' I
 hD : Hid base H' s' D
 hC : Hid base H' s' Cf
 q : ∀ b ∈ fp, b = I ∨ Quiet H' s' b
section
variable {H H' aH : Hp} {s s' s'' : Shared} {I D Cf c : Nat} {fp : List Nat}
theorem Bd.step (B : Bd base ac H s I D Cf fp H' s') (R : Rep base ac aH s'') (y : Step aL H' s' aH s'') : Bd base ac H s I D Cf fp aH s'' :=
 ⟨R, B.x.trans y, B.hI.step y, B.hD.step y, B.hC.step y, fun b hb => (B.q b hb).imp id fun q => q.step y id⟩
theorem Bd.at (B : Bd base ac H s I D Cf fp H' s') (hc : Hid base H' s' c) (fc : s.heap.get? c = none) (hk : ∀ a o, a ≠ c → s'.heap.get? a = some o → s''.heap.get? a = some o) (ex : ∃ o, s''.heap.get? c = some o)
  (ho : s''.os = s'.os) (hg : s''.gens = s'.gens) : Bd base ac H s I D Cf fp H' s'' :=
 ⟨B.R.hid hc.1 hc.2.1 hk ho hg, B.x.hid fc hk, B.hI.at hk ex, B.hD.at hk ex, B.hC.at hk ex, fun b hb => (B.q b hb).imp id fun q => q.at hk ex⟩
theorem Bd.frame {w : World} {A : Around} {src : Option Nat} {items : List V} {St : Nat → Heap → Prop} {i : Nat} (W : Wk prog w A base ac I src items St fp) (B : Bd base ac H s I D Cf fp H' s') (y : Step aL H' s' aH s'') (st : St i s'.heap) : St i s''.heap :=
 W.frame _ _ _ st fun b hb o e => (B.q b hb).elim (fun z => (z ▸ B.hI.quiet).get y id e) fun z => z.get y id e
end
theorem vO {C : Cfg} {cg : E} {ρ : ap} {H : Hp} {Q : Bool → Hp → Prop} {P : Prop} (h : qp cg = true) (hq : ce C cg ρ H Q) (g : Q true H → P) : P := by
 cases cg <;> first | exact absurd h Bool.false_ne_true | skip
 rename_i b
 cases b
 ·cases h
 ·exact g hq
inductive DV (base : Heap) (ac : OsState) (H : Hp) (s : Shared) (I D Cf : Nat) (fp : List Nat) (St : Nat → Heap → Prop) (items : List V) (P : List V → List V → Hp → Prop) (n : Nat) (s' : Shared) : Prop
 | mk (H' : Hp) (acc : List V) (ws : Array Value) (nn i : Nat) (m : Str → Option Value) (B : Bd base ac H s I D Cf fp H' s') (st : St i s'.heap) (dD : s'.heap.get? D = some { cls := .type "list", data := .seq ws nn }) (rel : aF acc ws.toList)
  (hn : s'.heap.Ns Cf m) (hq : P (items.drop i) acc H') (hi : i ≤ items.length) (e : n = items.length + 1 - i)
theorem lg {names : bA} {sl : List Str} {A : Around} {ρ : ap} {env : PySem.Env} {H : Hp} {s : Shared} {Eh : Value → Shared → Prop} {elt iter : Expr} {px : Pos} {ifs : List Expr} {scope : Scope} {pos : Pos} {x : Nat} {y : Str} {fQ fX cg : E}
  {cl : List (Str × Addr)} {Q' : List V → Hp → Prop} {RR : Value → Addr → Result → Shared → Prop}
  (c9 : tq (aI tb scope.names sl cg) (qp cg) ifs = true)
  (he : PE prog w base ac C tb k fQ) (hi : PE prog w base ac C tb k fX) (hc : PT prog w base ac C tb k cg)
  (c1 : x < sl.length) (c2 : y = sl.getD x Str.empty) (c3 : scope.kind = .function) (c4 : cr scope.names names = true) (HO : gi scope.names = true) (c5 : eL scope.names y = true) (c6 : lk scope.names y = some .local)
  (c7 : aI tb names sl fX iter = true) (c8 : aI tb scope.names sl fQ elt = true)
  (k1 : ∀ p ∈ scope.names, p.2 = .free → cl.lookup p.1 = env.cells.lookup p.1) (k2 : ∀ x c, cl.lookup x = some c → env.cells.lookup x = some c)
  (hA : dv A k) (R : Rep base ac H s) (L : Loc names sl ρ env H s)
  (h : ay C fX ρ H fun v H₁ => ∃ src items, Src v H₁ src items ∧ eg (ce C cg) (ay C fQ) src items x ρ items [] H₁ Q')
  (hR : ∀ D Cf acc H' s' m, Q' acc H' → Rep base ac ((D, .list acc) :: H') s' → Step aL H s ((D, .list acc) :: H') s' → s.heap.get? D = none → s.heap.get? Cf = none → D ≠ Cf → Hid base ((D, .list acc) :: H') s' Cf → s'.heap.Ns Cf m → RR (.ref D) Cf (.ok .next) s') :
  wpAny (model prog w) A (eval iter env) (fun x s₁ => wpAny (model prog w) A (pyIter x) (fun it s₂ => wpAny (model prog w) A (newList []) (fun acc s₃ =>
   wpAny (model prog w) A (newFunctionEnv scope env.globals cl [] env.qual none .none (some env)) (fun cenv s₄ =>
    codeAny (model prog w) A (.compStart (.ListComp elt [⟨.Name y px, iter, ifs, 0⟩] scope pos) 0 it acc { cenv with scope := relabel scope env }) (RR acc cenv.locals) s₄) Eh s₃) Eh s₂) Eh s₁) Eh s := by
 refine aG (hi _ _ _ _ _ _ _ _ _ _ c7 hA R L h) fun V1 v1 H1 s1 q1 r1 R1 x1 => ?_
 obtain ⟨src, items, xK, q1⟩ := q1
 refine hB hA.hh R1 xK r1 fun St fp ob W st hfp => ?_
 replace hfp : ∀ b ∈ fp, b = s1.heap.objs.size ∨ Quiet H1 s1 b := fun b hb => (hfp b hb).imp id (·.2)
 have hcell : ∀ y ∈ scope.names, y.2 ≠ .cell := fun p hp e => by
  unfold cr at c4
  rw [List.all_eq_true] at c4
  have := c4 p hp
  rw [e] at this
  cases this
 have bW : s1.heap.get? s1.heap.objs.size = none := bL _
 generalize hs2 : ({ s1 with heap := s1.heap.push ob } : Shared) = s2
 have R2 : Rep base ac H1 s2 := hs2 ▸ R1.grow (s' := { s1 with heap := s1.heap.push ob }) (aU _ _) rfl rfl
 have x2 : Step aL H1 s1 H1 s2 := hs2 ▸ Step.grow (s' := { s1 with heap := s1.heap.push ob }) (aU _ _)
 have st2 : St 0 s2.heap := by rw [← hs2]; exact st
 have Ab := W.here 0 _ st2
 generalize hIe : s1.heap.objs.size = I at bW W hfp Ab ⊢
 refine wpAny_newObj_type (wpAny_newFunctionEnv hcell (by intro y hy; simp at hy) (fun h₁ hns₁ hsb₁ => ?_) c3)
 dsimp only at hns₁ hsb₁ ⊢
 generalize hH2 : s2.heap.push { cls := .type "list", dict := none, data := .seq ([] : List Value).toArray } = H2 at hns₁ hsb₁ ⊢
 have freshD : s2.heap.get? s2.heap.objs.size = none := bL _
 have hD2 : H2.get? s2.heap.objs.size = some { cls := .type "list", dict := none, data := .seq ([] : List Value).toArray } := by rw [← hH2]; exact Heap.get?_push_size _ rfl
 have hC : H2.objs.size = s2.heap.objs.size + 1 := by rw [← hH2, Heap.size_push]
 have fR : s2.heap.get? H2.objs.size = none := by
  cases e : s2.heap.get? H2.objs.size with
  | none => rfl
  | some o' => exact absurd (Heap.lt_size e) (by rw [hC]; exact Nat.not_lt.mpr (Nat.le_succ _))
 have rQ : H2.get? H2.objs.size = none := bL _
 have hDC : s2.heap.objs.size ≠ H2.objs.size := by rw [hC]; exact Nat.ne_of_lt (Nat.lt_succ_self _)
 generalize s2.heap.objs.size = D at freshD hD2 hDC ⊢
 generalize H2.objs.size = Cf at hns₁ hsb₁ fR rQ hDC ⊢
 have k12 : ∀ b o, s2.heap.get? b = some o → h₁.get? b = some o := fun b o e => hsb₁.extBut b o (fun q => by subst q; rw [fR] at e; cases e) (aU _ _ b o (hH2 ▸ aU _ _ b o e))
 have hne : I ≠ D ∧ I ≠ Cf := by
  obtain ⟨o, e⟩ := Ab
  exact ⟨(fun q => by rw [q, freshD] at e; cases e), (fun q => by rw [q, fR] at e; cases e)⟩
 have hD1 : h₁.get? D = some { cls := .type "list", dict := none, data := .seq ([] : List Value).toArray } := hsb₁.extBut _ _ hDC (aU _ _ _ _ hD2)
 have DW : ∀ b ∈ fp, b ≠ Cf := fun b hb q => by
  rcases hfp b hb with z | z
  ·exact hne.2 (z ▸ q)
  ·obtain ⟨o, e⟩ := (z.step x2 id).2
   subst q; rw [fR] at e; cases e
 have DX : ∀ b ∈ fp, b ≠ D := fun b hb q => by
  rcases hfp b hb with z | z
  ·exact hne.1 (z ▸ q)
  ·obtain ⟨o, e⟩ := (z.step x2 id).2
   subst q; rw [freshD] at e; cases e
 generalize rR : ({ s2 with heap := h₁, toks := s2.toks + ([] : List (Str × Value)).length } : Shared) = s4
 have xL : s4.heap = h₁ := by rw [← rR]
 have R4 : Rep base ac H1 s4 := rR ▸ R2.grow (s' := { s2 with heap := h₁, toks := s2.toks + ([] : List (Str × Value)).length }) k12 rfl rfl
 have x24 : Step aL H1 s2 H1 s4 := rR ▸ Step.grow (s' := { s2 with heap := h₁, toks := s2.toks + ([] : List (Str × Value)).length }) k12
 have x4 : Step aL H s H1 s4 := (x1.trans x2).trans x24
 have vP : Step aL H s H1 s2 := x1.trans x2
 have fI : s.heap.get? I = none := x1.fresh bW
 have fD : s.heap.get? D = none := vP.fresh freshD
 have fC : s.heap.get? Cf = none := vP.fresh fR
 have pu : Hid base H1 s4 I := ⟨(R1.fresh bW).1, (R1.fresh bW).2, x24.live _ _ Ab.choose_spec⟩
 have BK : Hid base H1 s4 D := ⟨(R2.fresh freshD).1, (R2.fresh freshD).2, _, by rw [xL]; exact hD1⟩
 have BL : s4.heap.Ns Cf (fun x => ([] : List (Str × Value)).reverse.lookup x) := by rw [xL]; exact hns₁
 have BM : Hid base H1 s4 Cf := ⟨(R2.fresh fR).1, (R2.fresh fR).2, by obtain ⟨o, _, _, e, _⟩ := BL; exact ⟨o, e⟩⟩
 have DY : St 0 s4.heap := W.frame _ _ _ st2 fun b hb o e => by rw [xL]; exact k12 b o e
 have B4 : Bd base ac H s I D Cf fp H1 s4 := ⟨R4, x4, pu, BK, BM, fun b hb => (hfp b hb).imp id fun q => (q.step x2 id).step x24 id⟩
 have FX : ∃ n, s4.heap.get? D = some { cls := .type "list", data := .seq #[] n } := ⟨_, by rw [xL]; exact hD1⟩
 clear rR xL hD1 Ab k12 hsb₁ hns₁ rQ hD2 freshD fR R2 x2 vP x24 st2 hs2 bW st hfp hIe pu BK BM x4 R4
 have loop : codeAny (model prog w) A (.compLoop (.ListComp elt [⟨.Name y px, iter, ifs, 0⟩] scope pos) 0 (.ref I) (.ref D) (compEnvC scope cl Cf env)) (RR (.ref D) Cf) s4 := by
  refine codeAny_compLoop_tests (DV base ac H s I D Cf fp St items fun l acc H' => eg (ce C cg) (ay C fQ) src items x ρ l acc H' Q') ?_ (items.length + 1) ?_
  ·rintro n s' ⟨H', acc, ws, nn, i, m, B, st, dD, rel, hn, hq, hi', rfl⟩
   by_cases hlt : i < items.length
   ·rw [List.drop_eq_getElem_cons hlt] at hq
    obtain ⟨al, hq⟩ := hq
    refine W.item i items[i] s' H' _ _ (by simp [hlt]) B.R al st fun v h' tk hv st' hk hex => ?_
    have Ba : Bd base ac H s I D Cf fp H' { s' with heap := h', toks := tk } := B.at B.hI fI hk hex rfl rfl
    have DZ := hk _ _ (Ne.symm hne.1) dD
    have hna : h'.Ns Cf m := hn.at' fun o e => hk _ o (Ne.symm hne.2) e
    refine wpAny_assign_Name (wpAny_storeName_local (by rw [cW, c6]; rfl) hna (fun h2 hn' hs' => ?_) (by simp [compEnvC, relabel, c3]))
    have Bb : Bd base ac H s I D Cf fp H' { s' with heap := h2, toks := tk + 1 } := Ba.at (s'' := { s' with heap := h2, toks := tk + 1 }) Ba.hC fC hs'.extBut (by obtain ⟨o, _, _, e, _⟩ := hn'; exact ⟨o, e⟩) rfl rfl
    have Ac : St (i + 1) h2 := W.frame _ _ _ st' fun b hb o e => hs'.extBut b o (DW b hb) e
    have D0 := hs'.extBut _ _ hDC DZ
    generalize hsb : ({ s' with heap := h2, toks := tk + 1 } : Shared) = sb at Bb
    have hh : h2 = sb.heap := by rw [← hsb]
    rw [hh] at hn' Ac D0
    clear hna DZ Ba hs' hk hex st' dD hn st B hsb hh
    have Lb : Loc scope.names sl (ρ.set x items[i]) (compEnvC scope cl Cf env) H' sb := vN (L.step Bb.x) c3 c1 c2 c4 c6 c5 k1 k2 hn' (by simp) hv Bb.hC
    have tests : wpAny (model prog w) A (forIn ifs true fun c r => if r = true then do let ok ← isTrue c (compEnvC scope cl Cf env) (eval c (compEnvC scope cl Cf env)); pure (ForInStep.yield ok) else pure (ForInStep.yield r))
      (mX base ac aL H' sb (fun b H₁ => match b with
       | true => ay C fQ (ρ.set x items[i]) H₁ (fun v H₂ => acc.length ≤ 1000 ∧ eg (ce C cg) (ay C fQ) src items x ρ (items.drop (i + 1)) (acc ++ [v]) H₂ Q')
       | false => eg (ce C cg) (ay C fQ) src items x ρ (items.drop (i + 1)) acc H₁ Q'))
      (notedBy (model prog w) A (compEnvC scope cl Cf env) fun e s' => RR (.ref D) Cf (.error e) s') sb := by
     cases ifs with
     | nil => exact vO c9 hq fun q => wpAny_tests_nil (cv Step.refl Bb.R rfl q)
     | cons c r => exact eO (ag c9).2 (wpAny_tests_one (hc _ _ _ _ _ _ _ _ _ _ (ag c9).1 hA Bb.R Lb hq))
    refine aG tests fun b b' Hc sc qc rc Rc xc => ?_
    subst rc
    have Bc := Bb.step Rc xc
    have xM := Bb.frame W xc Ac
    have D1 := Bb.hD.quiet.get xc id D0
    have hnc : sc.heap.Ns Cf _ := hn'.at' fun o e => Bb.hC.quiet.get xc id e
    cases b with
    | false => exact ⟨items.length + 1 - (i + 1), Nat.sub_lt_sub_left (Nat.lt_succ_of_lt hlt) (Nat.lt_succ_self _), Hc, acc, ws, nn, i + 1, _, Bc, xM, D1, rel, hnc, qc, hlt, rfl⟩
    | true =>
     refine aG (he _ _ _ _ _ _ _ _ _ _ c8 hA Rc (Lb.step xc) qc) fun V2 v2 Hd sd qd rd Rd xd => ?_
     have D2 := Bc.step Rd xd
     have std := Bc.frame W xd xM
     have FY := Bc.hD.quiet.get xd id D1
     have hnd : sd.heap.Ns Cf _ := hnc.at' fun o e => Bc.hC.quiet.get xd id e
     have hlen := rel.length
     rw [Array.length_toList] at hlen
     refine wpAny_list_append_plain ⟨nn, FY⟩ (fun h' hl' hs' => ?_) (aX (by have := qd.1; omega))
     obtain ⟨nn', hl'⟩ := hl'
     exact ⟨items.length + 1 - (i + 1), Nat.sub_lt_sub_left (Nat.lt_succ_of_lt hlt) (Nat.lt_succ_self _), Hd, acc ++ [V2], ws.push v2, nn', i + 1, _, D2.at (s'' := { sd with heap := h' }) D2.hD fD hs'.extBut ⟨_, hl'⟩ rfl rfl,
      W.frame _ _ _ std fun b hb o e => hs'.extBut b o (DX b hb) e, hl', by rw [Array.toList_push]; exact rel.append (.cons rd .nil), hnd.at' fun o e => hs'.extBut _ o (Ne.symm hDC) e, qd.2, hlt, rfl⟩
   ·obtain rfl : i = items.length := Nat.le_antisymm hi' (Nat.le_of_not_lt hlt)
    rw [List.drop_length] at hq
    obtain ⟨al, hq⟩ := hq
    refine W.done s' H' _ _ B.R al st fun h' tk hk => ?_
    refine hR D Cf acc H' { s' with heap := h', toks := tk } m hq ((B.R.hid (s' := { s' with heap := h', toks := tk }) B.hI.1 B.hI.2.1 hk rfl rfl).tA (B.hD.hid (Ne.symm hne.1) hk) ⟨ws, nn, hk _ _ (Ne.symm hne.1) dD, rel⟩)
     ((B.x.hid (s' := { s' with heap := h', toks := tk }) fI hk).tA fD) fD fC hDC ⟨B.hC.1, fun o q => ?_, (B.hC.hid (s' := { s' with heap := h', toks := tk }) (Ne.symm hne.2) hk).2.2⟩ (hn.at' fun o e => hk _ o (Ne.symm hne.2) e)
    rcases List.mem_cons.mp q with q | q
    ·injection q with q _; exact hDC q.symm
    ·exact B.hC.2.1 _ q
  ·obtain ⟨nn, e⟩ := FX
   exact ⟨H1, [], #[], nn, 0, _, B4, DY, e, .nil, BL, q1, Nat.zero_le _, rfl⟩
 exact codeAny_compStart_list loop (W.self 0 _ _ _ DY loop)
end
section
variable {prog : Program} {w : World} {base : Heap} {ac : OsState} {K : Frag} {C : Cfg} {tb : Tb} {fv : Nat → Value} {k : Nat}
theorem lh {ns : bA} (h : gi ns = true) : ∀ p ∈ ns, p.2 = .local → ns.lookup p.1 = some .local := fun p hp e => by
 unfold gi at h
 rw [List.all_eq_true] at h
 have a := h p hp
 rw [e] at a
 rw [← cJ]
 cases q : lk ns p.1 with
 | none => rw [q] at a; exact absurd a Bool.false_ne_true
 | some kk => rw [q] at a; cases kk <;> first | rfl | exact absurd a Bool.false_ne_true
theorem li {names : bA} {sl : List Str} {ρ : ap} {env : PySem.Env} {H : Hp} {s : Shared} {ns : bA} (h : cr ns names = true) (L : Loc names sl ρ env H s)
  (hc : ∀ x, (env.kindOf x = some .cell ∨ env.kindOf x = some .free) → ∃ c, env.cells.lookup x = some c) : ∀ p ∈ ns, p.2 = .free → ∃ c, env.cells.lookup p.1 = some c := fun p hp e => by
 unfold cr at h
 rw [List.all_eq_true] at h
 have a := h p hp
 rw [e] at a
 simp only [Bool.and_eq_true] at a
 refine hc _ ?_
 have b := L.dw p.1
 cases q : lk names p.1 with
 | none => rw [q] at a; exact absurd a.1 Bool.false_ne_true
 | some k =>
  rw [q] at a b
  cases k <;> simp [isVar, iD] at a b <;> first | exact b | exact .inl b
theorem xN {x : Nat} {fQ fX cg : E} (he : PE prog w base ac C tb k fQ) (hi : PE prog w base ac C tb k fX) (hc : PT prog w base ac C tb k cg) :
  PE prog w base ac C tb k (.comp x fQ fX cg) := by
 intro names sl ex A ρ env H s Q Eh hch hA R L h
 refine uL hch fun elt y px iter ifs scope pos d d9 Cq Cr => ?_
 obtain ⟨cl, k0, k1, k2⟩ := hH (li d.d4 L L.cl)
 rw [eval_ListComp]
 refine wpAny_comprehension_free (use := none) rfl (fun z => mW d.d8) k0 d.d3 (lh d.d5) ?_
 refine lg (RR := fun acc Cf => compPost (model prog w) A Eh none _ acc Cf) (Q' := fun acc H₂ => ∀ a, Q (.ref a) ((a, .list acc) :: H₂)) Cr he hi hc d.d1 d.d2 d.d3 d.d4 d.d5 d.d6 d.d7 d9 Cq k1 k2 hA R L h ?_
 intro D Cf acc H' s' m q R' x' fD fC hDC hC hn
 refine ⟨m, hn, fun h' hs' => ?_⟩
 exact cv (Rel := aN) (a := .ref D) (x'.hid (s' := { s' with heap := h' }) fC fun b o hb e => hs'.extBut b o hb e) (R'.hid (s' := { s' with heap := h' }) hC.1 hC.2.1 (fun b o hb e => hs'.extBut b o hb e) rfl rfl) rfl (q D)
mutual
theorem se (W : Wd prog w base ac K C tb fv k) : ∀ e, PE prog w base ac C tb k e
 | .var i => uM i
 | .ae i => xw i
 | .aA i => xy i
 | .aZ i => pq i
 | .bO => vF
 | .glob g => xz W g
 | .bin op a b => uN (se W a) (se W b)
 | .neg a => zM (se W a)
 | .inv a => zN (se W a)
 | .not a => zO (se W a)
 | .and_ es => zP (BN W es)
 | .or_ es => Co (D3 W es)
 | .cmp op a b => zQ (se W a) (se W b)
 | .gf op op' a b c => xA (se W a) (se W b) (se W c)
 | .du t a b => zR (m0 W t) (se W a) (se W b)
 | .call f es => rN W (rS W es)
 | .blt f es => zS W (rS W es)
 | .meth m o es => xC (se W o) (rS W es)
 | .gU f o es => vG W (se W o) (rS W es)
 | .attr o a => rO W (se W o)
 | .idx o i => uP (se W o) (se W i)
 | .slice o a b => vH (se W o) (se W a) (se W b)
 | .list es => xD (rS W es)
 | .tup es => zT (rS W es)
 | .comp x e i c => xN (se W e) (se W i) (m0 W c)
theorem rS (W : Wd prog w base ac K C tb fv k) : ∀ es, mY prog w base ac C tb k es
 | .nil => xE
 | .cons e r => vI (se W e) (rS W r)
theorem BN (W : Wd prog w base ac K C tb fv k) : ∀ es, rL prog w base ac C tb k es
 | .nil => vJ
 | .cons e r => tw (se W e) (BN W r)
theorem D3 (W : Wd prog w base ac K C tb fv k) : ∀ es, xv prog w base ac C tb k es
 | .nil => xF
 | .cons e r => vK (se W e) (D3 W r)
theorem m0 (W : Wd prog w base ac K C tb fv k) : ∀ e, PT prog w base ac C tb k e
 | .not a => zU (m0 W a)
 | .and_ es => zV (stand W es)
 | .or_ es => Cp (BO W es)
 | .du t a b => zW (m0 W t) (m0 W a) (m0 W b)
 | .cmp op a b => zX (se W a) (se W b)
 | .gf op op' a b c => xG (se W a) (se W b) (se W c)
 | .aZ b => vM b
 | .var i => zY i
 | .bin op a b => zZ (uN (se W a) (se W b))
 | .call f es => xH (rN W (rS W es))
 | .attr o a => xI (rO W (se W o))
 | .idx o i => Aa (uP (se W o) (se W i))
 | .ae _ => fun _ _ _ _ _ _ _ _ _ _ _ _ _ _ h => h.elim
 | .aA _ => fun _ _ _ _ _ _ _ _ _ _ _ _ _ _ h => h.elim
 | .bO => fun _ _ _ _ _ _ _ _ _ _ _ _ _ _ h => h.elim
 | .glob _ => fun _ _ _ _ _ _ _ _ _ _ _ _ _ _ h => h.elim
 | .neg _ => fun _ _ _ _ _ _ _ _ _ _ _ _ _ _ h => h.elim
 | .inv _ => fun _ _ _ _ _ _ _ _ _ _ _ _ _ _ h => h.elim
 | .blt _ _ => fun _ _ _ _ _ _ _ _ _ _ _ _ _ _ h => h.elim
 | .meth _ _ _ => fun _ _ _ _ _ _ _ _ _ _ _ _ _ _ h => h.elim
 | .gU _ _ _ => fun _ _ _ _ _ _ _ _ _ _ _ _ _ _ h => h.elim
 | .slice _ _ _ => fun _ _ _ _ _ _ _ _ _ _ _ _ _ _ h => h.elim
 | .list _ => fun _ _ _ _ _ _ _ _ _ _ _ _ _ _ h => h.elim
 | .tup _ => fun _ _ _ _ _ _ _ _ _ _ _ _ _ _ h => h.elim
 | .comp _ _ _ _ => fun _ _ _ _ _ _ _ _ _ _ _ _ _ _ h => h.elim
theorem stand (W : Wd prog w base ac K C tb fv k) : ∀ es, mZ prog w base ac C tb k es
 | .nil => tx
 | .cons e r => rP (m0 W e) (stand W r)
theorem BO (W : Wd prog w base ac K C tb fv k) : ∀ es, rM prog w base ac C tb k es
 | .nil => vL
 | .cons e r => ty (m0 W e) (BO W r)
end
end
noncomputable def pv : Option NameKind → Bool
 | some .local => true
 | some .cell => true
 | _ => false
noncomputable def iE (x : Stmt) (f : Option Expr → Bool) : Bool := if h : x.ctorIdx = 3 then Stmt.Return.elim (motive_2 := fun _ => Bool) x h (fun m _ => f m) else false
@[elab_as_elim] theorem hO {x f} {P : Stmt → Prop} (e : iE x f = true) (g : ∀ m p, f m = true → P (.Return m p)) : P x := (bS e).elim fun h _ => Stmt.Return.elim (motive_2 := fun x => iE x f = true → P x) x h g e
noncomputable def dJ (x : Stmt) (f : List Expr → Expr → Bool) : Bool := if h : x.ctorIdx = 5 then Stmt.Assign.elim (motive_2 := fun _ => Bool) x h (fun es a _ => f es a) else false
@[elab_as_elim] theorem dW {x f} {P : Stmt → Prop} (e : dJ x f = true) (g : ∀ es a p, f es a = true → P (.Assign es a p)) : P x := (bS e).elim fun h _ => Stmt.Assign.elim (motive_2 := fun x => dJ x f = true → P x) x h g e
noncomputable def cX (x : Stmt) (f : Expr → Operator → Expr → Bool) : Bool := if h : x.ctorIdx = 7 then Stmt.AugAssign.elim (motive_2 := fun _ => Bool) x h (fun a o b _ => f a o b) else false
@[elab_as_elim] theorem eS {x f} {P : Stmt → Prop} (e : cX x f = true) (g : ∀ a o b p, f a o b = true → P (.AugAssign a o b p)) : P x := (bS e).elim fun h _ => Stmt.AugAssign.elim (motive_2 := fun x => cX x f = true → P x) x h g e
noncomputable def tB (x : Stmt) (f : Expr → Expr → List Stmt → List Stmt → Bool) : Bool := if h : x.ctorIdx = 9 then Stmt.For.elim (motive_2 := fun _ => Bool) x h (fun a b ss ts _ => f a b ss ts) else false
@[elab_as_elim] theorem xO {x f} {P : Stmt → Prop} (e : tB x f = true) (g : ∀ a b ss ts p, f a b ss ts = true → P (.For a b ss ts p)) : P x := (bS e).elim fun h _ => Stmt.For.elim (motive_2 := fun x => tB x f = true → P x) x h g e
noncomputable def m8 (x : Stmt) (f : Expr → List Stmt → List Stmt → Bool) : Bool := if h : x.ctorIdx = 11 then Stmt.While.elim (motive_2 := fun _ => Bool) x h (fun a ss ts _ => f a ss ts) else false
@[elab_as_elim] theorem tC {x f} {P : Stmt → Prop} (e : m8 x f = true) (g : ∀ a ss ts p, f a ss ts = true → P (.While a ss ts p)) : P x := (bS e).elim fun h _ => Stmt.While.elim (motive_2 := fun x => m8 x f = true → P x) x h g e
noncomputable def xP (x : Stmt) (f : Expr → List Stmt → List Stmt → Bool) : Bool := if h : x.ctorIdx = 12 then Stmt.If.elim (motive_2 := fun _ => Bool) x h (fun a ss ts _ => f a ss ts) else false
@[elab_as_elim] theorem Ad {x f} {P : Stmt → Prop} (e : xP x f = true) (g : ∀ a ss ts p, f a ss ts = true → P (.If a ss ts p)) : P x := (bS e).elim fun h _ => Stmt.If.elim (motive_2 := fun x => xP x f = true → P x) x h g e
noncomputable def tD (x : Stmt) (f : List Stmt → List ExceptHandler → List Stmt → List Stmt → Bool) : Bool := if h : x.ctorIdx = 17 then Stmt.Try.elim (motive_2 := fun _ => Bool) x h (fun ss hs ts us _ => f ss hs ts us) else false
@[elab_as_elim] theorem xQ {x f} {P : Stmt → Prop} (e : tD x f = true) (g : ∀ ss hs ts us p, f ss hs ts us = true → P (.Try ss hs ts us p)) : P x := (bS e).elim fun h _ => Stmt.Try.elim (motive_2 := fun x => tD x f = true → P x) x h g e
noncomputable def qx (x : Stmt) (f : Expr → Bool) : Bool := if h : x.ctorIdx = 24 then Stmt.Expr.elim (motive_2 := fun _ => Bool) x h (fun a _ => f a) else false
@[elab_as_elim] theorem vQ {x f} {P : Stmt → Prop} (e : qx x f = true) (g : ∀ a p, f a = true → P (.Expr a p)) : P x := (bS e).elim fun h _ => Stmt.Expr.elim (motive_2 := fun x => qx x f = true → P x) x h g e
@[elab_as_elim] theorem Ae {x} {P : Stmt → Prop} (e : decide (x.ctorIdx = 27) = true) (g : ∀ p, P (.Continue p)) : P x := Stmt.Continue.elim (motive_2 := P) x (of_decide_eq_true e) g
noncomputable def onStr (v : Const) (f : Str → Bool) : Bool := if h : v.ctorIdx = 5 then Const.str.elim (motive := fun _ => Bool) v h f else false
@[elab_as_elim] theorem xR {v f} {P : Const → Prop} (e : onStr v f = true) (g : ∀ y, f y = true → P (.str y)) : P v := (bS e).elim fun h _ => Const.str.elim (motive := fun v => onStr v f = true → P v) v h g e
noncomputable def uQ (x : Option Expr) (f : Expr → Bool) : Bool := match x with
 | some a => f a
 | none => false
@[elab_as_elim] theorem pA {x f} {P : Option Expr → Prop} (e : uQ x f = true) (g : ∀ a, f a = true → P (some a)) : P x := by cases x with | none => cases e | some a => exact g a e
@[elab_as_elim] theorem xS {α : Type} {l : List α} {P : List α → Prop} (e : (!l.isEmpty) = true) (g : ∀ x r, P (x :: r)) : P l := by cases l with | nil => cases e | cons x r => exact g x r
noncomputable def jH (x : Expr) : Bool := !(lJ 8 x || (lJ 9 x || lJ 10 x))
theorem iF {v : Expr} {t : Option Expr} {n : Nat} {env : PySem.Env} (h : jH v = true) : swapsWith v t n env = pure false := by
 cases v <;> first | rfl | exact absurd h Bool.false_ne_true
noncomputable def noTuple (x : Expr) : Bool := lJ 8 x || (lJ 21 x || lJ 23 x)
theorem uR {v : Expr} {ts ctx tp n} {env : PySem.Env} (h : noTuple v = true) : swapsWithSole [Expr.Tuple ts ctx tp] v n env = pure false ∧ swappedStores [Expr.Tuple ts ctx tp] v env = pure none := by
 rcases mU h with h | h
 ·exact Expr.ListComp.elim (motive_1 := fun v => swapsWithSole [Expr.Tuple ts ctx tp] v n env = pure false ∧ swappedStores [Expr.Tuple ts ctx tp] v env = pure none) v (of_decide_eq_true h) fun _ _ _ _ => ⟨rfl, rfl⟩
 rcases mU h with h | h
 ·exact Expr.Subscript.elim (motive_1 := fun v => swapsWithSole [Expr.Tuple ts ctx tp] v n env = pure false ∧ swappedStores [Expr.Tuple ts ctx tp] v env = pure none) v (of_decide_eq_true h) fun _ _ _ => ⟨rfl, rfl⟩
 ·exact qn h fun _ _ => ⟨rfl, rfl⟩
noncomputable def xT : E → Bool
 | .comp .. => true
 | _ => false
theorem xU {e : E} (h : xT e = true) : ∃ x a b c, e = .comp x a b c := by cases e <;> first | exact ⟨_, _, _, _, rfl⟩ | exact (Bool.false_ne_true h).elim
noncomputable def i' (names : bA) (sl : List Str) (i : Nat) (y : Str) : Bool := Nat.blt i sl.length && seq y (sl.getD i Str.empty) && pv (lk names y)
theorem uS {names sl i y} (h : i' names sl i y = true) : i < sl.length ∧ y = sl.getD i Str.empty ∧ pv (lk names y) = true :=
 ⟨qr (ag (ag h).1).1, seq_eq (ag (ag h).1).2, (ag h).2⟩
theorem Af {o} (h : pv o = true) : o = some .local ∨ o = some .cell := by
 cases o with
 | none => cases h
 | some k => cases k <;> first | exact .inl rfl | exact .inr rfl | cases h
theorem vR {o} (h : pv o = true) : isVar o = true := by rcases Af h with rfl | rfl <;> rfl
noncomputable def D4 (names : bA) (sl : List Str) (i : Nat) (x : Expr) : Bool := bK x fun y => i' names sl i y
noncomputable def qy (names : bA) (sl : List Str) : List Nat → List Expr → Bool
 | [], [] => true
 | i :: is, x :: xs => D4 names sl i x && qy names sl is xs
 | _, _ => false
noncomputable def xV (names : bA) (sl : List Str) (i k : Nat) (y y' m d z f z' : Str) : Bool :=
 i' names sl i y && (Nat.blt i sl.length && (seq y' (sl.getD i Str.empty) && (isVar (lk names y') && (bw y' && (seq m "replace" && (rI d.cps.toList [46] &&
  (Nat.blt k sl.length && (seq z (sl.getD k Str.empty) && (isVar (lk names z) && (bw z && (seq z' (sl.getD k Str.empty) && (isVar (lk names z') && (bw z' && (seq f "str" && (mM (lk names f) && bw f)))))))))))))))
mutual
noncomputable def BP (tb : Tb) (names : bA) (sl : List Str) : S → Stmt → Bool
 | .ex e => fun x => qx x fun v => jH v && aI tb names sl e v
 | .asg i e => fun x => dJ x fun ts v => mR ts fun t => bK t fun y => i' names sl i y && ((jH v || xT e) && aI tb names sl e v)
 | .p9 is e => fun x => dJ x fun ts v => mR ts fun t => jF t fun ts => qy names sl is ts && (noTuple v && aI tb names sl e v)
 | .aE o a e => fun x => dJ x fun ts v => mR ts fun t => bJ t fun oe name _ => seq name (attrName a) && (jH v && (aI tb names sl o oe && aI tb names sl e v))
 | .cM o i e => fun x => dJ x fun ts v => mR ts fun t => cy t fun oe ie => mV ie && (jH v && (aI tb names sl o oe && (aI tb names sl i ie && aI tb names sl e v)))
 | .aQ i op e => fun x => cX x fun t op' v => bK t fun y => decide (op = op') && (i' names sl i y && (bw y && aI tb names sl e v))
 | .mB o a op e => fun x => cX x fun t op' v => bJ t fun oe name _ => decide (op = op') && (seq name (attrName a) && (aI tb names sl o oe && aI tb names sl e v))
 | .gM o i op e => fun x => cX x fun t op' v => cy t fun oe ie => decide (op = op') && (mV ie && (aI tb names sl o oe && (aI tb names sl i ie && aI tb names sl e v)))
 | .ite t a b => fun x => xP x fun t' a' b' => aI tb names sl t t' && (hX tb names sl a a' && hX tb names sl b b')
 | .for_ i it b => fun x => tB x fun t it' b' r => bK t fun y => r.isEmpty && (i' names sl i y && (qo it' && (aI tb names sl it it' && hX tb names sl b b')))
 | .fH t b => fun x => m8 x fun t' b' r => r.isEmpty && (aI tb names sl t t' && hX tb names sl b b')
 | .ret e => fun x => iE x fun v => uQ v fun v => aI tb names sl e v
 | .uH => fun x => iE x fun v => v.isNone
 | .cont => fun x => decide (x.ctorIdx = 27)
 | .try_ b => fun x => tD x fun b' hs r u => !hs.isEmpty && (r.isEmpty && (u.isEmpty && hX tb names sl b b'))
 | .raise => fun _ => true
 | .rep i k => fun x => dJ x fun ts v => mR ts fun t => bK t fun y => fL v fun g as kw pos => bJ g fun n m apos => bK n fun y' => kw.isEmpty && ((apos.endLine == pos.line) &&
  zH as fun a b => jE a fun l op r => ct l fun d => bK r fun z => fL b fun h bs kw' _ => bK h fun f => mR bs fun q => bK q fun z' => kw'.isEmpty && (decide (.Mult = op) && onStr d fun d => xV names sl i k y y' m d z f z'))
noncomputable def hX (tb : Tb) (names : bA) (sl : List Str) : Ss → List Stmt → Bool
 | .nil => fun x => x.isEmpty
 | .cons s r => fun x => match x with
  | x :: xs => BP tb names sl s x && hX tb names sl r xs
  | [] => false
end
noncomputable def Own (env : PySem.Env) (b : Nat) : Prop := b = env.locals ∨ ∃ x, env.cells.lookup x = some b
structure Fr (base : Heap) (env : PySem.Env) (H : Hp) (s : Shared) : Prop where
 loc : Hid base H s env.locals
 Cs : ∀ x c, env.cells.lookup x = some c → Hid base H s c
 uniq : ∀ x y c, env.cells.lookup x = some c → env.cells.lookup y = some c → x = y
section
variable {prog : Program} {w : World} {A : Around} {Eh : Value → Shared → Prop} {base : Heap} {ac : OsState} {H H' : Hp} {s s' : Shared} {X : Nat → Prop}
 {names : bA} {sl : List Str} {ρ : ap} {env : PySem.Env}
theorem Fr.step (f : Fr base env H s) (x : Step X H s H' s') : Fr base env H' s' := ⟨f.loc.step x, fun y c e => (f.Cs y c e).step x, f.uniq⟩
theorem jI {h : Heap} {a : Nat} {m : Str → Option Value} {v : Option Value} (n : h.Ns a m) (c : h.IsCell a v) : False := by
 obtain ⟨o, es, ep, ho, hd, _⟩ := n
 obtain ⟨o', ho', hd'⟩ := c
 rw [ho] at ho'
 injection ho' with e
 subst e
 rw [hd] at hd'
 cases hd'
theorem cz {i : Nat} {y : Str} {V : V} {v : Value} {Q : Unit → Shared → Prop} (hc : i' names sl i y = true) (R : Rep base ac H s) (L : Loc names sl ρ env H s) (F : Fr base env H s) (hv : aN V v)
  (g : ∀ s', Rep base ac H s' → Loc names sl (ρ.set i V) env H s' → Step (Own env) H s H s' → Q () s') : wpAny (model prog w) A (storeName env y v) Q Eh s := by
 obtain ⟨hi, hy, h3⟩ := uS hc
 clear hc
 have kd := L.dw y
 obtain ⟨m, hm, hl⟩ := L.ns
 have keys : ∀ {b : Nat} {h' : Heap} {tk : Nat}, Own env b → Hid base H s b → Heap.SameBut b s.heap h' → (∃ o, h'.get? b = some o) → Rep base ac H { s with heap := h', toks := tk } ∧ Step (Own env) H s H { s with heap := h', toks := tk } := by
  intro b h' tk ho hb hs hex
  refine ⟨R.hid (s' := { s with heap := h', toks := tk }) hb.1 hb.2.1 (fun a o q e => hs.extBut a o q e) rfl rfl, ?_⟩
  exact ⟨fun a o e _ q => hs.extBut a o (fun z => q (z ▸ ho)) e, fun a z => .inl z, fun a o e => by
   by_cases q : a = b
   ·subst q; exact hex
   ·exact ⟨o, hs.extBut a o q e⟩, fun a o z => .inl ⟨o, z⟩⟩
 cases hk : lk names y with
 | none => rw [hk] at h3; cases h3
 | some kk =>
  rw [hk] at h3 kd
  cases kk <;> first | cases h3 | skip
  case some.local.refl =>
   have vS : env.kindOf y = some .local := kd
   refine wpAny_storeName_local vS hm (fun h' hn' hs' => ?_) (by rw [L.kind]; rfl)
   have ex : ∃ o, h'.get? env.locals = some o := by obtain ⟨o, _, _, e, _⟩ := hn'; exact ⟨o, e⟩
   obtain ⟨R', x'⟩ := keys (tk := s.toks + 1) (.inl rfl) F.loc hs' ex
   have kc : ∀ x c, env.cells.lookup x = some c → c ≠ env.locals := fun x c e q => by
    obtain ⟨z, hz⟩ := L.live x c e
    exact jI hm (q ▸ hz)
   refine g _ R' ⟨L.kind, L.glob, L.bi, L.dw, ⟨_, hn', fun j u hj e kj => ?_⟩, fun j u hj e kj => ?_, L.off, L.jG, fun x c e => ?_, L.cl, L.rJ, L.inj⟩ x'
   ·by_cases q : j = i
    ·subst q
     simp only [ap.set, if_true, Option.some.injEq] at e
     subst e
     exact ⟨v, by simp only [← hy, if_true], hv⟩
    ·simp only [ap.set, if_neg q] at e
     obtain ⟨z, a, b⟩ := hl j u hj e kj
     refine ⟨z, ?_, b⟩
     rw [if_neg (fun z => q (L.inj j i hj hi (z.trans hy))), a]
   ·have q : j ≠ i := fun q => by
     subst q
     rw [← hy, vS] at kj
     rcases kj with kj | kj <;> cases kj
    simp only [ap.set, if_neg q] at e
    obtain ⟨c, z, a1, a2, a3⟩ := L.cells j u hj e kj
    exact ⟨c, z, a1, a2.sameBut hs' (kc _ _ a1), a3⟩
   ·obtain ⟨z, hz⟩ := L.live x c e
    exact ⟨z, hz.sameBut hs' (kc x c e)⟩
  case some.cell.refl =>
   have vS : env.kindOf y = some .cell := kd
   ·skip
    obtain ⟨c, hc⟩ := L.cl y (.inl vS)
    obtain ⟨v₀, xW⟩ := L.live y c hc
    have kc : c ≠ env.locals := fun q => jI hm (q ▸ xW)
    refine wpAny_storeName_cell L.kind vS hc xW fun h' hn' hs' => ?_
    have ex : ∃ o, h'.get? c = some o := by obtain ⟨o, e, _⟩ := hn'; exact ⟨o, e⟩
    obtain ⟨R', x'⟩ := keys (tk := s.toks) (.inr ⟨y, hc⟩) (F.Cs y c hc) hs' ex
    refine g _ R' ⟨L.kind, L.glob, L.bi, L.dw, ⟨m, hm.sameBut hs' (Ne.symm kc), fun j u hj e kj => ?_⟩, fun j u hj e kj => ?_, L.off, L.jG, fun x d e => ?_, L.cl, L.rJ, L.inj⟩ x'
    ·have q : j ≠ i := fun q => by
      subst q
      rw [← hy, vS] at kj
      cases kj
     simp only [ap.set, if_neg q] at e
     exact hl j u hj e kj
    ·by_cases q : j = i
     ·subst q
      simp only [ap.set, if_true, Option.some.injEq] at e
      subst e
      exact ⟨c, v, by rw [← hy]; exact hc, hn', hv⟩
     ·simp only [ap.set, if_neg q] at e
      obtain ⟨d, z, a1, a2, a3⟩ := L.cells j u hj e kj
      refine ⟨d, z, a1, a2.sameBut hs' (fun z => q ?_), a3⟩
      subst z
      exact L.inj j i hj hi ((F.uniq _ _ _ a1 hc).trans hy)
    ·by_cases q : d = c
     ·subst q; exact ⟨_, hn'⟩
     ·obtain ⟨z, hz⟩ := L.live x d e
      exact ⟨z, hz.sameBut hs' q⟩
end
inductive Ag : Fl → Flow → Prop
 | next : Ag .next .next
 | cont : Ag .cont .cont
 | ret {V v} : aN V v → Ag (.ret V) (.ret v)
inductive ei (names : bA) (sl : List Str) (env : PySem.Env) (base : Heap) (ac : OsState) (H : Hp) (s : Shared) (Q : SQ) (f : Flow) (s' : Shared) : Prop
 | mk (fl : Fl) (af : ap) (H' : Hp) (q : Q fl af H') (r : Ag fl f) (R : Rep base ac H' s') (x : Step (Own env) H s H' s') (L : Loc names sl af env H' s')
section
variable (prog : Program) (w : World) (base : Heap) (ac : OsState) (C : Cfg) (tb : Tb) (k : Nat)
noncomputable def PS (st : S) : Prop := ∀ (names : bA) (sl : List Str) (x : Stmt) (A : Around) (ρ : ap) (env : PySem.Env) (H : Hp) (s : Shared) (Q : SQ) (Eh : Value → Shared → Prop),
 BP tb names sl st x = true → dv A k → 0 < s.toks → Rep base ac H s → Loc names sl ρ env H s → Fr base env H s → wpS C st ρ H Q → wpAny (model prog w) A (exec x env) (ei names sl env base ac H s Q) Eh s
noncomputable def qA (st : Ss) : Prop := ∀ (names : bA) (sl : List Str) (x : List Stmt) (A : Around) (ρ : ap) (env : PySem.Env) (H : Hp) (s : Shared) (Q : SQ) (Eh : Value → Shared → Prop),
 hX tb names sl st x = true → dv A k → 0 < s.toks → Rep base ac H s → Loc names sl ρ env H s → Fr base env H s → cB C st ρ H Q → wpAny (model prog w) A (execs x env) (ei names sl env base ac H s Q) Eh s
end
section
variable {prog : Program} {w : World} {base : Heap} {ac : OsState} {K : Frag} {C : Cfg} {tb : Tb} {fv : Nat → Value} {k : Nat}
 {A : Around} {Eh : Value → Shared → Prop} {H H' H₁ H₂ : Hp} {s s' s₁ s₂ : Shared} {X : Nat → Prop}
 {names : bA} {sl : List Str} {ρ : ap} {env : PySem.Env}
theorem Step.any (x : Step aL H s H' s') : Step X H s H' s' := x.weaken
theorem Loc.Ct (L : Loc names sl ρ env H s) (x : Step X H s H' s') (hx : ∀ b, Own env b → ¬ X b) : Loc names sl ρ env H' s' := by
 obtain ⟨m, hm, hv⟩ := L.ns
 have hL : ∃ o, s.heap.get? env.locals = some o := by obtain ⟨o, _, _, h, _⟩ := hm; exact ⟨o, h⟩
 have hC : ∀ x c, env.cells.lookup x = some c → ∃ o, s.heap.get? c = some o := fun x c e => by
  obtain ⟨v, o, h, _⟩ := L.live x c e; exact ⟨o, h⟩
 have kc : ∀ x c, env.cells.lookup x = some c → ∀ o, s.heap.get? c = some o → s'.heap.get? c = some o := fun y c e o h => x.same c o h (L.jG y c e) (hx c (.inr ⟨y, e⟩))
 refine ⟨L.kind, L.glob, L.bi, L.dw, ⟨m, hm.at' fun o e => x.same _ o e L.off (hx _ (.inl rfl)), hv⟩, fun i v hi e k => ?_, fun q => ?_, fun y c e q => ?_, fun y c e => ?_, L.cl, L.rJ, L.inj⟩
 ·obtain ⟨c, z, h1, h2, h3⟩ := L.cells i v hi e k
  exact ⟨c, z, h1, IsCell.at' h2 (kc _ _ h1), h3⟩
 ·rcases x.more _ q with q | q
  ·exact L.off q
  ·obtain ⟨o, h⟩ := hL; rw [q] at h; cases h
 ·rcases x.more _ q with q | q
  ·exact L.jG y c e q
  ·obtain ⟨o, h⟩ := hC y c e; rw [q] at h; cases h
 ·obtain ⟨v, h⟩ := L.live y c e
  exact ⟨v, IsCell.at' h (kc _ _ e)⟩
theorem Loc.BQ (L : Loc names sl ρ env H s) (hk : ∀ b o, Own env b → s.heap.get? b = some o → s'.heap.get? b = some o) : Loc names sl ρ env H s' := by
 obtain ⟨m, hm, hv⟩ := L.ns
 refine ⟨L.kind, L.glob, L.bi, L.dw, ⟨m, hm.at' fun o e => hk _ o (.inl rfl) e, hv⟩, fun i v hi e k => ?_, L.off, L.jG, fun y c e => ?_, L.cl, L.rJ, L.inj⟩
 ·obtain ⟨c, z, h1, h2, h3⟩ := L.cells i v hi e k
  exact ⟨c, z, h1, IsCell.at' h2 fun o q => hk _ o (.inr ⟨_, h1⟩) q, h3⟩
 ·obtain ⟨v, h⟩ := L.live y c e
  exact ⟨v, IsCell.at' h fun o q => hk _ o (.inr ⟨_, e⟩) q⟩
theorem Step.one {b : Nat} (hk : ∀ a o, a ≠ b → s.heap.get? a = some o → s'.heap.get? a = some o) (hex : ∃ o, s'.heap.get? b = some o) : Step (· = b) H s H s' :=
 ⟨fun a o e _ q => hk a o q e, fun _ h => .inl h, fun a o e => by
  by_cases q : a = b
  ·subst q; exact hex
  ·exact ⟨o, hk a o q e⟩, fun _ _ h => .inl ⟨_, h⟩⟩
theorem Fr.own (F : Fr base env H s) {b : Nat} (h : Own env b) : Hid base H s b := by
 rcases h with rfl | ⟨x, e⟩
 ·exact F.loc
 ·exact F.Cs x b e
theorem Fr.rT (F : Fr base env H s) {b : Nat} (h : s.heap.get? b = none) : ¬ Own env b := fun q => by
 obtain ⟨o, e⟩ := (F.own q).2.2
 rw [h] at e; cases e
theorem uT {α β : Type} {Rel : α → β → Prop} {M : Model} {t : Sem β} {P : β → Shared → Prop} {Q₁ : α → Hp → Prop} (T : 0 < s.toks)
  (h : wpAny M A t (dF Rel base ac aL H s Q₁) Eh s)
  (g : ∀ a b H₁ s₁, 0 < s₁.toks → Q₁ a H₁ → Rel a b → Rep base ac H₁ s₁ → Step aL H s H₁ s₁ → P b s₁) : wpAny M A t P Eh s :=
 wpAny_mono (wpAny_toks_of (n := 1) T h) (fun b s₁ ⟨T1, a, H₁, q, r, R, x⟩ => g a b H₁ s₁ T1 q r R x) fun _ _ e => e.2
theorem eT (R : Rep base ac H' s') (x : Step (Own env) H s H' s') (L : Loc names sl ρ env H' s') {Q : SQ} (q : Q .next ρ H') : ei names sl env base ac H s Q .next s' := ⟨_, _, _, q, .next, R, x, L⟩
theorem ei.trans {Q : SQ} {f : Flow} (x : Step (Own env) H s H₁ s₁) (p : ei names sl env base ac H₁ s₁ Q f s₂) : ei names sl env base ac H s Q f s₂ :=
 let ⟨fl, af, H', q, r, R, y, L⟩ := p; ⟨fl, af, H', q, r, R, x.trans y, L⟩
theorem tE {Q : SQ} {t : Sem Flow} {M : Model} (x : Step (Own env) H s H₁ s₁) (h : wpAny M A t (ei names sl env base ac H₁ s₁ Q) Eh s₁) : wpAny M A t (ei names sl env base ac H s Q) Eh s₁ :=
 wpAny_mono h (fun _ _ p => p.trans x) fun _ _ e => e
theorem Cu (W : Wd prog w base ac K C tb fv k) (e : E) : PS prog w base ac C tb k (.ex e) := by
 intro names sl x A ρ env H s Q Eh hc hA T R L F h
 refine vQ hc fun v pos hc => ?_
 replace hc := ag hc
 refine wpAny_Expr_any (aG (se W e _ _ _ _ _ _ _ _ _ _ hc.2 hA R L h) fun V1 v1 H1 s1 q1 r1 R1 x1 => eT R1 x1.any (L.step x1) q1) ?_ ?_
 ·unfold interactive; rw [L.kind]; rfl
 ·exact iF hc.1
theorem Ah (W : Wd prog w base ac K C tb fv k) (e : E) : PS prog w base ac C tb k (.ret e) := by
 intro names sl x A ρ env H s Q Eh hc hA T R L F h
 refine hO hc fun v pos hc => ?_
 refine pA hc fun v hc => ?_
 exact wpAny_Return_some (aG (se W e _ _ _ _ _ _ _ _ _ _ hc hA R L h) fun V1 v1 H1 s1 q1 r1 R1 x1 => ⟨_, _, _, q1, .ret r1, R1, x1.any, L.step x1⟩)
theorem xX : PS prog w base ac C tb k .uH := by
 intro names sl x A ρ env H s Q Eh hc hA T R L F h
 refine hO hc fun v pos hc => ?_
 refine uK hc ?_
 exact wpAny_Return_none ⟨_, _, _, h, .ret (V := .none) rfl, R, Step.refl, L⟩
theorem xY : PS prog w base ac C tb k .cont := by
 intro names sl x A ρ env H s Q Eh hc hA T R L F h
 refine Ae hc fun pos => ?_
 exact wpAny_Continue ⟨_, _, _, h, .cont, R, Step.refl, L⟩
theorem vT : PS prog w base ac C tb k .raise := by
 intro names sl x A ρ env H s Q Eh hc hA T R L F h
 exact h.elim
theorem vU (W : Wd prog w base ac K C tb fv k) (o : E) (a : Nat) (e : E) : PS prog w base ac C tb k (.aE o a e) := by
 intro names sl x A ρ env H s Q Eh hc hA T R L F h
 refine dW hc fun ts v pos hc => ?_
 refine eh hc fun t hc => ?_
 refine bE hc fun oe nm p hc => ?_
 obtain ⟨h1, hc⟩ := ag hc
 obtain ⟨h2, hc⟩ := ag hc
 obtain ⟨h3, h4⟩ := ag hc
 obtain rfl := seq_eq h1
 refine plainObj_wpAny_Assign_Attribute (aG (se W e _ _ _ _ _ _ _ _ _ _ h4 hA R L h) fun V1 v1 H1 s1 q1 r1 R1 x1 => aG (se W o _ _ _ _ _ _ _ _ _ _ h3 hA R1 (L.step x1) q1) fun V2 v2 H2 s2 q2 r2 R2 x2 =>
  wpAny_mono (gY W.hC W.hK R2 r2 r1 q2) (fun _ s3 ⟨H3, q3, R3, x3⟩ => eT R3 ((x1.trans x2).trans x3).any (L.step ((x1.trans x2).trans x3)) q3) fun _ _ e => e) ?_
 exact iF h2
theorem xZ (W : Wd prog w base ac K C tb fv k) (o i e : E) : PS prog w base ac C tb k (.cM o i e) := by
 intro names sl x A ρ env H s Q Eh hc hA T R L F h
 refine dW hc fun ts v pos hc => ?_
 refine eh hc fun t hc => ?_
 refine cu hc fun oe ie p hc => ?_
 obtain ⟨h0, hc⟩ := ag hc
 obtain ⟨h1, hc⟩ := ag hc
 obtain ⟨h2, hc⟩ := ag hc
 obtain ⟨h3, h4⟩ := ag hc
 refine wpAny_Assign_Subscript (aG (se W e _ _ _ _ _ _ _ _ _ _ h4 hA R L h) fun V1 v1 H1 s1 q1 r1 R1 x1 => aG (se W o _ _ _ _ _ _ _ _ _ _ h2 hA R1 (L.step x1) q1) fun V2 v2 H2 s2 q2 r2 R2 x2 =>
  aG (se W i _ _ _ _ _ _ _ _ _ _ h3 hA R2 (L.step (x1.trans x2)) q2) fun V3 v3 H3 s3 q3 r3 R3 x3 =>
  wpAny_mono (i8 R3 r2 r3 r1 q3) (fun _ s4 ⟨H4, q4, R4, x4⟩ => eT R4 (((x1.trans x2).trans x3).trans x4).any (L.step (((x1.trans x2).trans x3).trans x4)) q4) fun _ _ e => e) ?_
 exact iF h1
theorem ji {op : Operator} {a b : V} {x y : Value} {Q : V → Hp → Prop} (R : Rep base ac H s) (hx : aN a x) (hy : aN b y) (h : dE a b ∧ cn op a b H Q) :
  wpAny (model prog w) A (inplaceOp op x y) (Post base ac aL H s Q) Eh s := by
 refine rD R hx hy h.2 (fun r e => ?_) fun ⟨t, n, e1, e2⟩ => ?_
 ·subst e; exact h.1.elim
 ·subst e1; subst e2; exact h.1.elim
theorem x8 (W : Wd prog w base ac K C tb fv k) (i : Nat) (op : Operator) (e : E) : PS prog w base ac C tb k (.aQ i op e) := by
 intro names sl x A ρ env H s Q Eh hc hA T R L F h
 refine eS hc fun t op' v pos hc => ?_
 refine bo hc fun y p hc => ?_
 obtain ⟨h1, hc⟩ := ag hc
 obtain ⟨h2, hc⟩ := ag hc
 obtain ⟨h3, h4⟩ := ag hc
 obtain ⟨V0, e0, h⟩ := h
 obtain rfl := of_decide_eq_true h1
 obtain ⟨hi1, hi2, hv0⟩ := uS h2
 have hi := And.intro hi1 hi2
 have hv := vR hv0
 have load : wpAny (model prog w) A (loadName env y) (Post base ac aL H s fun V H₁ => V = V0 ∧ H₁ = H) Eh s :=
  k8 hi.1 hi.2 hv h3 R L e0 (Q := fun V H₁ => V = V0 ∧ H₁ = H) ⟨rfl, rfl⟩
 refine wpAny_AugAssign_Name (aG load fun V1 v1 H1 s1 q1 r1 R1 x1 => ?_)
 obtain ⟨rfl, rfl⟩ := q1
 refine aG (se W e _ _ _ _ _ _ _ _ _ _ h4 hA R1 (L.step x1) h) fun V2 v2 H2 s2 q2 r2 R2 x2 => aG (ji R2 r1 r2 q2) fun V3 v3 H3 s3 q3 r3 R3 x3 => ?_
 have xx := (x1.trans x2).trans x3
 exact cz h2 R3 (L.step xx) (F.step xx) r3 fun s4 R4 L4 x4 => eT R4 (xx.any.trans x4) L4 q3
theorem x9 (W : Wd prog w base ac K C tb fv k) (o : E) (a : Nat) (op : Operator) (e : E) : PS prog w base ac C tb k (.mB o a op e) := by
 intro names sl x A ρ env H s Q Eh hc hA T R L F h
 refine eS hc fun t op' v pos hc => ?_
 refine bE hc fun oe nm p hc => ?_
 obtain ⟨h1, hc⟩ := ag hc
 obtain ⟨h2, hc⟩ := ag hc
 obtain ⟨h3, h4⟩ := ag hc
 obtain rfl := of_decide_eq_true h1
 obtain rfl := seq_eq h2
 exact wpAny_AugAssign_AttributeAny (aG (se W o _ _ _ _ _ _ _ _ _ _ h3 hA R L h) fun V1 v1 H1 s1 q1 r1 R1 x1 => aG (k7 W.hC W.hK R1 r1 q1) fun V2 v2 H2 s2 q2 r2 R2 x2 =>
  aG (se W e _ _ _ _ _ _ _ _ _ _ h4 hA R2 (L.step (x1.trans x2)) q2) fun V3 v3 H3 s3 q3 r3 R3 x3 => aG (ji R3 r2 r3 q3) fun V4 v4 H4 s4 q4 r4 R4 x4 =>
  wpAny_mono (gY W.hC W.hK R4 r1 r4 q4) (fun _ s5 ⟨H5, q5, R5, x5⟩ => eT R5 ((((x1.trans x2).trans x3).trans x4).trans x5).any (L.step ((((x1.trans x2).trans x3).trans x4).trans x5)) q5) fun _ _ e => e)
theorem yb (W : Wd prog w base ac K C tb fv k) (o i : E) (op : Operator) (e : E) : PS prog w base ac C tb k (.gM o i op e) := by
 intro names sl x A ρ env H s Q Eh hc hA T R L F h
 refine eS hc fun t op' v pos hc => ?_
 refine cu hc fun oe ie p hc => ?_
 obtain ⟨h1, hc⟩ := ag hc
 obtain ⟨h0, hc⟩ := ag hc
 obtain ⟨h2, hc⟩ := ag hc
 obtain ⟨h3, h4⟩ := ag hc
 obtain rfl := of_decide_eq_true h1
 refine wpAny_AugAssign_SubscriptAny (aG (se W o _ _ _ _ _ _ _ _ _ _ h2 hA R L h) fun V1 v1 H1 s1 q1 r1 R1 x1 => aG (se W i _ _ _ _ _ _ _ _ _ _ h3 hA R1 (L.step x1) q1) fun V2 v2 H2 s2 q2 r2 R2 x2 =>
  aG (mH R2 r1 r2 q2) fun V3 v3 H3 s3 q3 r3 R3 x3 => aG (se W e _ _ _ _ _ _ _ _ _ _ h4 hA R3 (L.step ((x1.trans x2).trans x3)) q3) fun V4 v4 H4 s4 q4 r4 R4 x4 => aG (ji R4 r3 r4 q4) fun V5 v5 H5 s5 q5 r5 R5 x5 =>
  wpAny_mono (i8 R5 r1 r2 r5 q5) (fun _ s6 ⟨H6, q6, R6, x6⟩ => eT R6 (((((x1.trans x2).trans x3).trans x4).trans x5).trans x6).any (L.step (((((x1.trans x2).trans x3).trans x4).trans x5).trans x6)) q6) fun _ _ e => e) ?_
 intro ov iv new
 cases ie <;> first | rfl | exact absurd h0 Bool.false_ne_true
end
section
variable {prog : Program} {w : World} {base : Heap} {ac : OsState} {K : Frag} {C : Cfg} {tb : Tb} {fv : Nat → Value} {k : Nat}
 {A : Around} {Eh : Value → Shared → Prop} {H H' H₁ H₂ : Hp} {s s' s₁ s₂ : Shared} {X : Nat → Prop}
 {names : bA} {sl : List Str} {ρ : ap} {env : PySem.Env}
theorem yc : qA prog w base ac C tb k .nil := by
 intro names sl x A ρ env H s Q Eh hc hA T R L F h
 cases x with
 | cons _ _ => cases hc
 | nil =>
  exact wpAny_execs_nil (eT R Step.refl L h)
theorem vV {st : S} {r : Ss} (hs : PS prog w base ac C tb k st) (hr : qA prog w base ac C tb k r) : qA prog w base ac C tb k (.cons st r) := by
 intro names sl x A ρ env H s Q Eh hc hA T R L F h
 cases x with
 | nil => cases hc
 | cons x xs =>
  replace hc := ag hc
  refine wpAny_execs_cons (wpAny_mono (wpAny_toks_of (n := 1) T (hs _ _ _ _ _ _ _ _ _ _ hc.1 hA T R L F h)) (fun f s1 ⟨T1, fl, yd, H1, q1, r1, R1, x1, L1⟩ => ?_) fun _ _ e => e.2)
  cases r1 with
  | next => exact tE x1 (hr _ _ _ _ _ _ _ _ _ _ hc.2 hA T1 R1 L1 (F.step x1) q1)
  | cont => exact ⟨_, _, _, q1, .cont, R1, x1, L1⟩
  | ret r => exact ⟨_, _, _, q1, .ret r, R1, x1, L1⟩
theorem Ai (W : Wd prog w base ac K C tb fv k) (t : E) {a b : Ss} (ha : qA prog w base ac C tb k a) (hb : qA prog w base ac C tb k b) : PS prog w base ac C tb k (.ite t a b) := by
 intro names sl x A ρ env H s Q Eh hc hA T R L F h
 refine Ad hc fun t' a' b' pos hc => ?_
 obtain ⟨h1, hc⟩ := ag hc
 obtain ⟨h2, h3⟩ := ag hc
 refine wpAny_If (uT T (m0 W t _ _ _ _ _ _ _ _ _ _ h1 hA R L h) fun b1 b2 H1 s1 T1 q1 r1 R1 x1 => ?_)
 subst r1
 cases b1 with
 | true => exact tE x1.any (ha _ _ _ _ _ _ _ _ _ _ h2 hA T1 R1 (L.step x1) (F.step x1) q1)
 | false => exact tE x1.any (hb _ _ _ _ _ _ _ _ _ _ h3 hA T1 R1 (L.step x1) (F.step x1) q1)
theorem Aj {b : Ss} (hb : qA prog w base ac C tb k b) : PS prog w base ac C tb k (.try_ b) := by
 intro names sl x A ρ env H s Q Eh hc hA T R L F h
 refine xQ hc fun b' hs r u pos hc => ?_
 obtain ⟨e1, hc⟩ := ag hc
 refine xS e1 fun hd hs' => ?_
 obtain ⟨e2, hc⟩ := ag hc
 refine eO e2 ?_
 obtain ⟨e3, hc⟩ := ag hc
 refine eO e3 ?_
 refine wpAny_Try_except (wpAny_mono (hb _ _ _ _ _ _ _ _ _ _ hc hA T R L F h) (fun f s1 p => ?_) fun _ _ e => e)
 obtain ⟨fl, yd, H1, q1, r1, R1, x1, L1⟩ := p
 cases r1 with
 | next => exact wpAny_execs_nil ⟨_, _, _, q1, .next, R1, x1, L1⟩
 | cont => exact ⟨_, _, _, q1, .cont, R1, x1, L1⟩
 | ret r => exact ⟨_, _, _, q1, .ret r, R1, x1, L1⟩
structure lL (base : Heap) (ac : OsState) (names : bA) (sl : List Str) (env : PySem.Env) (H : Hp) (s : Shared) (I : Nat) (fp : List Nat) (af : ap) (H' : Hp) (s' : Shared) : Prop where
 T : 0 < s'.toks
 R : Rep base ac H' s'
 x : Step (Own env) H s H' s'
 L : Loc names sl af env H' s'
 hI : Hid base H' s' I
 q : ∀ b ∈ fp, b = I ∨ ¬ Own env b ∧ Quiet H' s' b
theorem lL.step {ky ye : ap} {I : Nat} {fp : List Nat} (B : lL base ac names sl env H s I fp ky H₁ s₁) (T : 0 < s₂.toks) (R : Rep base ac H₂ s₂) (y : Step (Own env) H₁ s₁ H₂ s₂) (L : Loc names sl ye env H₂ s₂) : lL base ac names sl env H s I fp ye H₂ s₂ :=
 ⟨T, R, B.x.trans y, L, B.hI.step y, fun b hb => (B.q b hb).imp id fun q => ⟨q.1, q.2.step y q.1⟩⟩
theorem lL.drop {ky : ap} {I : Nat} {fp : List Nat} (B : lL base ac names sl env H s I fp ky H₁ s₁) (h : Sb H₂ H₁) : lL base ac names sl env H s I fp ky H₂ s₁ :=
 B.step B.T (B.R.drop h) ((Step.refl).drop h) (B.L.step ((Step.refl).drop h))
theorem lL.frame {ky : ap} {I : Nat} {fp : List Nat} {src : Option Nat} {items : List V} {St : Nat → Heap → Prop} {j : Nat} (W : Wk prog w A base ac I src items St fp) (B : lL base ac names sl env H s I fp ky H₁ s₁) (nI : ¬ Own env I) (y : Step (Own env) H₁ s₁ H₂ s₂) (st : St j s₁.heap) : St j s₂.heap :=
 W.frame _ _ _ st fun b hb o e => (B.q b hb).elim (fun z => (z ▸ B.hI.quiet).get y (z ▸ nI) e) fun z => z.2.get y z.1 e
inductive rU (base : Heap) (ac : OsState) (names : bA) (sl : List Str) (env : PySem.Env) (H : Hp) (s : Shared) (I : Nat) (fp : List Nat) (St : Nat → Heap → Prop) (items : List V) (P : List V → ap → Hp → Prop) (n : Nat) (s' : Shared) : Prop
 | mk (af : ap) (H' : Hp) (j : Nat) (B : lL base ac names sl env H s I fp af H' s') (st : St j s'.heap) (hq : P (items.drop j) af H') (hj : j ≤ items.length) (e : n = items.length + 1 - j)
inductive rV (base : Heap) (ac : OsState) (names : bA) (sl : List Str) (env : PySem.Env) (H : Hp) (s : Shared) (P : Nat → ap → Hp → Prop) (n : Nat) (s' : Shared) : Prop
 | mk (af : ap) (H' : Hp) (T : 0 < s'.toks) (R : Rep base ac H' s') (x : Step (Own env) H s H' s') (L : Loc names sl af env H' s') (hq : P n af H')
theorem rV.to {P : Nat → ap → Hp → Prop} {af : ap} {m : Nat} (T : 0 < s'.toks) (R : Rep base ac H' s') (x : Step (Own env) H s H' s') (L : Loc names sl af env H' s') (h : ∃ aH, Sb aH H' ∧ P m af aH) : ∃ k, k < m + 1 ∧ rV base ac names sl env H s P k s' :=
 let ⟨aH, hd, q⟩ := h; ⟨m, Nat.lt_succ_self _, af, aH, T, R.drop hd, x.drop hd, L.step ((Step.refl).drop hd), q⟩
theorem rU.to {af : ap} {I : Nat} {fp : List Nat} {St : Nat → Heap → Prop} {items : List V} {P : List V → ap → Hp → Prop} {j : Nat} (B : lL base ac names sl env H s I fp af H' s') (st : St (j + 1) s'.heap) (hlt : j < items.length) (h : ∃ aH, Sb aH H' ∧ P (items.drop (j + 1)) af aH) :
  ∃ m, m < items.length + 1 - j ∧ rU base ac names sl env H s I fp St items P m s' :=
 let ⟨aH, hd, q⟩ := h; ⟨items.length + 1 - (j + 1), Nat.sub_lt_sub_left (Nat.lt_succ_of_lt hlt) (Nat.lt_succ_self _), af, aH, j + 1, B.drop hd, st, q, hlt, rfl⟩
theorem vW (W : Wd prog w base ac K C tb fv k) (t : E) {b : Ss} (hb : qA prog w base ac C tb k b) : PS prog w base ac C tb k (.fH t b) := by
 intro names sl x A ρ env H s Q Eh hc hA T R L F h
 refine tC hc fun t' b' r pos hc => ?_
 obtain ⟨e2, hc⟩ := ag hc
 refine eO e2 ?_
 replace hc := ag hc
 obtain ⟨H0, hs, n, h⟩ := h
 refine wpAny_While (codeAny_whileLoop (rV base ac names sl env H s fun m af H' => eB (ce C t) (cB C b) m af H' Q) ?_ n
  ⟨ρ, H0, T, R.drop hs, (Step.refl).drop hs, L.step ((Step.refl).drop hs), h⟩)
 rintro m s' ⟨yd, H1, T1, R1, x1, L1, q1⟩
 cases m with
 | zero => exact q1.elim
 | succ m =>
  refine uT T1 (m0 W t _ _ _ _ _ _ _ _ _ _ hc.1 hA R1 L1 q1) fun b1 b2 H2 s2 T2 q2 r2 R2 x2 => ?_
  subst r2
  have L2 := L1.step x2
  cases b1 with
  | false =>
   exact wpAny_execs_nil ⟨_, _, _, q2, .next, R2, x1.trans x2.any, L2⟩
  | true =>
   refine wpAny_mono (wpAny_toks_of (n := 1) T2 (hb _ _ _ _ _ _ _ _ _ _ hc.2 hA T2 R2 L2 ((F.step x1).step x2) q2)) (fun f s3 ⟨T3, fl, oQ, H3, q3, r3, R3, x3, L3⟩ => ?_) fun _ _ e => e.2
   have xx := (x1.trans x2.any).trans x3
   cases r3 with
   | next => exact rV.to T3 R3 xx L3 q3
   | cont => exact rV.to T3 R3 xx L3 q3
   | ret r => exact ⟨_, _, _, q3, .ret r, R3, xx, L3⟩
theorem Ak (W : Wd prog w base ac K C tb fv k) (i : Nat) (it : E) {b : Ss} (hb : qA prog w base ac C tb k b) : PS prog w base ac C tb k (.for_ i it b) := by
 intro names sl x A ρ env H s Q Eh hc hA T R L F h
 refine xO hc fun t HP bx r pos hc => ?_
 refine bo hc fun y py hc => ?_
 obtain ⟨e2, hc⟩ := ag hc
 refine eO e2 ?_
 obtain ⟨c1, hc⟩ := ag hc
 obtain ⟨c2, hc⟩ := ag hc
 obtain ⟨c3, c4⟩ := ag hc
 refine wpAny_For (uT T (se W it _ _ _ _ _ _ _ _ _ _ c3 hA R L h) fun V1 v1 H1 s1 T1 q1 r1 R1 x1 => ?_) ?_
 rotate_left
 ·exact fun z => mW c2
 obtain ⟨src, items, xK, H0, hs, q1⟩ := q1
 refine hB hA.hh R1 xK r1 fun St fp ob Wk st hfp => ?_
 have L1 := L.step x1
 have F1 := F.step x1
 have bW : s1.heap.get? s1.heap.objs.size = none := bL _
 generalize hs2 : ({ s1 with heap := s1.heap.push ob } : Shared) = s2
 have x12 : Step aL H1 s1 H1 s2 := hs2 ▸ Step.grow (s' := { s1 with heap := s1.heap.push ob }) (aU _ _)
 have R2 : Rep base ac H1 s2 := hs2 ▸ R1.grow (s' := { s1 with heap := s1.heap.push ob }) (aU _ _) rfl rfl
 have T2 : 0 < s2.toks := by rw [← hs2]; exact T1
 have st2 : St 0 s2.heap := by rw [← hs2]; exact st
 have nI : ¬ Own env s1.heap.objs.size := F1.rT bW
 have fI : s.heap.get? s1.heap.objs.size = none := x1.fresh bW
 have yf : ∀ b ∈ fp, b = s1.heap.objs.size ∨ ¬ Own env b ∧ Quiet H1 s1 b := fun b hb => (hfp b hb).imp id fun ⟨⟨o, ho⟩, q⟩ => ⟨fun z => (F1.own z).2.1 o ho, q⟩
 have pu : Hid base H1 s2 s1.heap.objs.size := ⟨(R1.fresh bW).1, (R1.fresh bW).2, Wk.here _ _ st2⟩
 generalize s1.heap.objs.size = I at bW Wk yf nI fI pu ⊢
 have xd : Step aL H1 s2 H0 s2 := (Step.refl).drop hs
 have vP : Step (Own env) H s H0 s2 := ((x1.trans x12).trans xd).any
 refine codeAny_forLoop (rU base ac names sl env H s I fp St items fun l af H' => forL (cB C b) src items i l af H' Q) ?_ (items.length + 1)
  ⟨ρ, H0, 0, ⟨T2, R2.drop hs, vP, (L1.step x12).step xd, pu.step xd, fun b hb => (yf b hb).imp id fun q => ⟨q.1, (q.2.step x12 id).step xd id⟩⟩, st2, q1, Nat.zero_le _, rfl⟩
 clear vP T2 R2 pu yf xd st2 bW x12 hs2 F1 L1 R1 x1 q1 hfp
 rintro n s' ⟨af, H', j, B, st, hq, hj, rfl⟩
 by_cases hlt : j < items.length
 ·rw [List.drop_eq_getElem_cons hlt] at hq
  obtain ⟨al, hq⟩ := hq
  refine wpAny_mono (wpAny_toks_of (n := 1) B.T (Wk.item j items[j] s' H' (fun r sa => ∃ v, r = some v ∧ aN items[j] v ∧ ((0 < sa.toks → lL base ac names sl env H s I fp af H' sa) ∧ St (j + 1) sa.heap))
   _ (by simp [hlt]) B.R al st fun v h' tk hv st' hk hex => ⟨v, rfl, hv, fun Ta => ⟨Ta, B.R.hid (s' := { s' with heap := h', toks := tk }) B.hI.1 B.hI.2.1 hk rfl rfl, B.x.hid (s' := { s' with heap := h', toks := tk }) fI hk,
    B.L.Ct (s' := { s' with heap := h', toks := tk }) (Step.one hk hex) (fun b ho q => nI (q ▸ ho)), ⟨B.hI.1, B.hI.2.1, hex⟩, fun b hb => (B.q b hb).imp id fun q => ⟨q.1, q.2.at hk hex⟩⟩, st'⟩)) (fun r sa p => ?_) fun _ _ e => e.2
  obtain ⟨Ta, v, rfl, hv, Ba, FZ⟩ := p
  replace Ba := Ba Ta
  refine wpAny_assign_Name (wpAny_mono (wpAny_toks_of (n := 1) Ta (cz (A := A) (Eh := notedBy (model prog w) A env fun e s' => (match (Except.error e : Result) with | .ok f => ei names sl env base ac H s Q f s' | .error e => cameBackBy (model prog w) A env Eh e s')) (Q := fun _ sb => 0 < sb.toks → lL base ac names sl env H s I fp (af.set i items[j]) H' sb ∧ St (j + 1) sb.heap)
   c1 Ba.R Ba.L (F.step Ba.x) hv fun sb Rb Lb xb Tb => ⟨Ba.step Tb Rb xb Lb, Ba.frame Wk nI xb FZ⟩)) (fun _ sb p => ?_) fun _ _ e => e.2)
  obtain ⟨Bb, Ac⟩ := p.2 p.1
  refine wpAny_mono (wpAny_toks_of (n := 1) Bb.T (hb _ _ _ _ _ _ _ _ _ _ c4 hA Bb.T Bb.R Bb.L (F.step Bb.x) hq)) (fun f sc ⟨Tc, fl, HQ, Hc, qc, rc, Rc, xc, Lc⟩ => ?_) fun _ _ e => e.2
  have Bc := Bb.step Tc Rc xc Lc
  have xM := Bb.frame Wk nI xc Ac
  cases rc with
  | next => exact rU.to Bc xM hlt qc
  | cont => exact rU.to Bc xM hlt qc
  | ret r => exact ⟨_, _, _, qc, .ret r, Rc, Bc.x, Lc⟩
 ·obtain rfl : j = items.length := Nat.le_antisymm hj (Nat.le_of_not_lt hlt)
  rw [List.drop_length] at hq
  obtain ⟨al, hq⟩ := hq
  refine Wk.done s' H' _ _ B.R al st fun h' tk hk => wpAny_execs_nil ?_
  exact ⟨_, _, _, hq, .next, B.R.hid (s' := { s' with heap := h', toks := tk }) B.hI.1 B.hI.2.1 hk rfl rfl, B.x.hid (s' := { s' with heap := h', toks := tk }) fI hk, B.L.BQ (s' := { s' with heap := h', toks := tk }) fun a o ha e => hk a o (fun q => nI (q ▸ ha)) e⟩
end
section
variable {prog : Program} {w : World} {base : Heap} {ac : OsState} {K : Frag} {C : Cfg} {tb : Tb} {fv : Nat → Value} {k : Nat}
 {A : Around} {Eh : Value → Shared → Prop} {H H' H₁ H₂ : Hp} {s s' s₁ s₂ : Shared} {X : Nat → Prop}
 {names : bA} {sl : List Str} {ρ : ap} {env : PySem.Env}
theorem rW {I : Addr} {src : Option Nat} {items : List V} {St : Nat → Heap → Prop} {fp : List Addr} (W : Wk prog w A base ac I src items St fp) (h0 : base.get? I = none) (h1 : ∀ o, (I, o) ∉ H) (al : alive src items H) :
  ∀ (n j : Nat) (s : Shared) (Q : List Value → Shared → Prop), j + n = items.length → Rep base ac H s → St j s.heap →
  (∀ ws s', aF (items.drop j) ws → Rep base ac H s' → (∀ b o, b ≠ I → s.heap.get? b = some o → s'.heap.get? b = some o) → St items.length s'.heap → Q ws s') → wpAny (model prog w) A (draw (.ref I) n) Q Eh s
 | 0, j, s, Q, e, R, st, hQ => by
  have : j = items.length := by exact e
  subst this
  exact wpAny_pure (hQ [] s (by rw [List.drop_length]; exact .nil) R (fun _ _ _ e => e) st)
 | n + 1, j, s, Q, e, R, st, hQ => by
  have hlt : j < items.length := by (exact ln [_,_,_] [.eq (.a (.v 0) (.a (.v 2) (.n 1))) (.v 1)] (.lt (.v 0) (.v 1)) [1,1] rfl e)
  show wpAny _ _ (pyNext (.ref I) >>= _) Q Eh s
  refine wpAny_bind (W.item j items[j] s H _ _ (by simp [hlt]) R al st fun v h' tk hv st' hk hex => ?_)
  generalize hsa : ({ s with heap := h', toks := tk } : Shared) = sa
  have hka : ∀ b o, b ≠ I → s.heap.get? b = some o → sa.heap.get? b = some o := by rw [← hsa]; exact hk
  refine wpAny_bind (wpAny_holding (rW W h0 h1 al n (j + 1) sa _ (by (exact lie [_,_,_] [.eq (.a (.v 0) (.a (.v 1) (.n 1))) (.v 2)] (.a (.a (.v 0) (.n 1)) (.v 1)) (.v 2) [1,1] [1,-1] rfl rfl e)) (R.hid h0 h1 hka (by rw [← hsa]) (by rw [← hsa])) (by rw [← hsa]; exact st') fun ws s' r R' hk' st'' => wpAny_pure ?_))
  refine hQ _ s' ?_ R' (fun b o hb e => hk' b o hb (hka b o hb e)) st''
  rw [List.drop_eq_getElem_cons hlt]
  exact .cons hv r
theorem jj {a : Nat} {vs : List V} {Q : List Value → Shared → Prop} (hh : A.handled = none) (R : Rep base ac H s) (hm : (a, O.tup vs) ∈ H ∨ (a, O.list vs) ∈ H) (hl : vs.length ≤ 10000)
  (hQ : ∀ ws s', aF vs ws → Rep base ac H s' → (∀ b o, s.heap.get? b = some o → s'.heap.get? b = some o) → Q ws s') : wpAny (model prog w) A (unpackItems (.ref a) vs.length none) Q Eh s := by
 have main : ∀ {src : Option Nat}, Src (.ref a) H src vs → alive src vs H → wpAny (model prog w) A (do
   let it ← holding [.ref a] (pyIter (.ref a))
   let items ← holding [it] (draw it vs.length)
   if items.length < vs.length then
    rule "unpack.too-few"; raiseError "ValueError" s!"not enough values to unpack (expected {vs.length}, got {items.length})"
   if (← holding items (pyNext it)).isSome then
    rule "unpack.too-many"; raiseError "ValueError" s!"too many values to unpack (expected {vs.length})"
   return items) Q Eh s := by
  intro src hs al
  refine wpAny_bind (wpAny_holding (hB hh R hs (x := .ref a) rfl fun St fp ob W st hfp => ?_))
  have bW : s.heap.get? s.heap.objs.size = none := bL _
  generalize hs2 : ({ s with heap := s.heap.push ob } : Shared) = s2
  have k2 : ∀ b o, s.heap.get? b = some o → s2.heap.get? b = some o := by rw [← hs2]; exact aU _ _
  have R2 : Rep base ac H s2 := R.grow k2 (by rw [← hs2]) (by rw [← hs2])
  have f := R.fresh bW
  refine wpAny_bind (wpAny_holding (rW W f.1 f.2 al vs.length 0 s2 _ (by exact lie [_] [] (.a (.n 0) (.v 0)) (.v 0) [1] [1] rfl rfl) R2 (by rw [← hs2]; exact st) fun ws s3 r R3 hk3 st3 => ?_))
  have hlen := r.length
  rw [List.drop_zero] at hlen
  rw [if_neg (by exact ln [_,_] [.eq (.v 0) (.v 1)] (.gP (.v 0) (.v 1)) [1,-1] rfl hlen)]
  refine wpAny_bind (wpAny_holding (W.done s3 H _ _ R3 al st3 fun h' tk hk => ?_))
  simp only [Option.isSome_none, Bool.false_eq_true, if_false]
  generalize hsa : ({ s3 with heap := h', toks := tk } : Shared) = sa
  have hka : ∀ b o, b ≠ s.heap.objs.size → s3.heap.get? b = some o → sa.heap.get? b = some o := by rw [← hsa]; exact hk
  refine wpAny_pure (hQ _ sa (by rw [List.drop_zero] at r; exact r) (R3.hid f.1 f.2 hka (by rw [← hsa]) (by rw [← hsa])) fun b o e => ?_)
  have hb : b ≠ s.heap.objs.size := fun q => by rw [q, bW] at e; cases e
  exact hka b o hb (hk3 b o hb (k2 b o e))
 unfold unpackItems
 unfold notIterableAtAll
 rcases hm with hm | hm
 ·obtain ⟨ws, ⟨o, ho, hc, n, hd⟩, hr⟩ := R.cell hm
  refine wpAny_bind ?_
  refine wpAny_bind (wpAny_specialOf (T := "tuple") ⟨o, ho, hc⟩ F.slot_tuple_iter.lookup ?_)
  exact wpAny_pure (main (.tup hm hl) trivial)
 ·obtain ⟨ws, n, ho, hr⟩ := R.cell hm
  refine wpAny_bind ?_
  refine wpAny_bind (wpAny_specialOf (T := "list") ⟨_, ho, rfl⟩ slot_list_iter.lookup ?_)
  exact wpAny_pure (main (.list hm hl) hm)
theorem hY {env : PySem.Env} : ∀ (is : List Nat) (ts : List Expr) (vs : List V) (ws : List Value) (ρ : ap) (s : Shared) (Q : Unit → Shared → Prop), qy names sl is ts = true → vs.length = is.length → aF vs ws → 
  Rep base ac H s → Loc names sl ρ env H s → Fr base env H s → (∀ s', Rep base ac H s' → Loc names sl (jw ρ is vs) env H s' → Step (Own env) H s H s' → Q () s') →
  wpAny (model prog w) A (assignInOrder ((assignEach ts env).map (·.2)) ws) Q Eh s
 | [], [], vs, ws, ρ, s, Q, hc, hl, r, R, L, F, g => by
  refine wpAny_pure (g s R ?_ Step.refl)
  unfold jw
  exact L
 | [], _ :: _, vs, ws, ρ, s, Q, hc, hl, r, R, L, F, g => by cases hc
 | _ :: _, [], vs, ws, ρ, s, Q, hc, hl, r, R, L, F, g => by cases hc
 | i :: is, t :: ts, vs, ws, ρ, s, Q, hc, hl, r, R, L, F, g => by
  replace hc := ag hc
  cases r with
  | nil => cases hl
  | @cons V v Vs vs r1 r2 =>
   refine bo hc.1 fun y p hc1 => ?_
   show wpAny _ _ (holding vs (assign (.Name y p) env v) >>= fun _ => assignInOrder ((assignEach ts env).map (·.2)) vs) _ _ s
   refine wpAny_bind (wpAny_holding (wpAny_assign_Name (cz hc1 R L F r1 fun s1 R1 L1 x1 => ?_)))
   refine hY is ts Vs vs _ s1 Q hc.2 (by simpa using hl) r2 R1 L1 (F.step x1) fun s2 R2 L2 x2 => g s2 R2 ?_ (x1.trans x2)
   unfold jw
   exact L2
theorem lp {env : PySem.Env} : ∀ {is : List Nat} {ts : List Expr}, qy names sl is ts = true → (assignEach ts env).length = is.length ∧ (assignEach ts env).findIdx? (·.1) = none
 | [], [], _ => ⟨rfl, rfl⟩
 | [], _ :: _, h => by cases h
 | _ :: _, [], h => by cases h
 | i :: is, t :: ts, h => by
  replace h := ag h
  obtain ⟨a, b⟩ := lp (env := env) h.2
  refine bo h.1 fun y p _ => ?_
  refine ⟨by simp [assignEach, a], ?_⟩
  show List.findIdx? _ ((false, _) :: assignEach ts env) = none
  rw [List.findIdx?_cons, b]
  rfl
theorem Al (W : Wd prog w base ac K C tb fv k) (is : List Nat) (e : E) : PS prog w base ac C tb k (.p9 is e) := by
 intro names sl x A ρ env H s Q Eh hc hA T R L F h
 refine dW hc fun ts v pos hc => ?_
 refine eh hc fun t hc => ?_
 refine mP hc fun ts ctx tp hc => ?_
 obtain ⟨h1, hc⟩ := ag hc
 obtain ⟨h2, h3⟩ := ag hc
 obtain ⟨a1, a2⟩ := lp (env := env) h1
 refine Assign_Tuple (aG (se W e _ _ _ _ _ _ _ _ _ _ h3 hA R L h) fun V1 v1 H1 s1 q1 r1 R1 x1 => ?_) ?_ ?_
 ·obtain ⟨a, vs, rfl, hm, hl, q⟩ := q1
  obtain rfl := r1
  rw [arm_assign_Tuple]
  refine wpAny_bind (wpAny_standAt ?_)
  unfold unpack
  rw [a2, a1, ← hl.1]
  refine wpAny_bind (wpAny_holding (jj hA.hh R1 hm hl.2 fun ws s2 r R2 hk => ?_))
  have x2 : Step aL H1 s1 H1 s2 := Step.grow hk
  have L2 := (L.step x1).step x2
  have F2 := (F.step x1).step x2
  exact hY is ts vs ws ρ s2 _ h1 hl.1 r R2 L2 F2 fun s3 R3 L3 x3 => eT R3 ((x1.trans x2).any.trans x3) L3 q
 ·exact (uR h2).1
 ·exact (uR (n := 0) h2).2
theorem m9 (W : Wd prog w base ac K C tb fv k) {i : Nat} {e : E} {v : Expr} {y : Str} {yp pos : Pos} {Q : SQ} (h1 : i' names sl i y = true) (h3 : aI tb names sl e v = true) (hA : dv A k)
  (R : Rep base ac H s) (L : Loc names sl ρ env H s) (F : Fr base env H s) (h : wpS C (.asg i e) ρ H Q) (hs : swapsWith v (some (.Name y yp)) pos.line env = pure false) :
  wpAny (model prog w) A (exec (.Assign [.Name y yp] v pos) env) (ei names sl env base ac H s Q) Eh s :=
 wpAny_Assign_Name (aG (se W e _ _ _ _ _ _ _ _ _ _ h3 hA R L h) fun V1 v1 H1 s1 q1 r1 R1 x1 => cz h1 R1 (L.step x1) (F.step x1) r1 fun s2 R2 L2 x2 => eT R2 (x1.any.trans x2) L2 q1) hs
theorem vX (W : Wd prog w base ac K C tb fv k) {i xi : Nat} {fQ fX cg : E} {v : Expr} {y : Str} {yp pos : Pos} {Q : SQ} (h1 : i' names sl i y = true) (h3 : aI tb names sl (.comp xi fQ fX cg) v = true) (hA : dv A k)
  (R : Rep base ac H s) (L : Loc names sl ρ env H s) (F : Fr base env H s) (h : wpS C (.asg i (.comp xi fQ fX cg)) ρ H Q) :
  wpAny (model prog w) A (exec (.Assign [.Name y yp] v pos) env) (ei names sl env base ac H s Q) Eh s := by
 have pl := m9 (Eh := Eh) (yp := yp) (pos := pos) W h1 h3 hA R L F h
 revert pl
 refine uL h3 fun elt z px iter ifs scope cp d d9 Cq Cr pl => ?_
 have hb : ∃ b, swapsWith (.ListComp elt [⟨.Name z px, iter, ifs, 0⟩] scope cp) (some (.Name y yp)) pos.line env = pure b := ⟨_, rfl⟩
 obtain ⟨b, hb⟩ := hb
 cases b with
 | false => exact pl hb
 | true =>
  clear pl
  obtain ⟨cl, k0, k1, k2⟩ := hH (li d.d4 L L.cl)
  rw [exec_Assign_Name_used _ _ _ _ hb]
  refine wpAny_bind (wpAny_standAt (wpAny_bind ?_))
  show wpAny _ A (do let _ ← comprehension (.ListComp elt [⟨.Name z px, iter, ifs, 0⟩] scope cp) scope env _ (newList []) false (eval iter env) (some (assign (.Name y yp) env))) _ _ s
  refine wpAny_bind (wpAny_mono (wpAny_comprehension_free (use := some (assign (.Name y yp) env)) (Q := fun _ s' => ei names sl env base ac H s Q .next s') (E := Eh) rfl (fun z => mW d.d8) k0 d.d3 (lh d.d5) ?_) (fun _ s' hq => wpAny_pure (wpAny_pure hq)) fun _ _ e => e)
  refine lg (RR := fun acc Cf => compPost (model prog w) A Eh (some (assign (.Name y yp) env)) _ acc Cf) (Q' := fun acc H₂ => ∀ a, Q .next (ρ.set i (.ref a)) ((a, .list acc) :: H₂)) Cr (se W fQ) (se W fX) (m0 W cg) d.d1 d.d2 d.d3 d.d4 d.d5 d.d6 d.d7 d9 Cq k1 k2 hA R L h ?_
  intro D Cf acc H' s' m q R' x' fD fC hDC hC hn
  have nC : ¬ Own env Cf := F.rT fC
  refine wpAny_assign_Name (cz (V := .ref D) h1 R' (L.step x') (F.step x') rfl fun s2 R2 L2 x2 => ?_)
  have D5 := hC.step x2
  refine ⟨m, hn.at' fun o e => x2.same _ o e hC.quiet.1 nC, fun h' hs' => ?_⟩
  exact eT (R2.hid (s' := { s2 with heap := h' }) D5.1 D5.2.1 (fun b o hb e => hs'.extBut b o hb e) rfl rfl)
   ((x'.any.trans x2).hid (s' := { s2 with heap := h' }) fC fun b o hb e => hs'.extBut b o hb e)
   (L2.BQ (s' := { s2 with heap := h' }) fun b o hb e => hs'.extBut b o (fun z => nC (z ▸ hb)) e) (q D)
theorem Am (W : Wd prog w base ac K C tb fv k) (i : Nat) (e : E) : PS prog w base ac C tb k (.asg i e) := by
 intro names sl x A ρ env H s Q Eh hc hA T R L F h
 refine dW hc fun ts v pos hc => ?_
 refine eh hc fun t hc => ?_
 refine bo hc fun y yp hc => ?_
 obtain ⟨h1, hc⟩ := ag hc
 obtain ⟨h2, h3⟩ := ag hc
 rcases mU h2 with h2 | h2
 ·exact m9 W h1 h3 hA R L F h (iF h2)
 ·obtain ⟨_, _, _, _, rfl⟩ := xU h2; exact vX W h1 h3 hA R L F h
end
theorem An {n : Int} (h : 1 ≤ n ∧ n ≤ 9) : (st (List.replicate n.toNat 46) == Str.ofString (toString n)) = false := by
 obtain ⟨k, rfl⟩ := Int.eq_ofNat_of_zero_le (Int.le_trans (by decide) h.1)
 have := Int.ofNat_le.mp h.1
 have := Int.ofNat_le.mp h.2
 exact (by decide +kernel : ∀ k : Nat, k ≤ 9 → 1 ≤ k → (st (List.replicate ((k : Int)).toNat 46) == Str.ofString (toString (k : Int))) = false) k ‹_› ‹_›
theorem yg {n : Int} (h : 1 ≤ n ∧ n ≤ 9) : (Str.ofString (toString n)).length = 1 := by
 obtain ⟨k, rfl⟩ := Int.eq_ofNat_of_zero_le (Int.le_trans (by decide) h.1)
 have := Int.ofNat_le.mp h.2
 exact (by decide +kernel : ∀ k : Nat, k ≤ 9 → (Str.ofString (toString (k : Int))).length = 1) k ‹_›
section
variable {prog : Program} {w : World} {base : Heap} {ac : OsState} {K : Frag} {C : Cfg} {tb : Tb} {fv : Nat → Value} {k : Nat}
 {A : Around} {Eh : Value → Shared → Prop} {H H' H₁ H₂ : Hp} {s s' s₁ s₂ : Shared} {X : Nat → Prop}
 {names : bA} {sl : List Str} {ρ : ap} {env : PySem.Env}
theorem rX {n : Int} {u t : Tok} {Pq : Value → Shared → Prop} (hn : 1 ≤ n ∧ n ≤ 9) (hu : 0 < u) (hlt : u < s.toks)
  (g : ∀ u' tk, 0 < u' → u' < tk → Pq (.str (st (List.replicate n.toNat 46)) u') { s with toks := tk }) : wpAny (model prog w) A (binaryOp .Mult (.str (st [46]) u) (.int n t)) Pq Eh s := by
 have h1 : ¬ n < 1 := by exact Int.not_lt.mpr hn.1
 refine P.mul_str (by simp only [Bool.or_eq_false_iff, decide_eq_false_iff_not]; exact ⟨by omega, by omega⟩) (fun _ _ => ?_) (fun _ _ => ?_) ?_
 ·show ¬ ((1 : Nat) : Int) > _
  have : (2 ^ 63 - 1) / n ≥ 1000000 := by
   rw [ge_iff_le, Int.le_ediv_iff_mul_le hn.1]; omega
  (exact lin [] [_] [.LE (.n 1000000) (.v 0)] (.vz (.v 0) (.n 1)) [1,1] rfl this)
 ·show decide (_ > _) = false
  have e : (st [46]).length = 1 := rfl
  rw [e, sizeLine_eq]
  exact decide_eq_false (by (exact lin [_] [_] [.LE (.v 0) (.n 9),.EQ (.c (.v 0)) (.v 0)] (.gP (.n 16777216) (.k 1 (.v 0))) [1,1,1] rfl hn.2 (Int.toNat_of_nonneg (lin [] [_] [.LE (.n 1) (.v 0)] (.LE (.n 0) (.v 0)) [1,1] rfl hn.1))))
 ·rw [if_neg h1]
  by_cases e : n = 1
  ·subst e
   rw [if_pos (by rfl)]
   exact g u s.toks hu hlt
  ·have hx : (n == 1 || (st [46]).length == 0) = false := by
    have : (n == 1) = false := by simpa using e
    rw [this]; rfl
   rw [hx, if_neg Bool.false_ne_true]
   have hval : (⟨(List.replicate n.toNat (st [46]).cps).foldl (· ++ ·) #[]⟩ : Str) = st (List.replicate n.toNat 46) := by
    have : n = 2 ∨ n = 3 ∨ n = 4 ∨ n = 5 ∨ n = 6 ∨ n = 7 ∨ n = 8 ∨ n = 9 := by omega
    rcases this with rfl | rfl | rfl | rfl | rfl | rfl | rfl | rfl <;> rfl
   rw [hval]
   refine ⟨?_, g s.toks (s.toks + 1) (Nat.lt_of_le_of_lt (Nat.zero_le _) hlt) (Nat.lt_succ_self _)⟩
   rw [bH, List.length_replicate]
   exact aX (by (exact lin [_] [_] [.LE (.v 0) (.n 9),.EQ (.c (.v 0)) (.v 0)] (.le (.v 0) (.n 20000)) [1,1,1] rfl hn.2 (Int.toNat_of_nonneg (lin [] [_] [.LE (.n 1) (.v 0)] (.LE (.n 0) (.v 0)) [1,1] rfl hn.1))))
structure Cv (names : bA) (sl : List Str) (i k : Nat) (y y' m d z f z' : Str) : Prop where
 c1 : i' names sl i y = true
 a1 : i < sl.length
 a2 : y' = sl.getD i Str.empty
 a3 : isVar (lk names y') = true
 a4 : bw y' = true
 b1 : m = "replace"
 b2 : d = st [46]
 d1 : k < sl.length
 d2 : z = sl.getD k Str.empty
 d3 : isVar (lk names z) = true
 d4 : bw z = true
 e2 : z' = sl.getD k Str.empty
 e3 : isVar (lk names z') = true
 e4 : bw z' = true
 f1 : f = "str"
 f2 : mM (lk names f) = true
 f3 : bw f = true
theorem yh {names : bA} {sl : List Str} {i k : Nat} {y y' m d z f z' : Str} (h : xV names sl i k y y' m d z f z' = true) : Cv names sl i k y y' m d z f z' := by
 obtain ⟨c1, h⟩ := ag h
 obtain ⟨a1, h⟩ := ag h
 obtain ⟨a2, h⟩ := ag h
 obtain ⟨a3, h⟩ := ag h
 obtain ⟨a4, h⟩ := ag h
 obtain ⟨b1, h⟩ := ag h
 obtain ⟨b2, h⟩ := ag h
 obtain ⟨d1, h⟩ := ag h
 obtain ⟨d2, h⟩ := ag h
 obtain ⟨d3, h⟩ := ag h
 obtain ⟨d4, h⟩ := ag h
 obtain ⟨e2, h⟩ := ag h
 obtain ⟨e3, h⟩ := ag h
 obtain ⟨e4, h⟩ := ag h
 obtain ⟨f1, h⟩ := ag h
 obtain ⟨f2, f3⟩ := ag h
 exact ⟨c1, qr a1, seq_eq a2, a3, a4, seq_eq b1, seq_eq (b := st [46]) b2, qr d1, seq_eq d2, d3, d4, seq_eq e2, e3, e4, seq_eq f1, f2, f3⟩
theorem Ao (W : Wd prog w base ac K C tb fv k) (i j : Nat) : PS prog w base ac C tb k (.rep i j) := by
 intro names sl x A ρ env H s Q Eh hc hA T R L Fh h
 refine dW hc fun ts v sp hc => ?_
 refine eh hc fun t hc => ?_
 refine bo hc fun y yp hc => ?_
 refine dH hc fun g as kw pos hc => ?_
 refine bE hc fun nn m apos hc => ?_
 refine bo hc fun y' HR hc => ?_
 obtain ⟨e0, hc⟩ := ag hc
 refine eO e0 ?_
 obtain ⟨g1, hc⟩ := ag hc
 refine mS hc fun a b hc => ?_
 refine jh hc fun l op rr bp hc => ?_
 refine cb hc fun d dk dp hc => ?_
 refine bo hc fun z zp hc => ?_
 refine dH hc fun hh bs kw' cp hc => ?_
 refine bo hc fun f fp hc => ?_
 refine eh hc fun qq hc => ?_
 refine bo hc fun z' D6 hc => ?_
 obtain ⟨e0, hc⟩ := ag hc
 refine eO e0 ?_
 obtain ⟨e1, hc⟩ := ag hc
 obtain rfl := of_decide_eq_true e1
 refine xR hc fun d hc => ?_
 obtain ⟨c1, a1, a2, a3, a4, b1, b2, d1, d2, d3, d4, e2, e3, e4, f1, f2, f3⟩ := yh hc
 obtain ⟨r, n, hr, hn, ⟨n1, n2, n3⟩, q⟩ := h
 have hi := a1
 have hj := d1
 obtain rfl := b1
 have hf := f1
 have hd := b2
 obtain ⟨mg, mb, m1, m2, _, _, hb⟩ := W.zL
 obtain ⟨F3, F4⟩ := hb 4 (by decide)
 refine wpAny_Assign_Name (wpAny_Call_method_late (ci rfl) rfl g1 rfl ?_) rfl
 refine uT T (fN hi (a2) a3 a4 R L hr (Q := fun V H1 => V = .str r ∧ H1 = H) ⟨rfl, rfl⟩) fun V1 v1 H1 s1 T1 q1 r1 R1 x1 => ?_
 obtain ⟨rfl, rfl⟩ := q1
 obtain ⟨t1, rfl⟩ := r1
 have L1 := L.step x1
 have F1 := Fh.step x1
 refine ⟨"str", "str.replace", F.plainAttrs_str, F.slot_str_replace, F.type_str_replace, typeIs_str _ _ _, (fun a e => by cases e), ?_⟩
 refine callWith_of (P := fun _ => True) (by rfl) (fun _ _ => pt) ?_
 refine Calls.evalArgs_plain ?_
 show wpAny _ _ (spliced (backTo pos (starEach [(Expr.Constant (Const.str d) dk dp).BinOp Operator.Mult (Expr.Name z zp) bp, (Expr.Name f fp).Call [Expr.Name z' D6] [] cp] env))) _ _ _
 refine wpAny_items_cons (wpAny_BinOp (wpAny_Constant_str ?_)) rfl
 subst hd
 generalize hs2 : ({ s1 with toks := s1.toks + 1 } : Shared) = s2
 have x2 : Step aL H1 s1 H1 s2 := hs2 ▸ stepT
 have R2 : Rep base ac H1 s2 := hs2 ▸ eQ R1
 have T2 : s1.toks + 1 ≤ s2.toks := by rw [← hs2]; exact Nat.le_refl _
 refine wpAny_mono (wpAny_toks_of (n := s1.toks + 1) T2 (fN hj (d2) d3 d4 R2 (L1.step x2) hn (Q := fun V H2 => V = .int n ∧ H2 = H1) ⟨rfl, rfl⟩)) (fun v2 s3 ⟨T3, V2, H2, q2, r2, R3, x3⟩ => ?_) fun _ _ e => e.2
 obtain ⟨rfl, rfl⟩ := q2
 obtain ⟨t2, rfl⟩ := r2
 refine rX (u := s1.toks) (s := s3) ⟨n1, n2⟩ T1 (Nat.lt_of_succ_le T3) fun u tk hu hlt => ?_
 generalize rR : ({ s3 with toks := tk } : Shared) = s4
 have x4 : Step aL H2 s3 H2 s4 := rR ▸ stepT
 have R4 : Rep base ac H2 s4 := rR ▸ eQ R3
 have T4 : u + 1 ≤ s4.toks := by rw [← rR]; exact hlt
 have L4 := ((L1.step x2).step x3).step x4
 refine wpAny_items_cons ?_ rfl
 subst hf
 refine wpAny_Call_NameR (ld m1 m2 F3 F4 f2 f3 R4 L4 ?_)
 refine callWith_of (P := fun _ => True) (by rfl) (fun _ _ => g9) ?_
 refine Calls.evalArgs_plain ?_
 show wpAny _ _ (spliced (backTo cp (starEach [Expr.Name z' D6] env))) _ _ _
 refine wpAny_items_cons ?_ rfl
 refine wpAny_mono (wpAny_toks_of (n := u + 1) T4 (fN hj (e2) e3 e4 R4 L4 hn (Q := fun V H3 => V = .int n ∧ H3 = H2) ⟨rfl, rfl⟩)) (fun v5 s5 ⟨T5, V5, H5, q5, r5, R5, x5⟩ => ?_) fun _ _ e => e.2
 obtain ⟨rfl, rfl⟩ := q5
 obtain ⟨t5, rfl⟩ := r5
 refine wpAny_items_nil ⟨trivial, ?_⟩
 refine P.str_of_int ?_ ?_
 ·have : n.natAbs.log2 ≤ n.natAbs := Nat.log2_le_self _
  (exact lin [_,_] [_] [.LE (.v 0) (.n 9),.le (.v 0) (.v 1),.EQ (.c (.v 1)) (.v 0)] (.lt (.v 0) (.n 1920)) [1,1,1,1] rfl n2 this (Int.natAbs_of_nonneg (lin [] [_] [.LE (.n 1) (.v 0)] (.LE (.n 0) (.v 0)) [1,1] rfl n1)))
 refine wpAny_items_nil ⟨trivial, ?_⟩
 refine SC.replace (Nat.ne_of_gt hu) (Nat.ne_of_gt (Nat.lt_of_le_of_lt (Nat.zero_le _) T5)) (Nat.ne_of_lt T5) (An ⟨n1, n2⟩) ?_ fun t' tk => ?_
 ·have e := yg ⟨n1, n2⟩
  have e2 : (st r).length = r.length := bH r
  have e3 : (toString n : Str).length = 1 := e
  rw [e3, e2]
  (exact ln [_] [.le (.v 0) (.n 100)] (.le (.a (.v 0) (.r (.a (.v 0) (.n 1)) 1)) (.n 16777216)) [1,2] rfl n3)
 ·generalize D7 : ({ ({ s5 with toks := s5.toks + 1 } : Shared) with toks := tk } : Shared) = s6
  have x6 : Step aL H5 s5 H5 s6 := by
   rw [← D7]
   exact stepT (s := s5) (tk := tk)
  have R6 : Rep base ac H5 s6 := by
   rw [← D7]
   exact eQ (s := s5) (tk := tk) R5
  have xx : Step aL H5 s H5 s6 := ((((x1.trans x2).trans x3).trans x4).trans x5).trans x6
  exact cz c1 R6 (L.step xx) (Fh.step xx) (jy _ _) fun s7 R7 L7 x7 => eT R7 (xx.any.trans x7) L7 q
mutual
theorem ss (W : Wd prog w base ac K C tb fv k) : ∀ x, PS prog w base ac C tb k x
 | .ex e => Cu W e
 | .asg i e => Am W i e
 | .p9 is e => Al W is e
 | .aE o a e => vU W o a e
 | .cM o i e => xZ W o i e
 | .aQ i op e => x8 W i op e
 | .mB o a op e => x9 W o a op e
 | .gM o i op e => yb W o i op e
 | .ite t a b => Ai W t (tF W a) (tF W b)
 | .for_ i it b => Ak W i it (tF W b)
 | .fH t b => vW W t (tF W b)
 | .ret e => Ah W e
 | .uH => xX
 | .cont => xY
 | .try_ b => Aj (tF W b)
 | .raise => vT
 | .rep i k => Ao W i k
theorem tF (W : Wd prog w base ac K C tb fv k) : ∀ x, qA prog w base ac C tb k x
 | .nil => yc
 | .cons s r => vV (ss W s) (tF W r)
end
end
structure Fn where
 ar : Nat
 sl : List Str
 body : Ss
noncomputable def lX : List Arg → List Str → Bool
 | [], [] => true
 | a :: r, x :: s => seq a.arg x && lX r s
 | _, _ => false
theorem na : ∀ {as : List Arg} {xs : List Str}, lX as xs = true → as.map (·.arg) = xs
 | [], [], _ => rfl
 | [], _ :: _, h => by cases h
 | _ :: _, [], h => by cases h
 | a :: r, x :: s, h => by
  simp only [lX, Bool.and_eq_true] at h
  simp only [List.map_cons, seq_eq h.1, na h.2]
noncomputable def lY (x : Str) : List Str → Bool
 | [] => true
 | y :: r => !seq x y && lY x r
noncomputable def lZ : List Str → Bool
 | [] => true
 | x :: r => lY x r && lZ r
theorem nc : ∀ {x : Str} {l : List Str}, lY x l = true → x ∉ l
 | x, [], _ => by simp
 | x, y :: r, h => by
  simp only [lY, Bool.and_eq_true, Bool.not_eq_true'] at h
  intro m
  rcases List.mem_cons.mp m with e | m
  ·subst e; rw [gj] at h; cases h.1
  ·exact nc h.2 m
theorem nh : ∀ {l : List Str}, lZ l = true → l.Nodup
 | [], _ => List.nodup_nil
 | x :: r, h => by
  simp only [lZ, Bool.and_eq_true] at h
  exact List.nodup_cons.mpr ⟨nc h.1, nh h.2⟩
noncomputable def ma : bA → Bool
 | [] => true
 | (_, .free) :: _ => false
 | _ :: r => ma r
theorem jk : ∀ {ns : bA}, ma ns = true → ∀ p ∈ ns, p.2 ≠ .free
 | [], _, p, hp => by cases hp
 | (n, k) :: r, h, p, hp => by
  rcases List.mem_cons.mp hp with e | hp
  ·subst e
   cases k <;> first | exact absurd h Bool.false_ne_true | (intro q; cases q)
  ·refine jk (ns := r) ?_ p hp
   cases k <;> first | exact absurd h Bool.false_ne_true | exact h
noncomputable def gm (ns : bA) : List Str → Bool
 | [] => false
 | x :: r => (match lk ns x with | some .local => true | _ => false) || gm ns r
noncomputable def ni (ns : bA) : List Str → Bool
 | [] => true
 | x :: r => pv (lk ns x) && ni ns r
noncomputable def iG : List Str → Bool
 | [] => true
 | x :: r => !seq x dot0 && iG r
noncomputable def hZ (fd : FuncData) (F : Fn) : Bool :=
 decide (fd.scope.kind = .function) && !fd.scope.isCoroutine && !fd.scope.isGenerator &&
 (match fd.params.posonlyargs with | [] => true | _ => false) && (match fd.params.kwonlyargs with | [] => true | _ => false) && (match fd.params.vararg with | none => true | _ => false) && (match fd.params.kwarg with | none => true | _ => false) &&
 lX fd.params.args (F.sl.take F.ar) && (match fd.closure with | [] => true | _ => false) && (match fd.defaults with | .none => true | _ => false) && Nat.beq fd.globals mainGlobals && Nat.beq fd.builtins builtinsNs &&
 ni fd.scope.names (F.sl.take F.ar) && lZ F.sl && iG F.sl && ma fd.scope.names && Nat.ble F.ar F.sl.length
structure Shape (fd : FuncData) (F : Fn) : Prop where
 kind : fd.scope.kind = .function
 co : fd.scope.isCoroutine = false
 gen : fd.scope.isGenerator = false
 po : fd.params.posonlyargs = []
 ko : fd.params.kwonlyargs = []
 va : fd.params.vararg = none
 kw : fd.params.kwarg = none
 args : fd.params.args.map (·.arg) = F.sl.take F.ar
 clo : fd.closure = []
 F5 : fd.defaults = .none
 glob : fd.globals = mainGlobals
 bi : fd.builtins = builtinsNs
 sts : ni fd.scope.names (F.sl.take F.ar) = true
 nd : F.sl.Nodup
 dots : iG F.sl = true
 free : ma fd.scope.names = true
 ar : F.ar ≤ F.sl.length
theorem pB {fd : FuncData} {F : Fn} (h : hZ fd F = true) : Shape fd F := by
 unfold hZ at h
 simp only [Bool.and_eq_true, Bool.not_eq_true', decide_eq_true_eq] at h
 obtain ⟨⟨⟨⟨⟨⟨⟨⟨⟨⟨⟨⟨⟨⟨⟨⟨h1, h2⟩, h3⟩, h4⟩, h5⟩, h6⟩, h7⟩, h8⟩, h9⟩, h10⟩, h11⟩, h12⟩, h13⟩, h14⟩, h15⟩, F6⟩, F7⟩ := h
 refine ⟨h1, h2, h3, ?_, ?_, ?_, ?_, na h8, ?_, ?_, Nat.eq_of_beq_eq_true h11, Nat.eq_of_beq_eq_true h12, h13, nh h14, h15, F6, Nat.le_of_ble_eq_true F7⟩
 ·split at h4 <;> first | assumption | cases h4
 ·split at h5 <;> first | assumption | cases h5
 ·split at h6 <;> first | assumption | cases h6
 ·split at h7 <;> first | assumption | cases h7
 ·split at h9 <;> first | assumption | cases h9
 ·split at h10 <;> first | assumption | cases h10
theorem lq {α β : Type} {f g : α → Option β} : ∀ {l : List α}, (∀ x ∈ l, f x = g x) → l.filterMap f = l.filterMap g
 | [], _ => rfl
 | x :: r, h => by
  rw [List.filterMap_cons, List.filterMap_cons, h x (.head _), lq fun y hy => h y (.tail _ hy)]
theorem lu : ∀ {ns : List Str} {vs : List Value}, ns.Nodup → vs.length = ns.length → ns.filterMap (fun n => ((ns.zip vs).lookup n).map (n, ·)) = ns.zip vs ∧ ∀ n ∈ ns, ((ns.zip vs).lookup n).isSome = true
 | [], vs, _, _ => ⟨by simp, by simp⟩
 | n :: ns, [], _, h => by simp at h
 | n :: ns, v :: vs, hn, h => by
  rw [List.nodup_cons] at hn
  obtain ⟨a, b⟩ := lu (ns := ns) (vs := vs) hn.2 (by simpa using h)
  constructor
  ·rw [List.zip_cons_cons, List.filterMap_cons]
   simp only [List.lookup_cons, beq_self_eq_true, Option.map_some]
   congr 1
   refine Eq.trans (lq fun x hx => ?_) a
   have : (x == n) = false := by
    have : x ≠ n := fun e => hn.1 (e ▸ hx)
    simpa using this
   rw [this]
  ·intro x hx
   rw [List.zip_cons_cons, List.lookup_cons]
   cases e : x == n with
   | true => rfl
   | false =>
    rcases List.mem_cons.mp hx with q | q
    ·subst q; simp at e
    ·exact b x q
theorem rY {fd : FuncData} {F : Fn} {ws : List Value} (S : Shape fd F) (hl : ws.length = F.ar) : bindArgs fd ⟨ws, []⟩ = pure ((F.sl.take F.ar).zip ws) := by
 have hlen : (F.sl.take F.ar).length = F.ar := by rw [List.length_take]; have := S.ar; omega
 have nd : (F.sl.take F.ar).Nodup := S.nd.sublist (List.take_sublist _ _)
 obtain ⟨a, b⟩ := lu (vs := ws) nd (by rw [hl, hlen])
 unfold bindArgs
 simp only [S.po, S.ko, S.va, S.kw, S.args, S.F5, List.map_nil, List.nil_append, List.append_nil, List.forIn_nil, pure_bind]
 have e1 : (seqItems? Value.none : Sem (Option (Array Value))) = pure none := rfl
 rw [e1]
 simp only [pure_bind, Option.getD_none, List.length_nil, Nat.sub_zero, List.drop_nil, hlen, hl, gt_iff_lt, Nat.lt_irrefl, decide_false, Bool.false_and, Bool.false_eq_true, if_false]
 have e2 : ((F.sl.take F.ar).take F.ar).filter (fun n => (((F.sl.take F.ar).zip ws).lookup n).isNone) = [] := by
  rw [List.filter_eq_nil_iff]
  intro x hx
  have := b x (List.mem_of_mem_take hx)
  rw [Option.isNone_iff_eq_none]
  intro q; rw [q] at this; cases this
 rw [e2]
 simp only [List.isEmpty_nil, Bool.not_true, Bool.false_eq_true, if_false, List.zip_nil_right, List.forIn_nil, pure_bind]
 rw [a]
theorem jJ {kd : Str → Option NameKind} : ∀ {bs : List (Str × Value)} {m : Str → Option Value} {y : Str}, (∀ p ∈ bs, p.1 ≠ y) → bindL kd bs m y = m y
 | [], m, y, h => rfl
 | (n, v) :: r, m, y, h => by
  unfold bindL
  rw [jJ (bs := r) fun p hp => h p (.tail _ hp)]
  have := h (n, v) (.head _)
  split
  ·show (if y = n then _ else _) = _
   rw [if_neg (fun e => this e.symm)]
  ·rfl
theorem jK {kd : Str → Option NameKind} : ∀ {bs : List (Str × Value)} {m : Str → Option Value} {y : Str}, (∀ p ∈ bs, p.1 ≠ y) → bindC kd bs m y = m y
 | [], m, y, h => rfl
 | (n, v) :: r, m, y, h => by
  unfold bindC
  rw [jK (bs := r) fun p hp => h p (.tail _ hp)]
  have := h (n, v) (.head _)
  split
  ·rfl
  ·show (if y = n then _ else _) = _
   rw [if_neg (fun e => this e.symm)]
theorem jm {kd : Str → Option NameKind} : ∀ {ns : List Str} {vs : List V} {ws : List Value} {m cm : Str → Option Value}, ns.Nodup → aF vs ws → ∀ {i : Nat} {V : V}, i < ns.length → vs[i]? = some V →
  ∃ x, aN V x ∧ (kd (ns.getD i Str.empty) = some .local → bindL kd (ns.zip ws) m (ns.getD i Str.empty) = some x) ∧ (kd (ns.getD i Str.empty) ≠ some .local → bindC kd (ns.zip ws) cm (ns.getD i Str.empty) = some x)
 | [], vs, ws, m, cm, _, _, i, V, h, _ => by cases h
 | n :: ns, [], ws, m, cm, _, r, i, V, h, e => by simp at e
 | n :: ns, v :: vs, _, m, cm, hn, .cons (v := w) (vs := ws) r1 r2, i, V, h, e => by
  rw [List.nodup_cons] at hn
  cases i with
  | zero =>
   simp only [List.getElem?_cons_zero, Option.some.injEq] at e
   subst e
   refine ⟨w, r1, fun k => ?_, fun k => ?_⟩
   ·show bindL kd ((n, w) :: ns.zip ws) m n = some w
    have k' : kd n = some .local := k
    unfold bindL
    rw [jJ, if_pos k']
    ·simp
    ·intro p hp q
     have := (List.of_mem_zip hp).1
     rw [q] at this; exact hn.1 this
   ·show bindC kd ((n, w) :: ns.zip ws) cm n = some w
    have k' : kd n ≠ some .local := k
    unfold bindC
    rw [jK, if_neg k']
    ·simp
    ·intro p hp q
     have := (List.of_mem_zip hp).1
     rw [q] at this; exact hn.1 this
  | succ i =>
   simp only [List.getElem?_cons_succ] at e
   obtain ⟨x, a, b, c⟩ := jm (kd := kd) (m := if kd n = some .local then fun y => if y = n then some w else m y else m) (cm := if kd n = some .local then cm else fun y => if y = n then some w else cm y) hn.2 r2 (i := i) (V := V) (by simpa using h) e
   refine ⟨x, a, fun k => ?_, fun k => ?_⟩
   ·have := b k
    simpa [bindL] using this
   ·have := c k
    simpa [bindC] using this
theorem ia : ∀ {ns : bA} {x : Str} {n : Nat} {acc : List (Str × Addr)}, ((x, NameKind.cell) ∈ ns ∨ ∃ c, (x, c) ∈ acc) → ∃ c, (x, c) ∈ cellsFrom n ns acc
 | [], x, n, acc, h => by
  rcases h with h | h
  ·cases h
  ·exact h
 | (y, k) :: r, x, n, acc, h => by
  unfold cellsFrom
  split
  ·rename_i e
   have e' : k = .cell := by simpa using e
   subst e'
   refine ia ?_
   rcases h with h | ⟨c, h⟩
   ·rcases List.mem_cons.mp h with q | q
    ·injection q with q _; subst q; exact .inr ⟨n, .head _⟩
    ·exact .inl q
   ·exact .inr ⟨c, .tail _ h⟩
  ·rename_i e
   refine ia ?_
   rcases h with h | h
   ·rcases List.mem_cons.mp h with q | q
    ·injection q with _ q; subst q; exact absurd (by rfl) e
    ·exact .inl q
   ·exact .inr h
theorem eA : ∀ {l : List (Str × Addr)} {x : Str} {c : Addr}, (x, c) ∈ l → ∃ c, l.lookup x = some c
 | (y, d) :: r, x, c, h => by
  rw [List.lookup_cons]
  cases e : x == y with
  | true => exact ⟨d, rfl⟩
  | false =>
   rcases List.mem_cons.mp h with q | q
   ·injection q with q _; subst q; simp at e
   ·exact eA q
theorem ib {ns : bA} {x : Str} {n : Nat} (h : ns.lookup x = some .cell) : ∃ c, (cellsFrom n ns []).lookup x = some c := by
 have : (x, NameKind.cell) ∈ ns := by rw [← cJ] at h; exact cV h
 obtain ⟨c, hc⟩ := ia (n := n) (acc := []) (.inl this)
 exact eA hc
theorem nj {ns : bA} : ∀ {l : List Str}, ni ns l = true → ∀ x ∈ l, pv (lk ns x) = true
 | [], _, x, hx => by cases hx
 | y :: r, h, x, hx => by
  simp only [ni, Bool.and_eq_true] at h
  rcases List.mem_cons.mp hx with e | hx
  ·exact e ▸ h.1
  ·exact nj h.2 x hx
theorem lv : ∀ {l : List Str}, iG l = true → ∀ i, i < l.length → seq (l.getD i Str.empty) dot0 = false
 | [], _, i, h => by cases h
 | x :: r, h, 0, _ => by
  simp only [iG, Bool.and_eq_true, Bool.not_eq_true'] at h
  exact h.1
 | x :: r, h, i + 1, hi => by
  simp only [iG, Bool.and_eq_true, Bool.not_eq_true'] at h
  exact lv h.2 i (by simpa using hi)
section
variable {prog : Program} {w : World} {A : Around} {Eh : Value → Shared → Prop} {base : Heap} {ac : OsState} {H H' : Hp} {s s' s₁ : Shared} {X : Nat → Prop}
theorem Step.own (x : Step aL H s H s₁) (y : Step X H s₁ H' s') (h : ∀ b, X b → s.heap.get? b = none) : Step aL H s H' s' where
 same := fun b o e m _ => y.same b o (x.same b o e m id) m (fun q => by rw [h b q] at e; cases e)
 more := fun b q => by
  rcases y.more b q with q | q
  ·exact .inl q
  ·exact .inr (x.fresh q)
 live := fun b o e => by
  obtain ⟨o', e'⟩ := x.live b o e
  exact y.live b o' e'
 keys := fun b o q => by
  rcases y.keys b o q with q | q
  ·exact .inl q
  ·exact .inr (x.fresh q)
theorem gA {env : PySem.Env} {s₀ : Shared} (f : Str × Value → PUnit → Sem (ForInStep PUnit)) (hf : ∀ n v u, f (n, v) u = (do storeName env n v; pure (.yield ⟨⟩))) (hk : env.scope.kind = .function) {M : Model} {E : Value → Shared → Prop} :
  ∀ (binds : List (Str × Value)) (m cm : Str → Option Value) (s : Shared) (Q : PUnit → Shared → Prop), InCallC s₀ env.locals m env.cells cm s →
   (∀ x ∈ binds, env.kindOf x.1 = some .local ∨ (env.kindOf x.1 = some .cell ∧ (env.cells.lookup x.1).isSome = true)) →
   (0 < s.toks ∨ ∃ x ∈ binds, env.kindOf x.1 = some .local) →
   (∀ s', InCallC s₀ env.locals (bindL env.kindOf binds m) env.cells (bindC env.kindOf binds cm) s' → 0 < s'.toks → Q ⟨⟩ s') → wpAny M A (forIn binds ⟨⟩ f) Q E s
 | [], m, cm, s, Q, x, _, ht, h => by
  rw [List.forIn_nil]
  refine wpAny_pure (h s x ?_)
  rcases ht with ht | ⟨x, hx, _⟩
  ·exact ht
  ·cases hx
 | (n, v) :: r, m, cm, s, Q, x, hkind, ht, h => by
  rw [List.forIn_cons, hf]
  have hr : ∀ y ∈ r, env.kindOf y.1 = some .local ∨ (env.kindOf y.1 = some .cell ∧ (env.cells.lookup y.1).isSome = true) := fun y hy => hkind y (List.mem_cons_of_mem _ hy)
  rcases hkind (n, v) List.mem_cons_self with hl | ⟨hl, hc⟩
  ·refine wpAny_bind (wpAny_bind ?_)
   refine wpAny_storeName_local hl x.toInCall.ns (fun h' hn' hs' => ?_) (by rw [hk]; rfl)
   have x' : InCallC s₀ env.locals (fun y => if y = n then some v else m y) env.cells cm { s with heap := h', toks := s.toks + 1 } := by
    refine ⟨⟨?_, hn', fun b o e => ?_, x.toInCall.fresh⟩, fun k c hc => ?_, x.apart, x.above⟩
    ·obtain ⟨h₁, tk, rfl⟩ := x.toInCall.same
     exact ⟨h', _, rfl⟩
    ·exact hs'.extBut b o (Nat.ne_of_lt (Nat.lt_of_lt_of_le (Heap.lt_size e) x.toInCall.fresh)) (x.toInCall.keep b o e)
    ·exact (x.cell k c hc).sameBut hs' (Nat.ne_of_gt (x.above k c (mem_of_lookup hc)))
   refine wpAny_pure (gA f hf hk r _ _ _ Q x' hr (.inl (Nat.succ_pos _)) fun s'' x'' t'' => h s'' ?_ t'')
   unfold bindL bindC; rw [if_pos hl, if_pos hl]; exact x''
  ·obtain ⟨c, hc⟩ := Option.isSome_iff_exists.mp hc
   have hnl : ¬ env.kindOf n = some .local := by rw [hl]; decide
   have go : wpAny M A (storeName env n v) (fun _ s' => InCallC s₀ env.locals m env.cells (fun y => if y = n then some v else cm y) s') E s := stCC x hk hl hc fun s' x' => x'
   refine wpAny_bind (wpAny_bind (wpAny_mono (wpAny_toks_of (n := s.toks) (Nat.le_refl _) go) (fun _ s' ⟨t', x'⟩ => wpAny_pure (gA f hf hk r _ _ s' Q x' hr ?_ fun s'' x'' t'' => h s'' ?_ t'')) fun _ _ e => e.2))
   ·rcases ht with ht | ⟨y, hy, hy'⟩
    ·exact .inl (Nat.lt_of_lt_of_le ht t')
    ·rcases List.mem_cons.mp hy with q | q
     ·subst q; rw [hl] at hy'; cases hy'
     ·exact .inr ⟨y, q, hy'⟩
   ·unfold bindL bindC; rw [if_neg hnl, if_neg hnl]; exact x''
theorem kz {scope : Scope} {globals : Addr} {binds : List (Str × Value)} {qual : Str} {func : Option Addr} {code : Value} {builtins : Addr} {M : Model} {E : Value → Shared → Prop} {Q : PySem.Env → Shared → Prop}
  (hk : scope.kind = .function)
  (hkind : ∀ x ∈ binds, scope.names.lookup x.1 = some .local ∨ (scope.names.lookup x.1 = some .cell ∧ ((cellsFrom (s.heap.objs.size + 1) scope.names []).lookup x.1).isSome = true))
  (ht : ∃ x ∈ binds, scope.names.lookup x.1 = some .local)
  (hQ : ∀ env, env = newEnv scope s.heap.objs.size globals (cellsFrom (s.heap.objs.size + 1) scope.names []) qual func code none builtins →
   ∀ s', InCallC s env.locals (bindL env.kindOf binds fun _ => none) env.cells (bindC env.kindOf binds fun _ => none) s' → 0 < s'.toks → Q env s') :
  wpAny M A (newFunctionEnv scope globals [] binds qual func code none builtins) Q E s := by
 simp only [newFunctionEnv, Option.isSome_none, Bool.false_eq_true, if_false]
 refine wpAny_bind (wpAny_alloc ?_)
 refine wpAny_bind (wpAny_layCells _ (fun name kind cells => by cases hkc : kind == NameKind.cell <;> simp [hkc]) _ _ _ _ ?_)
 have ok := cellsFrom_ok scope.names (s.heap.push { cls := .type "frame", data := .dict #[] }) (s.heap.objs.size + 1) [] ⟨fun _ _ hm => (nomatch hm), List.Pairwise.nil⟩ (by rw [Heap.size_push]; exact Nat.le_refl _)
 rw [Heap.size_push] at ok
 rw [show ({ s with heap := s.heap.push { cls := .type "frame", data := .dict #[] } } : Shared).heap.objs.size = s.heap.objs.size + 1 from Heap.size_push ..]
 refine wpAny_bind (gA (s₀ := s) (env := newEnv scope s.heap.objs.size globals (cellsFrom (s.heap.objs.size + 1) scope.names []) qual func code none builtins)
  _ (fun _ _ _ => rfl) hk binds (fun _ => none) (fun _ => none) _ _
  ⟨⟨⟨_, _, rfl⟩, (Heap.Ns.new s.heap (.type "frame")).keeps (pushCells_keeps _ _), fun b o e => pushCells_keeps _ _ b o (Heap.get?_push_of_some _ e), Nat.le_refl _⟩,
   fun n c hc => (ok.empty n c (mem_of_lookup hc)).1, ok.apart, fun n c hm => (ok.empty n c hm).2⟩
  hkind (.inr ht) fun s' x t => wpAny_pure (hQ _ rfl s' x t))
end
noncomputable def gp (vs : List V) : ap := fun i => vs[i]?
noncomputable def bT (Q : V → Hp → Prop) : SQ := fun fl _ H' => match fl with
 | .ret v => ∃ aH, Sb aH H' ∧ Q v aH
 | .next => ∃ aH, Sb aH H' ∧ Q .none aH
 | .cont => False
section
variable {prog : Program} {w : World} {A : Around} {Eh : Value → Shared → Prop} {base : Heap} {ac : OsState} {H H' : Hp} {s s' s₁ : Shared} {X : Nat → Prop}
 {K : Frag} {C : Cfg} {tb : Tb} {fv : Nat → Value} {k : Nat}
theorem pC {h : Heap} {b : Nat} (e : h.objs.size ≤ b) : h.get? b = none := by
 cases q : h.get? b with
 | none => rfl
 | some o => exact absurd (Heap.lt_size q) (Nat.not_lt.mpr e)
theorem entry {fd : FuncData} {F : Fn} {vs : List V} {ws : List Value} {fa : Addr} (S : Shape fd F) (hl : vs.length = F.ar) (r : aF vs ws) (R : Rep base ac H s)
  (x : InCallC s (callEnvC fd s.heap.objs.size fa).locals (bindL (callEnvC fd s.heap.objs.size fa).kindOf ((F.sl.take F.ar).zip ws) fun _ => none) (callEnvC fd s.heap.objs.size fa).cells
    (bindC (callEnvC fd s.heap.objs.size fa).kindOf ((F.sl.take F.ar).zip ws) fun _ => none) s₁) :
  Rep base ac H s₁ ∧ Step aL H s H s₁ ∧ Loc fd.scope.names F.sl (gp vs) (callEnvC fd s.heap.objs.size fa) H s₁ ∧ Fr base (callEnvC fd s.heap.objs.size fa) H s₁ ∧ (∀ b, Own (callEnvC fd s.heap.objs.size fa) b → s.heap.get? b = none) := by
 have hk := x.toInCall.keep
 obtain ⟨h₁, tk, e1⟩ := x.toInCall.same
 have R1 : Rep base ac H s₁ := R.grow hk (by rw [e1]) (by rw [e1])
 have x1 : Step aL H s H s₁ := Step.grow hk
 have hkind : ∀ y, (callEnvC fd s.heap.objs.size fa).kindOf y = lk fd.scope.names y := fun y => (cJ _ _).symm
 have fr : ∀ b, Own (callEnvC fd s.heap.objs.size fa) b → s.heap.get? b = none := by
  rintro b (rfl | ⟨y, e⟩)
  ·exact pC (Nat.le_refl _)
  ·exact pC (Nat.le_of_lt (x.above y b (mem_of_lookup e)))
 have hid : ∀ b, Own (callEnvC fd s.heap.objs.size fa) b → (∃ o, s₁.heap.get? b = some o) → Hid base H s₁ b := fun b ho he => ⟨(R.fresh (fr b ho)).1, (R.fresh (fr b ho)).2, he⟩
 have D8 : ∃ o, s₁.heap.get? (callEnvC fd s.heap.objs.size fa).locals = some o := by obtain ⟨o, _, _, e, _⟩ := x.toInCall.ns; exact ⟨o, e⟩
 have D9 : ∀ y c, (callEnvC fd s.heap.objs.size fa).cells.lookup y = some c → ∃ o, s₁.heap.get? c = some o := fun y c e => by obtain ⟨o, e, _⟩ := x.cell y c e; exact ⟨o, e⟩
 have hlen : (F.sl.take F.ar).length = F.ar := by rw [List.length_take]; have := S.ar; omega
 have nd : (F.sl.take F.ar).Nodup := S.nd.sublist (List.take_sublist _ _)
 have slot : ∀ i, i < F.ar → (F.sl.take F.ar).getD i Str.empty = F.sl.getD i Str.empty := fun i hi => by
  simp only [List.getD_eq_getElem?_getD, List.getElem?_take, hi, if_true]
 have small : ∀ i V, gp vs i = some V → i < F.ar := fun i V e => by
  have := (List.getElem?_eq_some_iff.mp e).1
  (exact ln [_,_,_] [.eq (.v 2) (.v 1),.lt (.v 0) (.v 2)] (.lt (.v 0) (.v 1)) [1,1,1] rfl hl this)
 refine ⟨R1, x1, ⟨S.kind, S.glob, S.bi, fun y => ?_, ⟨_, x.toInCall.ns, fun i V hi e kk => ?_⟩, fun i V hi e kk => ?_, (hid _ (.inl rfl) D8).quiet.1, fun y c e => (hid c (.inr ⟨y, e⟩) (D9 y c e)).quiet.1, fun y c e => ⟨_, x.cell y c e⟩, fun y kk => ?_, lv S.dots, fun i j hi hj e => ?_⟩, ⟨hid _ (.inl rfl) D8, fun y c e => hid c (.inr ⟨y, e⟩) (D9 y c e), fun y z c e e' => name_of_addr x.apart (mem_of_lookup e) (mem_of_lookup e')⟩, fr⟩
 ·rw [hkind]
  cases q : lk fd.scope.names y with
  | none => trivial
  | some kk => cases kk <;> simp [iD]
 ·have hi' := small i V e
  obtain ⟨z, a, b, c⟩ := jm (kd := (callEnvC fd s.heap.objs.size fa).kindOf) (m := fun _ => none) (cm := fun _ => none) nd r (i := i) (V := V) (by rw [hlen]; exact hi') e
  rw [slot i hi'] at b
  exact ⟨z, b kk, a⟩
 ·have hi' := small i V e
  obtain ⟨z, a, b, c⟩ := jm (kd := (callEnvC fd s.heap.objs.size fa).kindOf) (m := fun _ => none) (cm := fun _ => none) nd r (i := i) (V := V) (by rw [hlen]; exact hi') e
  rw [slot i hi'] at c
  have hc : (callEnvC fd s.heap.objs.size fa).kindOf (F.sl.getD i Str.empty) = some .cell := by
   rcases kk with kk | kk
   ·exact kk
   ·rw [hkind] at kk
    exact absurd rfl (jk S.free _ (cV kk))
  obtain ⟨d, hd⟩ := ib (n := s.heap.objs.size + 1) (show fd.scope.names.lookup _ = some .cell from hc)
  refine ⟨d, z, hd, ?_, a⟩
  have := x.cell _ d hd
  rw [c (by rw [hc]; decide)] at this
  exact this
 ·have hc : (callEnvC fd s.heap.objs.size fa).kindOf y = some .cell := by
   rcases kk with kk | kk
   ·exact kk
   ·rw [hkind] at kk
    exact absurd rfl (jk S.free _ (cV kk))
  exact ib (n := s.heap.objs.size + 1) (show fd.scope.names.lookup _ = some .cell from hc)
 ·simp only [List.getD_eq_getElem?_getD, List.getElem?_eq_getElem hi, List.getElem?_eq_getElem hj, Option.getD_some] at e
  exact (List.getElem_inj S.nd).mp e
theorem dv.deeper (hA : dv A (k + 1)) (env : PySem.Env) : dv (A.deeper env) k := by
 refine ⟨hA.hh, ?_, ?_⟩
 ·have := hA.dp
  show A.depth + 1 + k ≤ 900
  (exact ln [_,_] [.le (.a (.v 0) (.a (.v 1) (.n 1))) (.n 900)] (.le (.a (.a (.v 0) (.n 1)) (.v 1)) (.n 900)) [1,1] rfl this)
 ·have := hA.un
  show A.units + 3 + 8 * k ≤ 9000
  (exact ln [_,_] [.le (.a (.v 0) (.k 8 (.a (.v 1) (.n 1)))) (.n 9000)] (.le (.a (.a (.v 0) (.n 3)) (.k 8 (.v 1))) (.n 9000)) [1,1] rfl this)
noncomputable def jL (tb : Tb) (fd : FuncData) (F : Fn) : Bool := match fd.body with
 | .stmts b => hX tb fd.scope.names F.sl F.body b
 | _ => false
noncomputable def bg (prog : Program) (w : World) (base : Heap) (ac : OsState) (Sp : List V → Hp → (V → Hp → Prop) → Prop) (fv : Value) (k : Nat) : Prop :=
 ∀ (A : Around) (ws : List Value) (vs : List V) (H : Hp) (Q : V → Hp → Prop) (s : Shared) (R : Result → Shared → Prop), dv A k → Sp vs H Q → aF vs ws → Rep base ac H s →
  (∀ v s', Post base ac aL H s Q v s' → R (.ok (.ret v)) s') → codeAny (model prog w) A (.call fv ⟨ws, []⟩) R s
theorem bg.call {Sp : List V → Hp → (V → Hp → Prop) → Prop} {f : Value} (h : bg prog w base ac Sp f k) : lW prog w base ac Sp f k :=
 fun A ws vs H Q s E hA hs r R => wpAny_call (h A ws vs H Q s _ hA hs r R fun v s' p => p)
theorem dv.mono {k' : Nat} (h : dv A k) (hk : k' ≤ k) : dv A k' := ⟨h.hh, by have := h.dp; (exact ln [_,_,_] [.le (.v 1) (.v 2),.le (.a (.v 0) (.v 2)) (.n 900)] (.le (.a (.v 0) (.v 1)) (.n 900)) [1,1,1] rfl hk this), by have := h.un; (exact ln [_,_,_] [.le (.v 1) (.v 2),.le (.a (.v 0) (.k 8 (.v 2))) (.n 9000)] (.le (.a (.v 0) (.k 8 (.v 1))) (.n 9000)) [1,8,1] rfl hk this)⟩
theorem bg.mono {Sp : List V → Hp → (V → Hp → Prop) → Prop} {f : Value} {k' : Nat} (h : bg prog w base ac Sp f k) (hk : k ≤ k') : bg prog w base ac Sp f k' :=
 fun A ws vs H Q s R hA hs r Rr g => h A ws vs H Q s R (hA.mono hk) hs r Rr g
theorem yi (W : Wd prog w base ac K C tb fv k) {Sp : List V → Hp → (V → Hp → Prop) → Prop} {fd : FuncData} {F : Fn} {fa : Addr} {o : Obj} (ho : base.get? fa = some o) (hd : o.data = .func fd) (hcd : base.CodeRec fd.code fd.qualname)
  (hs : hZ fd F = true) (hb : jL tb fd F = true) (hloc : gm fd.scope.names (F.sl.take F.ar) = true)
  (hsp : ∀ vs H Q, Sp vs H Q → vs.length = F.ar ∧ cB C F.body (gp vs) H (bT Q)) : bg prog w base ac Sp (.ref fa) (k + 1) := by
 intro A ws vs H Q s Rr hA h r R g
 have S := pB hs
 obtain ⟨hl, h⟩ := hsp vs H Q h
 unfold jL at hb
 split at hb
 rotate_left
 ·cases hb
 rename_i body hbody
 have hlen := r.length
 refine codeAny_call_function (by have := hA.dp; rw [pg]; (exact ln [_,_] [.le (.a (.v 0) (.a (.v 1) (.n 1))) (.n 900)] (.lt (.v 0) (.n 1000)) [1,1] rfl this)) (R.keep _ _ ho) hd S.co S.gen hbody (hcd.keeps R.keep) ?_
 rw [rY S (by exact lie [_,_,_] [.eq (.v 2) (.v 1),.eq (.v 0) (.v 2)] (.v 0) (.v 1) [1,1,1] [1,-1,-1] rfl rfl hl hlen), S.clo]
 have hmem : ∀ x ∈ (F.sl.take F.ar).zip ws, x.1 ∈ F.sl.take F.ar := fun x hx => (List.of_mem_zip hx).1
 refine wpAny_pure (kz S.kind (fun x hx => ?_) ?_ fun env he s₁ xx T => ?_)
 ·have a := nj S.sts _ (hmem x hx)
  rw [cJ] at a
  cases q : fd.scope.names.lookup x.1 with
  | none => rw [q] at a; exact absurd a Bool.false_ne_true
  | some kk =>
   rw [q] at a
   cases kk <;> first | exact absurd a Bool.false_ne_true | skip
   ·exact .inl rfl
   ·refine .inr ⟨rfl, ?_⟩
    obtain ⟨c, hc⟩ := ib (n := s.heap.objs.size + 1) q
    rw [hc]; rfl
 ·have find : ∀ (l : List Str) (ws : List Value), l.length = ws.length → gm fd.scope.names l = true → ∃ x ∈ l.zip ws, fd.scope.names.lookup x.1 = some .local := by
   intro l
   induction l with
   | nil => intro ws _ h; cases h
   | cons y l ih =>
    intro ws hw h
    cases ws with
    | nil => cases hw
    | cons z ws =>
     simp only [gm, Bool.or_eq_true] at h
     rcases h with h | h
     ·refine ⟨(y, z), .head _, ?_⟩
      rw [← cJ]
      cases q : lk fd.scope.names y with
      | none => rw [q] at h; cases h
      | some kk => rw [q] at h; cases kk <;> first | rfl | cases h
     ·obtain ⟨x, hx, e⟩ := ih ws (by simpa using hw) h
      exact ⟨x, .tail _ hx, e⟩
  exact find _ _ (by rw [List.length_take]; have := S.ar; omega) hloc
 subst he
 obtain ⟨R1, x1, L1, F1, fr⟩ := entry (fa := fa) S hl r R xx
 refine ⟨W.xu.keeps R1.keep, codeAny_func ?_⟩
 refine wpAny_mono (tF W F.body _ _ _ _ _ _ _ _ (bT Q) _ hb (hA.deeper _) T R1 L1 F1 h) (fun f s' ⟨fl, af, H', q, rr, R', x', L'⟩ => ?_) fun _ _ e => e
 have D' := Step.own x1 x' fr
 cases rr with
 | next => obtain ⟨aH, sb, q⟩ := q; exact g _ _ ⟨.none, aH, q, rfl, R'.drop sb, D'.drop sb⟩
 | cont => exact q.elim
 | ret rv => obtain ⟨aH, sb, q⟩ := q; exact g _ _ ⟨_, aH, q, rv, R'.drop sb, D'.drop sb⟩
theorem vY (W : Wd prog w base ac K C tb fv k) {Sp : List V → Hp → (V → Hp → Prop) → Prop} {fd : FuncData} {F : Fn} {fa : Addr} {o : Obj} {e : E} (ho : base.get? fa = some o) (hd : o.data = .func fd) (hcd : base.CodeRec fd.code fd.qualname)
  (hs : hZ fd F = true) (hb : jL tb fd F = true) (hF : F.body = .cons (.ret e) .nil) (har : F.ar = 0)
  (hsp : ∀ vs H Q, Sp vs H Q → vs = [] ∧ ay C e (gp []) H Q) : bg prog w base ac Sp (.ref fa) (k + 1) := by
 intro A ws vs H Q s Rr hA h r R g
 have S := pB hs
 obtain ⟨rfl, h2⟩ := hsp vs H Q h
 cases r
 unfold jL at hb
 split at hb
 rotate_left
 ·cases hb
 rename_i body hbody
 refine codeAny_call_function (by have := hA.dp; rw [pg]; (exact ln [_,_] [.le (.a (.v 0) (.a (.v 1) (.n 1))) (.n 900)] (.lt (.v 0) (.n 1000)) [1,1] rfl this)) (R.keep _ _ ho) hd S.co S.gen hbody (hcd.keeps R.keep) ?_
 rw [rY S (by rw [har]; rfl), S.clo]
 refine wpAny_pure (wpAny_newFunctionEnv_cells S.kind (fun x hx => by simp at hx) fun env he s₁ xx => ?_)
 subst he
 obtain ⟨R1, x1, L1, F1, fr⟩ := entry (fa := fa) (vs := []) S (by rw [har]; rfl) .nil R xx
 refine ⟨W.xu.keeps R1.keep, codeAny_func ?_⟩
 rw [hF] at hb
 cases body with
 | nil => cases hb
 | cons st rest =>
  refine hO (ag hb).1 fun v pos hr => ?_
  refine pA hr fun v hr => ?_
  refine wpAny_execs_cons (wpAny_Return_some (aG (se W e _ _ _ _ _ _ _ _ _ _ hr (hA.deeper _) R1 L1 h2) fun V v H' s' q rv R' x' => ?_))
  exact g _ _ ⟨V, H', q, rv, R', x1.trans x'⟩
theorem tG (c : Nat) (ws : List Value) : (Code.builtin "type.__call__" ⟨.ref c :: ws, []⟩).weight = 1 ∧ (Code.builtin "type.__call__" ⟨.ref c :: ws, []⟩).cUnits = 1 := by
 constructor <;> kernel_rfl
theorem call_cls (W : Wd prog w base ac K C tb fv k) {Sp Si : List V → Hp → (V → Hp → Prop) → Prop} {c fI : Addr} (hm : makesIn K c = true) (hi : findIn K (.ref c) "__init__" = some (some (.ref fI))) (hf : typeIn K (.ref fI) = some (.type "function"))
  (hI : bg prog w base ac Si (.ref fI) k) (hsp : ∀ vs H Q, Sp vs H Q → ∀ x d, Si (.ref x :: vs) ((x, .inst c d) :: (d, .dict []) :: H) (fun v H' => v = .none ∧ Q (.ref x) H')) : bg prog w base ac Sp (.ref c) (k + 1) := by
 intro A ws vs H Q s Rr hA h r R g
 obtain ⟨hh, gg, dd, tt, os⟩ := s
 have X : K.In hh := W.hK.keeps R.keep
 have X' : K.In ((hh.push emptyDict).push (instObj c hh.objs.size)) := X.keeps fun b o e => aU _ _ _ _ (aU _ _ _ _ e)
 refine make_core (makes_of X hm) (looks_findIn X hi) (fun self => bind_fn X self hf) (.inl rfl) ?_
 have hsz : (hh.push emptyDict).objs.size = hh.objs.size + 1 := Heap.size_push ..
 have k1 : ∀ b o, hh.get? b = some o → (hh.push emptyDict).get? b = some o := aU _ _
 have k2 : ∀ b o, (hh.push emptyDict).get? b = some o → ((hh.push emptyDict).push (instObj c hh.objs.size)).get? b = some o := aU _ _
 have R1 : Rep base ac ((hh.objs.size, .dict []) :: H) ⟨hh.push emptyDict, gg, dd, tt, os⟩ := R.new (s' := ⟨hh.push emptyDict, gg, dd, tt, os⟩) k1 (bL _) ⟨[], 0, Heap.get?_push_size _ rfl, .nil⟩ rfl rfl
 have x1 : Step aL H ⟨hh, gg, dd, tt, os⟩ ((hh.objs.size, .dict []) :: H) ⟨hh.push emptyDict, gg, dd, tt, os⟩ := Step.new (s' := ⟨hh.push emptyDict, gg, dd, tt, os⟩) k1 (bL _)
 have fx : (hh.push emptyDict).get? (hh.objs.size + 1) = none := by rw [← hsz]; exact bL _
 have gx : ((hh.push emptyDict).push (instObj c hh.objs.size)).get? (hh.objs.size + 1) = some (instObj c hh.objs.size) := by rw [← hsz]; exact Heap.get?_push_size _ rfl
 have R2 : Rep base ac ((hh.objs.size + 1, .inst c hh.objs.size) :: (hh.objs.size, .dict []) :: H) ⟨(hh.push emptyDict).push (instObj c hh.objs.size), gg, dd, tt, os⟩ :=
  R1.new (s' := ⟨(hh.push emptyDict).push (instObj c hh.objs.size), gg, dd, tt, os⟩) k2 fx gx rfl rfl
 have x2 : Step aL ((hh.objs.size, .dict []) :: H) ⟨hh.push emptyDict, gg, dd, tt, os⟩ ((hh.objs.size + 1, .inst c hh.objs.size) :: (hh.objs.size, .dict []) :: H) ⟨(hh.push emptyDict).push (instObj c hh.objs.size), gg, dd, tt, os⟩ :=
  Step.new (s' := ⟨(hh.push emptyDict).push (instObj c hh.objs.size), gg, dd, tt, os⟩) k2 fx
 have hw := tG c ws
 refine hI _ _ (.ref (hh.objs.size + 1) :: vs) _ _ _ _ ⟨hA.hh, ?_, ?_⟩ (hsp vs H Q h _ _) (.cons rfl r) R2 fun v s' p => ?_
 ·show A.depth + (Code.builtin "type.__call__" ⟨.ref c :: ws, []⟩).weight + k ≤ 900
  rw [hw.1]
  have := hA.dp
  (exact ln [_,_] [.le (.a (.v 0) (.a (.v 1) (.n 1))) (.n 900)] (.le (.a (.a (.v 0) (.n 1)) (.v 1)) (.n 900)) [1,1] rfl this)
 ·show A.units + (Code.builtin "type.__call__" ⟨.ref c :: ws, []⟩).cUnits + 8 * k ≤ 9000
  rw [hw.2]
  have := hA.un
  (exact ln [_,_] [.le (.a (.v 0) (.k 8 (.a (.v 1) (.n 1)))) (.n 9000)] (.le (.a (.a (.v 0) (.n 1)) (.k 8 (.v 1))) (.n 9000)) [1,1] rfl this)
 ·obtain ⟨V, H', ⟨rfl, q⟩, rv, R', x'⟩ := p
  exact ⟨rv, g _ _ ⟨.ref (hh.objs.size + 1), H', q, rfl, R', (x1.trans x2).trans x'⟩⟩
end
noncomputable def oR : Fn := ⟨2, ["side", "kind"], (.cons (.ret (.bin .Add (.bin .Mult (.var 0) (.ae 8)) (.var 1))) .nil)⟩
noncomputable def tH : Fn := ⟨1, ["piece"], (.cons (.ret (.bin .RShift (.var 0) (.ae 3))) .nil)⟩
noncomputable def tI : Fn := ⟨1, ["piece"], (.cons (.ret (.bin .BitAnd (.var 0) (.ae 7))) .nil)⟩
noncomputable def rZ : Fn := ⟨1, ["number"], (.cons (.ret (.and_ (.cons (.gf .Lt .Lt (.ae 0) (.var 0) (.ae 15)) (.cons (.cmp .NotEq (.var 0) (.ae 7)) (.cons (.cmp .NotEq (.var 0) (.ae 8)) .nil))))) .nil)⟩
noncomputable def qB : Fn := ⟨1, ["piece"], (.cons (.ite (.and_ (.cons (.cmp .NotEq (.var 0) (.glob 8)) (.cons (.not (.call 3 (.cons (.var 0) .nil))) .nil))) (.cons .raise .nil) .nil) (.cons (.ret (.idx (.glob 9) (.var 0))) .nil))⟩
noncomputable def r7 : Fn := ⟨1, ["letter"], (.cons (.ite (.or_ (.cons (.cmp .NotEq (.blt 0 (.cons (.var 0) .nil)) (.ae 1)) (.cons (.cmp .Eq (.var 0) (.aA [46])) .nil))) (.cons (.ret (.neg (.ae 1))) .nil) .nil) (.cons (.ret (.meth 2 (.glob 9) (.cons (.var 0) .nil))) .nil))⟩
noncomputable def oS : Fn := ⟨1, ["d"], (.cons (.ret (.or_ (.cons (.cmp .Gt (.idx (.glob 11) (.var 0)) (.ae 0)) (.cons (.cmp .Eq (.var 0) (.ae 1)) .nil)))) .nil)⟩
noncomputable def kA : Fn := ⟨5, ["self", "files", "ranks", "has_double", "has_castling"], (.cons (.aE (.var 0) 0 (.var 1)) (.cons (.aE (.var 0) 1 (.var 2)) (.cons (.aE (.var 0) 2 (.bin .Mult (.var 1) (.var 2))) (.cons (.aE (.var 0) 3 (.bin .Sub (.bin .LShift (.ae 1) (.bin .Mult (.var 1) (.var 2))) (.ae 1))) (.cons (.aE (.var 0) 4 (.and_ (.cons (.var 3) (.cons (.cmp .GtE (.var 2) (.ae 5)) .nil)))) (.cons (.aE (.var 0) 5 (.var 4)) (.cons (.aE (.var 0) 6 (.list .nil)) (.cons (.aE (.var 0) 7 (.list .nil)) (.cons (.aE (.var 0) 8 (.list .nil)) (.cons (.aE (.var 0) 9 (.list .nil)) (.cons (.aE (.var 0) 10 (.list .nil)) (.cons (.aE (.var 0) 11 (.list (.cons (.list .nil) (.cons (.list .nil) .nil)))) (.cons (.aE (.var 0) 12 (.list .nil)) (.cons (.aE (.var 0) 13 (.list .nil)) .nil))))))))))))))⟩
noncomputable def qC : Fn := ⟨1, ["geo", "row", "column", "r", "f"], (.cons (.asg 1 (.bin .Sub (.bin .LShift (.ae 1) (.attr (.var 0) 0)) (.ae 1))) (.cons (.asg 2 (.ae 0)) (.cons (.for_ 3 (.blt 1 (.cons (.attr (.var 0) 1) .nil)) (.cons (.ex (.meth 0 (.attr (.var 0) 7) (.cons (.bin .LShift (.var 1) (.bin .Mult (.var 3) (.attr (.var 0) 0))) .nil))) (.cons (.aQ 2 .BitOr (.bin .LShift (.ae 1) (.bin .Mult (.var 3) (.attr (.var 0) 0)))) .nil))) (.cons (.for_ 4 (.blt 1 (.cons (.attr (.var 0) 0) .nil)) (.cons (.ex (.meth 0 (.attr (.var 0) 6) (.cons (.bin .LShift (.var 2) (.var 4)) .nil))) .nil)) .nil))))⟩
noncomputable def kB : Fn := ⟨2, ["geo", "d", "edge"], (.cons (.asg 2 (.ae 0)) (.cons (.ite (.cmp .Gt (.idx (.glob 10) (.var 1)) (.ae 0)) (.cons (.aQ 2 .BitOr (.idx (.attr (.var 0) 6) (.bin .Sub (.attr (.var 0) 0) (.ae 1)))) .nil) .nil) (.cons (.ite (.cmp .Lt (.idx (.glob 10) (.var 1)) (.ae 0)) (.cons (.aQ 2 .BitOr (.idx (.attr (.var 0) 6) (.ae 0))) .nil) .nil) (.cons (.ite (.cmp .Gt (.idx (.glob 11) (.var 1)) (.ae 0)) (.cons (.aQ 2 .BitOr (.idx (.attr (.var 0) 7) (.bin .Sub (.attr (.var 0) 1) (.ae 1)))) .nil) .nil) (.cons (.ite (.cmp .Lt (.idx (.glob 11) (.var 1)) (.ae 0)) (.cons (.aQ 2 .BitOr (.idx (.attr (.var 0) 7) (.ae 0))) .nil) .nil) (.cons (.ret (.bin .BitAnd (.attr (.var 0) 3) (.inv (.var 2)))) .nil))))))⟩
noncomputable def lw : Fn := ⟨1, ["geo", "d", "inner", "delta", "ray", "order", "square", "goal"], (.cons (.aE (.var 0) 9 (.bin .Mult (.list (.cons (.ae 0) .nil)) (.attr (.var 0) 2))) (.cons (.for_ 1 (.blt 1 (.cons (.ae 8) .nil)) (.cons (.asg 2 (.call 10 (.cons (.var 0) (.cons (.var 1) .nil)))) (.cons (.asg 3 (.bin .Add (.bin .Mult (.idx (.glob 11) (.var 1)) (.attr (.var 0) 0)) (.idx (.glob 10) (.var 1)))) (.cons (.asg 4 (.bin .Mult (.list (.cons (.ae 0) .nil)) (.attr (.var 0) 2))) (.cons (.asg 5 (.blt 1 (.cons (.attr (.var 0) 2) .nil))) (.cons (.ite (.call 6 (.cons (.var 1) .nil)) (.cons (.asg 5 (.blt 1 (.cons (.bin .Sub (.attr (.var 0) 2) (.ae 1)) (.cons (.neg (.ae 1)) (.cons (.neg (.ae 1)) .nil))))) .nil) .nil) (.cons (.for_ 6 (.var 5) (.cons (.ite (.bin .BitAnd (.bin .RShift (.var 2) (.var 6)) (.ae 1)) (.cons (.asg 7 (.bin .Add (.var 6) (.var 3))) (.cons (.cM (.var 4) (.var 6) (.bin .BitOr (.idx (.var 4) (.var 7)) (.bin .LShift (.ae 1) (.var 7)))) (.cons (.gM (.attr (.var 0) 9) (.var 6) .BitOr (.bin .LShift (.ae 1) (.var 7))) .nil))) .nil) .nil)) (.cons (.ex (.meth 0 (.attr (.var 0) 8) (.cons (.var 4) .nil))) .nil)))))))) .nil))⟩
noncomputable def qD : Fn := ⟨1, ["geo", "square"], (.cons (.for_ 1 (.blt 1 (.cons (.attr (.var 0) 2) .nil)) (.cons (.ex (.meth 0 (.idx (.attr (.var 0) 11) (.ae 0)) (.cons (.bin .BitAnd (.idx (.attr (.var 0) 9) (.var 1)) (.bin .BitOr (.idx (.idx (.attr (.var 0) 8) (.ae 4)) (.var 1)) (.idx (.idx (.attr (.var 0) 8) (.ae 7)) (.var 1)))) .nil))) (.cons (.ex (.meth 0 (.idx (.attr (.var 0) 11) (.ae 1)) (.cons (.bin .BitAnd (.idx (.attr (.var 0) 9) (.var 1)) (.bin .BitOr (.idx (.idx (.attr (.var 0) 8) (.ae 5)) (.var 1)) (.idx (.idx (.attr (.var 0) 8) (.ae 6)) (.var 1)))) .nil))) .nil))) .nil)⟩
noncomputable def np : Fn := ⟨1, ["geo", "files", "not_first", "not_last", "not_first_two", "not_last_two", "square", "b", "near", "far", "found"], (.cons (.asg 1 (.attr (.var 0) 0)) (.cons (.asg 2 (.bin .BitAnd (.attr (.var 0) 3) (.inv (.idx (.attr (.var 0) 6) (.ae 0))))) (.cons (.asg 3 (.bin .BitAnd (.attr (.var 0) 3) (.inv (.idx (.attr (.var 0) 6) (.bin .Sub (.var 1) (.ae 1)))))) (.cons (.asg 4 (.bin .BitAnd (.var 2) (.inv (.idx (.attr (.var 0) 6) (.ae 1))))) (.cons (.asg 5 (.bin .BitAnd (.var 3) (.inv (.idx (.attr (.var 0) 6) (.bin .Sub (.var 1) (.ae 2)))))) (.cons (.for_ 6 (.blt 1 (.cons (.attr (.var 0) 2) .nil)) (.cons (.asg 7 (.bin .LShift (.ae 1) (.var 6))) (.cons (.asg 8 (.bin .BitOr (.bin .BitAnd (.bin .LShift (.var 7) (.ae 1)) (.var 2)) (.bin .BitAnd (.bin .RShift (.var 7) (.ae 1)) (.var 3)))) (.cons (.asg 9 (.bin .BitOr (.bin .BitAnd (.bin .LShift (.var 7) (.ae 2)) (.var 4)) (.bin .BitAnd (.bin .RShift (.var 7) (.ae 2)) (.var 5)))) (.cons (.asg 10 (.bin .BitOr (.bin .BitOr (.bin .BitOr (.bin .LShift (.var 8) (.bin .Mult (.ae 2) (.var 1))) (.bin .RShift (.var 8) (.bin .Mult (.ae 2) (.var 1)))) (.bin .LShift (.var 9) (.var 1))) (.bin .RShift (.var 9) (.var 1)))) (.cons (.ex (.meth 0 (.attr (.var 0) 10) (.cons (.bin .BitAnd (.var 10) (.attr (.var 0) 3)) .nil))) .nil)))))) .nil))))))⟩
noncomputable def ic : Fn := ⟨1, ["geo", "start", "index", "base", "corner", "way", "goal"], (.cons (.aE (.var 0) 13 (.bin .Mult (.list (.cons (.ae 0) .nil)) (.attr (.var 0) 2))) (.cons (.asg 1 (.bin .FloorDiv (.attr (.var 0) 0) (.ae 2))) (.cons (.for_ 2 (.blt 1 (.cons (.ae 4) .nil)) (.cons (.asg 3 (.bin .Mult (.bin .Mult (.bin .RShift (.var 2) (.ae 1)) (.bin .Sub (.attr (.var 0) 1) (.ae 1))) (.attr (.var 0) 0))) (.cons (.asg 4 (.bin .Sub (.attr (.var 0) 0) (.ae 1))) (.cons (.asg 5 (.ae 1)) (.cons (.ite (.bin .BitAnd (.var 2) (.ae 1)) (.cons (.asg 4 (.ae 0)) (.cons (.asg 5 (.neg (.ae 1))) .nil)) .nil) (.cons (.asg 6 (.bin .Add (.var 1) (.bin .Mult (.ae 2) (.var 5)))) (.cons (.ite (.and_ (.cons (.attr (.var 0) 5) (.cons (.cmp .Gt (.bin .Mult (.bin .Sub (.var 4) (.var 6)) (.var 5)) (.ae 0)) .nil))) (.cons (.ex (.meth 0 (.attr (.var 0) 12) (.cons (.tup (.cons (.bin .Add (.var 3) (.var 1)) (.cons (.bin .Add (.var 3) (.var 6)) (.cons (.bin .Add (.var 3) (.var 4)) (.cons (.bin .Sub (.bin .Add (.var 3) (.var 6)) (.var 5)) .nil))))) .nil))) (.cons (.gM (.attr (.var 0) 13) (.bin .Add (.var 3) (.var 1)) .BitOr (.bin .LShift (.ae 1) (.var 2))) (.cons (.gM (.attr (.var 0) 13) (.bin .Add (.var 3) (.var 4)) .BitOr (.bin .LShift (.ae 1) (.var 2))) .nil))) (.cons (.ex (.meth 0 (.attr (.var 0) 12) (.cons .bO .nil))) .nil)) .nil))))))) .nil)))⟩
noncomputable def kC : Fn := ⟨4, ["files", "ranks", "has_double", "has_castling", "geo"], (.cons (.ite (.or_ (.cons (.cmp .Lt (.var 0) (.ae 2)) (.cons (.cmp .Gt (.var 0) (.ae 8)) (.cons (.cmp .Lt (.var 1) (.ae 3)) (.cons (.cmp .Gt (.var 1) (.ae 8)) .nil))))) (.cons .raise .nil) .nil) (.cons (.asg 4 (.call 8 (.cons (.var 0) (.cons (.var 1) (.cons (.var 2) (.cons (.var 3) .nil)))))) (.cons (.ex (.call 9 (.cons (.var 4) .nil))) (.cons (.ex (.call 11 (.cons (.var 4) .nil))) (.cons (.ex (.call 12 (.cons (.var 4) .nil))) (.cons (.ex (.call 13 (.cons (.var 4) .nil))) (.cons (.ex (.call 14 (.cons (.var 4) .nil))) (.cons (.ret (.var 4)) .nil))))))))⟩
noncomputable def nq : Fn := ⟨4, ["geo", "d", "square", "occupied", "ray", "stop", "behind"], (.cons (.asg 4 (.idx (.idx (.attr (.var 0) 8) (.var 1)) (.var 2))) (.cons (.asg 5 (.bin .BitAnd (.var 4) (.var 3))) (.cons (.ite (.cmp .Eq (.var 5) (.ae 0)) (.cons (.ret (.var 4)) .nil) .nil) (.cons (.ite (.call 6 (.cons (.var 1) .nil)) (.cons (.ret (.bin .BitAnd (.var 4) (.bin .BitXor (.var 5) (.bin .Sub (.var 5) (.ae 1))))) .nil) .nil) (.cons (.asg 6 (.bin .RShift (.var 5) (.ae 1))) (.cons (.aQ 6 .BitOr (.bin .RShift (.var 6) (.ae 1))) (.cons (.aQ 6 .BitOr (.bin .RShift (.var 6) (.ae 2))) (.cons (.aQ 6 .BitOr (.bin .RShift (.var 6) (.ae 4))) (.cons (.aQ 6 .BitOr (.bin .RShift (.var 6) (.ae 8))) (.cons (.aQ 6 .BitOr (.bin .RShift (.var 6) (.ae 16))) (.cons (.aQ 6 .BitOr (.bin .RShift (.var 6) (.ae 32))) (.cons (.ret (.bin .BitAnd (.var 4) (.inv (.var 6)))) .nil))))))))))))⟩
noncomputable def lM : Fn := ⟨3, ["geo", "square", "occupied", "found", "d"], (.cons (.asg 3 (.ae 0)) (.cons (.for_ 4 (.blt 1 (.cons (.ae 4) .nil)) (.cons (.aQ 3 .BitOr (.call 16 (.cons (.var 0) (.cons (.var 4) (.cons (.var 1) (.cons (.var 2) .nil)))))) .nil)) (.cons (.ret (.var 3)) .nil)))⟩
noncomputable def jM : Fn := ⟨3, ["geo", "square", "occupied", "found", "d"], (.cons (.asg 3 (.ae 0)) (.cons (.for_ 4 (.blt 1 (.cons (.ae 4) (.cons (.ae 8) .nil))) (.cons (.aQ 3 .BitOr (.call 16 (.cons (.var 0) (.cons (.var 4) (.cons (.var 1) (.cons (.var 2) .nil)))))) .nil)) (.cons (.ret (.var 3)) .nil)))⟩
noncomputable def kD : Fn := ⟨1, ["b"], (.cons (.ret (.cmp .NotEq (.bin .BitAnd (.var 0) (.bin .Sub (.var 0) (.ae 1))) (.ae 0))) .nil)⟩
noncomputable def tJ : Fn := ⟨1, ["b", "width", "square"], (.cons (.ite (.cmp .Eq (.var 0) (.ae 0)) (.cons (.ret (.neg (.ae 1))) .nil) .nil) (.cons (.asg 1 (.ae 1)) (.cons (.fH (.bin .RShift (.var 0) (.var 1)) (.cons (.aQ 1 .Mult (.ae 2)) .nil)) (.cons (.asg 2 (.ae 0)) (.cons (.fH (.cmp .Gt (.var 1) (.ae 1)) (.cons (.aQ 1 .FloorDiv (.ae 2)) (.cons (.ite (.bin .RShift (.var 0) (.var 1)) (.cons (.aQ 0 .RShift (.var 1)) (.cons (.aQ 2 .Add (.var 1)) .nil)) .nil) .nil))) (.cons (.ret (.var 2)) .nil))))))⟩
noncomputable def vZ : Fn := ⟨1, ["b"], (.cons (.ret (.call 20 (.cons (.bin .BitAnd (.var 0) (.neg (.var 0))) .nil))) .nil)⟩
noncomputable def nr : Fn := ⟨2, ["self", "seed"], (.cons (.aE (.var 0) 14 (.bin .BitAnd (.var 1) (.glob 12))) (.cons (.ite (.cmp .Eq (.attr (.var 0) 14) (.ae 0)) (.cons (.aE (.var 0) 14 (.ae 1)) .nil) .nil) .nil))⟩
noncomputable def nt : Fn := ⟨1, ["self", "state"], (.cons (.asg 1 (.attr (.var 0) 14)) (.cons (.aQ 1 .BitXor (.bin .RShift (.var 1) (.ae 12))) (.cons (.aQ 1 .BitXor (.bin .BitAnd (.bin .LShift (.var 1) (.ae 25)) (.glob 12))) (.cons (.aQ 1 .BitXor (.bin .RShift (.var 1) (.ae 27))) (.cons (.aE (.var 0) 14 (.var 1)) (.cons (.ret (.bin .BitAnd (.bin .Mult (.var 1) (.glob 13)) (.glob 12))) .nil))))))⟩
noncomputable def lN : Fn := ⟨5, ["self", "pieces", "ep", "rights", "side"], (.cons (.aE (.var 0) 15 (.var 1)) (.cons (.aE (.var 0) 16 (.var 2)) (.cons (.aE (.var 0) 17 (.var 3)) (.cons (.aE (.var 0) 18 (.var 4)) .nil))))⟩
noncomputable def r9 : Fn := ⟨2, ["random", "length", "row", "place"], (.cons (.asg 2 (.list .nil)) (.cons (.for_ 3 (.blt 1 (.cons (.var 1) .nil)) (.cons (.ex (.meth 0 (.var 2) (.cons (.gU 24 (.var 0) .nil) .nil))) .nil)) (.cons (.ret (.var 2)) .nil)))⟩
noncomputable def oU : Fn := ⟨1, ["singles", "row", "rights", "number", "index"], (.cons (.asg 1 (.list .nil)) (.cons (.for_ 2 (.blt 1 (.cons (.ae 16) .nil)) (.cons (.asg 3 (.ae 0)) (.cons (.for_ 4 (.blt 1 (.cons (.ae 4) .nil)) (.cons (.ite (.bin .BitAnd (.var 2) (.bin .LShift (.ae 1) (.var 4))) (.cons (.aQ 3 .BitXor (.idx (.var 0) (.var 4))) .nil) .nil) .nil)) (.cons (.ex (.meth 0 (.var 1) (.cons (.var 3) .nil))) .nil)))) (.cons (.ret (.var 1)) .nil)))⟩
noncomputable def lO : Fn := ⟨2, ["geo", "seed", "random", "pieces", "piece", "ep", "rights"], (.cons (.asg 2 (.call 23 (.cons (.var 1) .nil))) (.cons (.asg 3 (.list .nil)) (.cons (.for_ 4 (.blt 1 (.cons (.ae 15) .nil)) (.cons (.ite (.gf .LtE .LtE (.glob 2) (.call 2 (.cons (.var 4) .nil)) (.glob 7)) (.cons (.ex (.meth 0 (.var 3) (.cons (.call 27 (.cons (.var 2) (.cons (.attr (.var 0) 2) .nil))) .nil))) .nil) (.cons (.ex (.meth 0 (.var 3) (.cons (.list .nil) .nil))) .nil)) .nil)) (.cons (.asg 5 (.call 27 (.cons (.var 2) (.cons (.attr (.var 0) 0) .nil)))) (.cons (.asg 6 (.call 28 (.cons (.call 27 (.cons (.var 2) (.cons (.ae 4) .nil))) .nil))) (.cons (.ret (.call 26 (.cons (.var 3) (.cons (.var 5) (.cons (.var 6) (.cons (.gU 24 (.var 2) .nil) .nil)))))) .nil))))))⟩
noncomputable def qE : Fn := ⟨1, ["pos", "zob", "key"], (.cons (.asg 1 (.attr (.var 0) 20)) (.cons (.asg 2 (.idx (.attr (.var 1) 17) (.attr (.var 0) 17))) (.cons (.ite (.cmp .GtE (.attr (.var 0) 16) (.ae 0)) (.cons (.aQ 2 .BitXor (.idx (.attr (.var 1) 16) (.bin .Mod (.attr (.var 0) 16) (.attr (.attr (.var 0) 19) 0)))) .nil) .nil) (.cons (.ite (.cmp .Eq (.attr (.var 0) 18) (.glob 1)) (.cons (.aQ 2 .BitXor (.attr (.var 1) 18)) .nil) .nil) (.cons (.ret (.var 2)) .nil)))))⟩
noncomputable def sg : Fn := ⟨1, ["pos", "numbers", "key", "square", "piece"], (.cons (.asg 1 (.attr (.attr (.var 0) 20) 15)) (.cons (.asg 2 (.call 30 (.cons (.var 0) .nil))) (.cons (.asg 3 (.ae 0)) (.cons (.for_ 4 (.attr (.var 0) 21) (.cons (.ite (.cmp .NotEq (.var 4) (.glob 8)) (.cons (.aQ 2 .BitXor (.idx (.idx (.var 1) (.var 4)) (.var 3))) .nil) .nil) (.cons (.aQ 3 .Add (.ae 1)) .nil))) (.cons (.ret (.var 2)) .nil)))))⟩
noncomputable def kE : Fn := ⟨3, ["self", "geo", "zob"], (.cons (.aE (.var 0) 19 (.var 1)) (.cons (.aE (.var 0) 20 (.var 2)) (.cons (.aE (.var 0) 21 (.bin .Mult (.list (.cons (.glob 8) .nil)) (.attr (.var 1) 2))) (.cons (.aE (.var 0) 22 (.bin .Mult (.list (.cons (.ae 0) .nil)) (.ae 7))) (.cons (.aE (.var 0) 23 (.list (.cons (.ae 0) (.cons (.ae 0) .nil)))) (.cons (.aE (.var 0) 18 (.glob 0)) (.cons (.aE (.var 0) 17 (.ae 0)) (.cons (.aE (.var 0) 16 (.neg (.ae 1))) (.cons (.aE (.var 0) 24 (.ae 0)) (.cons (.aE (.var 0) 3 (.ae 1)) (.cons (.aE (.var 0) 25 (.ae 0)) (.cons (.aE (.var 0) 26 (.list .nil)) .nil))))))))))))⟩
noncomputable def qF : Fn := ⟨3, ["pos", "piece", "s", "bit"], (.cons (.asg 3 (.bin .LShift (.ae 1) (.var 2))) (.cons (.cM (.attr (.var 0) 21) (.var 2) (.var 1)) (.cons (.gM (.attr (.var 0) 22) (.call 2 (.cons (.var 1) .nil)) .BitOr (.var 3)) (.cons (.gM (.attr (.var 0) 23) (.call 1 (.cons (.var 1) .nil)) .BitOr (.var 3)) (.cons (.mB (.var 0) 25 .BitXor (.idx (.idx (.attr (.attr (.var 0) 20) 15) (.var 1)) (.var 2))) .nil)))))⟩
noncomputable def v0 : Fn := ⟨3, ["pos", "side", "kind"], (.cons (.ret (.bin .BitAnd (.idx (.attr (.var 0) 23) (.var 1)) (.idx (.attr (.var 0) 22) (.var 2)))) .nil)⟩
noncomputable def nu : Fn := ⟨2, ["pos", "side"], (.cons (.ret (.call 21 (.cons (.bin .BitAnd (.idx (.attr (.var 0) 23) (.var 1)) (.idx (.attr (.var 0) 22) (.glob 7))) .nil))) .nil)⟩
noncomputable def oV : Fn := ⟨1, ["pos"], (.cons (.aE (.var 0) 25 (.call 31 (.cons (.var 0) .nil))) .nil)⟩
noncomputable def jN : Fn := ⟨2, ["pos", "square", "geo", "rank", "ahead"], (.cons (.asg 2 (.attr (.var 0) 19)) (.cons (.ite (.or_ (.cons (.not (.attr (.var 2) 4)) (.cons (.cmp .Lt (.var 1) (.ae 0)) (.cons (.cmp .GtE (.var 1) (.attr (.var 2) 2)) .nil)))) (.cons (.ret (.aZ false)) .nil) .nil) (.cons (.asg 3 (.ae 2)) (.cons (.asg 4 (.neg (.attr (.var 2) 0))) (.cons (.ite (.cmp .Eq (.attr (.var 0) 18) (.glob 0)) (.cons (.asg 3 (.bin .Sub (.attr (.var 2) 1) (.ae 3))) (.cons (.asg 4 (.attr (.var 2) 0)) .nil)) .nil) (.cons (.ite (.cmp .NotEq (.bin .FloorDiv (.var 1) (.attr (.var 2) 0)) (.var 3)) (.cons (.ret (.aZ false)) .nil) .nil) (.cons (.ite (.or_ (.cons (.cmp .NotEq (.idx (.attr (.var 0) 21) (.var 1)) (.glob 8)) (.cons (.cmp .NotEq (.idx (.attr (.var 0) 21) (.bin .Add (.var 1) (.var 4))) (.glob 8)) .nil))) (.cons (.ret (.aZ false)) .nil) .nil) (.cons (.ret (.cmp .Eq (.idx (.attr (.var 0) 21) (.bin .Sub (.var 1) (.var 4))) (.call 0 (.cons (.bin .Sub (.ae 1) (.attr (.var 0) 18)) (.cons (.glob 2) .nil))))) .nil))))))))⟩
noncomputable def nv : Fn := ⟨2, ["pos", "square"], (.cons (.ret (.cmp .NotEq (.bin .BitAnd (.idx (.idx (.attr (.attr (.var 0) 19) 11) (.bin .Sub (.ae 1) (.attr (.var 0) 18))) (.var 1)) (.call 35 (.cons (.var 0) (.cons (.attr (.var 0) 18) (.cons (.glob 2) .nil))))) (.ae 0))) .nil)⟩
noncomputable def nw : Fn := ⟨1, ["pos", "side", "kings"], (.cons (.for_ 1 (.tup (.cons (.glob 0) (.cons (.glob 1) .nil))) (.cons (.asg 2 (.call 35 (.cons (.var 0) (.cons (.var 1) (.cons (.glob 7) .nil))))) (.cons (.ite (.cmp .Eq (.var 2) (.ae 0)) (.cons .raise .nil) .nil) (.cons (.ite (.call 19 (.cons (.var 2) .nil)) (.cons .raise .nil) .nil) .nil)))) .nil)⟩
noncomputable def nx : Fn := ⟨1, ["pos", "geo", "wrong"], (.cons (.asg 1 (.attr (.var 0) 19)) (.cons (.asg 2 (.bin .BitAnd (.idx (.attr (.var 0) 22) (.glob 2)) (.bin .BitOr (.idx (.attr (.var 1) 7) (.ae 0)) (.idx (.attr (.var 1) 7) (.bin .Sub (.attr (.var 1) 1) (.ae 1)))))) (.cons (.ite (.cmp .NotEq (.var 2) (.ae 0)) (.cons .raise .nil) .nil) .nil)))⟩
noncomputable def lP : Fn := ⟨1, ["pos", "index", "wing"], (.cons (.ite (.not (.gf .LtE .Lt (.ae 0) (.attr (.var 0) 17) (.ae 16))) (.cons .raise .nil) .nil) (.cons (.for_ 1 (.blt 1 (.cons (.ae 4) .nil)) (.cons (.ite (.cmp .Eq (.bin .BitAnd (.attr (.var 0) 17) (.bin .LShift (.ae 1) (.var 1))) (.ae 0)) (.cons .cont .nil) .nil) (.cons (.asg 2 (.idx (.attr (.attr (.var 0) 19) 12) (.var 1))) (.cons (.ite (.cmp .Is (.var 2) .bO) (.cons .raise .nil) .nil) (.cons (.ite (.cmp .NotEq (.idx (.attr (.var 0) 21) (.idx (.var 2) (.ae 0))) (.call 0 (.cons (.bin .RShift (.var 1) (.ae 1)) (.cons (.glob 7) .nil)))) (.cons .raise .nil) .nil) (.cons (.ite (.cmp .NotEq (.idx (.attr (.var 0) 21) (.idx (.var 2) (.ae 2))) (.call 0 (.cons (.bin .RShift (.var 1) (.ae 1)) (.cons (.glob 5) .nil)))) (.cons .raise .nil) .nil) .nil)))))) .nil))⟩
noncomputable def iU : Fn := ⟨1, ["pos"], (.cons (.ret (.bin .BitOr (.idx (.attr (.var 0) 22) (.glob 5)) (.idx (.attr (.var 0) 22) (.glob 6)))) .nil)⟩
noncomputable def iW : Fn := ⟨1, ["pos"], (.cons (.ret (.bin .BitOr (.idx (.attr (.var 0) 22) (.glob 4)) (.idx (.attr (.var 0) 22) (.glob 6)))) .nil)⟩
noncomputable def jO : Fn := ⟨3, ["pos", "square", "side"], (.cons (.ret (.bin .BitAnd (.bin .BitAnd (.idx (.idx (.attr (.attr (.var 0) 19) 11) (.bin .Sub (.ae 1) (.var 2))) (.var 1)) (.idx (.attr (.var 0) 22) (.glob 2))) (.idx (.attr (.var 0) 23) (.var 2)))) .nil)⟩
noncomputable def jP : Fn := ⟨3, ["pos", "square", "side", "geo", "near"], (.cons (.asg 3 (.attr (.var 0) 19)) (.cons (.asg 4 (.bin .BitAnd (.idx (.attr (.var 3) 10) (.var 1)) (.idx (.attr (.var 0) 22) (.glob 3)))) (.cons (.aQ 4 .BitOr (.bin .BitAnd (.idx (.attr (.var 3) 9) (.var 1)) (.idx (.attr (.var 0) 22) (.glob 7)))) (.cons (.ret (.bin .BitOr (.call 45 (.cons (.var 0) (.cons (.var 1) (.cons (.var 2) .nil)))) (.bin .BitAnd (.var 4) (.idx (.attr (.var 0) 23) (.var 2))))) .nil))))⟩
noncomputable def ny : Fn := ⟨4, ["pos", "square", "side", "occupied", "geo", "own", "straight", "slanting"], (.cons (.ite (.call 46 (.cons (.var 0) (.cons (.var 1) (.cons (.var 2) .nil)))) (.cons (.ret (.aZ true)) .nil) .nil) (.cons (.asg 4 (.attr (.var 0) 19)) (.cons (.asg 5 (.idx (.attr (.var 0) 23) (.var 2))) (.cons (.asg 6 (.bin .BitAnd (.call 43 (.cons (.var 0) .nil)) (.var 5))) (.cons (.ite (.and_ (.cons (.var 6) (.cons (.bin .BitAnd (.call 17 (.cons (.var 4) (.cons (.var 1) (.cons (.var 3) .nil)))) (.var 6)) .nil))) (.cons (.ret (.aZ true)) .nil) .nil) (.cons (.asg 7 (.bin .BitAnd (.call 44 (.cons (.var 0) .nil)) (.var 5))) (.cons (.ret (.and_ (.cons (.cmp .NotEq (.var 7) (.ae 0)) (.cons (.cmp .NotEq (.bin .BitAnd (.call 18 (.cons (.var 4) (.cons (.var 1) (.cons (.var 3) .nil)))) (.var 7)) (.ae 0)) .nil)))) .nil)))))))⟩
noncomputable def nz : Fn := ⟨2, ["pos", "side", "everything"], (.cons (.asg 2 (.bin .BitOr (.idx (.attr (.var 0) 23) (.glob 0)) (.idx (.attr (.var 0) 23) (.glob 1)))) (.cons (.ret (.call 47 (.cons (.var 0) (.cons (.call 36 (.cons (.var 0) (.cons (.var 1) .nil))) (.cons (.bin .Sub (.ae 1) (.var 1)) (.cons (.var 2) .nil)))))) .nil))⟩
noncomputable def nA : Fn := ⟨2, ["files", "square"], (.cons (.ite (.or_ (.cons (.cmp .Lt (.var 1) (.ae 0)) (.cons (.cmp .GtE (.var 1) (.bin .Mult (.var 0) (.ae 8))) .nil))) (.cons .raise .nil) .nil) (.cons (.ret (.bin .Add (.idx (.glob 14) (.bin .Mod (.var 1) (.var 0))) (.idx (.glob 15) (.bin .FloorDiv (.var 1) (.var 0))))) .nil))⟩
noncomputable def nB : Fn := ⟨3, ["files", "ranks", "text", "file", "rank"], (.cons (.ite (.cmp .NotEq (.blt 0 (.cons (.var 2) .nil)) (.ae 2)) (.cons (.ret (.neg (.ae 1))) .nil) .nil) (.cons (.asg 3 (.meth 2 (.glob 14) (.cons (.idx (.var 2) (.ae 0)) .nil))) (.cons (.asg 4 (.meth 2 (.glob 15) (.cons (.idx (.var 2) (.ae 1)) .nil))) (.cons (.ite (.or_ (.cons (.cmp .Lt (.var 3) (.ae 0)) (.cons (.cmp .GtE (.var 3) (.var 0)) (.cons (.cmp .Lt (.var 4) (.ae 0)) (.cons (.cmp .GtE (.var 4) (.var 1)) .nil))))) (.cons (.ret (.neg (.ae 1))) .nil) .nil) (.cons (.ret (.bin .Add (.bin .Mult (.var 4) (.var 0)) (.var 3))) .nil)))))⟩
noncomputable def lQ : Fn := ⟨1, ["text", "number", "sign", "digit"], (.cons (.ite (.or_ (.cons (.cmp .Eq (.var 0) (.aA [])) (.cons (.and_ (.cons (.cmp .Eq (.idx (.var 0) (.ae 0)) (.aA [48])) (.cons (.cmp .Gt (.blt 0 (.cons (.var 0) .nil)) (.ae 1)) .nil))) .nil))) (.cons (.ret (.neg (.ae 1))) .nil) .nil) (.cons (.asg 1 (.ae 0)) (.cons (.for_ 2 (.var 0) (.cons (.asg 3 (.meth 2 (.glob 16) (.cons (.var 2) .nil))) (.cons (.ite (.cmp .Lt (.var 3) (.ae 0)) (.cons (.ret (.neg (.ae 1))) .nil) .nil) (.cons (.asg 1 (.bin .Add (.bin .Mult (.var 1) (.ae 10)) (.var 3))) .nil)))) (.cons (.ret (.var 1)) .nil))))⟩
noncomputable def si : Fn := ⟨2, ["text", "files", "cells", "was_digit", "sign", "gap", "piece"], (.cons (.asg 2 (.list .nil)) (.cons (.asg 3 (.aZ false)) (.cons (.for_ 4 (.var 0) (.cons (.asg 5 (.meth 2 (.glob 16) (.cons (.var 4) .nil))) (.cons (.ite (.cmp .GtE (.var 5) (.ae 0)) (.cons (.ite (.or_ (.cons (.cmp .Eq (.var 5) (.ae 0)) (.cons (.var 3) .nil))) (.cons (.ret .bO) .nil) .nil) (.cons (.ex (.meth 1 (.var 2) (.cons (.bin .Mult (.list (.cons (.glob 8) .nil)) (.var 5)) .nil))) (.cons (.asg 3 (.aZ true)) .nil))) (.cons (.asg 6 (.call 5 (.cons (.var 4) .nil))) (.cons (.ite (.cmp .LtE (.var 6) (.glob 8)) (.cons (.ret .bO) .nil) .nil) (.cons (.ex (.meth 0 (.var 2) (.cons (.var 6) .nil))) (.cons (.asg 3 (.aZ false)) .nil))))) .nil))) (.cons (.ite (.cmp .NotEq (.blt 0 (.cons (.var 2) .nil)) (.var 1)) (.cons (.ret .bO) .nil) .nil) (.cons (.ret (.var 2)) .nil)))))⟩
noncomputable def oW : Fn := ⟨3, ["text", "files", "ranks", "rows", "board", "at", "cells"], (.cons (.asg 3 (.meth 3 (.var 0) (.cons (.aA [47]) .nil))) (.cons (.ite (.cmp .NotEq (.blt 0 (.cons (.var 3) .nil)) (.var 2)) (.cons .raise .nil) .nil) (.cons (.asg 4 (.list .nil)) (.cons (.for_ 5 (.blt 1 (.cons (.var 2) .nil)) (.cons (.asg 6 (.call 52 (.cons (.idx (.var 3) (.bin .Sub (.bin .Sub (.var 2) (.ae 1)) (.var 5))) (.cons (.var 1) .nil)))) (.cons (.ite (.cmp .Is (.var 6) .bO) (.cons .raise .nil) .nil) (.cons (.ex (.meth 1 (.var 4) (.cons (.var 6) .nil))) .nil)))) (.cons (.ret (.var 4)) .nil)))))⟩
noncomputable def qG : Fn := ⟨1, ["text"], (.cons (.ite (.cmp .Eq (.var 0) (.aA [119])) (.cons (.ret (.glob 0)) .nil) .nil) (.cons (.ite (.cmp .Eq (.var 0) (.aA [98])) (.cons (.ret (.glob 1)) .nil) .nil) (.cons .raise .nil)))⟩
noncomputable def nD : Fn := ⟨1, ["text", "rights", "last", "sign", "index"], (.cons (.ite (.cmp .Eq (.var 0) (.aA [45])) (.cons (.ret (.ae 0)) .nil) .nil) (.cons (.asg 1 (.ae 0)) (.cons (.asg 2 (.neg (.ae 1))) (.cons (.for_ 3 (.var 0) (.cons (.asg 4 (.meth 2 (.glob 17) (.cons (.var 3) .nil))) (.cons (.ite (.cmp .LtE (.var 4) (.var 2)) (.cons .raise .nil) .nil) (.cons (.asg 2 (.var 4)) (.cons (.aQ 1 .BitOr (.bin .LShift (.ae 1) (.var 4))) .nil))))) (.cons (.ite (.cmp .Eq (.var 1) (.ae 0)) (.cons .raise .nil) .nil) (.cons (.ret (.var 1)) .nil))))))⟩
noncomputable def tK : Fn := ⟨3, ["text", "files", "ranks", "square"], (.cons (.ite (.cmp .Eq (.var 0) (.aA [45])) (.cons (.ret (.neg (.ae 1))) .nil) .nil) (.cons (.asg 3 (.call 50 (.cons (.var 1) (.cons (.var 2) (.cons (.var 0) .nil))))) (.cons (.ite (.cmp .Lt (.var 3) (.ae 0)) (.cons .raise .nil) .nil) (.cons (.ret (.var 3)) .nil))))⟩
noncomputable def oX : Fn := ⟨3, ["text", "part", "least", "number"], (.cons (.asg 3 (.call 51 (.cons (.var 0) .nil))) (.cons (.ite (.cmp .Lt (.var 3) (.var 2)) (.cons .raise .nil) .nil) (.cons (.ret (.var 3)) .nil)))⟩
noncomputable def nE : Fn := ⟨2, ["parts", "geo", "board", "side", "rights"], (.cons (.asg 2 (.call 53 (.cons (.idx (.var 0) (.ae 0)) (.cons (.attr (.var 1) 0) (.cons (.attr (.var 1) 1) .nil))))) (.cons (.asg 3 (.call 54 (.cons (.idx (.var 0) (.ae 1)) .nil))) (.cons (.asg 4 (.call 55 (.cons (.idx (.var 0) (.ae 2)) .nil))) (.cons (.ret (.tup (.cons (.var 2) (.cons (.var 3) (.cons (.var 4) (.cons (.call 56 (.cons (.idx (.var 0) (.ae 3)) (.cons (.attr (.var 1) 0) (.cons (.attr (.var 1) 1) .nil)))) .nil)))))) .nil))))⟩
noncomputable def lR : Fn := ⟨1, ["pos"], (.cons (.try_ (.cons (.ex (.call 40 (.cons (.var 0) .nil))) (.cons (.ex (.call 41 (.cons (.var 0) .nil))) .nil))) .nil)⟩
noncomputable def nF : Fn := ⟨1, ["pos"], (.cons (.try_ (.cons (.ex (.call 42 (.cons (.var 0) .nil))) .nil)) .nil)⟩
noncomputable def fT : Fn := ⟨5, ["fields", "half", "full", "geo", "zob", "pos", "square", "board", "side", "rights", "ep"], (.cons (.p9 [7, 8, 9, 10] (.var 0)) (.cons (.asg 5 (.call 33 (.cons (.var 3) (.cons (.var 4) .nil)))) (.cons (.for_ 6 (.blt 1 (.cons (.attr (.var 3) 2) .nil)) (.cons (.ite (.cmp .NotEq (.idx (.var 7) (.var 6)) (.glob 8)) (.cons (.ex (.call 34 (.cons (.var 5) (.cons (.idx (.var 7) (.var 6)) (.cons (.var 6) .nil))))) .nil) .nil) .nil)) (.cons (.aE (.var 5) 18 (.var 8)) (.cons (.aE (.var 5) 17 (.var 9)) (.cons (.aE (.var 5) 24 (.var 1)) (.cons (.aE (.var 5) 3 (.var 2)) (.cons (.ex (.call 59 (.cons (.var 5) .nil))) (.cons (.ex (.call 60 (.cons (.var 5) .nil))) (.cons (.ite (.cmp .GtE (.var 10) (.ae 0)) (.cons (.ite (.not (.call 38 (.cons (.var 5) (.cons (.var 10) .nil)))) (.cons .raise .nil) .nil) (.cons (.ite (.call 39 (.cons (.var 5) (.cons (.var 10) .nil))) (.cons (.aE (.var 5) 16 (.var 10)) .nil) .nil) .nil)) .nil) (.cons (.ex (.call 37 (.cons (.var 5) .nil))) (.cons (.ite (.call 48 (.cons (.var 5) (.cons (.bin .Sub (.ae 1) (.var 8)) .nil))) (.cons .raise .nil) .nil) (.cons (.ret (.var 5)) .nil)))))))))))))⟩
noncomputable def sj : Fn := ⟨3, ["text", "geo", "zob", "parts", "fields", "half", "full"], (.cons (.asg 3 (.meth 3 (.var 0) (.cons (.aA [32]) .nil))) (.cons (.ite (.cmp .NotEq (.blt 0 (.cons (.var 3) .nil)) (.ae 6)) (.cons .raise .nil) .nil) (.cons (.asg 4 (.call 58 (.cons (.var 3) (.cons (.var 1) .nil)))) (.cons (.asg 5 (.call 57 (.cons (.idx (.var 3) (.ae 4)) (.cons (.ae 4) (.cons (.ae 0) .nil))))) (.cons (.asg 6 (.call 57 (.cons (.idx (.var 3) (.ae 5)) (.cons (.ae 5) (.cons (.ae 1) .nil))))) (.cons (.ret (.call 61 (.cons (.var 4) (.cons (.var 5) (.cons (.var 6) (.cons (.var 1) (.cons (.var 2) .nil))))))) .nil))))))⟩
noncomputable def qH : Fn := ⟨1, ["cells", "text", "gap", "piece"], (.cons (.asg 1 (.aA [])) (.cons (.asg 2 (.ae 0)) (.cons (.for_ 3 (.var 0) (.cons (.ite (.cmp .Eq (.var 3) (.glob 8)) (.cons (.aQ 2 .Add (.ae 1)) .nil) (.cons (.ite (.cmp .Gt (.var 2) (.ae 0)) (.cons (.aQ 1 .Add (.blt 4 (.cons (.var 2) .nil))) .nil) .nil) (.cons (.asg 2 (.ae 0)) (.cons (.aQ 1 .Add (.call 4 (.cons (.var 3) .nil))) .nil)))) .nil)) (.cons (.ite (.cmp .Gt (.var 2) (.ae 0)) (.cons (.aQ 1 .Add (.blt 4 (.cons (.var 2) .nil))) .nil) .nil) (.cons (.ret (.var 1)) .nil)))))⟩
noncomputable def nG : Fn := ⟨2, ["board", "files", "rows", "at"], (.cons (.asg 2 (.list .nil)) (.cons (.asg 3 (.blt 0 (.cons (.var 0) .nil))) (.cons (.fH (.cmp .Gt (.var 3) (.ae 0)) (.cons (.aQ 3 .Sub (.var 1)) (.cons (.ex (.meth 0 (.var 2) (.cons (.call 63 (.cons (.slice (.var 0) (.var 3) (.bin .Add (.var 3) (.var 1))) .nil)) .nil))) .nil))) (.cons (.ret (.meth 4 (.aA [47]) (.cons (.var 2) .nil))) .nil))))⟩
noncomputable def lS : Fn := ⟨1, ["rights", "text", "index"], (.cons (.asg 1 (.aA [])) (.cons (.for_ 2 (.blt 1 (.cons (.ae 4) .nil)) (.cons (.ite (.bin .BitAnd (.bin .RShift (.var 0) (.var 2)) (.ae 1)) (.cons (.aQ 1 .Add (.idx (.glob 17) (.var 2))) .nil) .nil) .nil)) (.cons (.ite (.cmp .Eq (.var 1) (.aA [])) (.cons (.ret (.aA [45])) .nil) .nil) (.cons (.ret (.var 1)) .nil))))⟩
noncomputable def ej : Fn := ⟨1, ["pos", "side", "ep"], (.cons (.asg 1 (.aA [119])) (.cons (.ite (.cmp .Eq (.attr (.var 0) 18) (.glob 1)) (.cons (.asg 1 (.aA [98])) .nil) .nil) (.cons (.asg 2 (.aA [45])) (.cons (.ite (.cmp .GtE (.attr (.var 0) 16) (.ae 0)) (.cons (.asg 2 (.call 49 (.cons (.attr (.attr (.var 0) 19) 0) (.cons (.attr (.var 0) 16) .nil)))) .nil) .nil) (.cons (.ret (.bin .Add (.bin .Add (.bin .Add (.bin .Add (.bin .Add (.bin .Add (.call 64 (.cons (.attr (.var 0) 21) (.cons (.attr (.attr (.var 0) 19) 0) .nil))) (.aA [32])) (.var 1)) (.aA [32])) (.call 65 (.cons (.attr (.var 0) 17) .nil))) (.aA [32])) (.var 2))) .nil)))))⟩
noncomputable def qI : Fn := ⟨1, ["pos"], (.cons (.ret (.bin .Add (.bin .Add (.bin .Add (.bin .Add (.call 66 (.cons (.var 0) .nil)) (.aA [32])) (.blt 4 (.cons (.attr (.var 0) 24) .nil))) (.aA [32])) (.blt 4 (.cons (.attr (.var 0) 3) .nil)))) .nil)⟩
noncomputable def qJ : Fn := ⟨1, ["geo", "king", "text", "file"], (.cons (.asg 1 (.bin .FloorDiv (.attr (.var 0) 0) (.ae 2))) (.cons (.asg 2 (.aA [])) (.cons (.for_ 3 (.blt 1 (.cons (.attr (.var 0) 0) .nil)) (.cons (.ite (.cmp .Eq (.var 3) (.var 1)) (.cons (.aQ 2 .Add (.aA [75])) .nil) (.cons (.ite (.or_ (.cons (.cmp .Eq (.var 3) (.ae 0)) (.cons (.cmp .Eq (.var 3) (.bin .Sub (.attr (.var 0) 0) (.ae 1))) .nil))) (.cons (.aQ 2 .Add (.aA [82])) .nil) (.cons (.aQ 2 .Add (.aA [46])) .nil)) .nil)) .nil)) (.cons (.ret (.var 2)) .nil))))⟩
noncomputable def eV : Fn := ⟨1, ["geo", "first", "board", "file", "letter"], (.cons (.ite (.and_ (.cons (.cmp .Eq (.attr (.var 0) 0) (.ae 8)) (.cons (.cmp .Eq (.attr (.var 0) 1) (.ae 8)) .nil))) (.cons (.ret (.glob 18)) .nil) .nil) (.cons (.asg 1 (.comp 4 (.du (.cmp .NotEq (.var 4) (.aA [46])) (.call 5 (.cons (.var 4) .nil)) (.glob 8)) (.call 68 (.cons (.var 0) .nil)) (.aZ true))) (.cons (.asg 2 (.bin .Add (.var 1) (.bin .Mult (.list (.cons (.glob 8) .nil)) (.bin .Sub (.attr (.var 0) 2) (.attr (.var 0) 0))))) (.cons (.for_ 3 (.blt 1 (.cons (.attr (.var 0) 0) .nil)) (.cons (.ite (.cmp .NotEq (.idx (.var 1) (.var 3)) (.glob 8)) (.cons (.cM (.var 2) (.bin .Add (.bin .Sub (.attr (.var 0) 2) (.attr (.var 0) 0)) (.var 3)) (.bin .Add (.idx (.var 1) (.var 3)) (.ae 8))) .nil) .nil) (.cons (.ite (.cmp .GtE (.attr (.var 0) 1) (.ae 4)) (.cons (.cM (.var 2) (.bin .Add (.attr (.var 0) 0) (.var 3)) (.glob 2)) (.cons (.cM (.var 2) (.bin .Add (.bin .Sub (.attr (.var 0) 2) (.bin .Mult (.ae 2) (.attr (.var 0) 0))) (.var 3)) (.call 0 (.cons (.glob 1) (.cons (.glob 2) .nil)))) .nil)) .nil) .nil))) (.cons (.ret (.call 64 (.cons (.var 2) (.cons (.attr (.var 0) 0) .nil)))) .nil)))))⟩
noncomputable def qK : Fn := ⟨1, ["geo", "rights", "index"], (.cons (.asg 1 (.ae 0)) (.cons (.for_ 2 (.blt 1 (.cons (.ae 4) .nil)) (.cons (.ite (.cmp .IsNot (.idx (.attr (.var 0) 12) (.var 2)) .bO) (.cons (.aQ 1 .BitOr (.bin .LShift (.ae 1) (.var 2))) .nil) .nil) .nil)) (.cons (.ret (.bin .Add (.bin .Add (.bin .Add (.call 69 (.cons (.var 0) .nil)) (.aA [32, 119, 32])) (.call 65 (.cons (.var 1) .nil))) (.aA [32, 45, 32, 48, 32, 49]))) .nil)))⟩
noncomputable def eW : Fn := ⟨0, [], (.cons (.ret (.list (.cons (.tup (.cons (.ae 4) (.cons (.ae 3) .nil))) (.cons (.tup (.cons (.ae 2) (.cons (.ae 6) .nil))) (.cons (.tup (.cons (.ae 5) (.cons (.ae 5) .nil))) (.cons (.tup (.cons (.ae 8) (.cons (.ae 3) .nil))) (.cons (.tup (.cons (.ae 7) (.cons (.ae 5) .nil))) (.cons (.tup (.cons (.ae 3) (.cons (.ae 7) .nil))) (.cons (.tup (.cons (.ae 6) (.cons (.ae 5) .nil))) (.cons (.tup (.cons (.ae 4) (.cons (.ae 8) .nil))) (.cons (.tup (.cons (.ae 5) (.cons (.ae 4) .nil))) .nil))))))))))) .nil)⟩
noncomputable def jQ : Fn := ⟨4, ["cells", "files", "a", "b", "man", "right", "up", "far", "is_straight", "way", "k"], (.cons (.asg 4 (.idx (.var 0) (.var 2))) (.cons (.asg 5 (.bin .Sub (.bin .Mod (.var 3) (.var 1)) (.bin .Mod (.var 2) (.var 1)))) (.cons (.asg 6 (.bin .Sub (.bin .FloorDiv (.var 3) (.var 1)) (.bin .FloorDiv (.var 2) (.var 1)))) (.cons (.asg 7 (.blt 3 (.cons (.blt 2 (.cons (.var 5) .nil)) (.cons (.blt 2 (.cons (.var 6) .nil)) .nil)))) (.cons (.ite (.cmp .In (.var 4) (.aA [80, 112])) (.cons (.ret (.and_ (.cons (.cmp .Eq (.blt 2 (.cons (.var 5) .nil)) (.ae 1)) (.cons (.cmp .Eq (.var 6) (.du (.cmp .Eq (.var 4) (.aA [80])) (.ae 1) (.neg (.ae 1)))) .nil)))) .nil) .nil) (.cons (.ite (.cmp .In (.var 4) (.aA [78, 110])) (.cons (.ret (.cmp .Eq (.bin .Mult (.blt 2 (.cons (.var 5) .nil)) (.blt 2 (.cons (.var 6) .nil))) (.ae 2))) .nil) .nil) (.cons (.ite (.cmp .In (.var 4) (.aA [75, 107])) (.cons (.ret (.cmp .Eq (.var 7) (.ae 1))) .nil) .nil) (.cons (.asg 8 (.or_ (.cons (.cmp .Eq (.var 5) (.ae 0)) (.cons (.cmp .Eq (.var 6) (.ae 0)) .nil)))) (.cons (.ite (.or_ (.cons (.and_ (.cons (.var 8) (.cons (.cmp .In (.var 4) (.aA [66, 98])) .nil))) (.cons (.and_ (.cons (.not (.var 8)) (.cons (.or_ (.cons (.cmp .In (.var 4) (.aA [82, 114])) (.cons (.cmp .NotEq (.blt 2 (.cons (.var 5) .nil)) (.blt 2 (.cons (.var 6) .nil))) .nil))) .nil))) .nil))) (.cons (.ret (.aZ false)) .nil) .nil) (.cons (.asg 9 (.bin .Add (.bin .FloorDiv (.var 5) (.var 7)) (.bin .Mult (.var 1) (.bin .FloorDiv (.var 6) (.var 7))))) (.cons (.ret (.cmp .Eq (.comp 10 (.idx (.var 0) (.bin .Add (.var 2) (.bin .Mult (.var 9) (.var 10)))) (.blt 1 (.cons (.ae 1) (.cons (.var 7) .nil))) (.aZ true)) (.bin .Mult (.list (.cons (.aA [46]) .nil)) (.bin .Sub (.var 7) (.ae 1))))) .nil)))))))))))⟩
noncomputable def oY : Fn := ⟨3, ["files", "ranks", "n", "size", "one", "apart", "two"], (.cons (.asg 3 (.bin .Mult (.var 0) (.var 1))) (.cons (.ite (.cmp .Eq (.bin .Mod (.var 2) (.ae 2)) (.ae 0)) (.cons (.ret (.list (.cons (.bin .FloorDiv (.var 0) (.ae 2)) (.cons (.bin .Add (.bin .Sub (.var 3) (.var 0)) (.bin .FloorDiv (.var 0) (.ae 2))) .nil)))) .nil) .nil) (.cons (.asg 4 (.bin .Mod (.bin .FloorDiv (.var 2) (.ae 2)) (.var 3))) (.cons (.asg 5 (.list .nil)) (.cons (.for_ 6 (.blt 1 (.cons (.var 3) .nil)) (.cons (.ite (.or_ (.cons (.cmp .Gt (.blt 2 (.cons (.bin .Sub (.bin .Mod (.var 4) (.var 0)) (.bin .Mod (.var 6) (.var 0))) .nil)) (.ae 1)) (.cons (.cmp .Gt (.blt 2 (.cons (.bin .Sub (.bin .FloorDiv (.var 4) (.var 0)) (.bin .FloorDiv (.var 6) (.var 0))) .nil)) (.ae 1)) .nil))) (.cons (.ex (.meth 0 (.var 5) (.cons (.var 6) .nil))) .nil) .nil) .nil)) (.cons (.ret (.list (.cons (.var 4) (.cons (.idx (.var 5) (.bin .Mod (.bin .FloorDiv (.bin .FloorDiv (.var 2) (.ae 2)) (.var 3)) (.blt 0 (.cons (.var 5) .nil)))) .nil)))) .nil))))))⟩
noncomputable def lx : Fn := ⟨6, ["cells", "files", "man", "square", "mover", "prey"], (.cons (.ite (.and_ (.cons (.cmp .In (.var 2) (.aA [80, 112])) (.cons (.or_ (.cons (.cmp .Lt (.var 3) (.var 1)) (.cons (.cmp .GtE (.var 3) (.bin .Sub (.blt 0 (.cons (.var 0) .nil)) (.var 1))) .nil))) .nil))) (.cons (.asg 2 (.du (.cmp .Eq (.var 2) (.aA [80])) (.aA [82]) (.aA [114]))) .nil) .nil) (.cons (.ite (.cmp .Eq (.idx (.var 0) (.var 3)) (.aA [46])) (.cons (.cM (.var 0) (.var 3) (.var 2)) (.cons (.ite (.and_ (.cons (.cmp .Eq (.cmp .In (.var 2) (.aA [80, 78, 66, 82, 81])) (.cmp .Eq (.var 4) (.ae 0))) (.cons (.call 72 (.cons (.var 0) (.cons (.var 1) (.cons (.var 3) (.cons (.var 5) .nil))))) .nil))) (.cons (.cM (.var 0) (.var 3) (.aA [46])) .nil) .nil) .nil)) .nil) .nil))⟩
noncomputable def dP : Fn := ⟨5, ["cells", "files", "ranks", "n", "prey", "mover", "f", "start", "over", "landing", "k"], (.cons (.asg 5 (.bin .Mod (.var 3) (.ae 2))) (.cons (.asg 6 (.bin .Mod (.bin .FloorDiv (.var 3) (.ae 2)) (.var 1))) (.cons (.ite (.cmp .Eq (.var 5) (.ae 0)) (.cons (.p9 [7, 8, 9] (.comp 10 (.bin .Add (.bin .Mult (.bin .Sub (.var 2) (.var 10)) (.var 1)) (.var 6)) (.tup (.cons (.ae 2) (.cons (.ae 3) (.cons (.ae 4) .nil)))) (.aZ true))) .nil) (.cons (.p9 [7, 8, 9] (.comp 10 (.bin .Add (.bin .Mult (.var 10) (.var 1)) (.var 6)) (.tup (.cons (.ae 1) (.cons (.ae 2) (.cons (.ae 3) .nil)))) (.aZ true))) .nil)) (.cons (.ite (.or_ (.cons (.cmp .NotEq (.idx (.var 0) (.var 7)) (.aA [46])) (.cons (.cmp .NotEq (.idx (.var 0) (.var 8)) (.aA [46])) .nil))) (.cons (.ret (.neg (.ae 1))) .nil) .nil) (.cons (.ite (.cmp .Eq (.idx (.var 0) (.var 9)) (.aA [46])) (.cons (.cM (.var 0) (.var 9) (.idx (.aA [112, 80]) (.var 5))) .nil) .nil) (.cons (.ite (.cmp .Eq (.bin .Mod (.bin .FloorDiv (.var 3) (.bin .Mult (.ae 2) (.var 1))) (.ae 2)) (.ae 0)) (.cons (.ex (.call 74 (.cons (.var 0) (.cons (.var 1) (.cons (.idx (.aA [80, 112]) (.var 5)) (.cons (.du (.cmp .Eq (.var 6) (.ae 0)) (.bin .Add (.var 9) (.ae 1)) (.bin .Sub (.var 9) (.ae 1))) (.cons (.var 5) (.cons (.var 4) .nil)))))))) .nil) .nil) (.cons (.ite (.or_ (.cons (.cmp .NotEq (.idx (.var 0) (.var 9)) (.idx (.aA [112, 80]) (.var 5))) (.cons (.cmp .Eq (.bin .Mod (.bin .FloorDiv (.var 3) (.bin .Mult (.ae 4) (.var 1))) (.ae 4)) (.ae 3)) .nil))) (.cons (.ret (.neg (.ae 1))) .nil) .nil) (.cons (.ret (.var 8)) .nil))))))))⟩
noncomputable def nH : Fn := ⟨3, ["cells", "files", "n", "rights", "i", "base", "room", "corner"], (.cons (.asg 3 (.ae 0)) (.cons (.for_ 4 (.blt 1 (.cons (.ae 4) .nil)) (.cons (.asg 5 (.bin .Mult (.bin .FloorDiv (.var 4) (.ae 2)) (.bin .Sub (.blt 0 (.cons (.var 0) .nil)) (.var 1)))) (.cons (.asg 6 (.du (.cmp .Eq (.bin .Mod (.var 4) (.ae 2)) (.ae 0)) (.bin .Sub (.bin .Sub (.var 1) (.ae 3)) (.bin .FloorDiv (.var 1) (.ae 2))) (.bin .Sub (.bin .FloorDiv (.var 1) (.ae 2)) (.ae 2)))) (.cons (.asg 7 (.bin .Add (.var 5) (.du (.cmp .Eq (.bin .Mod (.var 4) (.ae 2)) (.ae 0)) (.bin .Sub (.var 1) (.ae 1)) (.ae 0)))) (.cons (.ite (.and_ (.cons (.cmp .Gt (.var 6) (.ae 0)) (.cons (.cmp .Eq (.idx (.var 0) (.bin .Add (.var 5) (.bin .FloorDiv (.var 1) (.ae 2)))) (.idx (.aA [75, 107]) (.bin .FloorDiv (.var 4) (.ae 2)))) (.cons (.cmp .Eq (.idx (.var 0) (.var 7)) (.idx (.aA [82, 114]) (.bin .FloorDiv (.var 4) (.ae 2)))) .nil)))) (.cons (.ite (.cmp .Eq (.bin .BitAnd (.bin .RShift (.var 2) (.var 4)) (.ae 1)) (.ae 0)) (.cons (.aQ 3 .Add (.bin .LShift (.ae 1) (.var 4))) .nil) .nil) .nil) .nil) .nil))))) (.cons (.ret (.var 3)) .nil)))⟩
noncomputable def qL : Fn := ⟨7, ["cells", "files", "side", "rights", "ep", "half", "full", "rows", "base", "wings", "over", "row", "k", "i"], (.cons (.asg 7 (.list .nil)) (.cons (.for_ 8 (.blt 1 (.cons (.bin .Sub (.blt 0 (.cons (.var 0) .nil)) (.var 1)) (.cons (.neg (.ae 1)) (.cons (.neg (.var 1)) .nil)))) (.cons (.asg 11 (.meth 4 (.aA []) (.cons (.slice (.var 0) (.var 8) (.bin .Add (.var 8) (.var 1))) .nil))) (.cons (.for_ 12 (.blt 1 (.cons (.ae 8) (.cons (.ae 0) (.cons (.neg (.ae 1)) .nil)))) (.cons (.rep 11 12) .nil)) (.cons (.ex (.meth 0 (.var 7) (.cons (.var 11) .nil))) .nil)))) (.cons (.asg 9 (.meth 4 (.aA []) (.cons (.comp 13 (.idx (.aA [75, 81, 107, 113]) (.var 13)) (.blt 1 (.cons (.ae 4) .nil)) (.bin .BitAnd (.bin .RShift (.var 3) (.var 13)) (.ae 1))) .nil))) (.cons (.asg 10 (.du (.cmp .Lt (.var 4) (.ae 0)) (.aA [45]) (.bin .Add (.idx (.aA [97, 98, 99, 100, 101, 102, 103, 104]) (.bin .Mod (.var 4) (.var 1))) (.blt 4 (.cons (.bin .Add (.bin .FloorDiv (.var 4) (.var 1)) (.ae 1)) .nil))))) (.cons (.ret (.meth 4 (.aA [32]) (.cons (.list (.cons (.meth 4 (.aA [47]) (.cons (.var 7) .nil)) (.cons (.idx (.aA [119, 98]) (.var 2)) (.cons (.du (.var 9) (.var 9) (.aA [45])) (.cons (.var 10) (.cons (.blt 4 (.cons (.var 5) .nil)) (.cons (.blt 4 (.cons (.var 6) .nil)) .nil))))))) .nil))) .nil)))))⟩
noncomputable def ja : Fn := ⟨3, ["files", "ranks", "has_wings", "cells", "f", "k"], (.cons (.asg 3 (.bin .Mult (.list (.cons (.aA [46]) .nil)) (.bin .Mult (.var 0) (.var 1)))) (.cons (.for_ 4 (.blt 1 (.cons (.var 0) .nil)) (.cons (.asg 5 (.du (.cmp .Eq (.var 4) (.bin .FloorDiv (.var 0) (.ae 2))) (.ae 0) (.du (.cmp .In (.var 4) (.list (.cons (.ae 0) (.cons (.bin .Sub (.var 0) (.ae 1)) .nil)))) (.ae 1) (.ae 2)))) (.cons (.cM (.var 3) (.var 4) (.idx (.aA [75, 82, 46]) (.var 5))) (.cons (.cM (.var 3) (.bin .Sub (.var 4) (.var 0)) (.idx (.aA [107, 114, 46]) (.var 5))) (.cons (.ite (.cmp .Gt (.var 1) (.ae 3)) (.cons (.cM (.var 3) (.bin .Add (.var 0) (.var 4)) (.aA [80])) (.cons (.cM (.var 3) (.bin .Sub (.var 4) (.bin .Mult (.ae 2) (.var 0))) (.aA [112])) .nil)) .nil) .nil))))) (.cons (.ret (.call 77 (.cons (.var 3) (.cons (.var 0) (.cons (.ae 0) (.cons (.du (.var 2) (.call 76 (.cons (.var 3) (.cons (.var 0) (.cons (.ae 0) .nil)))) (.ae 0)) (.cons (.neg (.ae 1)) (.cons (.ae 0) (.cons (.ae 1) .nil))))))))) .nil)))⟩
noncomputable def eX : Fn := ⟨1, ["script", "s", "head", "size", "has_steps", "has_wings", "mover", "cells", "kings", "prey", "n", "ep", "kept", "a", "rights", "half", "full", "geo", "zob", "pos", "board", "kinds", "sides", "key", "square", "got", "want", "files", "ranks", "i", "man"], (.cons (.asg 1 (.slice (.var 0) .bO (.ae 20))) (.cons (.asg 2 (.comp 29 (.du (.cmp .Lt (.var 29) (.blt 0 (.cons (.var 1) .nil))) (.idx (.var 1) (.var 29)) (.ae 0)) (.blt 1 (.cons (.ae 3) .nil)) (.aZ true))) (.cons (.p9 [27, 28] (.idx (.call 71 .nil) (.bin .Mod (.idx (.var 2) (.ae 0)) (.ae 9)))) (.cons (.asg 3 (.bin .Mult (.var 27) (.var 28))) (.cons (.asg 4 (.cmp .Eq (.bin .Mod (.bin .FloorDiv (.idx (.var 2) (.ae 0)) (.ae 9)) (.ae 2)) (.ae 0))) (.cons (.asg 5 (.cmp .Eq (.bin .Mod (.bin .FloorDiv (.idx (.var 2) (.ae 0)) (.ae 18)) (.ae 2)) (.ae 0))) (.cons (.asg 6 (.bin .Mod (.idx (.var 2) (.ae 2)) (.ae 2))) (.cons (.asg 7 (.bin .Mult (.list (.cons (.aA [46]) .nil)) (.var 3))) (.cons (.asg 8 (.call 73 (.cons (.var 27) (.cons (.var 28) (.cons (.idx (.var 2) (.ae 1)) .nil))))) (.cons (.cM (.var 7) (.idx (.var 8) (.ae 0)) (.aA [75])) (.cons (.cM (.var 7) (.idx (.var 8) (.ae 1)) (.aA [107])) (.cons (.asg 9 (.idx (.var 8) (.bin .Sub (.ae 1) (.var 6)))) (.cons (.for_ 10 (.slice (.var 1) (.ae 3) .bO) (.cons (.ex (.call 74 (.cons (.var 7) (.cons (.var 27) (.cons (.idx (.aA [80, 78, 66, 82, 81, 80, 112, 110, 98, 114, 113, 112]) (.bin .Mod (.var 10) (.ae 12))) (.cons (.bin .Mod (.bin .FloorDiv (.var 10) (.ae 12)) (.var 3)) (.cons (.var 6) (.cons (.var 9) .nil)))))))) .nil)) (.cons (.asg 11 (.neg (.ae 1))) (.cons (.ite (.and_ (.cons (.var 4) (.cons (.cmp .GtE (.var 28) (.ae 5)) .nil))) (.cons (.asg 11 (.call 75 (.cons (.var 7) (.cons (.var 27) (.cons (.var 28) (.cons (.idx (.var 2) (.ae 2)) (.cons (.var 9) .nil))))))) .nil) .nil) (.cons (.asg 12 (.neg (.ae 1))) (.cons (.for_ 13 (.blt 1 (.cons (.var 3) .nil)) (.cons (.ite (.and_ (.cons (.cmp .GtE (.var 11) (.ae 0)) (.cons (.cmp .Eq (.idx (.var 7) (.var 13)) (.idx (.aA [80, 112]) (.var 6))) (.cons (.call 72 (.cons (.var 7) (.cons (.var 27) (.cons (.var 13) (.cons (.var 11) .nil))))) .nil)))) (.cons (.asg 12 (.var 11)) .nil) .nil) .nil)) (.cons (.asg 14 (.du (.var 5) (.call 76 (.cons (.var 7) (.cons (.var 27) (.cons (.bin .FloorDiv (.idx (.var 2) (.ae 1)) (.ae 2)) .nil)))) (.ae 0))) (.cons (.asg 15 (.bin .Mod (.idx (.var 2) (.ae 1)) (.ae 130))) (.cons (.asg 16 (.bin .Add (.ae 1) (.bin .Mod (.idx (.var 2) (.ae 2)) (.ae 1000000000000)))) (.cons (.asg 17 (.call 15 (.cons (.var 27) (.cons (.var 28) (.cons (.var 4) (.cons (.var 5) .nil)))))) (.cons (.asg 18 (.call 29 (.cons (.var 17) (.cons (.ae 5) .nil)))) (.cons (.asg 19 (.call 62 (.cons (.call 77 (.cons (.var 7) (.cons (.var 27) (.cons (.var 6) (.cons (.var 14) (.cons (.var 11) (.cons (.var 15) (.cons (.var 16) .nil)))))))) (.cons (.var 17) (.cons (.var 18) .nil))))) (.cons (.asg 20 (.comp 30 (.bin .Add (.meth 2 (.aA [80, 78, 66, 82, 81, 75, 45, 45, 112, 110, 98, 114, 113, 107]) (.cons (.var 30) .nil)) (.ae 1)) (.var 7) (.aZ true))) (.cons (.asg 21 (.bin .Mult (.list (.cons (.ae 0) .nil)) (.ae 7))) (.cons (.asg 22 (.list (.cons (.ae 0) (.cons (.ae 0) .nil)))) (.cons (.asg 23 (.bin .BitXor (.bin .BitXor (.idx (.attr (.var 18) 17) (.var 14)) (.du (.var 6) (.attr (.var 18) 18) (.ae 0))) (.du (.cmp .GtE (.var 12) (.ae 0)) (.idx (.attr (.var 18) 16) (.bin .Mod (.var 12) (.var 27))) (.ae 0)))) (.cons (.for_ 24 (.blt 1 (.cons (.var 3) .nil)) (.cons (.ite (.idx (.var 20) (.var 24)) (.cons (.gM (.var 21) (.bin .Mod (.idx (.var 20) (.var 24)) (.ae 8)) .Add (.bin .LShift (.ae 1) (.var 24))) (.cons (.gM (.var 22) (.bin .FloorDiv (.idx (.var 20) (.var 24)) (.ae 8)) .Add (.bin .LShift (.ae 1) (.var 24))) (.cons (.aQ 23 .BitXor (.idx (.idx (.attr (.var 18) 15) (.idx (.var 20) (.var 24))) (.var 24))) .nil))) .nil) .nil)) (.cons (.asg 25 (.tup (.cons (.attr (.var 19) 21) (.cons (.attr (.var 19) 22) (.cons (.attr (.var 19) 23) (.cons (.attr (.var 19) 18) (.cons (.attr (.var 19) 17) (.cons (.attr (.var 19) 16) (.cons (.attr (.var 19) 24) (.cons (.attr (.var 19) 3) (.cons (.attr (.var 19) 25) (.cons (.attr (.var 19) 26) .nil)))))))))))) (.cons (.asg 26 (.tup (.cons (.var 20) (.cons (.var 21) (.cons (.var 22) (.cons (.var 6) (.cons (.var 14) (.cons (.var 12) (.cons (.var 15) (.cons (.var 16) (.cons (.var 23) (.cons (.list .nil) .nil)))))))))))) (.cons (.ite (.cmp .NotEq (.call 70 (.cons (.var 17) .nil)) (.call 78 (.cons (.var 27) (.cons (.var 28) (.cons (.var 5) .nil))))) (.cons (.ret (.aZ false)) .nil) .nil) (.cons (.ret (.and_ (.cons (.cmp .Eq (.var 25) (.var 26)) (.cons (.cmp .Eq (.call 67 (.cons (.var 19) .nil)) (.call 77 (.cons (.var 7) (.cons (.var 27) (.cons (.var 6) (.cons (.var 14) (.cons (.var 12) (.cons (.var 15) (.cons (.var 16) .nil))))))))) .nil)))) .nil))))))))))))))))))))))))))))))))⟩
noncomputable def iX : Tb := ⟨[("WHITE" : Str), ("BLACK" : Str), ("PAWN" : Str), ("KNIGHT" : Str), ("BISHOP" : Str), ("ROOK" : Str), ("QUEEN" : Str), ("KING" : Str), ("EMPTY" : Str), ("LETTERS" : Str), ("STEP_FILES" : Str), ("STEP_RANKS" : Str), ("WORD" : Str), ("STAR" : Str), ("FILE_LETTERS" : Str), ("RANK_DIGITS" : Str), ("DIGITS" : Str), ("RIGHT_LETTERS" : Str), ("FULL_START" : Str)], [("make_piece" : Str), ("side_of" : Str), ("kind_of" : Str), ("is_piece" : Str), ("letter_of" : Str), ("piece_of" : Str), ("is_growing" : Str), ("" : Str), ("Geometry" : Str), ("add_masks" : Str), ("inner_squares" : Str), ("add_rays" : Str), ("add_pawns" : Str), ("add_knights" : Str), ("add_castles" : Str), ("make_geometry" : Str), ("ray_attacks" : Str), ("rook_attacks" : Str), ("bishop_attacks" : Str), ("more_than_one" : Str), ("highest" : Str), ("lowest" : Str), ("" : Str), ("Random" : Str), ("" : Str), ("" : Str), ("Zobrist" : Str), ("draw_row" : Str), ("rights_row" : Str), ("make_zobrist" : Str), ("state_key" : Str), ("full_key" : Str), ("" : Str), ("Position" : Str), ("put_piece" : Str), ("pieces" : Str), ("king_square" : Str), ("settle_key" : Str), ("ep_stands" : Str), ("ep_attacked" : Str), ("check_kings" : Str), ("check_pawns" : Str), ("check_rights" : Str), ("straight_sliders" : Str), ("slanting_sliders" : Str), ("pawn_attackers" : Str), ("step_attackers" : Str), ("is_attacked" : Str), ("in_check_of" : Str), ("square_name" : Str), ("read_square" : Str), ("plain_number" : Str), ("read_row" : Str), ("read_board" : Str), ("read_side" : Str), ("read_rights" : Str), ("read_ep" : Str), ("read_clock" : Str), ("read_fields" : Str), ("check_pieces" : Str), ("check_wings" : Str), ("build_position" : Str), ("read_fen" : Str), ("write_row" : Str), ("write_board" : Str), ("write_rights" : Str), ("write_fields" : Str), ("write_fen" : Str), ("start_row" : Str), ("start_board" : Str), ("start_fen" : Str), ("_law_shapes" : Str), ("_law_hits" : Str), ("_law_kings" : Str), ("_law_put" : Str), ("_law_plant" : Str), ("_law_rights" : Str), ("_law_text" : Str), ("_law_start" : Str), ("law" : Str)], [("" : Str), ("" : Str), ("" : Str), ("" : Str), ("" : Str), ("" : Str), ("" : Str), ("" : Str), ("" : Str), ("" : Str), ("" : Str), ("" : Str), ("" : Str), ("" : Str), ("" : Str), ("" : Str), ("" : Str), ("" : Str), ("" : Str), ("" : Str), ("" : Str), ("" : Str), ("" : Str), ("" : Str), ("next" : Str), ("" : Str), ("" : Str), ("" : Str), ("" : Str), ("" : Str), ("" : Str), ("" : Str), ("" : Str), ("" : Str), ("" : Str), ("" : Str), ("" : Str), ("" : Str), ("" : Str), ("" : Str), ("" : Str), ("" : Str), ("" : Str), ("" : Str), ("" : Str), ("" : Str), ("" : Str), ("" : Str), ("" : Str), ("" : Str), ("" : Str), ("" : Str), ("" : Str), ("" : Str), ("" : Str), ("" : Str), ("" : Str), ("" : Str), ("" : Str), ("" : Str), ("" : Str), ("" : Str), ("" : Str), ("" : Str), ("" : Str), ("" : Str), ("" : Str), ("" : Str), ("" : Str), ("" : Str), ("" : Str), ("" : Str), ("" : Str), ("" : Str), ("" : Str), ("" : Str), ("" : Str), ("" : Str), ("" : Str), ("" : Str)]⟩
noncomputable def fns : List (Nat × Fn) := [(0, oR), (1, tH), (2, tI), (3, rZ), (4, qB), (5, r7), (6, oS), (7, kA), (9, qC), (10, kB), (11, lw), (12, qD), (13, np), (14, ic), (15, kC), (16, nq), (17, lM), (18, jM), (19, kD), (20, tJ), (21, vZ), (22, nr), (24, nt), (25, lN), (27, r9), (28, oU), (29, lO), (30, qE), (31, sg), (32, kE), (34, qF), (35, v0), (36, nu), (37, oV), (38, jN), (39, nv), (40, nw), (41, nx), (42, lP), (43, iU), (44, iW), (45, jO), (46, jP), (47, ny), (48, nz), (49, nA), (50, nB), (51, lQ), (52, si), (53, oW), (54, qG), (55, nD), (56, tK), (57, oX), (58, nE), (59, lR), (60, nF), (61, fT), (62, sj), (63, qH), (64, nG), (65, lS), (66, ej), (67, qI), (68, qJ), (69, eV), (70, qK), (71, eW), (72, jQ), (73, oY), (74, lx), (75, dP), (76, nH), (77, qL), (78, ja), (79, eX)]
noncomputable abbrev Spec := Nat → List V → Hp → (V → Hp → Prop) → Prop
noncomputable def ig : Nat := 178
noncomputable def jR : Nat := 318
noncomputable def nJ : Nat := 339
noncomputable def cPos : Nat := 395
noncomputable def gQ : Nat := 160
noncomputable def dX : Nat := 161
noncomputable def bI : List Nat := [46, 80, 78, 66, 82, 81, 75, 46, 46, 112, 110, 98, 114, 113, 107]
noncomputable def gB : List Nat := [97, 98, 99, 100, 101, 102, 103, 104]
noncomputable def gC : List Nat := [49, 50, 51, 52, 53, 54, 55, 56]
noncomputable def nK : List Nat := [48, 49, 50, 51, 52, 53, 54, 55, 56, 57]
noncomputable def bh : List Nat := [75, 81, 107, 113]
noncomputable def sStart : List Nat := un ("rnbqkbnr/pppppppp/8/8/8/8/PPPPPPPP/RNBQKBNR" : Str)
noncomputable def Ea : Nat → V
 | 0 => .int 0 | 1 => .int 1 | 2 => .int 1 | 3 => .int 2 | 4 => .int 3 | 5 => .int 4 | 6 => .int 5 | 7 => .int 6 | 8 => .int 0
 | 9 => .str bI | 10 => .ref gQ | 11 => .ref dX | 12 => .int 18446744073709551615 | 13 => .int 2685821657736338717
 | 14 => .str gB | 15 => .str gC | 16 => .str nK | 17 => .str bh | 18 => .str sStart
 | _ => .none
noncomputable def jS (c a : Nat) : Bool := (Nat.beq c ig || Nat.beq c jR || Nat.beq c nJ || Nat.beq c cPos) && Nat.blt a 27
noncomputable def yj (c f : Nat) : Bool := Nat.beq c jR && Nat.beq f 24
noncomputable def cfgOf (Sp : Spec) : Cfg := ⟨Sp, Ea, jS, yj⟩
set_option genCtorIdx true
inductive Kd where
 | fn (F : Fn) | cls (i c : Nat) | no
set_option genCtorIdx false
noncomputable def dw (n : Nat) : Kd :=
 if Nat.beq n 8 then .cls 7 ig else if Nat.beq n 23 then .cls 22 jR else if Nat.beq n 26 then .cls 25 nJ else if Nat.beq n 33 then .cls 32 cPos else
 match fns.lookup n with
 | some F => .fn F
 | none => .no
noncomputable def eE (k : Kd) (Sp : Spec) (vs : List V) (H : Hp) (Q : V → Hp → Prop) : Prop := ∃ H1, Sb H1 H ∧ match k with
 | .fn F => vs.length = F.ar ∧ cB (cfgOf Sp) F.body (gp vs) H1 (bT Q)
 | .cls i c => ∀ x d, Sp i (.ref x :: vs) ((x, .inst c d) :: (d, .dict []) :: H1) (fun v H' => v = .none ∧ Q (.ref x) H')
 | .no => False
noncomputable def stage : Nat → Spec
 | 0 => fun _ _ _ _ => False
 | n + 1 => fun f => if Nat.beq f n then eE (dw n) (stage n) else stage n f
noncomputable def cf (n : Nat) : Cfg := cfgOf (stage n)
theorem kF {f : Nat} : ∀ {n}, f < n → stage n f = stage (f + 1) f := by
 intro n
 induction n with
 | zero => intro h; exact absurd h (Nat.not_lt_zero _)
 | succ n ih =>
  intro h
  by_cases e : f = n
  ·subst e; rfl
  ·have q : Nat.beq f n = false := by cases q : Nat.beq f n with
    | false => rfl
    | true => exact absurd (Nat.eq_of_beq_eq_true q) e
   show (if Nat.beq f n then eE (dw n) (stage n) else stage n f) = _
   rw [q]
   exact ih (by omega)
theorem Sb.trans {A B D : Hp} (h : Sb A B) (g : Sb B D) : Sb A D := by
 obtain ⟨L, p, q⟩ := h
 obtain ⟨M, p', q'⟩ := g
 obtain ⟨L', a, b⟩ := List.exists_perm_sublist q p'.symm
 exact ⟨L', a.trans p, b.trans q'⟩
@[irreducible] noncomputable def WB (C : Cfg) (ss : Ss) (ρ : ap) (H : Hp) (Q : SQ) : Prop := cB C ss ρ H Q
theorem WB.eq {C : Cfg} {ss : Ss} {ρ : ap} {H : Hp} {Q : SQ} : WB C ss ρ H Q = cB C ss ρ H Q := by unfold WB; rfl
theorem WB.fn {C : Cfg} {ss : Ss} : WB C ss = cB C ss := by funext ρ H Q; exact WB.eq
noncomputable abbrev KB (C : Cfg) (r : Ss) (Q : SQ) : SQ := fun fl af H' => match fl with
 | .next => WB C r af H' Q
 | f => Q f af H'
theorem KB.eq {C : Cfg} {r : Ss} {Q : SQ} : KB C r Q = fun fl af H' => match fl with
 | .next => cB C r af H' Q
 | f => Q f af H' := by unfold KB; rw [WB.fn]
@[irreducible] noncomputable def WC (C : Cfg) (s : S) (r : Ss) (ρ : ap) (H : Hp) (Q : SQ) : Prop := wpS C s ρ H (KB C r Q)
theorem aj {C : Cfg} {s : S} {r : Ss} {ρ : ap} {H : Hp} {Q : SQ} (g : WC C s r ρ H Q) : WB C (.cons s r) ρ H Q := by
 unfold WC at g; rw [WB.eq]; rw [KB.eq] at g; exact g
theorem an {C : Cfg} {ρ : ap} {H : Hp} {Q : SQ} (g : Q .next ρ H) : WB C .nil ρ H Q := by rw [WB.eq]; exact g
section
variable {C : Cfg} {s : S} {r a b : Ss} {ρ : ap} {H : Hp} {Q : SQ} {e o x : E} {es : Es} {v : V} {vs : List V} {i f : Nat}
theorem aR (g : wpS C s ρ H (KB C r Q)) : WC C s r ρ H Q := by unfold WC; exact g
noncomputable def Pv (C : Cfg) (e : E) (ρ : ap) (H : Hp) (v : V) : Prop := ∀ Q : V → Hp → Prop, Q v H → ay C e ρ H Q
noncomputable def nL (C : Cfg) (es : Es) (ρ : ap) (H : Hp) (vs : List V) : Prop := ∀ Q : List V → Hp → Prop, Q vs H → cN C es ρ H Q
noncomputable def Pt (C : Cfg) (e : E) (ρ : ap) (H : Hp) (b : Bool) : Prop := ∀ Q : Bool → Hp → Prop, Q b H → ce C e ρ H Q
theorem nL.nil : nL C .nil ρ H [] := fun _ q => q
theorem nL.cons (p : Pv C e ρ H v) (q : nL C es ρ H vs) : nL C (.cons e es) ρ H (v :: vs) := fun _ g => p _ (q _ g)
theorem Ap (p : Pv C e ρ H v) (g : WB C r (ρ.set i v) H Q) : WC C (.asg i e) r ρ H Q := aR (p _ g)
theorem Aq (p : Pv C e ρ H v) (g : Q (.ret v) ρ H) : WC C (.ret e) r ρ H Q := aR (p _ g)
theorem As {t : E} {c : Bool} (p : Pt C t ρ H c) (g : match c with | true => WB C a ρ H (KB C r Q) | false => WB C b ρ H (KB C r Q)) : WC C (.ite t a b) r ρ H Q := by
 refine aR (p _ ?_); cases c with | true => exact (WB.eq ▸ g : cB C a ρ H (KB C r Q)) | false => exact (WB.eq ▸ g : cB C b ρ H (KB C r Q))
theorem cG {t : E} (g : ce C t ρ H fun c H₁ => match c with | true => WB C a ρ H₁ (KB C r Q) | false => WB C b ρ H₁ (KB C r Q)) : WC C (.ite t a b) r ρ H Q := by
 refine aR ?_; simp only [WB.fn] at g; exact g
theorem eF {it : E} (g : ay C it ρ H fun v H₁ => ∃ src items, Src v H₁ src items ∧ ∃ H₂, Sb H₂ H₁ ∧ forL (WB C b) src items i items ρ H₂ (KB C r Q)) : WC C (.for_ i it b) r ρ H Q := by
 refine aR ?_; rw [WB.fn] at g; exact g
theorem kG {t : E} (g : ∃ H₂, Sb H₂ H ∧ ∃ n, eB (ce C t) (WB C b) n ρ H₂ (KB C r Q)) : WC C (.fH t b) r ρ H Q := by
 refine aR ?_; rw [WB.fn] at g; exact g
theorem uU (g : WB C b ρ H (KB C r Q)) : WC C (.try_ b) r ρ H Q := by
 refine aR ?_; rw [WB.eq] at g; exact g
theorem v6 (p : nL C es ρ H vs) (g : C.Sp f vs H fun v H₁ => WB C r (ρ.set i v) H₁ Q) : WC C (.asg i (.call f es)) r ρ H Q := aR (p _ g)
theorem v7 (p : nL C es ρ H vs) (g : C.Sp f vs H fun v H₁ => Q (.ret v) ρ H₁) : WC C (.ret (.call f es)) r ρ H Q := aR (p _ g)
theorem v8 (p : nL C es ρ H vs) (g : C.Sp f vs H fun v H₁ => WB C r ρ H₁ Q) : WC C (.ex (.call f es)) r ρ H Q := aR (p _ g)
theorem kH (p : nL C es ρ H vs) (g : C.Sp f vs H fun v H₁ => truth v H₁ fun c => match c with | true => WB C a ρ H₁ (KB C r Q) | false => WB C b ρ H₁ (KB C r Q)) : WC C (.ite (.call f es) a b) r ρ H Q := cG (p _ g)
theorem At {y : Nat} {xs : List V} {H' : Hp} (p : Pv C o ρ H (.ref y)) (q : Pv C e ρ H v) (u : Upd y (.list xs) (.list (xs ++ [v])) H H') (l : xs.length ≤ 1000) (g : WB C r ρ H' Q) : WC C (.ex (.meth 0 o (.cons e .nil))) r ρ H Q :=
 aR (p _ ⟨⟨xs, u.mem⟩, q _ ⟨xs, H', u, l, g⟩⟩)
theorem v9 {xa c d n : Nat} {fs : List (Nat × V)} {H' : Hp} (q : Pv C e ρ H v) (p : Pv C o ρ H (.ref xa)) (m : (xa, .inst c d) ∈ H) (u : Upd d (.dict fs) (.dict (fset fs n v)) H H') (l : fs.length ≤ 100) (k : C.eH c n = true) (g : WB C r ρ H' Q) :
  WC C (.aE o n e) r ρ H Q := aR (q _ (p _ ⟨xa, c, d, fs, H', rfl, m, u, l, k, g⟩))
theorem Pv.var (h : ρ i = some v) : Pv C (.var i) ρ H v := fun _ q => ⟨v, h, q⟩
theorem Pv.ae {k : Int} : Pv C (.ae k) ρ H (.int k) := fun _ q => q
theorem Pv.aA {k : List Nat} : Pv C (.aA k) ρ H (.str k) := fun _ q => q
theorem Pv.aZ {k : Bool} : Pv C (.aZ k) ρ H (.bool k) := fun _ q => q
theorem Pv.bO : Pv C .bO ρ H .none := fun _ q => q
theorem Pv.glob {g : Nat} (h : C.gv g = v) : Pv C (.glob g) ρ H v := fun _ q => by subst h; exact q
variable {k j : Int} {s s' : List Nat} {d : Nat}
noncomputable def cS (op : Operator) (x y v : V) : Prop := ∀ (H : Hp) (Q : V → Hp → Prop), Q v H → cn op x y H Q
theorem Op.add : cS .Add (.int k) (.int j) (.int (k + j)) := fun _ _ g => g
theorem Op.sub : cS .Sub (.int k) (.int j) (.int (k - j)) := fun _ _ g => g
theorem Op.or : cS .BitOr (.int k) (.int j) (.int (Builtin.bitOr k j)) := fun _ _ g => g
theorem Op.and : cS .BitAnd (.int k) (.int j) (.int (Builtin.bitAnd k j)) := fun _ _ g => g
theorem Op.xor : cS .BitXor (.int k) (.int j) (.int (Builtin.bitXor k j)) := fun _ _ g => g
theorem Op.mul (h : -1000000 ≤ j) (h' : j ≤ 1000000) : cS .Mult (.int k) (.int j) (.int (k * j)) := fun _ _ g => ⟨⟨by omega, by omega⟩, g⟩
theorem Op.fdiv (h : j ≠ 0) (h' : j.natAbs < 1073741824) : cS .FloorDiv (.int k) (.int j) (.int (k.fdiv j)) := fun _ _ g => ⟨⟨h, h'⟩, g⟩
theorem Pv.bin {op : Operator} {x y : V} (p : Pv C e ρ H x) (q : Pv C o ρ H y) (r : cS op x y v) : Pv C (.bin op e o) ρ H v := fun _ g => p _ (q _ (r _ _ g))
theorem yk {op : Operator} {x y : V} (h : ρ i = some x) (q : Pv C e ρ H y) (t : dE x y) (w : cS op x y v) (g : WB C r (ρ.set i v) H Q) : WC C (.aQ i op e) r ρ H Q := aR ⟨x, h, q _ ⟨t, w _ _ g⟩⟩
theorem yl {op : Operator} {x y : V} {xa c n : Nat} {fs : List (Nat × V)} {H' : Hp} (p : Pv C o ρ H (.ref xa)) (m1 : (xa, .inst c d) ∈ H) (u : Upd d (.dict fs) (.dict (fset fs n v)) H H') (l : fs.lookup n = some x) (t0 : C.eH c n = true)
  (q : Pv C e ρ H y) (t : dE x y) (w : cS op x y v) (l2 : fs.length ≤ 100) (g : WB C r ρ H' Q) : WC C (.mB o n op e) r ρ H Q :=
 aR (p _ ⟨xa, c, d, fs, x, rfl, m1, u.mem, l, t0, q _ ⟨t, w _ _ ⟨xa, c, d, fs, H', rfl, m1, u, l2, t0, g⟩⟩⟩)
theorem Pv.neg (p : Pv C e ρ H (.int k)) : Pv C (.neg e) ρ H (.int (-k)) := fun _ g => p _ ⟨k, rfl, g⟩
theorem Pv.inv (p : Pv C e ρ H (.int k)) : Pv C (.inv e) ρ H (.int (Builtin.bitNot k)) := fun _ g => p _ ⟨k, rfl, g⟩
theorem Pv.attr {xa c n : Nat} {fs : List (Nat × V)} (p : Pv C o ρ H (.ref xa)) (m1 : (xa, .inst c d) ∈ H) (m2 : (d, .dict fs) ∈ H) (l : fs.lookup n = some v) (k : C.eH c n = true) : Pv C (.attr o n) ρ H v :=
 fun _ g => p _ ⟨xa, c, d, fs, v, rfl, m1, m2, l, k, g⟩
theorem Pv.idx {xa : Nat} {ws : List V} (p : Pv C o ρ H (.ref xa)) (q : Pv C e ρ H (.int k)) (m : (xa, O.list ws) ∈ H) (l : ws.length ≤ 10000) (h0 : 0 ≤ k) (h : ws[k.toNat]? = some v) : Pv C (.idx o e) ρ H v :=
 fun _ g => p _ (q _ ⟨ws, .inl m, l, .inl ⟨h0, v, h, g⟩⟩)
theorem Pv.abs (p : Pv C e ρ H (.int k)) : Pv C (.blt 2 (.cons e .nil)) ρ H (.int k.natAbs) := fun _ g => p _ g
theorem Pv.max (p : Pv C e ρ H (.int k)) (q : Pv C o ρ H (.int j)) : Pv C (.blt 3 (.cons e (.cons o .nil))) ρ H (.int (Max.max k j)) := fun _ g => p _ (q _ g)
noncomputable def cw (op : CmpOp) (x y v : V) : Prop := ∀ (H : Hp) (Q : V → Hp → Prop), Q v H → ez op x y H Q
theorem Cm.eq : cw .Eq (.int k) (.int j) (.bool (decide (k = j))) := fun _ _ g => g
theorem Cm.ne : cw .NotEq (.int k) (.int j) (.bool (decide (k ≠ j))) := fun _ _ g => g
theorem Cm.lt : cw .Lt (.int k) (.int j) (.bool (decide (k < j))) := fun _ _ g => g
theorem Cm.le : cw .LtE (.int k) (.int j) (.bool (decide (k ≤ j))) := fun _ _ g => g
theorem Cm.gt : cw .Gt (.int k) (.int j) (.bool (decide (j < k))) := fun _ _ g => g
theorem Cm.ge : cw .GtE (.int k) (.int j) (.bool (decide (j ≤ k))) := fun _ _ g => g
theorem Cm.seq : cw .Eq (.str s) (.str s') (.bool (decide (s = s'))) := fun _ _ g => g
theorem Cm.beq {b b' : Bool} : cw .Eq (.bool b) (.bool b') (.bool (decide (b = b'))) := fun _ _ g => g
theorem Pv.cmp {op : CmpOp} {x y : V} (p : Pv C e ρ H x) (q : Pv C o ρ H y) (r : cw op x y v) : Pv C (.cmp op e o) ρ H v := fun _ g => p _ (q _ (r _ _ g))
theorem Pt.cmp {op : CmpOp} {x y : V} {c : Bool} (p : Pv C e ρ H x) (q : Pv C o ρ H y) (r : cw op x y (.bool c)) : Pt C (.cmp op e o) ρ H c := fun _ g => p _ (q _ (r _ _ g))
theorem Pt.not {c : Bool} (p : Pt C e ρ H c) : Pt C (.not e) ρ H (!c) := fun _ g => p _ g
theorem Pt.bin {op : Operator} (p : Pv C (.bin op e o) ρ H (.int k)) : Pt C (.bin op e o) ρ H (decide (k ≠ 0)) := fun Q g => p (fun v H => truth v H fun b => Q b H) g
theorem Pt.attr {n : Nat} {b' : Bool} (p : Pv C (.attr o n) ρ H (.bool b')) : Pt C (.attr o n) ρ H b' := fun Q g => p (fun v H => truth v H fun b => Q b H) g
theorem Pt.idx (p : Pv C (.idx o e) ρ H (.int k)) : Pt C (.idx o e) ρ H (decide (k ≠ 0)) := fun Q g => p (fun v H => truth v H fun b => Q b H) g
theorem Pt.var {b' : Bool} (h : ρ i = some (.bool b')) : Pt C (.var i) ρ H b' := fun Q g => ⟨_, h, g⟩
end
section
variable {C : Cfg} {s : S} {r a b : Ss} {ρ : ap} {H : Hp} {Q : SQ} {e o x : E} {es : Es} {v : V} {vs : List V} {i f : Nat} {R : V → Hp → Prop} {T : Bool → Hp → Prop}
theorem aY (g : ay C e ρ H fun v H₁ => WB C r (ρ.set i v) H₁ Q) : WC C (.asg i e) r ρ H Q := aR g
theorem gq (g : ay C e ρ H fun v H₁ => Q (.ret v) ρ H₁) : WC C (.ret e) r ρ H Q := aR g
theorem bX {op : Operator} (g : ay C e ρ H fun x H₁ => ay C o ρ H₁ fun y H₂ => cn op x y H₂ R) : ay C (.bin op e o) ρ H R := g
theorem Cw {op : Operator} {x y : V} (p : cS op x y v) (g : R v H) : cn op x y H R := p _ _ g
theorem Au (g : ay C e ρ H fun x H₁ => ay C o ρ H₁ fun y H₂ => kY x y H₂ R) : ay C (.idx e o) ρ H R := g
theorem nM {n : Nat} (g : ay C e ρ H fun v H₁ => ay C o ρ H₁ fun x H₂ => dB x n v C.eH H₂ fun aD => WB C r ρ aD Q) : WC C (.aE o n e) r ρ H Q := aR g
theorem kI (g : ay C e ρ H fun v H₁ => ay C o ρ H₁ fun y H₂ => ay C x ρ H₂ fun z aD => eI y z v aD fun eJ => WB C r ρ eJ Q) : WC C (.cM o x e) r ρ H Q := aR g
theorem pD {xa c d n : Nat} {fs : List (Nat × V)} {H' : Hp} {eH : Nat → Nat → Bool} {W : Hp → Prop} (m : (xa, .inst c d) ∈ H) (u : Upd d (.dict fs) (.dict (fset fs n v)) H H') (l : fs.length ≤ 100) (k : eH c n = true) (g : W H') :
  dB (.ref xa) n v eH H W := ⟨xa, c, d, fs, H', rfl, m, u, l, k, g⟩
theorem Cx {op : CmpOp} {x y : V} (p : cw op x y v) (g : R v H) : ez op x y H R := p _ _ g
theorem Av {op : Operator} (g : ay C e ρ H fun x H₁ => ay C o ρ H₁ fun y H₂ => cn op x y H₂ fun v aD => truth v aD fun b => T b aD) : ce C (.bin op e o) ρ H T := g
theorem qM (g : dO C es ρ H T) : ce C (.and_ es) ρ H T := g
theorem uV (g : ce C e ρ H fun b H₁ => T (!b) H₁) : ce C (.not e) ρ H T := g
theorem jT {c : Bool} (p : Pt C e ρ H c) (g : match (generalizing := false) c with | true => dO C es ρ H T | false => T false H) : dO C (.cons e es) ρ H T := p _ g
theorem jU (g : ce C e ρ H fun b H₁ => match b with | true => dO C es ρ H₁ T | false => T false H₁) : dO C (.cons e es) ρ H T := g
theorem eY (p : nL C es ρ H vs) (g : C.Sp f vs H fun v aD => truth v aD fun b => T b aD) : ce C (.call f es) ρ H T := p _ g
end
theorem au {n f : Nat} {F : Fn} {vs : List V} {H : Hp} {Q : V → Hp → Prop} (hf : f < n) (hk : dw f = .fn F) (hl : vs.length = F.ar) (h : ∀ m, f = m → WB (cf m) F.body (gp vs) H (bT Q)) : (cf n).Sp f vs H Q := by
 show stage n f vs H Q
 rw [kF hf]
 show (if Nat.beq f f then eE (dw f) (stage f) else stage f f) vs H Q
 rw [if_pos (Nat.beq_refl f), hk]
 exact ⟨H, Sb.refl, hl, WB.eq ▸ h f rfl⟩
theorem mf {n f i c : Nat} {vs : List V} {H : Hp} {Q : V → Hp → Prop} (hf : f < n) (hk : dw f = .cls i c)
  (h : ∀ m, f = m → ∀ x d, (cf m).Sp i (.ref x :: vs) ((x, .inst c d) :: (d, .dict []) :: H) (fun v H' => v = .none ∧ Q (.ref x) H')) : (cf n).Sp f vs H Q := by
 show stage n f vs H Q
 rw [kF hf]
 show (if Nat.beq f f then eE (dw f) (stage f) else stage f f) vs H Q
 rw [if_pos (Nat.beq_refl f), hk]
 exact ⟨H, Sb.refl, h f rfl⟩
theorem ii {n f : Nat} {vs : List V} {H H' : Hp} {Q : V → Hp → Prop} (hf : f < n) (s : Sb H' H) (h : (cf n).Sp f vs H' Q) : (cf n).Sp f vs H Q := by
 show stage n f vs H Q
 have h : stage n f vs H' Q := h
 rw [kF hf] at h ⊢
 show (if Nat.beq f f then eE (dw f) (stage f) else stage f f) vs H Q
 have h : (if Nat.beq f f then eE (dw f) (stage f) else stage f f) vs H' Q := h
 rw [if_pos (Nat.beq_refl f)] at h ⊢
 obtain ⟨H1, a, b⟩ := h
 exact ⟨H1, a.trans s, b⟩
section
set_option maxRecDepth 100000
set_option maxHeartbeats 8000000
noncomputable def PR : Program := PySem.Challenge.pw_nt0460_01
noncomputable def sV (s : String) (t : Nat) : Value := .str (Str.ofString s) t
noncomputable def iV (k : Int) (t : Nat) : Value := .int k t
noncomputable def de (P : Params) (s : String) (t : Nat) (v : Value) : DictEntry := ⟨PyData.keyHash P (Str.ofString s), .str (Str.ofString s) t, v⟩
noncomputable def oT (l : List Value) : Obj := ⟨.type "tuple", none, .seq l.toArray 0, #[]⟩
noncomputable def oF (l : List Value) : Obj := ⟨.none, none, .fields l.toArray, #[]⟩
noncomputable def oD (l : List DictEntry) (n : Nat) : Obj := ⟨.type "dict", none, .dict l.toArray n, #[]⟩
noncomputable def oC (n q : String) (t : Nat) (line argc k : Int) (r : Value) (b : Bool) (r2 a1 a2 a3 : Value) (u : Nat) : Obj :=
 ⟨.type "code", none, .fields #[sV n t, sV q (t + 1), sV "/claim/cut.py" (t + 2), iV line 0, iV argc 0, iV 0 0, iV 0 0, iV k 0, r, .bool b, iV 181 0, r2, .none, a1, a2, a3, iV (Int.ofNat u) 0, iV line 0, sV "/claim/cut.py" (u + 1)], #[]⟩
noncomputable def Eb : Stmt → Str | .FunctionDef n _ _ _ _ _ _ _ _ _ => n | _ => Str.empty
noncomputable def Ec : Stmt → Arguments | .FunctionDef _ a _ _ _ _ _ _ _ _ => a | _ => ⟨[], [], none, [], [], none, []⟩
noncomputable def Cy : Stmt → List Stmt | .FunctionDef _ _ b _ _ _ _ _ _ _ => b | .ClassDef _ _ _ b _ _ _ _ _ _ _ => b | _ => []
noncomputable def Ed : Stmt → PySem.Scope | .FunctionDef _ _ _ _ _ _ s _ _ _ => s | _ => ⟨.function, [], false, false, []⟩
noncomputable def nth (l : List Stmt) (i : Nat) : Stmt := match l.drop i with | x :: _ => x | [] => .Pass default
noncomputable def fS (i : Nat) : Stmt := nth PR.main.body i
noncomputable def fM (i j : Nat) : Stmt := nth (Cy (fS i)) j
noncomputable def oA (s : Stmt) (q : String) : Obj := ⟨.none, none, .func ⟨Eb s, Str.ofString q, Ec s, .stmts (Cy s), Ed s, 0, [], .none, .none, .none, .none, none, .none, .none, 0⟩, #[]⟩
noncomputable def oB (s : Stmt) (q : String) (m c : Value) : Obj := ⟨.type "function", none, .func ⟨Eb s, Str.ofString q, Ec s, .stmts (Cy s), Ed s, 3, [], .none, .none, .none, m, none, c, .none, 0⟩, #[]⟩
noncomputable def eZ (n : Nat) (t : BT) : Nat → Nat → BT := @BT.rec (fun _ => Nat → Nat → BT) (fun _ _ => .nil) (fun v _ _ x y a b => match Nat.blt b n with | true => .node v (x (2 * a) (a + b)) (y (2 * a) (2 * a + b)) | false => .nil) t
noncomputable def alt (l : List Obj) : Bool → List Obj := List.rec (fun _ => []) (fun x _ h b => match b with | true => x :: h false | false => h true) l
noncomputable def bt (n : Nat) : List Obj → BT := Nat.rec (fun _ => .nil) (fun _ h l => List.rec .nil (fun x r _ => .node x (h (alt r true)) (h (alt r false))) l) n
noncomputable def mE (P : Params) : List DictEntry := [de P "__doc__" 166 .none, de P "__package__" 167 .none, de P "__loader__" 168 (.builtin "__main__.__loader__#opaque"), de P "__spec__" 169 .none, de P "__annotations__" 170 (.ref 6), de P "__builtins__" 171 (.ref 4), de P "__file__" 173 (sV "/claim/cut.py" 172), de P "__cached__" 174 .none, de P "_wall" 193 (.ref 21), de P "ChessError" 224 (.ref 38), de P "BadSquare" 249 (.ref 58), de P "BadPiece" 274 (.ref 77), de P "BadPosition" 300 (.ref 96), de P "BadFen" 326 (.ref 115), de P "WHITE" 330 (iV 0 329), de P "BLACK" 332 (iV 1 331), de P "PAWN" 334 (iV 1 333), de P "KNIGHT" 336 (iV 2 335), de P "BISHOP" 338 (iV 3 337), de P "ROOK" 340 (iV 4 339), de P "QUEEN" 342 (iV 5 341), de P "KING" 344 (iV 6 343), de P "EMPTY" 346 (iV 0 345), de P "LETTERS" 348 (sV ".PNBRQK..pnbrqk" 347), de P "make_piece" 356 (.ref 124), de P "side_of" 363 (.ref 131), de P "kind_of" 370 (.ref 138), de P "is_piece" 377 (.ref 145), de P "letter_of" 384 (.ref 152), de P "piece_of" 391 (.ref 159), de P "STEP_FILES" 405 (.ref 160), de P "STEP_RANKS" 417 (.ref 161), de P "Geometry" 462 (.ref 178), de P "is_growing" 469 (.ref 189), de P "add_masks" 480 (.ref 196), de P "inner_squares" 489 (.ref 203), de P "add_rays" 503 (.ref 210), de P "add_pawns" 511 (.ref 217), de P "add_knights" 528 (.ref 224), de P "add_castles" 541 (.ref 231), de P "make_geometry" 552 (.ref 238), de P "ray_attacks" 567 (.ref 245), de P "rook_attacks" 578 (.ref 252), de P "bishop_attacks" 589 (.ref 259), de P "more_than_one" 598 (.ref 266), de P "highest" 607 (.ref 273), de P "lowest" 614 (.ref 280), de P "WORD" 622 (iV 18446744073709551615 621), de P "STAR" 624 (iV 2685821657736338717 623), de P "Random" 676 (.ref 318), de P "Zobrist" 713 (.ref 339), de P "draw_row" 723 (.ref 350), de P "rights_row" 734 (.ref 357), de P "make_zobrist" 747 (.ref 364), de P "state_key" 756 (.ref 371), de P "full_key" 767 (.ref 378), de P "Position" 810 (.ref 395), de P "put_piece" 820 (.ref 406), de P "pieces" 829 (.ref 413), de P "king_square" 837 (.ref 420), de P "settle_key" 844 (.ref 427), de P "ep_stands" 855 (.ref 434), de P "ep_attacked" 863 (.ref 441), de P "check_kings" 872 (.ref 448), de P "check_pawns" 881 (.ref 455), de P "check_rights" 890 (.ref 462), de P "straight_sliders" 899 (.ref 469), de P "slanting_sliders" 906 (.ref 476), de P "pawn_attackers" 915 (.ref 483), de P "step_attackers" 926 (.ref 490), de P "is_attacked" 940 (.ref 497), de P "in_check_of" 949 (.ref 504), de P "FILE_LETTERS" 953 (sV "abcdefgh" 952), de P "RANK_DIGITS" 955 (sV "12345678" 954), de P "square_name" 963 (.ref 511), de P "read_square" 974 (.ref 518), de P "DIGITS" 978 (sV "0123456789" 977), de P "RIGHT_LETTERS" 980 (sV "KQkq" 979), de P "FULL_START" 982 (sV "rnbqkbnr/pppppppp/8/8/8/8/PPPPPPPP/RNBQKBNR" 981), de P "plain_number" 992 (.ref 525), de P "read_row" 1005 (.ref 532), de P "read_board" 1018 (.ref 539), de P "read_side" 1025 (.ref 546), de P "read_rights" 1036 (.ref 553), de P "read_ep" 1046 (.ref 560), de P "read_clock" 1056 (.ref 567), de P "read_fields" 1067 (.ref 574), de P "check_pieces" 1075 (.ref 581), de P "check_wings" 1083 (.ref 588), de P "build_position" 1100 (.ref 595), de P "read_fen" 1113 (.ref 602), de P "write_row" 1123 (.ref 609), de P "write_board" 1133 (.ref 616), de P "write_rights" 1142 (.ref 623), de P "write_fields" 1151 (.ref 630), de P "write_fen" 1158 (.ref 637), de P "start_row" 1168 (.ref 644), de P "start_board" 1174 (.ref 649), de P "start_fen" 1183 (.ref 656), de P "_law_shapes" 1191 (.ref 663), de P "_law_hits" 1197 (.ref 668), de P "_law_kings" 1210 (.ref 675), de P "_law_put" 1222 (.ref 682), de P "_law_plant" 1228 (.ref 687), de P "_law_rights" 1242 (.ref 694), de P "_law_text" 1248 (.ref 699), de P "_law_start" 1260 (.ref 706), de P "law" 1266 (.ref 711)]
noncomputable def lT : List Value := [iV 1 0, iV 0 0, .ref 20, iV 5 0, iV 0 0, .ref 27, iV 10 0, iV 0 0, .ref 47, iV 15 0, iV 0 0, .ref 66, iV 20 0, iV 0 0, .ref 85, iV 25 0, iV 0 0, .ref 104, iV 41 0, iV 0 0, .ref 123, iV 43 0, iV 0 0, .ref 130, iV 45 0, iV 0 0, .ref 137, iV 47 0, iV 0 0, .ref 144, iV 49 0, iV 0 0, .ref 151, iV 53 0, iV 0 0, .ref 158, iV 60 0, iV 0 0, .ref 167, iV 77 0, iV 0 0, .ref 188, iV 79 0, iV 0 0, .ref 195, iV 87 0, iV 0 0, .ref 202, iV 98 0, iV 0 0, .ref 209, iV 113 0, iV 0 0, .ref 216, iV 117 0, iV 0 0, .ref 223, iV 129 0, iV 0 0, .ref 230, iV 146 0, iV 0 0, .ref 237, iV 157 0, iV 0 0, .ref 244, iV 172 0, iV 0 0, .ref 251, iV 177 0, iV 0 0, .ref 258, iV 183 0, iV 0 0, .ref 265, iV 185 0, iV 0 0, .ref 272, iV 198 0, iV 0 0, .ref 279, iV 203 0, iV 0 0, .ref 286, iV 224 0, iV 0 0, .ref 328, iV 231 0, iV 0 0, .ref 349, iV 236 0, iV 0 0, .ref 356, iV 245 0, iV 0 0, .ref 363, iV 256 0, iV 0 0, .ref 370, iV 264 0, iV 0 0, .ref 377, iV 274 0, iV 0 0, .ref 384, iV 289 0, iV 0 0, .ref 405, iV 295 0, iV 0 0, .ref 412, iV 297 0, iV 0 0, .ref 419, iV 299 0, iV 0 0, .ref 426, iV 301 0, iV 0 0, .ref 433, iV 315 0, iV 0 0, .ref 440, iV 317 0, iV 0 0, .ref 447, iV 324 0, iV 0 0, .ref 454, iV 329 0, iV 0 0, .ref 461, iV 343 0, iV 0 0, .ref 468, iV 345 0, iV 0 0, .ref 475, iV 347 0, iV 0 0, .ref 482, iV 349 0, iV 0 0, .ref 489, iV 354 0, iV 0 0, .ref 496, iV 364 0, iV 0 0, .ref 503, iV 370 0, iV 0 0, .ref 510, iV 374 0, iV 0 0, .ref 517, iV 386 0, iV 0 0, .ref 524, iV 396 0, iV 0 0, .ref 531, iV 415 0, iV 0 0, .ref 538, iV 426 0, iV 0 0, .ref 545, iV 432 0, iV 0 0, .ref 552, iV 446 0, iV 0 0, .ref 559, iV 453 0, iV 0 0, .ref 566, iV 458 0, iV 0 0, .ref 573, iV 463 0, iV 0 0, .ref 580, iV 469 0, iV 0 0, .ref 587, iV 474 0, iV 0 0, .ref 594, iV 495 0, iV 0 0, .ref 601, iV 503 0, iV 0 0, .ref 608, iV 517 0, iV 0 0, .ref 615, iV 524 0, iV 0 0, .ref 622, iV 532 0, iV 0 0, .ref 629, iV 540 0, iV 0 0, .ref 636, iV 542 0, iV 0 0, .ref 643, iV 553 0, iV 0 0, .ref 648, iV 565 0, iV 0 0, .ref 655, iV 572 0, iV 0 0, .ref 662, iV 574 0, iV 0 0, .ref 667, iV 590 0, iV 0 0, .ref 674, iV 600 0, iV 0 0, .ref 681, iV 607 0, iV 0 0, .ref 686, iV 623 0, iV 0 0, .ref 693, iV 633 0, iV 0 0, .ref 698, iV 643 0, iV 0 0, .ref 705, iV 653 0, iV 0 0, .ref 710]
noncomputable def Cz (P : Params) : List Obj := [boot_o_0 P,
boot_o_1 P,
Obj.mk .none none (.dict #[(de P "type.__subclasses__.Exception.0" 221 (iV 38 0)), (de P "type.__subclasses__.Exception.n" 222 (iV 1 0))] 2) #[],
oD ((de P "__name__" 165 (sV "law_nt0460_01" 1184)) :: (mE P).take 108) 109,
boot_o_4 P,
boot_o_5 P,
boot_o_6 P,
boot_o_7 P,
boot_o_8 P,
boot_o_9 P,
boot_o_10 P,
oT [],
oF (lT.take 243),
oC "<module>" "<module>" 182 1 0 0 (.ref 11) false (.ref 12) .none .none .none 185,
Obj.mk (.type "frame") none .plain #[(some (.ref 13)), (some (.ref 3)), (some (.ref 3)), none, (some (sV "__main__" 164)), none, (some (.ref 0))],
oT [],
oF [],
oT [sV "k" 190],
oT [],
oA (fS 0) "_wall",
oC "_wall" "_wall" 187 1 1 3 (.ref 15) true (.ref 16) (.ref 17) (.ref 18) (.ref 19) 191,
oB (fS 0) "_wall" (sV "__main__" 164) (.ref 20),
oT [.type "Exception"],
Obj.mk (.type "builtin_function_or_method") none (.fields #[(.builtin "type.__prepare__"), .type "type"]) #[],
oD [(de P "__module__" 203 (sV "chess.errors" 194)), (de P "__qualname__" 205 (sV "ChessError" 204)), (de P "__firstlineno__" 207 (iV 5 206)), (de P "__init__" 215 (.ref 35)), (de P "__static_attributes__" 217 (.ref 36))] 5,
oT [],
oF [iV 7 0, iV 4 0, .ref 34],
oC "ChessError" "ChessError" 198 5 0 0 (.ref 25) false (.ref 26) .none .none .none 201,
Obj.mk (.type "frame") none .plain #[(some (.ref 27)), (some (.ref 3)), (some (.ref 24)), none, (some (sV "chess.errors" 194)), none, (some (.ref 0))],
oT [],
oF [],
oT [sV "self" 211, sV "text" 212],
oT [],
oA (fM 2 0) "ChessError.__init__",
oC "__init__" "ChessError.__init__" 208 7 2 3 (.ref 29) true (.ref 30) (.ref 31) (.ref 32) (.ref 33) 213,
oB (fM 2 0) "ChessError.__init__" (sV "chess.errors" 194) (.ref 34),
oT [sV "text" 216],
oD [(de P "__module__" 203 (sV "chess.errors" 194)), (de P "__firstlineno__" 207 (iV 5 206)), (de P "__init__" 215 (.ref 35)), (de P "__static_attributes__" 217 (.ref 36)), (de P "__weakref__" 219 (.ref 39)), (de P "__doc__" 220 .none)] 3,
Obj.mk (.type "type") none (.cls (ClassData.mk "ChessError" [.type "Exception"] [.ref 38, .type "Exception", .type "BaseException", .type "object"] 37 "ChessError" true [] [.ref 58, .ref 77, .ref 96, .ref 115] false none false)) #[(some (.ref 22)), none, (some (sV "ChessError" 196)), (some (sV "ChessError" 204)), (some (.builtin "Exception.__new__")), (some (.bool true))],
Obj.mk (.type "getset_descriptor") none (.fields #[sV "__weakref__" 218, .ref 38, (.builtin "ExceptionGroup.__weakref__"), .none]) #[],
Obj.mk (.type "super") none (.fields #[.ref 38, .ref 38, .ref 38]) #[],
Obj.mk (.type "builtin_function_or_method") none (.fields #[(.builtin "object.__init_subclass__"), .ref 38]) #[],
oT [.ref 38],
Obj.mk (.type "builtin_function_or_method") none (.fields #[(.builtin "type.__prepare__"), .type "type"]) #[],
oD [(de P "__module__" 232 (sV "chess.errors" 194)), (de P "__qualname__" 234 (sV "BadSquare" 233)), (de P "__firstlineno__" 236 (iV 10 235)), (de P "__init__" 244 (.ref 55)), (de P "__static_attributes__" 246 (.ref 56))] 5,
oT [],
oF [iV 12 0, iV 4 0, .ref 54],
oC "BadSquare" "BadSquare" 227 10 0 0 (.ref 45) false (.ref 46) .none .none .none 230,
Obj.mk (.type "frame") none .plain #[(some (.ref 47)), (some (.ref 3)), (some (.ref 44)), none, (some (sV "chess.errors" 194)), none, (some (.ref 0))],
oT [],
oF [],
oT [sV "self" 240, sV "square" 241],
oT [],
oA (fM 3 0) "BadSquare.__init__",
oC "__init__" "BadSquare.__init__" 237 12 2 3 (.ref 49) true (.ref 50) (.ref 51) (.ref 52) (.ref 53) 242,
oB (fM 3 0) "BadSquare.__init__" (sV "chess.errors" 194) (.ref 54),
oT [sV "square" 245],
oD [(de P "__module__" 232 (sV "chess.errors" 194)), (de P "__firstlineno__" 236 (iV 10 235)), (de P "__init__" 244 (.ref 55)), (de P "__static_attributes__" 246 (.ref 56)), (de P "__doc__" 247 .none)] 2,
Obj.mk (.type "type") none (.cls (ClassData.mk "BadSquare" [.ref 38] [.ref 58, .ref 38, .type "Exception", .type "BaseException", .type "object"] 57 "BadSquare" true [] [] false none false)) #[(some (.ref 42)), none, (some (sV "BadSquare" 225)), (some (sV "BadSquare" 233)), (some (.builtin "Exception.__new__")), (some (.bool true))],
Obj.mk (.type "super") none (.fields #[.ref 58, .ref 58, .ref 58]) #[],
Obj.mk (.type "builtin_function_or_method") none (.fields #[(.builtin "object.__init_subclass__"), .ref 58]) #[],
oT [.ref 38],
Obj.mk (.type "builtin_function_or_method") none (.fields #[(.builtin "type.__prepare__"), .type "type"]) #[],
oD [(de P "__module__" 257 (sV "chess.errors" 194)), (de P "__qualname__" 259 (sV "BadPiece" 258)), (de P "__firstlineno__" 261 (iV 15 260)), (de P "__init__" 269 (.ref 74)), (de P "__static_attributes__" 271 (.ref 75))] 5,
oT [],
oF [iV 17 0, iV 4 0, .ref 73],
oC "BadPiece" "BadPiece" 252 15 0 0 (.ref 64) false (.ref 65) .none .none .none 255,
Obj.mk (.type "frame") none .plain #[(some (.ref 66)), (some (.ref 3)), (some (.ref 63)), none, (some (sV "chess.errors" 194)), none, (some (.ref 0))],
oT [],
oF [],
oT [sV "self" 265, sV "piece" 266],
oT [],
oA (fM 4 0) "BadPiece.__init__",
oC "__init__" "BadPiece.__init__" 262 17 2 3 (.ref 68) true (.ref 69) (.ref 70) (.ref 71) (.ref 72) 267,
oB (fM 4 0) "BadPiece.__init__" (sV "chess.errors" 194) (.ref 73),
oT [sV "piece" 270],
oD [(de P "__module__" 257 (sV "chess.errors" 194)), (de P "__firstlineno__" 261 (iV 15 260)), (de P "__init__" 269 (.ref 74)), (de P "__static_attributes__" 271 (.ref 75)), (de P "__doc__" 272 .none)] 2,
Obj.mk (.type "type") none (.cls (ClassData.mk "BadPiece" [.ref 38] [.ref 77, .ref 38, .type "Exception", .type "BaseException", .type "object"] 76 "BadPiece" true [] [] false none false)) #[(some (.ref 61)), none, (some (sV "BadPiece" 250)), (some (sV "BadPiece" 258)), (some (.builtin "Exception.__new__")), (some (.bool true))],
Obj.mk (.type "super") none (.fields #[.ref 77, .ref 77, .ref 77]) #[],
Obj.mk (.type "builtin_function_or_method") none (.fields #[(.builtin "object.__init_subclass__"), .ref 77]) #[],
oT [.ref 38],
Obj.mk (.type "builtin_function_or_method") none (.fields #[(.builtin "type.__prepare__"), .type "type"]) #[],
oD [(de P "__module__" 282 (sV "chess.errors" 194)), (de P "__qualname__" 284 (sV "BadPosition" 283)), (de P "__firstlineno__" 286 (iV 20 285)), (de P "__init__" 295 (.ref 93)), (de P "__static_attributes__" 297 (.ref 94))] 5,
oT [],
oF [iV 22 0, iV 4 0, .ref 92],
oC "BadPosition" "BadPosition" 277 20 0 0 (.ref 83) false (.ref 84) .none .none .none 280,
Obj.mk (.type "frame") none .plain #[(some (.ref 85)), (some (.ref 3)), (some (.ref 82)), none, (some (sV "chess.errors" 194)), none, (some (.ref 0))],
oT [],
oF [],
oT [sV "self" 290, sV "text" 291, sV "square" 292],
oT [],
oA (fM 5 0) "BadPosition.__init__",
oC "__init__" "BadPosition.__init__" 287 22 3 3 (.ref 87) true (.ref 88) (.ref 89) (.ref 90) (.ref 91) 293,
oB (fM 5 0) "BadPosition.__init__" (sV "chess.errors" 194) (.ref 92),
oT [sV "square" 296],
oD [(de P "__module__" 282 (sV "chess.errors" 194)), (de P "__firstlineno__" 286 (iV 20 285)), (de P "__init__" 295 (.ref 93)), (de P "__static_attributes__" 297 (.ref 94)), (de P "__doc__" 298 .none)] 2,
Obj.mk (.type "type") none (.cls (ClassData.mk "BadPosition" [.ref 38] [.ref 96, .ref 38, .type "Exception", .type "BaseException", .type "object"] 95 "BadPosition" true [] [] false none false)) #[(some (.ref 80)), none, (some (sV "BadPosition" 275)), (some (sV "BadPosition" 283)), (some (.builtin "Exception.__new__")), (some (.bool true))],
Obj.mk (.type "super") none (.fields #[.ref 96, .ref 96, .ref 96]) #[],
Obj.mk (.type "builtin_function_or_method") none (.fields #[(.builtin "object.__init_subclass__"), .ref 96]) #[],
oT [.ref 38],
Obj.mk (.type "builtin_function_or_method") none (.fields #[(.builtin "type.__prepare__"), .type "type"]) #[],
oD [(de P "__module__" 308 (sV "chess.errors" 194)), (de P "__qualname__" 310 (sV "BadFen" 309)), (de P "__firstlineno__" 312 (iV 25 311)), (de P "__init__" 321 (.ref 112)), (de P "__static_attributes__" 323 (.ref 113))] 5,
oT [],
oF [iV 27 0, iV 4 0, .ref 111],
oC "BadFen" "BadFen" 303 25 0 0 (.ref 102) false (.ref 103) .none .none .none 306,
Obj.mk (.type "frame") none .plain #[(some (.ref 104)), (some (.ref 3)), (some (.ref 101)), none, (some (sV "chess.errors" 194)), none, (some (.ref 0))],
oT [],
oF [],
oT [sV "self" 316, sV "part" 317, sV "text" 318],
oT [],
oA (fM 6 0) "BadFen.__init__",
oC "__init__" "BadFen.__init__" 313 27 3 3 (.ref 106) true (.ref 107) (.ref 108) (.ref 109) (.ref 110) 319,
oB (fM 6 0) "BadFen.__init__" (sV "chess.errors" 194) (.ref 111),
oT [sV "part" 322],
oD [(de P "__module__" 308 (sV "chess.errors" 194)), (de P "__firstlineno__" 312 (iV 25 311)), (de P "__init__" 321 (.ref 112)), (de P "__static_attributes__" 323 (.ref 113)), (de P "__doc__" 324 .none)] 2,
Obj.mk (.type "type") none (.cls (ClassData.mk "BadFen" [.ref 38] [.ref 115, .ref 38, .type "Exception", .type "BaseException", .type "object"] 114 "BadFen" true [] [] false none false)) #[(some (.ref 99)), none, (some (sV "BadFen" 301)), (some (sV "BadFen" 309)), (some (.builtin "Exception.__new__")), (some (.bool true))],
Obj.mk (.type "super") none (.fields #[.ref 115, .ref 115, .ref 115]) #[],
Obj.mk (.type "builtin_function_or_method") none (.fields #[(.builtin "object.__init_subclass__"), .ref 115]) #[],
oT [],
oF [],
oT [sV "side" 352, sV "kind" 353],
oT [],
oA (fS 18) "make_piece",
oC "make_piece" "make_piece" 349 41 2 3 (.ref 118) true (.ref 119) (.ref 120) (.ref 121) (.ref 122) 354,
oB (fS 18) "make_piece" (sV "chess.kinds" 327) (.ref 123),
oT [],
oF [],
oT [sV "piece" 360],
oT [],
oA (fS 19) "side_of",
oC "side_of" "side_of" 357 43 1 3 (.ref 125) true (.ref 126) (.ref 127) (.ref 128) (.ref 129) 361,
oB (fS 19) "side_of" (sV "chess.kinds" 327) (.ref 130),
oT [],
oF [],
oT [sV "piece" 367],
oT [],
oA (fS 20) "kind_of",
oC "kind_of" "kind_of" 364 45 1 3 (.ref 132) true (.ref 133) (.ref 134) (.ref 135) (.ref 136) 368,
oB (fS 20) "kind_of" (sV "chess.kinds" 327) (.ref 137),
oT [],
oF [],
oT [sV "number" 374],
oT [],
oA (fS 21) "is_piece",
oC "is_piece" "is_piece" 371 47 1 3 (.ref 139) true (.ref 140) (.ref 141) (.ref 142) (.ref 143) 375,
oB (fS 21) "is_piece" (sV "chess.kinds" 327) (.ref 144),
oT [],
oF [],
oT [sV "piece" 381],
oT [],
oA (fS 22) "letter_of",
oC "letter_of" "letter_of" 378 49 1 3 (.ref 146) true (.ref 147) (.ref 148) (.ref 149) (.ref 150) 382,
oB (fS 22) "letter_of" (sV "chess.kinds" 327) (.ref 151),
oT [],
oF [],
oT [sV "letter" 388],
oT [],
oA (fS 23) "piece_of",
oC "piece_of" "piece_of" 385 53 1 3 (.ref 153) true (.ref 154) (.ref 155) (.ref 156) (.ref 157) 389,
oB (fS 23) "piece_of" (sV "chess.kinds" 327) (.ref 158),
oT [iV 0 394, iV 1 395, iV 0 396, (iV (-1) 398), iV 1 399, iV 1 400, (iV (-1) 402), (iV (-1) 404)],
oT [iV 1 406, iV 0 407, (iV (-1) 409), iV 0 410, iV 1 411, (iV (-1) 413), (iV (-1) 415), iV 1 416],
oT [],
Obj.mk (.type "builtin_function_or_method") none (.fields #[(.builtin "type.__prepare__"), .type "type"]) #[],
oD [(de P "__module__" 425 (sV "chess.geometry" 392)), (de P "__qualname__" 427 (sV "Geometry" 426)), (de P "__firstlineno__" 429 (iV 60 428)), (de P "__init__" 440 (.ref 175)), (de P "__static_attributes__" 455 (.ref 176))] 5,
oT [],
oF [iV 62 0, iV 4 0, .ref 174],
oC "Geometry" "Geometry" 420 60 0 0 (.ref 165) false (.ref 166) .none .none .none 423,
Obj.mk (.type "frame") none .plain #[(some (.ref 167)), (some (.ref 3)), (some (.ref 164)), none, (some (sV "chess.geometry" 392)), none, (some (.ref 0))],
oT [],
oF [],
oT [sV "self" 433, sV "files" 434, sV "ranks" 435, sV "has_double" 436, sV "has_castling" 437],
oT [],
oA (fM 27 0) "Geometry.__init__",
oC "__init__" "Geometry.__init__" 430 62 5 3 (.ref 169) true (.ref 170) (.ref 171) (.ref 172) (.ref 173) 438,
oB (fM 27 0) "Geometry.__init__" (sV "chess.geometry" 392) (.ref 174),
oT [sV "castles" 441, sV "file_masks" 442, sV "files" 443, sV "full" 444, sV "has_castling" 445, sV "has_double" 446, sV "king" 447, sV "knight" 448, sV "pawn" 449, sV "rank_masks" 450, sV "ranks" 451, sV "rays" 452, sV "rights_lost" 453, sV "size" 454],
oD [(de P "__module__" 425 (sV "chess.geometry" 392)), (de P "__firstlineno__" 429 (iV 60 428)), (de P "__init__" 440 (.ref 175)), (de P "__static_attributes__" 455 (.ref 176)), (de P "__dict__" 457 (.ref 179)), (de P "__weakref__" 459 (.ref 180)), (de P "__doc__" 460 .none)] 4,
Obj.mk (.type "type") none (.cls (ClassData.mk "Geometry" [.type "object"] [.ref 178, .type "object"] 177 "Geometry" true [] [] false none false)) #[none, none, (some (sV "Geometry" 418)), (some (sV "Geometry" 426)), (some (.builtin "object.__new__")), (some (.bool true))],
Obj.mk (.type "getset_descriptor") none (.fields #[sV "__dict__" 456, .ref 178, (.builtin "function.__dict__"), (.builtin "function.__dict__#set")]) #[],
Obj.mk (.type "getset_descriptor") none (.fields #[sV "__weakref__" 458, .ref 178, (.builtin "ExceptionGroup.__weakref__"), .none]) #[],
Obj.mk (.type "super") none (.fields #[.ref 178, .ref 178, .ref 178]) #[],
Obj.mk (.type "builtin_function_or_method") none (.fields #[(.builtin "object.__init_subclass__"), .ref 178]) #[],
oT [],
oF [],
oT [sV "d" 466],
oT [],
oA (fS 28) "is_growing",
oC "is_growing" "is_growing" 463 77 1 3 (.ref 183) true (.ref 184) (.ref 185) (.ref 186) (.ref 187) 467,
oB (fS 28) "is_growing" (sV "chess.geometry" 392) (.ref 188),
oT [],
oF [],
oT [sV "geo" 473, sV "row" 474, sV "column" 475, sV "r" 476, sV "f" 477],
oT [],
oA (fS 29) "add_masks",
oC "add_masks" "add_masks" 470 79 1 3 (.ref 190) true (.ref 191) (.ref 192) (.ref 193) (.ref 194) 478,
oB (fS 29) "add_masks" (sV "chess.geometry" 392) (.ref 195),
oT [],
oF [],
oT [sV "geo" 484, sV "d" 485, sV "edge" 486],
oT [],
oA (fS 30) "inner_squares",
oC "inner_squares" "inner_squares" 481 87 2 3 (.ref 197) true (.ref 198) (.ref 199) (.ref 200) (.ref 201) 487,
oB (fS 30) "inner_squares" (sV "chess.geometry" 392) (.ref 202),
oT [],
oF [],
oT [sV "geo" 493, sV "d" 494, sV "inner" 495, sV "delta" 496, sV "ray" 497, sV "order" 498, sV "square" 499, sV "goal" 500],
oT [],
oA (fS 31) "add_rays",
oC "add_rays" "add_rays" 490 98 1 3 (.ref 204) true (.ref 205) (.ref 206) (.ref 207) (.ref 208) 501,
oB (fS 31) "add_rays" (sV "chess.geometry" 392) (.ref 209),
oT [],
oF [],
oT [sV "geo" 507, sV "square" 508],
oT [],
oA (fS 32) "add_pawns",
oC "add_pawns" "add_pawns" 504 113 1 3 (.ref 211) true (.ref 212) (.ref 213) (.ref 214) (.ref 215) 509,
oB (fS 32) "add_pawns" (sV "chess.geometry" 392) (.ref 216),
oT [],
oF [],
oT [sV "geo" 515, sV "files" 516, sV "not_first" 517, sV "not_last" 518, sV "not_first_two" 519, sV "not_last_two" 520, sV "square" 521, sV "b" 522, sV "near" 523, sV "far" 524, sV "found" 525],
oT [],
oA (fS 33) "add_knights",
oC "add_knights" "add_knights" 512 117 1 3 (.ref 218) true (.ref 219) (.ref 220) (.ref 221) (.ref 222) 526,
oB (fS 33) "add_knights" (sV "chess.geometry" 392) (.ref 223),
oT [],
oF [],
oT [sV "geo" 532, sV "start" 533, sV "index" 534, sV "base" 535, sV "corner" 536, sV "way" 537, sV "goal" 538],
oT [],
oA (fS 34) "add_castles",
oC "add_castles" "add_castles" 529 129 1 3 (.ref 225) true (.ref 226) (.ref 227) (.ref 228) (.ref 229) 539,
oB (fS 34) "add_castles" (sV "chess.geometry" 392) (.ref 230),
oT [],
oF [],
oT [sV "files" 545, sV "ranks" 546, sV "has_double" 547, sV "has_castling" 548, sV "geo" 549],
oT [],
oA (fS 35) "make_geometry",
oC "make_geometry" "make_geometry" 542 146 4 3 (.ref 232) true (.ref 233) (.ref 234) (.ref 235) (.ref 236) 550,
oB (fS 35) "make_geometry" (sV "chess.geometry" 392) (.ref 237),
oT [],
oF [],
oT [sV "geo" 558, sV "d" 559, sV "square" 560, sV "occupied" 561, sV "ray" 562, sV "stop" 563, sV "behind" 564],
oT [],
oA (fS 37) "ray_attacks",
oC "ray_attacks" "ray_attacks" 555 157 4 3 (.ref 239) true (.ref 240) (.ref 241) (.ref 242) (.ref 243) 565,
oB (fS 37) "ray_attacks" (sV "chess.sliders" 553) (.ref 244),
oT [],
oF [],
oT [sV "geo" 571, sV "square" 572, sV "occupied" 573, sV "found" 574, sV "d" 575],
oT [],
oA (fS 38) "rook_attacks",
oC "rook_attacks" "rook_attacks" 568 172 3 3 (.ref 246) true (.ref 247) (.ref 248) (.ref 249) (.ref 250) 576,
oB (fS 38) "rook_attacks" (sV "chess.sliders" 553) (.ref 251),
oT [],
oF [],
oT [sV "geo" 582, sV "square" 583, sV "occupied" 584, sV "found" 585, sV "d" 586],
oT [],
oA (fS 39) "bishop_attacks",
oC "bishop_attacks" "bishop_attacks" 579 177 3 3 (.ref 253) true (.ref 254) (.ref 255) (.ref 256) (.ref 257) 587,
oB (fS 39) "bishop_attacks" (sV "chess.sliders" 553) (.ref 258),
oT [],
oF [],
oT [sV "b" 595],
oT [],
oA (fS 41) "more_than_one",
oC "more_than_one" "more_than_one" 592 183 1 3 (.ref 260) true (.ref 261) (.ref 262) (.ref 263) (.ref 264) 596,
oB (fS 41) "more_than_one" (sV "chess.bits" 590) (.ref 265),
oT [],
oF [],
oT [sV "b" 602, sV "width" 603, sV "square" 604],
oT [],
oA (fS 42) "highest",
oC "highest" "highest" 599 185 1 3 (.ref 267) true (.ref 268) (.ref 269) (.ref 270) (.ref 271) 605,
oB (fS 42) "highest" (sV "chess.bits" 590) (.ref 272),
oT [],
oF [],
oT [sV "b" 611],
oT [],
oA (fS 43) "lowest",
oC "lowest" "lowest" 608 198 1 3 (.ref 274) true (.ref 275) (.ref 276) (.ref 277) (.ref 278) 612,
oB (fS 43) "lowest" (sV "chess.bits" 590) (.ref 279),
oT [],
Obj.mk (.type "builtin_function_or_method") none (.fields #[(.builtin "type.__prepare__"), .type "type"]) #[],
oD [(de P "__module__" 632 (sV "chess.rng" 615)), (de P "__qualname__" 634 (sV "Random" 633)), (de P "__firstlineno__" 636 (iV 203 635)), (de P "__init__" 644 (.ref 294)), (de P "next" 652 (.ref 301)), (de P "sparse" 659 (.ref 308)), (de P "below" 667 (.ref 315)), (de P "__static_attributes__" 669 (.ref 316))] 8,
oT [],
oF [iV 205 0, iV 4 0, .ref 293, iV 210 0, iV 4 0, .ref 300, iV 218 0, iV 4 0, .ref 307, iV 221 0, iV 4 0, .ref 314],
oC "Random" "Random" 627 203 0 0 (.ref 284) false (.ref 285) .none .none .none 630,
Obj.mk (.type "frame") none .plain #[(some (.ref 286)), (some (.ref 3)), (some (.ref 283)), none, (some (sV "chess.rng" 615)), none, (some (.ref 0))],
oT [],
oF [],
oT [sV "self" 640, sV "seed" 641],
oT [],
oA (fM 47 0) "Random.__init__",
oC "__init__" "Random.__init__" 637 205 2 3 (.ref 288) true (.ref 289) (.ref 290) (.ref 291) (.ref 292) 642,
oB (fM 47 0) "Random.__init__" (sV "chess.rng" 615) (.ref 293),
oT [],
oF [],
oT [sV "self" 648, sV "state" 649],
oT [],
oA (fM 47 1) "Random.next",
oC "next" "Random.next" 645 210 1 3 (.ref 295) true (.ref 296) (.ref 297) (.ref 298) (.ref 299) 650,
oB (fM 47 1) "Random.next" (sV "chess.rng" 615) (.ref 300),
oT [],
oF [],
oT [sV "self" 656],
oT [],
oA (fM 47 2) "Random.sparse",
oC "sparse" "Random.sparse" 653 218 1 3 (.ref 302) true (.ref 303) (.ref 304) (.ref 305) (.ref 306) 657,
oB (fM 47 2) "Random.sparse" (sV "chess.rng" 615) (.ref 307),
oT [],
oF [],
oT [sV "self" 663, sV "n" 664],
oT [],
oA (fM 47 3) "Random.below",
oC "below" "Random.below" 660 221 2 3 (.ref 309) true (.ref 310) (.ref 311) (.ref 312) (.ref 313) 665,
oB (fM 47 3) "Random.below" (sV "chess.rng" 615) (.ref 314),
oT [sV "state" 668],
oD [(de P "__module__" 632 (sV "chess.rng" 615)), (de P "__firstlineno__" 636 (iV 203 635)), (de P "__init__" 644 (.ref 294)), (de P "next" 652 (.ref 301)), (de P "sparse" 659 (.ref 308)), (de P "below" 667 (.ref 315)), (de P "__static_attributes__" 669 (.ref 316)), (de P "__dict__" 671 (.ref 319)), (de P "__weakref__" 673 (.ref 320)), (de P "__doc__" 674 .none)] 4,
Obj.mk (.type "type") none (.cls (ClassData.mk "Random" [.type "object"] [.ref 318, .type "object"] 317 "Random" true [] [] false none false)) #[none, none, (some (sV "Random" 625)), (some (sV "Random" 633)), (some (.builtin "object.__new__")), (some (.bool true))],
Obj.mk (.type "getset_descriptor") none (.fields #[sV "__dict__" 670, .ref 318, (.builtin "function.__dict__"), (.builtin "function.__dict__#set")]) #[],
Obj.mk (.type "getset_descriptor") none (.fields #[sV "__weakref__" 672, .ref 318, (.builtin "ExceptionGroup.__weakref__"), .none]) #[],
Obj.mk (.type "super") none (.fields #[.ref 318, .ref 318, .ref 318]) #[],
Obj.mk (.type "builtin_function_or_method") none (.fields #[(.builtin "object.__init_subclass__"), .ref 318]) #[],
oT [],
Obj.mk (.type "builtin_function_or_method") none (.fields #[(.builtin "type.__prepare__"), .type "type"]) #[],
oD [(de P "__module__" 686 (sV "chess.zobrist" 677)), (de P "__qualname__" 688 (sV "Zobrist" 687)), (de P "__firstlineno__" 690 (iV 224 689)), (de P "__init__" 701 (.ref 336)), (de P "__static_attributes__" 706 (.ref 337))] 5,
oT [],
oF [iV 226 0, iV 4 0, .ref 335],
oC "Zobrist" "Zobrist" 681 224 0 0 (.ref 326) false (.ref 327) .none .none .none 684,
Obj.mk (.type "frame") none .plain #[(some (.ref 328)), (some (.ref 3)), (some (.ref 325)), none, (some (sV "chess.zobrist" 677)), none, (some (.ref 0))],
oT [],
oF [],
oT [sV "self" 694, sV "pieces" 695, sV "ep" 696, sV "rights" 697, sV "side" 698],
oT [],
oA (fM 49 0) "Zobrist.__init__",
oC "__init__" "Zobrist.__init__" 691 226 5 3 (.ref 330) true (.ref 331) (.ref 332) (.ref 333) (.ref 334) 699,
oB (fM 49 0) "Zobrist.__init__" (sV "chess.zobrist" 677) (.ref 335),
oT [sV "ep" 702, sV "pieces" 703, sV "rights" 704, sV "side" 705],
oD [(de P "__module__" 686 (sV "chess.zobrist" 677)), (de P "__firstlineno__" 690 (iV 224 689)), (de P "__init__" 701 (.ref 336)), (de P "__static_attributes__" 706 (.ref 337)), (de P "__dict__" 708 (.ref 340)), (de P "__weakref__" 710 (.ref 341)), (de P "__doc__" 711 .none)] 4,
Obj.mk (.type "type") none (.cls (ClassData.mk "Zobrist" [.type "object"] [.ref 339, .type "object"] 338 "Zobrist" true [] [] false none false)) #[none, none, (some (sV "Zobrist" 679)), (some (sV "Zobrist" 687)), (some (.builtin "object.__new__")), (some (.bool true))],
Obj.mk (.type "getset_descriptor") none (.fields #[sV "__dict__" 707, .ref 339, (.builtin "function.__dict__"), (.builtin "function.__dict__#set")]) #[],
Obj.mk (.type "getset_descriptor") none (.fields #[sV "__weakref__" 709, .ref 339, (.builtin "ExceptionGroup.__weakref__"), .none]) #[],
Obj.mk (.type "super") none (.fields #[.ref 339, .ref 339, .ref 339]) #[],
Obj.mk (.type "builtin_function_or_method") none (.fields #[(.builtin "object.__init_subclass__"), .ref 339]) #[],
oT [],
oF [],
oT [sV "random" 717, sV "length" 718, sV "row" 719, sV "place" 720],
oT [],
oA (fS 50) "draw_row",
oC "draw_row" "draw_row" 714 231 2 3 (.ref 344) true (.ref 345) (.ref 346) (.ref 347) (.ref 348) 721,
oB (fS 50) "draw_row" (sV "chess.zobrist" 677) (.ref 349),
oT [],
oF [],
oT [sV "singles" 727, sV "row" 728, sV "rights" 729, sV "number" 730, sV "index" 731],
oT [],
oA (fS 51) "rights_row",
oC "rights_row" "rights_row" 724 236 1 3 (.ref 351) true (.ref 352) (.ref 353) (.ref 354) (.ref 355) 732,
oB (fS 51) "rights_row" (sV "chess.zobrist" 677) (.ref 356),
oT [],
oF [],
oT [sV "geo" 738, sV "seed" 739, sV "random" 740, sV "pieces" 741, sV "piece" 742, sV "ep" 743, sV "rights" 744],
oT [],
oA (fS 52) "make_zobrist",
oC "make_zobrist" "make_zobrist" 735 245 2 3 (.ref 358) true (.ref 359) (.ref 360) (.ref 361) (.ref 362) 745,
oB (fS 52) "make_zobrist" (sV "chess.zobrist" 677) (.ref 363),
oT [],
oF [],
oT [sV "pos" 751, sV "zob" 752, sV "key" 753],
oT [],
oA (fS 53) "state_key",
oC "state_key" "state_key" 748 256 1 3 (.ref 365) true (.ref 366) (.ref 367) (.ref 368) (.ref 369) 754,
oB (fS 53) "state_key" (sV "chess.zobrist" 677) (.ref 370),
oT [],
oF [],
oT [sV "pos" 760, sV "numbers" 761, sV "key" 762, sV "square" 763, sV "piece" 764],
oT [],
oA (fS 54) "full_key",
oC "full_key" "full_key" 757 264 1 3 (.ref 372) true (.ref 373) (.ref 374) (.ref 375) (.ref 376) 765,
oB (fS 54) "full_key" (sV "chess.zobrist" 677) (.ref 377),
oT [],
Obj.mk (.type "builtin_function_or_method") none (.fields #[(.builtin "type.__prepare__"), .type "type"]) #[],
oD [(de P "__module__" 777 (sV "chess.position" 768)), (de P "__qualname__" 779 (sV "Position" 778)), (de P "__firstlineno__" 781 (iV 274 780)), (de P "__init__" 790 (.ref 392)), (de P "__static_attributes__" 803 (.ref 393))] 5,
oT [],
oF [iV 276 0, iV 4 0, .ref 391],
oC "Position" "Position" 772 274 0 0 (.ref 382) false (.ref 383) .none .none .none 775,
Obj.mk (.type "frame") none .plain #[(some (.ref 384)), (some (.ref 3)), (some (.ref 381)), none, (some (sV "chess.position" 768)), none, (some (.ref 0))],
oT [],
oF [],
oT [sV "self" 785, sV "geo" 786, sV "zob" 787],
oT [],
oA (fM 56 0) "Position.__init__",
oC "__init__" "Position.__init__" 782 276 3 3 (.ref 386) true (.ref 387) (.ref 388) (.ref 389) (.ref 390) 788,
oB (fM 56 0) "Position.__init__" (sV "chess.position" 768) (.ref 391),
oT [sV "board" 791, sV "ep" 792, sV "full" 793, sV "geo" 794, sV "half" 795, sV "history" 796, sV "key" 797, sV "kinds" 798, sV "rights" 799, sV "side" 800, sV "sides" 801, sV "zob" 802],
oD [(de P "__module__" 777 (sV "chess.position" 768)), (de P "__firstlineno__" 781 (iV 274 780)), (de P "__init__" 790 (.ref 392)), (de P "__static_attributes__" 803 (.ref 393)), (de P "__dict__" 805 (.ref 396)), (de P "__weakref__" 807 (.ref 397)), (de P "__doc__" 808 .none)] 4,
Obj.mk (.type "type") none (.cls (ClassData.mk "Position" [.type "object"] [.ref 395, .type "object"] 394 "Position" true [] [] false none false)) #[none, none, (some (sV "Position" 770)), (some (sV "Position" 778)), (some (.builtin "object.__new__")), (some (.bool true))],
Obj.mk (.type "getset_descriptor") none (.fields #[sV "__dict__" 804, .ref 395, (.builtin "function.__dict__"), (.builtin "function.__dict__#set")]) #[],
Obj.mk (.type "getset_descriptor") none (.fields #[sV "__weakref__" 806, .ref 395, (.builtin "ExceptionGroup.__weakref__"), .none]) #[],
Obj.mk (.type "super") none (.fields #[.ref 395, .ref 395, .ref 395]) #[],
Obj.mk (.type "builtin_function_or_method") none (.fields #[(.builtin "object.__init_subclass__"), .ref 395]) #[],
oT [],
oF [],
oT [sV "pos" 814, sV "piece" 815, sV "s" 816, sV "bit" 817],
oT [],
oA (fS 57) "put_piece",
oC "put_piece" "put_piece" 811 289 3 3 (.ref 400) true (.ref 401) (.ref 402) (.ref 403) (.ref 404) 818,
oB (fS 57) "put_piece" (sV "chess.position" 768) (.ref 405),
oT [],
oF [],
oT [sV "pos" 824, sV "side" 825, sV "kind" 826],
oT [],
oA (fS 58) "pieces",
oC "pieces" "pieces" 821 295 3 3 (.ref 407) true (.ref 408) (.ref 409) (.ref 410) (.ref 411) 827,
oB (fS 58) "pieces" (sV "chess.position" 768) (.ref 412),
oT [],
oF [],
oT [sV "pos" 833, sV "side" 834],
oT [],
oA (fS 59) "king_square",
oC "king_square" "king_square" 830 297 2 3 (.ref 414) true (.ref 415) (.ref 416) (.ref 417) (.ref 418) 835,
oB (fS 59) "king_square" (sV "chess.position" 768) (.ref 419),
oT [],
oF [],
oT [sV "pos" 841],
oT [],
oA (fS 60) "settle_key",
oC "settle_key" "settle_key" 838 299 1 3 (.ref 421) true (.ref 422) (.ref 423) (.ref 424) (.ref 425) 842,
oB (fS 60) "settle_key" (sV "chess.position" 768) (.ref 426),
oT [],
oF [],
oT [sV "pos" 848, sV "square" 849, sV "geo" 850, sV "rank" 851, sV "ahead" 852],
oT [],
oA (fS 61) "ep_stands",
oC "ep_stands" "ep_stands" 845 301 2 3 (.ref 428) true (.ref 429) (.ref 430) (.ref 431) (.ref 432) 853,
oB (fS 61) "ep_stands" (sV "chess.position" 768) (.ref 433),
oT [],
oF [],
oT [sV "pos" 859, sV "square" 860],
oT [],
oA (fS 62) "ep_attacked",
oC "ep_attacked" "ep_attacked" 856 315 2 3 (.ref 435) true (.ref 436) (.ref 437) (.ref 438) (.ref 439) 861,
oB (fS 62) "ep_attacked" (sV "chess.position" 768) (.ref 440),
oT [],
oF [],
oT [sV "pos" 867, sV "side" 868, sV "kings" 869],
oT [],
oA (fS 63) "check_kings",
oC "check_kings" "check_kings" 864 317 1 3 (.ref 442) true (.ref 443) (.ref 444) (.ref 445) (.ref 446) 870,
oB (fS 63) "check_kings" (sV "chess.position" 768) (.ref 447),
oT [],
oF [],
oT [sV "pos" 876, sV "geo" 877, sV "wrong" 878],
oT [],
oA (fS 64) "check_pawns",
oC "check_pawns" "check_pawns" 873 324 1 3 (.ref 449) true (.ref 450) (.ref 451) (.ref 452) (.ref 453) 879,
oB (fS 64) "check_pawns" (sV "chess.position" 768) (.ref 454),
oT [],
oF [],
oT [sV "pos" 885, sV "index" 886, sV "wing" 887],
oT [],
oA (fS 65) "check_rights",
oC "check_rights" "check_rights" 882 329 1 3 (.ref 456) true (.ref 457) (.ref 458) (.ref 459) (.ref 460) 888,
oB (fS 65) "check_rights" (sV "chess.position" 768) (.ref 461),
oT [],
oF [],
oT [sV "pos" 896],
oT [],
oA (fS 67) "straight_sliders",
oC "straight_sliders" "straight_sliders" 893 343 1 3 (.ref 463) true (.ref 464) (.ref 465) (.ref 466) (.ref 467) 897,
oB (fS 67) "straight_sliders" (sV "chess.attacks" 891) (.ref 468),
oT [],
oF [],
oT [sV "pos" 903],
oT [],
oA (fS 68) "slanting_sliders",
oC "slanting_sliders" "slanting_sliders" 900 345 1 3 (.ref 470) true (.ref 471) (.ref 472) (.ref 473) (.ref 474) 904,
oB (fS 68) "slanting_sliders" (sV "chess.attacks" 891) (.ref 475),
oT [],
oF [],
oT [sV "pos" 910, sV "square" 911, sV "side" 912],
oT [],
oA (fS 69) "pawn_attackers",
oC "pawn_attackers" "pawn_attackers" 907 347 3 3 (.ref 477) true (.ref 478) (.ref 479) (.ref 480) (.ref 481) 913,
oB (fS 69) "pawn_attackers" (sV "chess.attacks" 891) (.ref 482),
oT [],
oF [],
oT [sV "pos" 919, sV "square" 920, sV "side" 921, sV "geo" 922, sV "near" 923],
oT [],
oA (fS 70) "step_attackers",
oC "step_attackers" "step_attackers" 916 349 3 3 (.ref 484) true (.ref 485) (.ref 486) (.ref 487) (.ref 488) 924,
oB (fS 70) "step_attackers" (sV "chess.attacks" 891) (.ref 489),
oT [],
oF [],
oT [sV "pos" 930, sV "square" 931, sV "side" 932, sV "occupied" 933, sV "geo" 934, sV "own" 935, sV "straight" 936, sV "slanting" 937],
oT [],
oA (fS 71) "is_attacked",
oC "is_attacked" "is_attacked" 927 354 4 3 (.ref 491) true (.ref 492) (.ref 493) (.ref 494) (.ref 495) 938,
oB (fS 71) "is_attacked" (sV "chess.attacks" 891) (.ref 496),
oT [],
oF [],
oT [sV "pos" 944, sV "side" 945, sV "everything" 946],
oT [],
oA (fS 72) "in_check_of",
oC "in_check_of" "in_check_of" 941 364 2 3 (.ref 498) true (.ref 499) (.ref 500) (.ref 501) (.ref 502) 947,
oB (fS 72) "in_check_of" (sV "chess.attacks" 891) (.ref 503),
oT [],
oF [],
oT [sV "files" 959, sV "square" 960],
oT [],
oA (fS 76) "square_name",
oC "square_name" "square_name" 956 370 2 3 (.ref 505) true (.ref 506) (.ref 507) (.ref 508) (.ref 509) 961,
oB (fS 76) "square_name" (sV "chess.squares" 950) (.ref 510),
oT [],
oF [],
oT [sV "files" 967, sV "ranks" 968, sV "text" 969, sV "file" 970, sV "rank" 971],
oT [],
oA (fS 77) "read_square",
oC "read_square" "read_square" 964 374 3 3 (.ref 512) true (.ref 513) (.ref 514) (.ref 515) (.ref 516) 972,
oB (fS 77) "read_square" (sV "chess.squares" 950) (.ref 517),
oT [],
oF [],
oT [sV "text" 986, sV "number" 987, sV "sign" 988, sV "digit" 989],
oT [],
oA (fS 82) "plain_number",
oC "plain_number" "plain_number" 983 386 1 3 (.ref 519) true (.ref 520) (.ref 521) (.ref 522) (.ref 523) 990,
oB (fS 82) "plain_number" (sV "chess.fen" 975) (.ref 524),
oT [],
oF [],
oT [sV "text" 996, sV "files" 997, sV "cells" 998, sV "was_digit" 999, sV "sign" 1000, sV "gap" 1001, sV "piece" 1002],
oT [],
oA (fS 83) "read_row",
oC "read_row" "read_row" 993 396 2 3 (.ref 526) true (.ref 527) (.ref 528) (.ref 529) (.ref 530) 1003,
oB (fS 83) "read_row" (sV "chess.fen" 975) (.ref 531),
oT [],
oF [],
oT [sV "text" 1009, sV "files" 1010, sV "ranks" 1011, sV "rows" 1012, sV "board" 1013, sV "at" 1014, sV "cells" 1015],
oT [],
oA (fS 84) "read_board",
oC "read_board" "read_board" 1006 415 3 3 (.ref 533) true (.ref 534) (.ref 535) (.ref 536) (.ref 537) 1016,
oB (fS 84) "read_board" (sV "chess.fen" 975) (.ref 538),
oT [],
oF [],
oT [sV "text" 1022],
oT [],
oA (fS 85) "read_side",
oC "read_side" "read_side" 1019 426 1 3 (.ref 540) true (.ref 541) (.ref 542) (.ref 543) (.ref 544) 1023,
oB (fS 85) "read_side" (sV "chess.fen" 975) (.ref 545),
oT [],
oF [],
oT [sV "text" 1029, sV "rights" 1030, sV "last" 1031, sV "sign" 1032, sV "index" 1033],
oT [],
oA (fS 86) "read_rights",
oC "read_rights" "read_rights" 1026 432 1 3 (.ref 547) true (.ref 548) (.ref 549) (.ref 550) (.ref 551) 1034,
oB (fS 86) "read_rights" (sV "chess.fen" 975) (.ref 552),
oT [],
oF [],
oT [sV "text" 1040, sV "files" 1041, sV "ranks" 1042, sV "square" 1043],
oT [],
oA (fS 87) "read_ep",
oC "read_ep" "read_ep" 1037 446 3 3 (.ref 554) true (.ref 555) (.ref 556) (.ref 557) (.ref 558) 1044,
oB (fS 87) "read_ep" (sV "chess.fen" 975) (.ref 559),
oT [],
oF [],
oT [sV "text" 1050, sV "part" 1051, sV "least" 1052, sV "number" 1053],
oT [],
oA (fS 88) "read_clock",
oC "read_clock" "read_clock" 1047 453 3 3 (.ref 561) true (.ref 562) (.ref 563) (.ref 564) (.ref 565) 1054,
oB (fS 88) "read_clock" (sV "chess.fen" 975) (.ref 566),
oT [],
oF [],
oT [sV "parts" 1060, sV "geo" 1061, sV "board" 1062, sV "side" 1063, sV "rights" 1064],
oT [],
oA (fS 89) "read_fields",
oC "read_fields" "read_fields" 1057 458 2 3 (.ref 568) true (.ref 569) (.ref 570) (.ref 571) (.ref 572) 1065,
oB (fS 89) "read_fields" (sV "chess.fen" 975) (.ref 573),
oT [],
oF [],
oT [sV "pos" 1071, sV "fault" 1072],
oT [],
oA (fS 90) "check_pieces",
oC "check_pieces" "check_pieces" 1068 463 1 3 (.ref 575) true (.ref 576) (.ref 577) (.ref 578) (.ref 579) 1073,
oB (fS 90) "check_pieces" (sV "chess.fen" 975) (.ref 580),
oT [],
oF [],
oT [sV "pos" 1079, sV "fault" 1080],
oT [],
oA (fS 91) "check_wings",
oC "check_wings" "check_wings" 1076 469 1 3 (.ref 582) true (.ref 583) (.ref 584) (.ref 585) (.ref 586) 1081,
oB (fS 91) "check_wings" (sV "chess.fen" 975) (.ref 587),
oT [],
oF [],
oT [sV "fields" 1087, sV "half" 1088, sV "full" 1089, sV "geo" 1090, sV "zob" 1091, sV "board" 1092, sV "side" 1093, sV "rights" 1094, sV "ep" 1095, sV "pos" 1096, sV "square" 1097],
oT [],
oA (fS 92) "build_position",
oC "build_position" "build_position" 1084 474 5 3 (.ref 589) true (.ref 590) (.ref 591) (.ref 592) (.ref 593) 1098,
oB (fS 92) "build_position" (sV "chess.fen" 975) (.ref 594),
oT [],
oF [],
oT [sV "text" 1104, sV "geo" 1105, sV "zob" 1106, sV "parts" 1107, sV "fields" 1108, sV "half" 1109, sV "full" 1110],
oT [],
oA (fS 93) "read_fen",
oC "read_fen" "read_fen" 1101 495 3 3 (.ref 596) true (.ref 597) (.ref 598) (.ref 599) (.ref 600) 1111,
oB (fS 93) "read_fen" (sV "chess.fen" 975) (.ref 601),
oT [],
oF [],
oT [sV "cells" 1117, sV "text" 1118, sV "gap" 1119, sV "piece" 1120],
oT [],
oA (fS 94) "write_row",
oC "write_row" "write_row" 1114 503 1 3 (.ref 603) true (.ref 604) (.ref 605) (.ref 606) (.ref 607) 1121,
oB (fS 94) "write_row" (sV "chess.fen" 975) (.ref 608),
oT [],
oF [],
oT [sV "board" 1127, sV "files" 1128, sV "rows" 1129, sV "at" 1130],
oT [],
oA (fS 95) "write_board",
oC "write_board" "write_board" 1124 517 2 3 (.ref 610) true (.ref 611) (.ref 612) (.ref 613) (.ref 614) 1131,
oB (fS 95) "write_board" (sV "chess.fen" 975) (.ref 615),
oT [],
oF [],
oT [sV "rights" 1137, sV "text" 1138, sV "index" 1139],
oT [],
oA (fS 96) "write_rights",
oC "write_rights" "write_rights" 1134 524 1 3 (.ref 617) true (.ref 618) (.ref 619) (.ref 620) (.ref 621) 1140,
oB (fS 96) "write_rights" (sV "chess.fen" 975) (.ref 622),
oT [],
oF [],
oT [sV "pos" 1146, sV "side" 1147, sV "ep" 1148],
oT [],
oA (fS 97) "write_fields",
oC "write_fields" "write_fields" 1143 532 1 3 (.ref 624) true (.ref 625) (.ref 626) (.ref 627) (.ref 628) 1149,
oB (fS 97) "write_fields" (sV "chess.fen" 975) (.ref 629),
oT [],
oF [],
oT [sV "pos" 1155],
oT [],
oA (fS 98) "write_fen",
oC "write_fen" "write_fen" 1152 540 1 3 (.ref 631) true (.ref 632) (.ref 633) (.ref 634) (.ref 635) 1156,
oB (fS 98) "write_fen" (sV "chess.fen" 975) (.ref 636),
oT [],
oF [],
oT [sV "geo" 1162, sV "king" 1163, sV "text" 1164, sV "file" 1165],
oT [],
oA (fS 99) "start_row",
oC "start_row" "start_row" 1159 542 1 3 (.ref 638) true (.ref 639) (.ref 640) (.ref 641) (.ref 642) 1166,
oB (fS 99) "start_row" (sV "chess.fen" 975) (.ref 643),
oT [],
oF [],
oA (fS 100) "start_board",
oC "start_board" "start_board" 1169 553 1 3 (.ref 645) true (.ref 646) .none .none (.ref 647) 1172,
oB (fS 100) "start_board" (sV "chess.fen" 975) (.ref 648),
oT [],
oF [],
oT [sV "geo" 1178, sV "rights" 1179, sV "index" 1180],
oT [],
oA (fS 101) "start_fen",
oC "start_fen" "start_fen" 1175 565 1 3 (.ref 650) true (.ref 651) (.ref 652) (.ref 653) (.ref 654) 1181,
oB (fS 101) "start_fen" (sV "chess.fen" 975) (.ref 655),
oT [],
oF [],
oT [],
oT [],
oA (fS 103) "_law_shapes",
oC "_law_shapes" "_law_shapes" 1186 572 0 3 (.ref 657) true (.ref 658) (.ref 659) (.ref 660) (.ref 661) 1189,
oB (fS 103) "_law_shapes" (sV "law_nt0460_01" 1184) (.ref 662),
oT [],
oF [],
oA (fS 104) "_law_hits",
oC "_law_hits" "_law_hits" 1192 574 4 3 (.ref 664) true (.ref 665) .none .none (.ref 666) 1195,
oB (fS 104) "_law_hits" (sV "law_nt0460_01" 1184) (.ref 667),
oT [],
oF [],
oT [sV "files" 1201, sV "ranks" 1202, sV "n" 1203, sV "size" 1204, sV "one" 1205, sV "apart" 1206, sV "two" 1207],
oT [],
oA (fS 105) "_law_kings",
oC "_law_kings" "_law_kings" 1198 590 3 3 (.ref 669) true (.ref 670) (.ref 671) (.ref 672) (.ref 673) 1208,
oB (fS 105) "_law_kings" (sV "law_nt0460_01" 1184) (.ref 674),
oT [],
oF [],
oT [sV "cells" 1214, sV "files" 1215, sV "man" 1216, sV "square" 1217, sV "mover" 1218, sV "prey" 1219],
oT [],
oA (fS 106) "_law_put",
oC "_law_put" "_law_put" 1211 600 6 3 (.ref 676) true (.ref 677) (.ref 678) (.ref 679) (.ref 680) 1220,
oB (fS 106) "_law_put" (sV "law_nt0460_01" 1184) (.ref 681),
oT [],
oF [],
oA (fS 107) "_law_plant",
oC "_law_plant" "_law_plant" 1223 607 5 3 (.ref 683) true (.ref 684) .none .none (.ref 685) 1226,
oB (fS 107) "_law_plant" (sV "law_nt0460_01" 1184) (.ref 686),
oT [],
oF [],
oT [sV "cells" 1232, sV "files" 1233, sV "n" 1234, sV "rights" 1235, sV "i" 1236, sV "base" 1237, sV "room" 1238, sV "corner" 1239],
oT [],
oA (fS 108) "_law_rights",
oC "_law_rights" "_law_rights" 1229 623 3 3 (.ref 688) true (.ref 689) (.ref 690) (.ref 691) (.ref 692) 1240,
oB (fS 108) "_law_rights" (sV "law_nt0460_01" 1184) (.ref 693),
oT [],
oF [],
oA (fS 109) "_law_text",
oC "_law_text" "_law_text" 1243 633 7 3 (.ref 695) true (.ref 696) .none .none (.ref 697) 1246,
oB (fS 109) "_law_text" (sV "law_nt0460_01" 1184) (.ref 698),
oT [],
oF [],
oT [sV "files" 1252, sV "ranks" 1253, sV "has_wings" 1254, sV "cells" 1255, sV "f" 1256, sV "k" 1257],
oT [],
oA (fS 110) "_law_start",
oC "_law_start" "_law_start" 1249 643 3 3 (.ref 700) true (.ref 701) (.ref 702) (.ref 703) (.ref 704) 1258,
oB (fS 110) "_law_start" (sV "law_nt0460_01" 1184) (.ref 705),
oT [],
oF [],
oA (fS 111) "law",
oC "law" "law" 1261 653 1 3 (.ref 707) true (.ref 708) .none .none (.ref 709) 1264,
oB (fS 111) "law" (sV "law_nt0460_01" 1184) (.ref 710)]
noncomputable def ob (P : Params) (i : Nat) : Obj := match (Cz P).drop i with | x :: _ => x | [] => boot_o_0 P
noncomputable def TF (P : Params) : BT := bt 12 (Cz P)
noncomputable def tL (P : Params) : Heap := ⟨Array.mk (Cz P), {}⟩
noncomputable def Ee (P : Params) : BT := BT.set (BT.set (BT.set (eZ 15 (TF P) 1 0) 2 (fun _ => boot_o_2 P)) 3 (fun _ => boot_o_3 P)) 12 (fun _ => oF (lT.take 0))
noncomputable def tr1 (P : Params) : BT := BT.set (BT.set (BT.set (eZ 42 (TF P) 1 0) 3 (fun _ => oD ((de P "__name__" 165 (sV "chess.errors" 194)) :: (mE P).take 10) 11)) 12 (fun _ => oF (lT.take 6))) 38 (fun _ => Obj.mk (.type "type") none (.cls (ClassData.mk "ChessError" [.type "Exception"] [.ref 38, .type "Exception", .type "BaseException", .type "object"] 37 "ChessError" true [] [] false none false)) #[(some (.ref 22)), none, (some (sV "ChessError" 196)), (some (sV "ChessError" 204)), (some (.builtin "Exception.__new__")), (some (.bool true))])
noncomputable def tr2 (P : Params) : BT := BT.set (BT.set (BT.set (eZ 61 (TF P) 1 0) 3 (fun _ => oD ((de P "__name__" 165 (sV "chess.errors" 194)) :: (mE P).take 11) 12)) 12 (fun _ => oF (lT.take 9))) 38 (fun _ => Obj.mk (.type "type") none (.cls (ClassData.mk "ChessError" [.type "Exception"] [.ref 38, .type "Exception", .type "BaseException", .type "object"] 37 "ChessError" true [] [.ref 58] false none false)) #[(some (.ref 22)), none, (some (sV "ChessError" 196)), (some (sV "ChessError" 204)), (some (.builtin "Exception.__new__")), (some (.bool true))])
noncomputable def Ef (P : Params) : BT := BT.set (BT.set (BT.set (eZ 80 (TF P) 1 0) 3 (fun _ => oD ((de P "__name__" 165 (sV "chess.errors" 194)) :: (mE P).take 12) 13)) 12 (fun _ => oF (lT.take 12))) 38 (fun _ => Obj.mk (.type "type") none (.cls (ClassData.mk "ChessError" [.type "Exception"] [.ref 38, .type "Exception", .type "BaseException", .type "object"] 37 "ChessError" true [] [.ref 58, .ref 77] false none false)) #[(some (.ref 22)), none, (some (sV "ChessError" 196)), (some (sV "ChessError" 204)), (some (.builtin "Exception.__new__")), (some (.bool true))])
noncomputable def Eg (P : Params) : BT := BT.set (BT.set (BT.set (eZ 99 (TF P) 1 0) 3 (fun _ => oD ((de P "__name__" 165 (sV "chess.errors" 194)) :: (mE P).take 13) 14)) 12 (fun _ => oF (lT.take 15))) 38 (fun _ => Obj.mk (.type "type") none (.cls (ClassData.mk "ChessError" [.type "Exception"] [.ref 38, .type "Exception", .type "BaseException", .type "object"] 37 "ChessError" true [] [.ref 58, .ref 77, .ref 96] false none false)) #[(some (.ref 22)), none, (some (sV "ChessError" 196)), (some (sV "ChessError" 204)), (some (.builtin "Exception.__new__")), (some (.bool true))])
noncomputable def Ei (P : Params) : BT := BT.set (BT.set (eZ 125 (TF P) 1 0) 3 (fun _ => oD ((de P "__name__" 165 (sV "chess.kinds" 327)) :: (mE P).take 25) 26)) 12 (fun _ => oF (lT.take 21))
noncomputable def Ej (P : Params) : BT := BT.set (BT.set (eZ 162 (TF P) 1 0) 3 (fun _ => oD ((de P "__name__" 165 (sV "chess.geometry" 392)) :: (mE P).take 32) 33)) 12 (fun _ => oF (lT.take 36))
noncomputable def Ek (P : Params) : BT := BT.set (BT.set (eZ 218 (TF P) 1 0) 3 (fun _ => oD ((de P "__name__" 165 (sV "chess.geometry" 392)) :: (mE P).take 38) 39)) 12 (fun _ => oF (lT.take 54))
noncomputable def El (P : Params) : BT := BT.set (BT.set (eZ 281 (TF P) 1 0) 3 (fun _ => oD ((de P "__name__" 165 (sV "chess.rng" 615)) :: (mE P).take 49) 50)) 12 (fun _ => oF (lT.take 81))
noncomputable def Em (P : Params) : BT := BT.set (BT.set (eZ 323 (TF P) 1 0) 3 (fun _ => oD ((de P "__name__" 165 (sV "chess.zobrist" 677)) :: (mE P).take 50) 51)) 12 (fun _ => oF (lT.take 84))
noncomputable def BR (P : Params) : BT := BT.set (BT.set (eZ 379 (TF P) 1 0) 3 (fun _ => oD ((de P "__name__" 165 (sV "chess.zobrist" 677)) :: (mE P).take 56) 57)) 12 (fun _ => oF (lT.take 102))
noncomputable def BS (P : Params) : BT := BT.set (BT.set (eZ 435 (TF P) 1 0) 3 (fun _ => oD ((de P "__name__" 165 (sV "chess.position" 768)) :: (mE P).take 62) 63)) 12 (fun _ => oF (lT.take 120))
noncomputable def BU (P : Params) : BT := BT.set (BT.set (eZ 512 (TF P) 1 0) 3 (fun _ => oD ((de P "__name__" 165 (sV "chess.squares" 950)) :: (mE P).take 75) 76)) 12 (fun _ => oF (lT.take 153))
noncomputable def BV (P : Params) : BT := BT.set (BT.set (eZ 589 (TF P) 1 0) 3 (fun _ => oD ((de P "__name__" 165 (sV "chess.fen" 975)) :: (mE P).take 89) 90)) 12 (fun _ => oF (lT.take 186))
noncomputable def BW (P : Params) : BT := BT.set (BT.set (eZ 669 (TF P) 1 0) 3 (fun _ => oD ((de P "__name__" 165 (sV "law_nt0460_01" 1184)) :: (mE P).take 101) 102)) 12 (fun _ => oF (lT.take 222))
noncomputable def BX (P : Params) : BT := TF P
noncomputable def hp0 (P : Params) : Heap := ⟨Array.mk [boot_o_0 P, boot_o_1 P, boot_o_2 P, boot_o_3 P, boot_o_4 P, boot_o_5 P, boot_o_6 P, boot_o_7 P, boot_o_8 P, boot_o_9 P, boot_o_10 P, oT [], oF (lT.take 0), oC "<module>" "<module>" 182 1 0 0 (.ref 11) false (.ref 12) .none .none .none 185, Obj.mk (.type "frame") none .plain #[(some (.ref 13)), (some (.ref 3)), (some (.ref 3)), none, (some (sV "__main__" 164)), none, (some (.ref 0))]], {}⟩
noncomputable def BH : List Stmt := behindTheImports PR
noncomputable def eN : Env := { scope := PR.main.scope, locals := mainNs, globals := mainNs, cells := [], code := .ref 13, frame := some 14 }
noncomputable def cD : Code := .body BH eN
noncomputable def sT (t : BT) (n tk : Nat) (os : OsState) : SharedT := ⟨t, n, {}, Array.mk [], {}, tk, os⟩
noncomputable abbrev fY : List Frame := [topFrame ⟨0, 0, 0, 0⟩]
theorem F8 (w : World) : (fun os => segRunT treeTable PR w 11 (some (.ref 6)) 1 267 (sT (Ee w.params) 15 187 os) (piecesOf ((BH.drop 0).take 3) eN cD ⟨0, 0, 0, 0⟩ fY)) = fun os => some (Flow.next, sT (tr1 w.params) 42 225 os, cD, ⟨5, 0, 9, 24⟩) := by
 rw [PySem.W.Fast.te10110043849684766642, PySem.W.Fast.te14364793385576792824]; kernel_rfl
theorem pc1 (w : World) : (fun os => segRunT treeTable PR w 11 (some (.ref 6)) 1 246 (sT (tr1 w.params) 42 225 os) (piecesOf ((BH.drop 3).take 1) eN cD ⟨5, 0, 9, 24⟩ fY)) = fun os => some (Flow.next, sT (tr2 w.params) 61 250 os, cD, ⟨10, 0, 14, 28⟩) := by
 rw [PySem.W.Fast.te10110043849684766642, PySem.W.Fast.te14364793385576792824]; kernel_rfl
theorem pc2 (w : World) : (fun os => segRunT treeTable PR w 11 (some (.ref 6)) 1 246 (sT (tr2 w.params) 61 250 os) (piecesOf ((BH.drop 4).take 1) eN cD ⟨10, 0, 14, 28⟩ fY)) = fun os => some (Flow.next, sT (Ef w.params) 80 275 os, cD, ⟨15, 0, 19, 26⟩) := by
 rw [PySem.W.Fast.te10110043849684766642, PySem.W.Fast.te14364793385576792824]; kernel_rfl
theorem F9 (w : World) : (fun os => segRunT treeTable PR w 11 (some (.ref 6)) 1 247 (sT (Ef w.params) 80 275 os) (piecesOf ((BH.drop 5).take 1) eN cD ⟨15, 0, 19, 26⟩ fY)) = fun os => some (Flow.next, sT (Eg w.params) 99 301 os, cD, ⟨20, 0, 24, 28⟩) := by
 rw [PySem.W.Fast.te10110043849684766642, PySem.W.Fast.te14364793385576792824]; kernel_rfl
theorem F' (w : World) : (fun os => segRunT treeTable PR w 11 (some (.ref 6)) 1 376 (sT (Eg w.params) 99 301 os) (piecesOf ((BH.drop 6).take 13) eN cD ⟨20, 0, 24, 28⟩ fY)) = fun os => some (Flow.next, sT (Ei w.params) 125 357 os, cD, ⟨41, 0, 42, 26⟩) := by
 rw [PySem.W.Fast.te10110043849684766642, PySem.W.Fast.te14364793385576792824]; kernel_rfl
theorem Ga (w : World) : (fun os => segRunT treeTable PR w 11 (some (.ref 6)) 1 221 (sT (Ei w.params) 125 357 os) (piecesOf ((BH.drop 19).take 8) eN cD ⟨41, 0, 42, 26⟩ fY)) = fun os => some (Flow.next, sT (Ej w.params) 162 418 os, cD, ⟨59, 0, 59, 10⟩) := by
 rw [PySem.W.Fast.te10110043849684766642, PySem.W.Fast.te14364793385576792824]; kernel_rfl
theorem Gb (w : World) : (fun os => segRunT treeTable PR w 11 (some (.ref 6)) 1 398 (sT (Ej w.params) 162 418 os) (piecesOf ((BH.drop 27).take 6) eN cD ⟨59, 0, 59, 10⟩ fY)) = fun os => some (Flow.next, sT (Ek w.params) 218 512 os, cD, ⟨113, 0, 116, 90⟩) := by
 rw [PySem.W.Fast.te10110043849684766642, PySem.W.Fast.te14364793385576792824]; kernel_rfl
theorem Gc (w : World) : (fun os => segRunT treeTable PR w 11 (some (.ref 6)) 1 355 (sT (Ek w.params) 218 512 os) (piecesOf ((BH.drop 33).take 14) eN cD ⟨113, 0, 116, 90⟩ fY)) = fun os => some (Flow.next, sT (El w.params) 281 625 os, cD, ⟨202, 0, 202, 4⟩) := by
 rw [PySem.W.Fast.te10110043849684766642, PySem.W.Fast.te14364793385576792824]; kernel_rfl
theorem Gd (w : World) : (fun os => segRunT treeTable PR w 11 (some (.ref 6)) 1 327 (sT (El w.params) 281 625 os) (piecesOf ((BH.drop 47).take 2) eN cD ⟨202, 0, 202, 4⟩ fY)) = fun os => some (Flow.next, sT (Em w.params) 323 679 os, cD, ⟨223, 0, 223, 8⟩) := by
 rw [PySem.W.Fast.te10110043849684766642, PySem.W.Fast.te14364793385576792824]; kernel_rfl
theorem Ge (w : World) : (fun os => segRunT treeTable PR w 11 (some (.ref 6)) 1 393 (sT (Em w.params) 323 679 os) (piecesOf ((BH.drop 49).take 6) eN cD ⟨223, 0, 223, 8⟩ fY)) = fun os => some (Flow.next, sT (BR w.params) 379 768 os, cD, ⟨264, 0, 272, 14⟩) := by
 rw [PySem.W.Fast.te10110043849684766642, PySem.W.Fast.te14364793385576792824]; kernel_rfl
theorem En (w : World) : (fun os => segRunT treeTable PR w 11 (some (.ref 6)) 1 399 (sT (BR w.params) 379 768 os) (piecesOf ((BH.drop 55).take 7) eN cD ⟨264, 0, 272, 14⟩ fY)) = fun os => some (Flow.next, sT (BS w.params) 435 856 os, cD, ⟨301, 0, 314, 70⟩) := by
 rw [PySem.W.Fast.te10110043849684766642, PySem.W.Fast.te14364793385576792824]; kernel_rfl
theorem Eo (w : World) : (fun os => segRunT treeTable PR w 11 (some (.ref 6)) 1 379 (sT (BS w.params) 435 856 os) (piecesOf ((BH.drop 62).take 15) eN cD ⟨301, 0, 314, 70⟩ fY)) = fun os => some (Flow.next, sT (BU w.params) 512 964 os, cD, ⟨370, 0, 373, 70⟩) := by
 rw [PySem.W.Fast.te10110043849684766642, PySem.W.Fast.te14364793385576792824]; kernel_rfl
theorem Ep (w : World) : (fun os => segRunT treeTable PR w 11 (some (.ref 6)) 1 391 (sT (BU w.params) 512 964 os) (piecesOf ((BH.drop 77).take 15) eN cD ⟨370, 0, 373, 70⟩ fY)) = fun os => some (Flow.next, sT (BV w.params) 589 1084 os, cD, ⟨469, 0, 473, 35⟩) := by
 rw [PySem.W.Fast.te10110043849684766642, PySem.W.Fast.te14364793385576792824]; kernel_rfl
theorem Er (w : World) : (fun os => segRunT treeTable PR w 11 (some (.ref 6)) 1 382 (sT (BV w.params) 589 1084 os) (piecesOf ((BH.drop 92).take 13) eN cD ⟨469, 0, 473, 35⟩ fY)) = fun os => some (Flow.next, sT (BW w.params) 669 1198 os, cD, ⟨574, 0, 589, 75⟩) := by
 rw [PySem.W.Fast.te10110043849684766642, PySem.W.Fast.te14364793385576792824]; kernel_rfl
theorem Et (w : World) : (fun os => segRunT treeTable PR w 11 (some (.ref 6)) 1 218 (sT (BW w.params) 669 1198 os) (piecesOf ((BH.drop 105).take 7) eN cD ⟨574, 0, 589, 75⟩ fY)) = fun os => some (Flow.next, sT (BX w.params) 712 1267 os, cD, ⟨653, 0, 694, 101⟩) := by
 rw [PySem.W.Fast.te10110043849684766642, PySem.W.Fast.te14364793385576792824]; kernel_rfl
theorem pre0 (w : World) : (fun os => topGo treeTable PR w 11 (some (.ref 6)) 12 ⟨boot_heap w.params, Array.mk [], boot_drawn, boot_toks, os⟩ (topStub PR)) = fun os => some (⟨hp0 w.params, Array.mk [], {}, 187, os⟩, ⟨denote treeTable cD, cD, ⟨0, 0, 0, 0⟩, fY⟩) := by
 rw [PySem.W.Fast.te15667345088766844465, PySem.W.Fast.te11892475500146522536, PySem.W.Fast.te14364793385576792824]; kernel_rfl
theorem Eu (w : World) : (fun os => segRun treeTable PR w 11 (some (.ref 6)) 1 1 ⟨hp0 w.params, Array.mk [], {}, 187, os⟩ (blockOf BH eN cD ⟨0, 0, 0, 0⟩ fY)) = fun os => some (Flow.next, (sT (Ee w.params) 15 187 os).abs, cD, ⟨0, 0, 0, 0⟩) := by
 rw [PySem.W.Fast.te14374325043358763698, PySem.W.Fast.te14364793385576792824]; kernel_rfl
theorem Ew (w : World) : (fun os => topRun treeTable PR w 11 (some (.ref 6)) 2 (sT (BX w.params) 712 1267 os).abs ⟨doneF Flow.next, cD, ⟨653, 0, 694, 101⟩, fY⟩) = fun os => some ⟨tL w.params, Array.mk [], {}, 1267, os⟩ := by
 rw [PySem.W.Fast.te14082659384304107361, PySem.W.Fast.te14364793385576792824]; kernel_rfl
theorem cK {w : World} {n N k j : Nat} {s s' r : Shared} {pos p' : Pos} (h : segRun treeTable PR w 11 (some (.ref 6)) 1 n s (piecesOf ((BH.drop k).take j) eN cD pos fY) = some (.next, s', cD, p'))
  (g : topRun treeTable PR w 11 (some (.ref 6)) N s' (restOf (BH.drop (k + j)) eN cD p' fY) = some r) : topRun treeTable PR w 11 (some (.ref 6)) (n + N) s (restOf (BH.drop k) eN cD pos fY) = some r := by
 have e : (BH.drop k).take j ++ BH.drop (k + j) = BH.drop k := by rw [← List.drop_drop]; exact List.take_append_drop ..
 have := piece_app h g
 rw [e] at this; exact this
theorem Ex : BH.drop 112 = [] := by kernel_rfl
theorem Ey (w : World) (os : OsState) : topRun treeTable PR w 11 (some (.ref 6)) (12 + (1 + (267 + (246 + (246 + (247 + (376 + (221 + (398 + (355 + (327 + (393 + (399 + (379 + (391 + (382 + (218 + 2))))))))))))))))) ⟨boot_heap w.params, Array.mk [], boot_drawn, boot_toks, os⟩ (topStub PR) = some ⟨tL w.params, Array.mk [], {}, 1267, os⟩ := by
 refine go_top (congrFun (pre0 w) os) (piece_block (b := BH) (congrFun (Eu w) os) ?_)
 show topRun _ _ _ _ _ _ _ (restOf (BH.drop 0) _ _ _ _) = _
 refine cK (segRun_of (congrFun (F8 w) os)) ?_
 refine cK (segRun_of (congrFun (pc1 w) os)) ?_
 refine cK (segRun_of (congrFun (pc2 w) os)) ?_
 refine cK (segRun_of (congrFun (F9 w) os)) ?_
 refine cK (segRun_of (congrFun (F' w) os)) ?_
 refine cK (segRun_of (congrFun (Ga w) os)) ?_
 refine cK (segRun_of (congrFun (Gb w) os)) ?_
 refine cK (segRun_of (congrFun (Gc w) os)) ?_
 refine cK (segRun_of (congrFun (Gd w) os)) ?_
 refine cK (segRun_of (congrFun (Ge w) os)) ?_
 refine cK (segRun_of (congrFun (En w) os)) ?_
 refine cK (segRun_of (congrFun (Eo w) os)) ?_
 refine cK (segRun_of (congrFun (Ep w) os)) ?_
 refine cK (segRun_of (congrFun (Er w) os)) ?_
 refine cK (segRun_of (congrFun (Et w) os)) ?_
 rw [Ex]
 exact piece_nil (congrFun (Ew w) os)
noncomputable def keepV : List Nat := [0, 2, 3, 4, 5, 6, 8, 9, 10, 11, 12, 13, 14, 15, 16, 17, 18, 19, 20, 21, 22, 23, 25, 26, 27, 28, 29, 30, 31, 32, 33, 34, 35, 37, 38, 39, 41, 42, 43, 45, 46, 47, 49, 50, 51, 52, 53, 54, 56, 57, 58, 59, 60, 61, 62, 63, 64, 65, 67, 68, 69, 70, 71, 72, 74, 75, 76, 77, 79, 80, 81, 82, 83, 84, 85, 86, 87, 88, 89, 90, 91, 92, 93, 94, 95, 96, 97, 98, 99, 100, 101, 103, 104, 105, 106, 107, 108, 109, 110, 111]
noncomputable def qV : Program := view PR keepV
noncomputable def CA : List Addr := [2, 3, 15, 17, 18, 20, 21, 22, 29, 31, 32, 34, 35, 36, 37, 38, 39, 42, 49, 51, 52, 54, 55, 56, 57, 58, 61, 68, 70, 71, 73, 74, 75, 76, 77, 80, 87, 89, 90, 92, 93, 94, 95, 96, 99, 106, 108, 109, 111, 112, 113, 114, 115, 118, 120, 121, 123, 124, 125, 127, 128, 130, 131, 132, 134, 135, 137, 138, 139, 141, 142, 144, 145, 146, 148, 149, 151, 152, 153, 155, 156, 158, 159, 160, 161, 169, 171, 172, 174, 175, 176, 177, 178, 179, 180, 183, 185, 186, 188, 189, 190, 192, 193, 195, 196, 197, 199, 200, 202, 203, 204, 206, 207, 209, 210, 211, 213, 214, 216, 217, 218, 220, 221, 223, 224, 225, 227, 228, 230, 231, 232, 234, 235, 237, 238, 239, 241, 242, 244, 245, 246, 248, 249, 251, 252, 253, 255, 256, 258, 259, 260, 262, 263, 265, 266, 267, 269, 270, 272, 273, 274, 276, 277, 279, 280, 288, 290, 291, 293, 294, 295, 297, 298, 300, 301, 302, 304, 305, 307, 308, 309, 311, 312, 314, 315, 316, 317, 318, 319, 320, 330, 332, 333, 335, 336, 337, 338, 339, 340, 341, 344, 346, 347, 349, 350, 351, 353, 354, 356, 357, 358, 360, 361, 363, 364, 365, 367, 368, 370, 371, 372, 374, 375, 377, 378, 386, 388, 389, 391, 392, 393, 394, 395, 396, 397, 400, 402, 403, 405, 406, 407, 409, 410, 412, 413, 414, 416, 417, 419, 420, 421, 423, 424, 426, 427, 428, 430, 431, 433, 434, 435, 437, 438, 440, 441, 442, 444, 445, 447, 448, 449, 451, 452, 454, 455, 456, 458, 459, 461, 462, 463, 465, 466, 468, 469, 470, 472, 473, 475, 476, 477, 479, 480, 482, 483, 484, 486, 487, 489, 490, 491, 493, 494, 496, 497, 498, 500, 501, 503, 504, 505, 507, 508, 510, 511, 512, 514, 515, 517, 518, 519, 521, 522, 524, 525, 526, 528, 529, 531, 532, 533, 535, 536, 538, 539, 540, 542, 543, 545, 546, 547, 549, 550, 552, 553, 554, 556, 557, 559, 560, 561, 563, 564, 566, 567, 568, 570, 571, 573, 574, 575, 577, 578, 580, 581, 582, 584, 585, 587, 588, 589, 591, 592, 594, 595, 596, 598, 599, 601, 602, 603, 605, 606, 608, 609, 610, 612, 613, 615, 616, 617, 619, 620, 622, 623, 624, 626, 627, 629, 630, 631, 633, 634, 636, 637, 638, 640, 641, 643, 644, 645, 648, 649, 650, 652, 653, 655, 656, 657, 659, 660, 662, 663, 664, 667, 668, 669, 671, 672, 674, 675, 676, 678, 679, 681, 682, 683, 686, 687, 688, 690, 691, 693, 694, 695, 698, 699, 700, 702, 703, 705, 706, 707, 710, 711]
noncomputable def KF (P : Params) : Frag := CA.map fun a => (a, ob P a)
theorem Ez (P : Params) : CA = (KF P).map (·.1) := by kernel_rfl
noncomputable def hkK : Hook := kHook KF CA Ez
noncomputable def v' : List (Str × WData) := [(Str.ofString "WORD", WData.int 18446744073709551615)]
noncomputable abbrev lo : List Str := [Str.ofString "WORD"]
noncomputable def sF (P : Params) (os : OsState) : Shared := ⟨tL P, Array.mk [], {}, 1267, os⟩
theorem EA : ∀ w : World, (fencedOpening treeTable PR w 9786).map (fun s => (s.heap, s.gens, s.drawn, s.toks)) = some (boot_heap w.params, Array.mk [], boot_drawn, boot_toks) :=
 boot_open (by kernel_rfl) (by rfl) (fun s => by kernel_rfl)
theorem EB (w : World) : ((boot_heap w.params).isNs mainGlobals && (Array.mk [] : Array GenState).size == 0, (boot_heap w.params).objs.size, (boot_heap w.params).nsMap mainGlobals "__annotations__") = (true, 11, some (.ref 6)) := by kernel_rfl
theorem Aw (w : World) : (fun os => (staticsOk (importedModules PR.main.body) (boot_heap w.params) (tL w.params) && namesBound PR (tL w.params) && gensDone (sF w.params os) && laidKept (boot_heap w.params) (tL w.params))) = fun _ => true := by kernel_rfl
theorem ym (w : World) : (fun os => seen ((recsOf qV).map (·.name)) (ownsOf qV) [] { sF w.params os with gens := #[] }) = fun _ => expectedOf qV := by kernel_rfl
theorem CB (w : World) : (fun os => (sF w.params os).heap.bltView) = fun _ => bltViewBooted := by kernel_rfl
theorem Gf (w : World) : (fun os => tabsOk qV (sF w.params os)) = fun _ => true := by kernel_rfl
theorem Gg (w : World) : (fun os => pinSeenD qV (drecsOf qV) (sF w.params os)) = fun _ => pinGoodD (drecsOf qV) := by kernel_rfl
theorem Gh (w : World) : (fun os => (sF w.params os).heap.keysOk (looseW qV lo) ((recsOf qV).map (·.name)) ((litsOf qV).map (·.1)) ((clssOf qV (looseW qV lo)).map (·.name)) && (sF w.params os).heap.accountedOkI (importedModules PR.main.body) && (sF w.params os).heap.isNs mainGlobals && (sF w.params os).heap.isNs builtinsNs && tablesOk qV (sF w.params os).heap && (xlAt qV v' (sF w.params os) && recOk (RowW.records (PySem.Challenge.rw_nt0460_01.row.toRowW)) (sF w.params os)) && (if true then (sF w.params os).gens.size == 0 else !leftWithCleanup (sF w.params os).gens)) = fun _ => true := by kernel_rfl
theorem Gi (w : World) : (fun os => plainSeenE qV (looseW qV lo) (sF w.params os)) = fun _ => plainGoodE qV (looseW qV lo) := by kernel_rfl
theorem Gj (w : World) : (fun os => plainSeenD qV lo (sF w.params os)) = fun _ => plainGoodD qV lo := by kernel_rfl
theorem Gk (w : World) : (fun os => wideSeen qV (sF w.params os)) = fun _ => wideGood qV := by kernel_rfl
theorem EC (w : World) : (fun os => clsSeenW qV lo (sF w.params os)) = fun _ => clsGoodW qV lo := by kernel_rfl
theorem ED (w : World) : (fun os => hkK.obs (sF w.params os)) = fun _ => hkK.val w := by kernel_rfl
theorem CC : LeftO PR qV lo (fun s => xlAt qV v' s && recOk (RowW.records PySem.Challenge.rw_nt0460_01.row.toRowW) s) hkK.obs hkK.val 9786 true := by
 refine LeftO.of_pieces (H₀ := fun P => boot_heap P) (H₁ := tL) (gs₀ := Array.mk []) (gs₁ := Array.mk []) (d₀ := boot_drawn) (d₁ := {}) (k₀ := boot_toks) (k₁ := 1267) (m₀ := 11) (ann := some (.ref 6)) EA EB Ey (by rfl) (fun w => ?_)
 funext os
 refine looks_pair (congrFun (Aw w) os) (looks_pair ?_ (congrFun (ED w) os))
 unfold openSeen openGood
 exact looks_pair (congrFun (ym w) os) (looks_pair (congrFun (CB w) os) (looks_pair (congrFun (Gh w) os) (looks_pair (congrFun (Gf w) os) (looks_pair (congrFun (Gg w) os) (looks_pair (congrFun (Gi w) os) (looks_pair (congrFun (Gj w) os) (looks_pair (congrFun (Gk w) os) (congrFun (EC w) os))))))))
theorem CD : PySem.Challenge.rw_nt0460_01.wellSaid = true := by
 unfold OpenLaw.wellSaid
 repeat' (with_reducible refine look_both ?_ ?_)
 all_goals (try unfold OpenRow.wellSaid)
 all_goals (try unfold OpenRow.partSaid)
 all_goals (try unfold looksOpen)
 all_goals (try unfold OpenScript.wellSaid)
 repeat' (with_reducible refine look_both ?_ ?_)
 all_goals (try unfold OpenRow.partSaid)
 all_goals (try unfold OpenScript.wellSaid)
 repeat' (with_reducible refine look_both ?_ ?_)
 all_goals (as_aux_lemma => kernel_rfl)
section
variable {prog : Program} {w : World} {base : Heap} {ac : OsState} {H H' H1 : Hp} {s s' : Shared} {K : Frag} {fv : Value} {k : Nat}
theorem Step.Ax (x : Step aL H1 s H' s') (hs : Sb H1 H) : Step aL H s H' s' := by
 have m : ∀ b, jx H1 b → jx H b := fun b ⟨o, h, e⟩ => ⟨o, hs.subset _ h, e⟩
 exact ⟨fun b o e h q => x.same b o e (fun z => h (m b z)) q, fun b h => (x.more b h).imp (m b) id, x.live, fun b o h => (x.keys b o h).imp (fun ⟨o', z⟩ => ⟨o', hs.subset _ z⟩) id⟩
theorem bg.sb {Sp : List V → Hp → (V → Hp → Prop) → Prop} (h0 : bg prog w base ac Sp fv k) : bg prog w base ac (fun vs H Q => ∃ H1, Sb H1 H ∧ Sp vs H1 Q) fv k := by
 intro A ws vs H Q s R hA ⟨H1, sb, h⟩ r Rr g
 exact h0 A ws vs H1 Q s R hA h r (Rr.drop sb) fun v s' ⟨V, H', q, rv, R', x⟩ => g v s' ⟨V, H', q, rv, R', x.Ax sb⟩
theorem bg.none : bg prog w base ac (fun _ _ _ => False) fv k := fun A ws vs H Q s R hA h => h.elim
end
noncomputable def tM : List Nat := [124, 131, 138, 145, 152, 159, 189, 175, 178, 196, 203, 210, 217, 224, 231, 238, 245, 252, 259, 266, 273, 280, 294, 318, 301, 336, 339, 350, 357, 364, 371, 378, 392, 395, 406, 413, 420, 427, 434, 441, 448, 455, 462, 469, 476, 483, 490, 497, 504, 511, 518, 525, 532, 539, 546, 553, 560, 567, 574, 581, 588, 595, 602, 609, 616, 623, 630, 637, 644, 649, 656, 663, 668, 675, 682, 687, 694, 699, 706, 711]
noncomputable def fvs (f : Nat) : Value := .ref (tM.getD f 0)
noncomputable def nN (K : Frag) (c : Value) (q : Str) : Bool := match c with
 | .ref a => (match K.lookup a with
  | some o => (match o.data with
   | .fields vs => (match vs[1]? with | some (Value.str q' _) => seq q' q | _ => false)
   | _ => false)
  | _ => false)
 | _ => false
noncomputable def kJ (K : Frag) (zero : Bool) (fa : Nat) (F : Fn) : Bool := match K.lookup fa with
 | some o => (match o.data with
  | .func fd => hZ fd F && jL iX fd F && (zero || gm fd.scope.names (F.sl.take F.ar)) && nN K fd.code fd.qualname
  | _ => false)
 | _ => false
theorem sk {K : Frag} {base : Heap} {c : Value} {q : Str} (hK : K.In base) (h : nN K c q = true) : base.CodeRec c q := by
 unfold nN at h
 split at h
 ·split at h
  ·split at h
   ·split at h
    ·have := seq_eq h; subst this
     exact ⟨_, _, _, _, rfl, hK _ _ (by assumption), by assumption, by assumption⟩
    ·cases h
   ·cases h
  ·cases h
 ·cases h
section
variable {prog : Program} {w : World} {base : Heap} {ac : OsState} {K : Frag} {C : Cfg} {fv : Nat → Value} {k : Nat}
theorem CE {fa : Nat} {F : Fn} (hK : K.In base) (W : Wd prog w base ac K C iX fv k) (h : kJ K false fa F = true) :
  bg prog w base ac (fun vs H Q => vs.length = F.ar ∧ cB C F.body (gp vs) H (bT Q)) (.ref fa) (k + 1) := by
 unfold kJ at h
 split at h
 ·split at h
  ·simp only [Bool.and_eq_true, Bool.false_or] at h
   obtain ⟨⟨⟨h1, h2⟩, h3⟩, h4⟩ := h
   exact yi W (hK _ _ (by assumption)) (by assumption) (sk hK h4) h1 h2 h3 fun vs H Q x => x
  ·cases h
 ·cases h
theorem Ay {fa : Nat} {F : Fn} {e : E} (hK : K.In base) (W : Wd prog w base ac K C iX fv k) (h : kJ K true fa F = true) (hF : F.body = .cons (.ret e) .nil) (ha : F.ar = 0) :
  bg prog w base ac (fun vs H Q => vs.length = F.ar ∧ cB C F.body (gp vs) H (bT Q)) (.ref fa) (k + 1) := by
 unfold kJ at h
 split at h
 ·split at h
  ·simp only [Bool.and_eq_true, Bool.true_or] at h
   obtain ⟨⟨⟨h1, h2⟩, _⟩, h4⟩ := h
   have c := vY W (Sp := fun vs H Q => vs = [] ∧ ay C e (gp []) H Q) (hK _ _ (by assumption)) (by assumption) (sk hK h4) h1 h2 hF ha fun vs H Q x => x
   intro A ws vs H Q s R hA ⟨hl, h⟩ r Rr g
   have hv : vs = [] := List.eq_nil_of_length_eq_zero (hl.trans ha)
   subst hv
   rw [hF] at h
   exact c A ws [] H (fun v H1 => ∃ aH, Sb aH H1 ∧ Q v aH) s R hA ⟨rfl, h⟩ r Rr fun v s' ⟨V, H', ⟨aH, sb, q⟩, rv, R', x⟩ => g v s' ⟨V, aH, q, rv, R'.drop sb, x.drop sb⟩
  ·cases h
 ·cases h
end
theorem EE (P : Params) : (fns.all fun p => Nat.beq p.1 71 || kJ (KF P) false (tM.getD p.1 0) p.2) = true := by kernel_rfl
theorem CF (P : Params) : kJ (KF P) true 663 eW = true := by kernel_rfl
theorem yn {n : Nat} {F : Fn} (h : dw n = .fn F) : (n, F) ∈ fns := by
 have look : ∀ (l : List (Nat × Fn)), l.lookup n = some F → (n, F) ∈ l := by
  intro l
  induction l with
  | nil => intro h; cases h
  | cons p r ih =>
   intro h
   rw [List.lookup_cons] at h
   split at h
   ·rename_i e
    have e : n = p.1 := by simpa using e
    cases h
    rw [e]; exact .head _
   ·exact .tail _ (ih h)
 unfold dw at h
 split at h
 ·cases h
 ·split at h
  ·cases h
  ·split at h
   ·cases h
   ·split at h
    ·cases h
    ·split at h
     ·rename_i q; cases h; exact look _ q
     ·cases h
theorem EF (P : Params) : ([(8, 7), (23, 22), (26, 25), (33, 32)].all fun p => makesIn (KF P) (tM.getD p.1 0) && decide (findIn (KF P) (.ref (tM.getD p.1 0)) "__init__" = some (some (.ref (tM.getD p.2 0)))) && decide (typeIn (KF P) (.ref (tM.getD p.2 0)) = some (.type "function"))) = true := by kernel_rfl
section
variable {prog : Program} {w : World} {base : Heap} {ac : OsState}
theorem codes (hK : (KF w.params).In base)
  (hW : ∀ n, (∀ f, lW prog w base ac ((cf n).Sp f) (fvs f) n) → Wd prog w base ac (KF w.params) (cf n) iX fvs n) : ∀ n, ∀ f, bg prog w base ac (stage n f) (fvs f) n := by
 intro n
 induction n with
 | zero => intro f; exact bg.none
 | succ n ih =>
  intro f
  have W := hW n fun f => (ih f).call
  show bg prog w base ac (if Nat.beq f n then eE (dw n) (stage n) else stage n f) (fvs f) (n + 1)
  cases e : Nat.beq f n with
  | false => exact (ih f).mono (Nat.le_succ _)
  | true =>
   have e := Nat.eq_of_beq_eq_true e
   subst e
   show bg prog w base ac (eE (dw f) (stage f)) (fvs f) (f + 1)
   unfold eE
   cases hk : dw f with
   | no => exact bg.sb bg.none
   | fn F =>
    refine bg.sb ?_
    have m := yn hk
    have c := List.all_eq_true.mp (EE w.params) _ m
    rw [Bool.or_eq_true] at c
    rcases c with c | c
    ·have Gl : f = 71 := Nat.eq_of_beq_eq_true c
     subst Gl
     have : F = eW := by cases hk; rfl
     subst this
     exact Ay hK W (CF w.params) rfl rfl
    ·exact CE hK W c
   | cls i c =>
    refine bg.sb ?_
    have c4 := List.all_eq_true.mp (EF w.params)
    have key : tM.getD f 0 = c ∧ (f, i) ∈ [(8, 7), (23, 22), (26, 25), (33, 32)] := by
     unfold dw at hk
     split at hk
     ·rename_i q; cases hk; have := Nat.eq_of_beq_eq_true q; subst this; exact ⟨rfl, by simp⟩
     ·split at hk
      ·rename_i q; cases hk; have := Nat.eq_of_beq_eq_true q; subst this; exact ⟨rfl, by simp⟩
      ·split at hk
       ·rename_i q; cases hk; have := Nat.eq_of_beq_eq_true q; subst this; exact ⟨rfl, by simp⟩
       ·split at hk
        ·rename_i q; cases hk; have := Nat.eq_of_beq_eq_true q; subst this; exact ⟨rfl, by simp⟩
        ·split at hk <;> cases hk
    obtain ⟨k1, k2⟩ := key
    have x := c4 _ k2
    simp only [Bool.and_eq_true, decide_eq_true_eq] at x
    rw [k1] at x
    have r : fvs f = .ref c := by unfold fvs; rw [k1]
    rw [r]
    exact call_cls W x.1.1 x.1.2 x.2 (ih i) fun vs H Q h => h
end
theorem EG (P : Params) : ([ig, jR, nJ, cPos].all fun c => (List.range 27).all fun a => Nat.blt a attrs.length && attrOk (KF P) c (attrName a)) = true := by kernel_rfl
theorem EH (P : Params) : (decide (findIn (KF P) (.ref jR) (iX.mn.getD 24 Str.empty) = some (some (.ref 301))) && decide (typeIn (KF P) (.ref 301) = some (.type "function")) && plainGet (KF P) jR (iX.mn.getD 24 Str.empty) && keepIn (KF P) (.ref 301) && (List.range attrs.length).all fun a => !(attrName a == iX.mn.getD 24 Str.empty)) = true := by kernel_rfl
theorem Gm {P : Params} : ∀ c a, jS c a = true → a < attrs.length ∧ attrOk (KF P) c (attrName a) = true := by
 intro c a h
 unfold jS at h
 simp only [Bool.and_eq_true, Bool.or_eq_true] at h
 obtain ⟨h1, h2⟩ := h
 have ha : a ∈ List.range 27 := List.mem_range.mpr (Nat.le_of_ble_eq_true h2)
 have hc : c ∈ [ig, jR, nJ, cPos] := by
  rcases h1 with ((h | h) | h) | h <;> (have := Nat.eq_of_beq_eq_true h; subst this; simp)
 have x := List.all_eq_true.mp (List.all_eq_true.mp (EG P) c hc) a ha
 rw [Bool.and_eq_true] at x
 exact ⟨Nat.le_of_ble_eq_true x.1, x.2⟩
theorem Gn {P : Params} : ∀ c f, yj c f = true → ∃ fa, fvs f = .ref fa ∧ findIn (KF P) (.ref c) (iX.mn.getD f Str.empty) = some (some (.ref fa)) ∧ typeIn (KF P) (.ref fa) = some (.type "function") ∧
  plainGet (KF P) c (iX.mn.getD f Str.empty) = true ∧ keepIn (KF P) (.ref fa) = true ∧ (∀ a < attrs.length, (attrName a == iX.mn.getD f Str.empty) = false) := by
 intro c f h
 unfold yj at h
 rw [Bool.and_eq_true] at h
 have e1 := Nat.eq_of_beq_eq_true h.1
 have e2 := Nat.eq_of_beq_eq_true h.2
 subst e1; subst e2
 have x := EH P
 simp only [Bool.and_eq_true, decide_eq_true_eq] at x
 refine ⟨301, rfl, x.1.1.1.1, x.1.1.1.2, x.1.1.2, x.1.2, fun a ha => ?_⟩
 have := List.all_eq_true.mp x.2 a (List.mem_range.mpr ha)
 simpa using this
noncomputable def gE (P : Params) : Array DictEntry := match (ob P 3).data with | .dict es _ => es | _ => #[]
noncomputable def BY : V → Value → Bool
 | .int i, .int j _ => decide (i = j)
 | .str s, .str x _ => decide (x = st s)
 | .ref a, v => decide (v = .ref a)
 | _, _ => false
theorem wc {x : V} {v : Value} (h : BY x v = true) : aN x v := by
 cases x with
 | none => cases h
 | bool b => cases h
 | int i =>
  cases v <;> first | exact absurd h Bool.false_ne_true | skip
  have e := of_decide_eq_true h
  subst e; exact ⟨_, rfl⟩
 | str s =>
  cases v <;> first | exact absurd h Bool.false_ne_true | skip
  have e := of_decide_eq_true h
  subst e; exact ⟨_, rfl⟩
 | ref a => exact of_decide_eq_true (p := v = Value.ref a) h
theorem EI (P : Params) : ((List.range 19).all fun g => match nsFind (gE P) (iX.gn.getD g Str.empty) with | some v => BY (Ea g) v | none => false) = true := by kernel_rfl
theorem Go (P : Params) : ((List.range 80).all fun f => decide (iX.fn.getD f Str.empty = Str.empty) || (decide (nsFind (gE P) (iX.fn.getD f Str.empty) = some (fvs f)) && keepIn (KF P) (fvs f))) = true := by kernel_rfl
theorem Gp (P : Params) : ((List.range 5).all fun i => decide (nsFind (gE P) (gh i) = none) && decide (bootBuiltins (gh i) = some (jC i)) && !decide (gh i = ("__name__" : Str))) = true := by kernel_rfl
theorem EJ (P : Params) : (KF P).lookup 3 = some (ob P 3) := by kernel_rfl
theorem BZ : iX.gn.length = 19 ∧ iX.fn.length = 80 := by decide
theorem wd {w : World} {base : Heap} {ac : OsState} {q : Program} {loose : List Str} {mean : ExcName → Option Value} {mg mb : Str → Option Value} (hK : (KF w.params).In base) (T : Top q loose mean mg mb base) :
  ∀ n, (∀ f, lW PR w base ac ((cf n).Sp f) (fvs f) n) → Wd PR w base ac (KF w.params) (cf n) iX fvs n := by
 intro n hc
 have hmg : ∀ x, mg x = nsFind (gE w.params) x := by
  obtain ⟨o, es, ep, h1, h2, _, h3⟩ := T.g
  have h4 := hK 3 _ (EJ w.params)
  have : o = ob w.params 3 := Option.some.inj (h1.symm.trans h4)
  subst this
  intro x
  rw [← h3 x]; unfold gE; rw [h2]
 refine ⟨hK, Gm, Gn, ⟨mg, mb, T.g, T.b, fun g hg => ?_, fun f hf hne => ?_, fun i hi => ?_⟩, T.nolimit, hc⟩
 ·have x := List.all_eq_true.mp (EI w.params) g (List.mem_range.mpr (by rw [BZ.1] at hg; exact hg))
  rw [hmg]
  split at x
  ·rename_i v e; exact ⟨v, e, wc x⟩
  ·cases x
 ·have x := List.all_eq_true.mp (Go w.params) f (List.mem_range.mpr (by rw [BZ.2] at hf; exact hf))
  rw [Bool.or_eq_true] at x
  rcases x with x | x
  ·exact absurd (of_decide_eq_true x) hne
  ·rw [Bool.and_eq_true] at x
   rw [hmg]
   exact ⟨of_decide_eq_true x.1, x.2⟩
 ·have x := List.all_eq_true.mp (Gp w.params) i (List.mem_range.mpr hi)
  simp only [Bool.and_eq_true, decide_eq_true_eq, Bool.not_eq_true', decide_eq_false_iff_not] at x
  rw [hmg, T.builtins _ x.2]
  exact ⟨x.1.1, x.1.2⟩
theorem yo : ∀ {ws : List Value} {is : List Int}, IntsAre ws is → aF (is.map .int) ws := by
 intro ws is h
 induction h with
 | nil => exact .nil
 | cons i t _ ih => exact .cons ⟨_, rfl⟩ ih
theorem EK (P : Params) : nsFind (gE P) "law" = some (.ref 711) := by kernel_rfl
theorem EM (P : Params) : (KF P).lookup 160 = some (ob P 160) := by kernel_rfl
theorem EN (P : Params) : (KF P).lookup 161 = some (ob P 161) := by kernel_rfl
theorem Gq {P : Params} {base : Heap} {q : Program} {loose : List Str} {mean : ExcName → Option Value} {mg mb : Str → Option Value} (hK : (KF P).In base) (T : Top q loose mean mg mb base) (x : Str) : mg x = nsFind (gE P) x := by
 obtain ⟨o, es, ep, h1, h2, _, h3⟩ := T.g
 have h4 := hK 3 _ (EJ P)
 have : o = ob P 3 := Option.some.inj (h1.symm.trans h4)
 subst this
 rw [← h3 x]; unfold gE; rw [h2]
theorem CG {d : DefRec} {kwd : List (Str × PySem.Expr)} (hd0 : d.name = "law")
  (yq : ∀ (sc : Nat) (S : List Int) (H : Hp) (Q : V → Hp → Prop), (sc, O.ro (S.map .int)) ∈ H → S.length ≤ 100 → (gQ, O.tup [.int 0, .int 1, .int 0, .int (-1), .int 1, .int 1, .int (-1), .int (-1)]) ∈ H →
   (dX, O.tup [.int 1, .int 0, .int (-1), .int 0, .int 1, .int (-1), .int (-1), .int 1]) ∈ H → (∀ H', Q (.bool true) H') → cB (cf 79) eX.body (gp [.ref sc]) H (bT Q)) :
  WalkO qV lo (XL qV v') hkK.says PySem.Challenge.rw_nt0460_01.row.toRowW d kwd (fun f vs => PySem.call f vs) := by
 intro w s₀ s₁ mg mb G Y fa o pm cd doc dV kV ho hd hcd hD hmg hg args vals as hpre hlay hrd hwl hlo
 have KX : (KF w.params).In s₁.heap := kIn_of Y
 have T := G.T
 clear hd hcd hD ho Y G
 rw [hd0, Gq KX T, EK] at hmg
 obtain rfl : 711 = fa := Value.ref.inj (Option.some.inj hmg)
 wrow_args hpre hlay hrd hwl hlo
 rename_i Az _ _ _ _ _ _ _ sc vs _ hL ra w1 r0 hI hr hc1 _
 have Gr := (codes (prog := PR) (ac := s₁.os) KX (wd KX T)) 80 79
 have n1 : ∀ a ob, (KF w.params).lookup a = some ob → ob.cls = .type "tuple" → sc ≠ a := by
  rintro a ob e1 e2 rfl
  obtain ⟨o', h1, h2, _⟩ := hL
  have e3 := Option.some.inj (h1.symm.trans (KX _ _ e1))
  rw [e3, e2] at h2
  exact absurd (Value.type.inj h2) (by decide)
 have hR : Rep s₁.heap s₁.os [(sc, .ro (Az.map .int)), (gQ, .tup [.int 0, .int 1, .int 0, .int (-1), .int 1, .int 1, .int (-1), .int (-1)]), (dX, .tup [.int 1, .int 0, .int (-1), .int 0, .int 1, .int (-1), .int (-1), .int 1])] s₁ := by
  refine ⟨fun b o e => e, fun p hp => ?_, ?_, fun p hp hm => ?_, rfl, hg⟩
  ·simp only [List.mem_cons, List.not_mem_nil, or_false] at hp
   rcases hp with rfl | rfl | rfl
   ·exact ⟨_, hL, yo hI⟩
   ·exact ⟨_, ⟨_, KX _ _ (EM w.params), rfl, 0, rfl⟩, .cons ⟨_, rfl⟩ (.cons ⟨_, rfl⟩ (.cons ⟨_, rfl⟩ (.cons ⟨_, rfl⟩ (.cons ⟨_, rfl⟩ (.cons ⟨_, rfl⟩ (.cons ⟨_, rfl⟩ (.cons ⟨_, rfl⟩ .nil)))))))⟩
   ·exact ⟨_, ⟨_, KX _ _ (EN w.params), rfl, 0, rfl⟩, .cons ⟨_, rfl⟩ (.cons ⟨_, rfl⟩ (.cons ⟨_, rfl⟩ (.cons ⟨_, rfl⟩ (.cons ⟨_, rfl⟩ (.cons ⟨_, rfl⟩ (.cons ⟨_, rfl⟩ (.cons ⟨_, rfl⟩ .nil)))))))⟩
  ·have a1 : sc ≠ gQ := n1 _ _ (EM w.params) rfl
   have a2 : sc ≠ dX := n1 _ _ (EN w.params) rfl
   simp [a1, a2, gQ, dX] at *
   exact ⟨a1, a2⟩
  ·simp only [List.mem_cons, List.not_mem_nil, or_false] at hp
   rcases hp with rfl | rfl | rfl <;> cases hm
 have Gs : dv callerA 80 := ⟨rfl, by decide +kernel, by decide +kernel⟩
 have sp : stage 80 79 [.ref sc] [(sc, .ro (Az.map .int)), (gQ, .tup [.int 0, .int 1, .int 0, .int (-1), .int 1, .int 1, .int (-1), .int (-1)]), (dX, .tup [.int 1, .int 0, .int (-1), .int 0, .int 1, .int (-1), .int (-1), .int 1])] (fun v _ => v = .bool true) :=
  ⟨_, Sb.refl, rfl, yq sc Az _ _ (by simp) (by omega) (by simp) (by simp) (fun _ => rfl)⟩
 refine wpAny_mono (Gr.call callerA [.ref sc] [.ref sc] _ _ s₁ _ Gs sp (.cons rfl .nil) hR) (fun v s' p => ?_) fun _ _ e => e
 obtain ⟨V, H', rfl, rv, R', x⟩ := p
 obtain rfl : v = .bool true := rv
 have nm : ∀ b, ¬ jx [(sc, O.ro (Az.map .int)), (gQ, .tup [.int 0, .int 1, .int 0, .int (-1), .int 1, .int 1, .int (-1), .int (-1)]), (dX, .tup [.int 1, .int 0, .int (-1), .int 0, .int 1, .int (-1), .int (-1), .int 1])] b := by
  rintro b ⟨o, h, e⟩
  simp only [List.mem_cons, Prod.mk.injEq, List.not_mem_nil, or_false] at h
  rcases h with ⟨_, rfl⟩ | ⟨_, rfl⟩ | ⟨_, rfl⟩ <;> cases e
 refine ⟨.inl ⟨.bool true, .bool true, [], rfl, fun cls => rfl, ?_, ?_, fun _ => ⟨.nil, fun a ha => by cases ha⟩⟩, .of_keep fun b o e => x.same b o e (nm b) id, R'.os, .of_eq R'.gens⟩
 ·constructor
 ·first | kernel_rfl | wrow_post
theorem AA (yq : ∀ (sc : Nat) (S : List Int) (H : Hp) (Q : V → Hp → Prop), (sc, O.ro (S.map .int)) ∈ H → S.length ≤ 100 → (gQ, O.tup [.int 0, .int 1, .int 0, .int (-1), .int 1, .int 1, .int (-1), .int (-1)]) ∈ H →
   (dX, O.tup [.int 1, .int 0, .int (-1), .int 0, .int 1, .int (-1), .int (-1), .int 1]) ∈ H → (∀ H', Q (.bool true) H') → cB (cf 79) eX.body (gp [.ref sc]) H (bT Q)) (CH : PySem.Challenge.rw_nt0460_01.wellSaid = true) (hl : LeftO PR qV lo (fun s => xlAt qV v' s && recOk (RowW.records PySem.Challenge.rw_nt0460_01.row.toRowW) s) hkK.obs hkK.val 9786 true) : PySem.Challenge.rw_nt0460_01.Holds := by
 refine holds_law CH fun said => ?_
 refine holds_open (q := qV) (loose := lo) (Xt := fun s => xlAt qV v' s && recOk (RowW.records PySem.Challenge.rw_nt0460_01.row.toRowW) s) (XP := XL qV v') (Yf := Hook.obs hkK) (Ya := Hook.val hkK) (YP := Hook.says hkK) (N := 9786) hl (Hook.of hkK) (Hook.keeps hkK) (fun s e => xl_of s (Bool.and_eq_true_iff.mp e).1) XL.keeps (by rfl) (by rfl) (by rfl) (fun s e => recFacts_of (Bool.and_eq_true_iff.mp e).2) (by rfl) (by assumption) (by kernel_rfl) ⟨rfl, rfl, rfl, rfl, rfl, by kernel_rfl⟩ ?hw ?hc
 case hw => w_witness2
 case hc =>
  exact CG rfl yq
end
theorem aq {a m b : Nat} (e : b = m) (h : Nat.ble (a + 1) b = true) : a < m := e ▸ Nat.le_of_ble_eq_true h
theorem bq {a b c : Nat} (h : a ≤ b) (g : Nat.ble b c = true) : a ≤ c := Nat.le_trans h (Nat.le_of_ble_eq_true g)
theorem ij {a b c : Nat} (h : a < b) (g : Nat.ble b (c + 1) = true) : a ≤ c := Nat.le_of_lt_succ (Nat.lt_of_lt_of_le h (Nat.le_of_ble_eq_true g))
theorem cY {a b c : Nat} (h : b ≤ a) (g : Nat.ble c b = true) : c ≤ a := Nat.le_trans (Nat.le_of_ble_eq_true g) h
theorem CI {a b c : Nat} (h : a < b) (g : b ≤ c) {d : Nat} (k : Nat.ble c (d + 1) = true) : a ≤ d := ij (Nat.lt_of_lt_of_le h g) k
theorem yr {a b c : Nat} (h : a = b) (g : b ≤ c) : a ≤ c := h ▸ g
theorem yt {a n : Nat} (h : a ≤ n) : (a : Int) ≤ @OfNat.ofNat Int n instOfNat := Int.ofNat_le.mpr h
theorem yu {a : Nat} (h : 0 < a) : (a : Int) ≠ 0 := Int.ofNat_ne_zero.mpr (Nat.ne_of_gt h)
noncomputable def ak (L : List Nat) : List V := L.map fun (x : Nat) => .int (x : Int)
noncomputable def aK (L : List Nat) : List V := L.map fun c => .str [c]
theorem cO (L : List Nat) : (ak L).length = L.length := List.length_map ..
theorem cP (L : List Nat) : (aK L).length = L.length := List.length_map ..
theorem dY {L : List Nat} {n : Nat} (h : L.length ≤ n) : (ak L).length ≤ n := by rw [cO]; exact h
theorem jV {L : List Nat} {n : Nat} (h : L.length ≤ n) : (aK L).length ≤ n := by rw [cP]; exact h
theorem pE {L : List Nat} {n : Nat} (h : n < L.length) : (ak L)[n]? = some (.int (L.getD n 0 : Nat)) := by
 simp [ak, List.getElem?_map, List.getD_eq_getElem?_getD, List.getElem?_eq_getElem h]
theorem pF {L : List Nat} {n : Nat} (h : n < L.length) : (aK L)[n]? = some (.str [L.getD n 0]) := by
 simp [aK, List.getElem?_map, List.getD_eq_getElem?_getD, List.getElem?_eq_getElem h]
theorem we (L : List Nat) (n x : Nat) : (ak L).set n (.int (x : Int)) = ak (L.set n x) := by
 simp [ak, List.map_set]
theorem pG (L : List Nat) (n x : Nat) : (aK L).set n (.str [x]) = aK (L.set n x) := by
 simp [aK, List.map_set]
theorem B0 (a b : Nat) : Builtin.bitAnd (a : Int) (b : Int) = ((a &&& b : Nat) : Int) := by
 simp [Builtin.bitAnd]
theorem kK (a : Nat) : decide (0 ≤ Builtin.bitNot (a : Int)) = false := by
 apply decide_eq_false; unfold Builtin.bitNot; (exact ln [_] [] (.zA (.n 0) (.s (.g (.c (.v 0))) (.n 1))) [1] rfl)
theorem sn (a : Int) : Builtin.bitNot (Builtin.bitNot a) = a := by unfold Builtin.bitNot; (exact kv [] [_] [] (.s (.g (.s (.g (.v 0)) (.n 1))) (.n 1)) (.v 0) [1] [1] rfl rfl)
theorem EO (a b : Nat) : Builtin.bitOr (a : Int) (b : Int) = ((a ||| b : Nat) : Int) := by
 unfold Builtin.bitOr Builtin.bitAnd
 rw [kK, kK]
 simp only [sn, Int.toNat_natCast]
theorem AB (x y : Nat) (h : x &&& y = 0) : x ||| y = x + y := by
 have hw : x + y < 2 ^ (x + y) := Nat.lt_two_pow_self
 have hx : x < 2 ^ (x + y) := Nat.lt_of_le_of_lt (Nat.le_add_right _ _) hw
 have hy : y < 2 ^ (x + y) := Nat.lt_of_le_of_lt (Nat.le_add_left _ _) hw
 have ex : (BitVec.ofNat (x + y) x).toNat = x := (BitVec.toNat_ofNat ..).trans (Nat.mod_eq_of_lt hx)
 have ey : (BitVec.ofNat (x + y) y).toNat = y := (BitVec.toNat_ofNat ..).trans (Nat.mod_eq_of_lt hy)
 have e := congrArg BitVec.toNat (BitVec.add_eq_or_of_and_eq_zero (BitVec.ofNat (x + y) x) (BitVec.ofNat (x + y) y) (BitVec.eq_of_toNat_eq (by rw [BitVec.toNat_and, ex, ey, h]; rfl)))
 rw [BitVec.toNat_add, BitVec.toNat_or, ex, ey, Nat.mod_eq_of_lt hw] at e
 exact e.symm
theorem fe (a b : Nat) : (a ||| b) = (a ^^^ b) + (a &&& b) := by
 rw [← AB (a ^^^ b) (a &&& b)]
 ·apply Nat.eq_of_testBit_eq; intro i
  rw [Nat.testBit_or, Nat.testBit_or, Nat.testBit_xor, Nat.testBit_and]
  cases a.testBit i <;> cases b.testBit i <;> rfl
 ·apply Nat.eq_of_testBit_eq; intro i
  rw [Nat.testBit_and, Nat.testBit_and, Nat.testBit_xor, Nat.zero_testBit]
  cases a.testBit i <;> cases b.testBit i <;> rfl
theorem EP (a b : Nat) : Builtin.bitXor (a : Int) (b : Int) = ((a ^^^ b : Nat) : Int) := by
 unfold Builtin.bitXor
 rw [EO, B0]
 have := fe a b
 (exact kv [_,_,_] [] [.eq (.v 0) (.a (.v 2) (.v 1))] (.s (.c (.v 0)) (.c (.v 1))) (.c (.v 2)) [1,1] [1,-1] rfl rfl this)
theorem ER (n k : Nat) : ((n : Int) * (2 : Int) ^ k) = ((n <<< k : Nat) : Int) := by
 rw [Nat.shiftLeft_eq]; simp
theorem ES (n : Nat) (k : Nat) : (n : Int).fdiv ((2 : Int) ^ k) = ((n >>> k : Nat) : Int) := by
 rw [Nat.shiftRight_eq_div_pow, Int.fdiv_eq_ediv_of_nonneg _ (by exact Int.le_of_lt (Int.pow_pos (by decide)))]
 simp
theorem CJ (a b : Nat) : (a : Int).fdiv (b : Int) = ((a / b : Nat) : Int) := by
 rw [Int.fdiv_eq_ediv_of_nonneg _ (Int.natCast_nonneg _)]; rfl
theorem yv (a b : Nat) : (a : Int).fmod (b : Int) = ((a % b : Nat) : Int) := by
 rw [Int.fmod_eq_emod_of_nonneg _ (Int.natCast_nonneg _)]; rfl
theorem ET {a b : Nat} (h : b ≤ a) : (a : Int) - (b : Int) = ((a - b : Nat) : Int) := by exact (Int.ofNat_sub h).symm
theorem cZ {body : ap → Hp → SQ → Prop} {src : Option Nat} {items : List V} {i : Nat} {ρ : ap} {H : Hp} {Q : SQ} (I : Nat → ap → Hp → Prop)
  (h0 : I 0 ρ H) (ha : ∀ k ρ H, I k ρ H → alive src items H)
  (hb : ∀ k x ρ H Q, items[k]? = some x → I k ρ H → (∀ af H' aH, Sb aH H' → I (k + 1) af aH → Q .next af H' ∧ Q .cont af H') → body (ρ.set i x) H Q)
  (hq : ∀ af H', I items.length af H' → Q .next af H') : forL body src items i items ρ H Q := by
 suffices g : ∀ (r : List V) (k : Nat) (ρ : ap) (H : Hp), k + r.length = items.length → items.drop k = r → I k ρ H → forL body src items i r ρ H Q from g items 0 ρ H (by simp) rfl h0
 intro r
 induction r with
 | nil =>
  intro k ρ H hk hd h
  refine ⟨ha _ _ _ h, hq _ _ ?_⟩
  have : k = items.length := by simpa using hk
  exact this ▸ h
 | cons x r ih =>
  intro k ρ H hk hd h
  have hx : items[k]? = some x := by
   have := congrArg (fun l => l[0]?) hd
   simpa using this
  refine ⟨ha _ _ _ h, hb k x ρ H _ hx h fun af H' aH sb hi => ?_⟩
  have hr : items.drop (k + 1) = r := by
   have := congrArg List.tail hd
   simpa using this
  have g := ih (k + 1) af aH (by simp at hk; (exact lie [_,_,_] [.eq (.a (.v 0) (.a (.v 1) (.n 1))) (.v 2)] (.a (.a (.v 0) (.n 1)) (.v 1)) (.v 2) [1,1] [1,-1] rfl rfl hk)) hr hi
  exact ⟨⟨aH, sb, g⟩, ⟨aH, sb, g⟩⟩
theorem iH {cond : ap → Hp → (Bool → Hp → Prop) → Prop} {elt : ap → Hp → (V → Hp → Prop) → Prop} {src : Option Nat} {items : List V} {i : Nat} {ρ : ap} {H : Hp} {Q : List V → Hp → Prop} (I : Nat → List V → Hp → Prop)
  (h0 : I 0 [] H) (ha : ∀ k acc H, I k acc H → alive src items H) (hl : ∀ k acc H, I k acc H → acc.length ≤ 1000)
  (hb : ∀ k x acc H Q, items[k]? = some x → I k acc H → (∀ b H', (b = true → ∀ Q', (∀ v aH, I (k + 1) (acc ++ [v]) aH → Q' v aH) → elt (ρ.set i x) H' Q') → (b = false → I (k + 1) acc H') → Q b H') → cond (ρ.set i x) H Q)
  (hq : ∀ acc H', I items.length acc H' → Q acc H') : eg cond elt src items i ρ items [] H Q := by
 suffices g : ∀ (r : List V) (k : Nat) (acc : List V) (H : Hp), k + r.length = items.length → items.drop k = r → I k acc H → eg cond elt src items i ρ r acc H Q from g items 0 [] H (by simp) rfl h0
 intro r
 induction r with
 | nil =>
  intro k acc H hk hd h
  refine ⟨ha _ _ _ h, hq _ _ ?_⟩
  have : k = items.length := by simpa using hk
  exact this ▸ h
 | cons x r ih =>
  intro k acc H hk hd h
  have hx : items[k]? = some x := by
   have := congrArg (fun l => l[0]?) hd
   simpa using this
  have hr : items.drop (k + 1) = r := by
   have := congrArg List.tail hd
   simpa using this
  refine ⟨ha _ _ _ h, hb k x acc H _ hx h fun b H' ht hf => ?_⟩
  cases b with
  | true => exact ht rfl _ fun v aH hi => ⟨hl _ _ _ h, ih (k + 1) _ aH (by simp at hk; (exact lie [_,_,_] [.eq (.a (.v 0) (.a (.v 1) (.n 1))) (.v 2)] (.a (.a (.v 0) (.n 1)) (.v 1)) (.v 2) [1,1] [1,-1] rfl rfl hk)) hr hi⟩
  | false => exact ih (k + 1) _ H' (by simp at hk; (exact lie [_,_,_] [.eq (.a (.v 0) (.a (.v 1) (.n 1))) (.v 2)] (.a (.a (.v 0) (.n 1)) (.v 1)) (.v 2) [1,1] [1,-1] rfl rfl hk)) hr (hf rfl)
theorem so (n : Nat) : (Builtin.Range.rangeSize 0 n 1).toNat = n := by
 unfold Builtin.Range.rangeSize
 simp
 try omega
theorem jW (n : Nat) : bN 0 n 1 = (List.range n).map fun (k : Nat) => (k : Int) := by
 unfold bN
 rw [so]
 simp
theorem nO {n i a : Nat} {body : ap → Hp → SQ → Prop} {ρ : ap} {H : Hp} {Q : SQ} (I : Nat → ap → Hp → Prop) (hn : n ≤ 10000) (h0 : I 0 ρ H)
  (hb : ∀ k ρ H Q, k < n → I k ρ H → (∀ af H' aH, Sb aH H' → I (k + 1) af aH → Q .next af H' ∧ Q .cont af H') → body (ρ.set i (.int (k : Nat))) H Q)
  (hq : ∀ af H', I n af H' → Q .next af H') :
  ∃ src items, Src (.ref a) ((a, .range 0 (n : Int) 1) :: H) src items ∧ ∃ H₂, Sb H₂ ((a, .range 0 (n : Int) 1) :: H) ∧ forL body src items i items ρ H₂ Q := by
 refine ⟨none, _, .rng (a := a) (lo := 0) (hi := n) (st := 1) (by simp) (by (exact ⟨ln [] [] (.LE (.g (.n 10000)) (.n 0)) [1] rfl, ⟨ln [] [] (.LE (.n 0) (.n 10000)) [1] rfl, ⟨ln [_] [] (.LE (.g (.n 10000)) (.c (.v 0))) [1] rfl, ⟨ln [_] [.le (.v 0) (.n 10000)] (.LE (.c (.v 0)) (.n 10000)) [1,1] rfl hn, ⟨ln [] [] (.LE (.g (.n 10000)) (.n 1)) [1] rfl, ⟨ln [] [] (.LE (.n 1) (.n 10000)) [1] rfl, ln [] [] (.NE (.n 1) (.n 0)) [1] rfl⟩⟩⟩⟩⟩⟩)), H, .skip .refl, ?_⟩
 have e : (bN 0 (n : Int) 1).map V.int = (List.range n).map fun (k : Nat) => .int (k : Int) := by rw [jW]; simp
 rw [e]
 refine cZ I h0 (fun _ _ _ _ => trivial) (fun k x ρ H Q hx hi hk => ?_) fun af H' h => hq _ _ (by simpa using h)
 have hkn : k < n := by
  have := (List.getElem?_eq_some_iff.mp hx).1
  simpa using this
 have : x = .int (k : Int) := by
  rw [List.getElem?_map, List.getElem?_range hkn] at hx
  exact (Option.some.inj hx).symm
 subst this
 exact hb k ρ H Q hkn hi hk
theorem su (a b : Nat) : Builtin.bitAnd (a : Int) (Builtin.bitNot (b : Int)) = ((a - (a &&& b) : Nat) : Int) := by
 unfold Builtin.bitAnd
 rw [kK, sn, decide_eq_true (Int.natCast_nonneg a)]
 simp only [Int.toNat_natCast]
 have : a &&& b ≤ a := Nat.and_le_left
 (exact (Int.ofNat_sub this).symm)
theorem yw (a : Nat) : decide ((a : Int) ≠ 0) = decide (a ≠ 0) := by
 by_cases h : a = 0
 ·subst h; rfl
 ·rw [decide_eq_true h, decide_eq_true (show (a : Int) ≠ 0 by exact yu (Nat.pos_of_ne_zero h))]
theorem yx {n k : Nat} {f : Nat → V} (h : k < n) : ((List.range n).map f)[k]? = some (f k) := by
 rw [List.getElem?_map, List.getElem?_range h]; rfl
theorem ik {n : Nat} {p : Nat → Bool} (h : (List.range n).all p = true) {k : Nat} (hk : k < n) : p k = true := List.all_eq_true.mp h k (List.mem_range.mpr hk)
theorem dc (k : Nat) : 0 < 1 <<< k := by rw [Nat.shiftLeft_eq]; simp [Nat.two_pow_pos]
theorem il {α : Type} {s : List α} {k : Nat} {c : α} (h : s[k]? = some c) : s.take (k + 1) = s.take k ++ [c] := by
 rw [List.take_add_one, h]; rfl
noncomputable def jn (aa i : Nat) : Bool := if i % 2 = 0 then decide (aa / 2 + 3 < aa) else decide (2 < aa / 2)
structure Ar (p : Prop) : Prop where
 h : p
theorem az {a b c : Nat} (h : a ≤ b) (g : Nat.ble b c = true) : a ≤ c := Nat.le_trans h (Nat.le_of_ble_eq_true g)
theorem CK {a b c : Nat} (h : b ≤ a) (g : Nat.ble c b = true) : c ≤ a := Nat.le_trans (Nat.le_of_ble_eq_true g) h
theorem CL {a b c : Nat} (h : a < b) (g : Nat.ble b (c + 1) = true) : a ≤ c := Nat.le_of_lt_succ (Nat.lt_of_lt_of_le h (Nat.le_of_ble_eq_true g))
theorem EU {a b c : Nat} (h : a = b) (g : b ≤ c) {d : Nat} (k : Nat.ble c d = true) : a ≤ d := h ▸ Nat.le_trans g (Nat.le_of_ble_eq_true k)
theorem CM {a b c : Nat} (h : a = b) (g : c < b) : c < a := h ▸ g
theorem CN {a : Nat} (h : a < 4) : a = 0 ∨ a = 1 ∨ a = 2 ∨ a = 3 := (by decide : ∀ a, a < 4 → a = 0 ∨ a = 1 ∨ a = 2 ∨ a = 3) a h
theorem AC {a : Nat} (h : a < 8) : a = 0 ∨ a = 1 ∨ a = 2 ∨ a = 3 ∨ a = 4 ∨ a = 5 ∨ a = 6 ∨ a = 7 := (by decide : ∀ a, a < 8 → a = 0 ∨ a = 1 ∨ a = 2 ∨ a = 3 ∨ a = 4 ∨ a = 5 ∨ a = 6 ∨ a = 7) a h
theorem fZ {a : Nat} (h : a < 2) : a = 0 ∨ a = 1 := (by decide : ∀ a, a < 2 → a = 0 ∨ a = 1) a h
noncomputable def br (c : Bool) (A B : Prop) : Prop := match c with
 | true => A
 | false => B
theorem B1 {c : Bool} {A B : Prop} (h : c = true) (g : A) : br c A B := by subst h; exact g
theorem im {c : Bool} {A B : Prop} (h : c = false) (g : B) : br c A B := by subst h; exact g
theorem gO {c : Bool} {A B : Prop} (g : c = true → A) (g' : c = false → B) : br c A B := by cases c <;> first | exact g rfl | exact g' rfl
theorem bF {p : Prop} [Decidable p] {A B : Prop} (g : p → A) (g' : ¬ p → B) : br (decide p) A B := gO (fun e => g (of_decide_eq_true e)) (fun e => g' (of_decide_eq_false e))
theorem gD {p : Prop} [Decidable p] {A B : Prop} (h : p) (g : A) : br (decide p) A B := B1 (decide_eq_true h) g
theorem bj {p : Prop} [Decidable p] {A B : Prop} (h : ¬ p) (g : B) : br (decide p) A B := im (decide_eq_false h) g
theorem bP {p q : Prop} [Decidable p] [Decidable q] (h : p ↔ q) : decide p = decide q := decide_eq_decide.mpr h
noncomputable def EV (op : Operator) (a b : Nat) : Option (Nat × Prop) := match op with
 | .Add => some (a + b, True)
 | .Sub => some (a - b, b ≤ a)
 | .Mult => some (a * b, b ≤ 1000000)
 | .FloorDiv => some (a / b, 0 < b ∧ b ≤ 1000000)
 | .Mod => some (a % b, 0 < b)
 | .LShift => some (a <<< b, b ≤ 1000 ∧ a < 2 ^ 64)
 | .RShift => some (a >>> b, True)
 | .BitOr => some (a ||| b, True)
 | .BitAnd => some (a &&& b, True)
 | .BitXor => some (a ^^^ b, True)
 | _ => none
theorem CO {op : Operator} {a b n : Nat} {p : Prop} (h : EV op a b = some (n, p)) (hp : p) : cS op (.int a) (.int b) (.int n) := by
 intro H Q g
 cases op <;> cases h
 ·exact g
 ·rw [← ET hp] at g; exact g
 ·exact ⟨⟨Int.lt_of_lt_of_le (by decide) (Int.natCast_nonneg _), Int.ofNat_lt.mpr (Nat.lt_of_le_of_lt hp (by decide))⟩, g⟩
 ·exact ⟨Int.ofNat_ne_zero.mpr (Nat.ne_of_gt hp), by rw [yv]; exact g⟩
 ·exact ⟨⟨Int.natCast_nonneg _, Int.ofNat_le.mpr hp.1, hp.2⟩, by rw [Int.toNat_natCast, ER]; exact g⟩
 ·exact ⟨Int.natCast_nonneg _, by rw [Int.toNat_natCast, ES]; exact g⟩
 ·rw [← EO] at g; exact g
 ·rw [← EP] at g; exact g
 ·rw [← B0] at g; exact g
 ·exact ⟨⟨Int.ofNat_ne_zero.mpr (Nat.ne_of_gt hp.1), Nat.lt_of_le_of_lt hp.2 (by decide)⟩, by rw [CJ]; exact g⟩
theorem wf {op : Operator} {a b n : Nat} {p : Prop} (h : EV op a b = some (n, p)) (hp : Ar p) : cS op (.int a) (.int b) (.int n) := CO h hp.h
theorem nP {s t : List Nat} (h : Ar (s.length + t.length ≤ 10000)) : cS .Add (.str s) (.str t) (.str (s ++ t)) := fun _ _ g => ⟨h.h, g⟩
theorem yy {i : Int} {b : Nat} (h : Ar (0 < b)) (h' : Ar (b ≤ 1000000)) : cS .FloorDiv (.int i) (.int b) (.int (i.fdiv b)) := fun _ _ g => ⟨⟨Int.ofNat_ne_zero.mpr (Nat.ne_of_gt h.h), Nat.lt_of_le_of_lt h'.h (by decide)⟩, g⟩
theorem qN {i : Int} {b : Nat} (h : Ar (0 < b)) : cS .Mod (.int i) (.int b) (.int (i.fmod b)) := fun _ _ g => ⟨Int.ofNat_ne_zero.mpr (Nat.ne_of_gt h.h), g⟩
theorem yz {p q : Prop} [Decidable p] [Decidable q] {A B : Prop} (g : p ∨ q → A) (g' : ¬ (p ∨ q) → B) : br (decide p || decide q) A B :=
 gO (fun e => g ((Bool.or_eq_true _ _ ▸ e).imp of_decide_eq_true of_decide_eq_true)) (fun e => g' fun h => Bool.false_ne_true (e.symm.trans (by rcases h with h | h <;> simp [h])))
theorem CP {p q : Prop} [Decidable p] [Decidable q] {A B : Prop} (g : p ∧ q → A) (g' : ¬ (p ∧ q) → B) : br (decide p && decide q) A B :=
 gO (fun e => g ((Bool.and_eq_true _ _ ▸ e).imp of_decide_eq_true of_decide_eq_true)) (fun e => g' fun h => Bool.false_ne_true (e.symm.trans (by simp [h])))
theorem yA {i j : Int} (h : Ar (-1000000 ≤ j ∧ j ≤ 1000000)) : cS .Mult (.int i) (.int j) (.int (i * j)) := Op.mul h.h.1 h.h.2
theorem CQ {i : Int} {b : Nat} : cS .RShift (.int i) (.int b) (.int (i.fdiv (2 ^ b))) := fun _ _ g => ⟨Int.natCast_nonneg _, g⟩
noncomputable def Gu (op : CmpOp) (a b : Nat) : Option Bool := match op with
 | .Eq => some (decide (a = b))
 | .NotEq => some (decide (a ≠ b))
 | .Lt => some (decide (a < b))
 | .LtE => some (decide (a ≤ b))
 | .Gt => some (decide (b < a))
 | .GtE => some (decide (b ≤ a))
 | _ => none
theorem CR {op : CmpOp} {a b : Nat} {c : Bool} (h : Gu op a b = some c) : cw op (.int a) (.int b) (.bool c) := by
 intro H Q g
 cases op <;> cases h
 ·rw [← bP Int.ofNat_inj] at g; exact g
 ·rw [← bP (not_congr Int.ofNat_inj)] at g; exact g
 ·rw [← bP Int.ofNat_lt] at g; exact g
 ·rw [← bP Int.ofNat_le] at g; exact g
 ·rw [← bP Int.ofNat_lt] at g; exact g
 ·rw [← bP Int.ofNat_le] at g; exact g
noncomputable def Gv (op : CmpOp) (x y : V) : Option Bool := match x with
 | .int i => match y with
  | .int j => match op with
   | .Eq => some (decide (i = j))
   | .NotEq => some (decide (i ≠ j))
   | .Lt => some (decide (i < j))
   | .LtE => some (decide (i ≤ j))
   | .Gt => some (decide (j < i))
   | .GtE => some (decide (j ≤ i))
   | _ => none
  | _ => none
 | .bool a => match y with
  | .bool b => match op with
   | .Eq => some (decide (a = b))
   | _ => none
  | _ => none
 | .none => match y with
  | .none => match op with
   | .Is => some true
   | .IsNot => some false
   | _ => none
  | _ => none
 | .ref _ => match y with
  | .none => match op with
   | .Is => some false
   | .IsNot => some true
   | _ => none
  | _ => none
 | .str s => match y with
  | .str t => match op with
   | .Eq => some (decide (s = t))
   | .NotEq => some (decide (s ≠ t))
   | _ => none
  | _ => none
theorem tN {op : CmpOp} {x y : V} {c : Bool} (h : Gv op x y = some c) : cw op x y (.bool c) := by
 intro H Q g
 cases x <;> cases y <;> first | exact (Option.some_ne_none _ h.symm).elim | (cases op <;> first | exact (Option.some_ne_none _ h.symm).elim | (cases Option.some.inj h; exact g))
theorem AD {p : Prop} [Decidable p] {α : Type} {x y : α} : (bif decide p then x else y) = if p then x else y := by by_cases h : p <;> simp [h]
theorem pH (c d : Nat) : [c] = [d] ↔ c = d := ⟨fun q => (List.cons.inj q).1, fun q => q ▸ rfl⟩
theorem c_1 {c d : Nat} : cw .Eq (.str [c]) (.str [d]) (.bool (decide (c = d))) := fun _ _ g => by rw [← bP (pH c d)] at g; exact g
theorem EW {c d : Nat} : cw .NotEq (.str [c]) (.str [d]) (.bool (decide (c ≠ d))) := fun _ _ g => by rw [← bP (not_congr (pH c d))] at g; exact g
theorem EX {c : Nat} {s : List Nat} : cw .In (.str [c]) (.str s) (.bool (decide (c ∈ s))) := fun _ _ g => ⟨_, rfl, g⟩
structure ly (ws : List V) (i : Nat) (v : V) : Prop where
 l : ws.length ≤ 10000
 g : ws[i]? = some v
theorem Gw {L : List Nat} {i : Nat} (h : Ar (i < L.length)) (l : Ar (L.length ≤ 10000)) : ly (ak L) i (.int (L.getD i 0 : Nat)) := ⟨dY l.h, pE h.h⟩
theorem Gx {L : List Nat} {i : Nat} (h : Ar (i < L.length)) (l : Ar (L.length ≤ 10000)) : ly (aK L) i (.str [L.getD i 0]) := ⟨jV l.h, pF h.h⟩
theorem EY {n i : Nat} {f : Nat → V} (h : Ar (i < n)) (l : Ar (n ≤ 10000)) : ly ((List.range n).map f) i (f i) := ⟨by simpa using l.h, yx h.h⟩
theorem EZ {ws : List V} {i : Nat} {v : V} (h : ws[i]? = some v) (l : Ar (ws.length ≤ 10000)) : ly ws i v := ⟨l.h, h⟩
structure uW (H : Hp) (x : V) (i : Nat) (v : V) : Prop where
 s : ∀ Q : V → Hp → Prop, Q v H → kY x (.int i) H Q
theorem wg {a i : Nat} {ws : List V} {v : V} {H : Hp} (m : List.Mem (a, .list ws) H) (r : ly ws i v) : uW H (.ref a) i v := ⟨fun _ g => ⟨_, .inl m, r.l, .inl ⟨Int.natCast_nonneg _, _, r.g, g⟩⟩⟩
theorem Gy {a i : Nat} {ws : List V} {v : V} {H : Hp} (m : List.Mem (a, .tup ws) H) (r : ly ws i v) : uW H (.ref a) i v := ⟨fun _ g => ⟨_, .inr m, r.l, .inl ⟨Int.natCast_nonneg _, _, r.g, g⟩⟩⟩
theorem CS {t : List Nat} {i : Nat} {H : Hp} (h : Ar (i < t.length)) (l : Ar (t.length ≤ 10000)) : uW H (.str t) i (.str [t.getD i 0]) := ⟨fun _ g =>
 ⟨Int.natCast_nonneg _, l.h, _, by rw [Int.toNat_natCast, List.getElem?_eq_getElem h.h], by rw [List.getD_eq_getElem?_getD, List.getElem?_eq_getElem h.h] at g; exact g⟩⟩
structure uX (ws : List V) (n : Nat) : Prop where
 e : ws.length = n
 l : n ≤ 10000
theorem Gz {L : List Nat} (l : Ar (L.length ≤ 10000)) : uX (ak L) L.length := ⟨cO L, l.h⟩
theorem GB {L : List Nat} (l : Ar (L.length ≤ 10000)) : uX (aK L) L.length := ⟨cP L, l.h⟩
theorem GC {ws : List V} (l : Ar (ws.length ≤ 10000)) : uX ws ws.length := ⟨rfl, l.h⟩
structure yB (H : Hp) (x : V) (n : Nat) : Prop where
 s : ∀ Q : V → Hp → Prop, Q (.int n) H → xe 0 [x] H Q
theorem GE {a n : Nat} {ws : List V} {H : Hp} (m : List.Mem (a, .list ws) H) (r : uX ws n) : yB H (.ref a) n := ⟨fun _ g => ⟨_, m, r.1 ▸ r.2, r.1 ▸ g⟩⟩
theorem GF {t : List Nat} {H : Hp} (l : Ar (t.length ≤ 10000)) : yB H (.str t) t.length := ⟨fun _ g => ⟨l.h, g⟩⟩
theorem sv {n i a : Nat} {body : ap → Hp → SQ → Prop} {ρ : ap} {H : Hp} {Q : SQ} (I : Nat → ap → Hp → Prop) (H2 : Hp) (hsb : Sb H2 H) (hn : n ≤ 10000) (h0 : I 0 ρ H2)
  (hb : ∀ k ρ H Q, k < n → I k ρ H → (∀ af H' aH, Sb aH H' → I (k + 1) af aH → Q .next af H' ∧ Q .cont af H') → body (ρ.set i (.int (k : Nat))) H Q)
  (hq : ∀ af H', I n af H' → Q .next af H') :
  ∃ src items, Src (.ref a) ((a, .range 0 (n : Int) 1) :: H) src items ∧ ∃ H₂, Sb H₂ ((a, .range 0 (n : Int) 1) :: H) ∧ forL body src items i items ρ H₂ Q := by
 obtain ⟨src, items, h1, H₂, h2, h3⟩ := nO (a := a) (H := H2) I hn h0 hb hq
 have e : (bN 0 (n : Int) 1).map V.int = (List.range n).map fun (k : Nat) => .int (k : Int) := by rw [jW]; simp
 refine ⟨none, (List.range n).map fun (k : Nat) => .int (k : Int), ?_, H2, hsb.skip, ?_⟩
 ·rw [← e]; exact .rng (by simp) (by (exact ⟨ln [] [] (.LE (.g (.n 10000)) (.n 0)) [1] rfl, ⟨ln [] [] (.LE (.n 0) (.n 10000)) [1] rfl, ⟨ln [_] [] (.LE (.g (.n 10000)) (.c (.v 0))) [1] rfl, ⟨ln [_] [.le (.v 0) (.n 10000)] (.LE (.c (.v 0)) (.n 10000)) [1,1] rfl hn, ⟨ln [] [] (.LE (.g (.n 10000)) (.n 1)) [1] rfl, ⟨ln [] [] (.LE (.n 1) (.n 10000)) [1] rfl, ln [] [] (.NE (.n 1) (.n 0)) [1] rfl⟩⟩⟩⟩⟩⟩))
 ·refine cZ I h0 (fun _ _ _ _ => trivial) (fun k x ρ H Q hx hi hk => ?_) fun af H' h => hq _ _ (by simpa using h)
  have hkn : k < n := by
   have := (List.getElem?_eq_some_iff.mp hx).1
   simpa using this
  have : x = .int (k : Int) := by
   rw [List.getElem?_map, List.getElem?_range hkn] at hx
   exact (Option.some.inj hx).symm
  subst this
  exact hb k ρ H Q hkn hi hk
section
variable {m : Nat} {ρ : ap} {H H' : Hp} {r a b : Ss} {Q : SQ} {e o x t : E} {es : Es} {v y z : V} {vs : List V} {i f k n d : Nat} {c c' : Bool}
structure Ev (m : Nat) (ρ : ap) (H : Hp) (e : E) (v : V) : Prop where
 s : Pv (cf m) e ρ H v
structure Tv (m : Nat) (ρ : ap) (H : Hp) (e : E) (c : Bool) : Prop where
 s : Pt (cf m) e ρ H c
theorem cT (h : ρ i = some v) : Ev m ρ H (.var i) v := ⟨fun _ g => ⟨_, h, g⟩⟩
theorem cU {k : Nat} : Ev m ρ H (.ae (@OfNat.ofNat Int k instOfNat)) (.int ((@OfNat.ofNat Nat k (instOfNatNat k) : Nat) : Int)) := ⟨fun _ g => g⟩
noncomputable def GG (e : E) : Option V := match e with
 | .ae k => some (.int k)
 | .aA s => some (.str s)
 | .aZ b => some (.bool b)
 | .bO => some .none
 | _ => none
theorem gR (h : GG e = some v) : Ev m ρ H e v := by
 cases e <;> first | exact (Option.some_ne_none _ h.symm).elim | exact Option.some.inj h ▸ ⟨fun _ g => g⟩
noncomputable def E0 : Nat → V
 | 0 => .int (0 : Nat) | 1 => .int (1 : Nat) | 2 => .int (1 : Nat) | 3 => .int (2 : Nat) | 4 => .int (3 : Nat) | 5 => .int (4 : Nat) | 6 => .int (5 : Nat) | 7 => .int (6 : Nat) | 8 => .int (0 : Nat)
 | 9 => .str bI | 10 => .ref gQ | 11 => .ref dX | 12 => .int (18446744073709551615 : Nat) | 13 => .int (2685821657736338717 : Nat)
 | 14 => .str gB | 15 => .str gC | 16 => .str nK | 17 => .str bh | 18 => .str sStart
 | _ => .none
theorem CT (g : Nat) : (cf m).gv g = E0 g := by
 match g with
 | 0 => rfl | 1 => rfl | 2 => rfl | 3 => rfl | 4 => rfl | 5 => rfl | 6 => rfl | 7 => rfl | 8 => rfl | 9 => rfl | 10 => rfl | 11 => rfl | 12 => rfl | 13 => rfl | 14 => rfl | 15 => rfl | 16 => rfl | 17 => rfl | 18 => rfl
 | g + 19 => rfl
theorem AE {g : Nat} (h : some (E0 g) = some v) : Ev m ρ H (.glob g) v := ⟨fun _ q => by cases h; show _; rw [← CT (m := m)] at q; exact q⟩
theorem f9 {op : Operator} (p : Ev m ρ H e v) (q : Ev m ρ H o y) (w : cS op v y z) : Ev m ρ H (.bin op e o) z := ⟨fun _ g => p.s _ (q.s _ (w _ _ g))⟩
theorem wh {op : CmpOp} (p : Ev m ρ H e v) (q : Ev m ρ H o y) (w : cw op v y z) : Ev m ρ H (.cmp op e o) z := ⟨fun _ g => p.s _ (q.s _ (w _ _ g))⟩
theorem e_a {xa cc : Nat} {fs : List (Nat × V)} (p : Ev m ρ H o (.ref xa)) (m1 : List.Mem (xa, .inst cc d) H) (m2 : List.Mem (d, .dict fs) H) (l : fs.lookup n = some v) (k : jS cc n = true) : Ev m ρ H (.attr o n) v := ⟨fun _ g => p.s _ ⟨_, _, _, _, _, rfl, m1, m2, l, k, g⟩⟩
theorem e_i (p : Ev m ρ H o y) (q : Ev m ρ H x (.int k)) (w : uW H y k v) : Ev m ρ H (.idx o x) v := ⟨fun _ g => p.s _ (q.s _ (w.s _ g))⟩
theorem GH (p : Ev m ρ H o y) (w : yB H y n) : Ev m ρ H (.blt 0 (.cons o .nil)) (.int n) := ⟨fun _ g => p.s _ (w.s _ g)⟩
theorem CU {i : Int} (p : Ev m ρ H o (.int i)) : Ev m ρ H (.blt 2 (.cons o .nil)) (.int i.natAbs) := ⟨fun _ g => p.s _ g⟩
theorem nQ (i j : Nat) : max (i : Int) (j : Int) = ((max i j : Nat) : Int) := by
 rcases Nat.le_total i j with h | h
 ·rw [Nat.max_eq_right h, Int.max_eq_right (Int.ofNat_le.mpr h)]
 ·rw [Nat.max_eq_left h, Int.max_eq_left (Int.ofNat_le.mpr h)]
theorem CV (p : Ev m ρ H o (.int k)) (q : Ev m ρ H x (.int n)) : Ev m ρ H (.blt 3 (.cons o (.cons x .nil))) (.int (Max.max k n : Nat)) := ⟨fun R g => p.s _ (q.s _ (show R (.int (Max.max (k : Int) (n : Int))) H by rw [nQ]; exact g))⟩
theorem E4 (p : Tv m ρ H t c) (q : Ev m ρ H e v) (w : Ev m ρ H o y) (h : (bif c then v else y) = z) : Ev m ρ H (.du t e o) z := ⟨fun _ g => p.s _ (by subst h; cases c with | true => exact q.s _ g | false => exact w.s _ g)⟩
theorem E5 {k n : Nat} : (bif c then V.int k else V.int n) = V.int ((bif c then k else n : Nat) : Int) := by cases c <;> rfl
theorem E6 {k n : Int} : (bif c then V.int k else V.int n) = V.int (bif c then k else n) := by cases c <;> rfl
theorem E7 {k n : List Nat} : (bif c then V.str k else V.str n) = V.str (bif c then k else n) := by cases c <;> rfl
theorem E8 (p : Ev m ρ H e (.int k)) (q : Ev m ρ H o (.int n)) : Ev m ρ H (.bin .BitAnd e (.inv o)) (.int (k - (k &&& n) : Nat)) := ⟨fun R g => p.s _ (q.s _ ⟨_, rfl, by rw [← su] at g; exact g⟩)⟩
theorem yC {i : Int} (p : Ev m ρ H o (.int i)) : Ev m ρ H (.neg o) (.int (-i)) := ⟨fun _ g => p.s _ ⟨_, rfl, g⟩⟩
noncomputable def E9 (v : V) : Option Bool := match v with
 | .none => some false
 | .bool b => some b
 | .int i => match i with
  | .ofNat n => some (decide (n ≠ 0))
  | _ => none
 | _ => none
theorem CW {T : Bool → Hp → Prop} (h : E9 v = some c) (g : T c H) : truth v H fun b => T b H := by
 cases v with
 | none => cases h; exact g
 | bool b => cases h; exact g
 | int i => cases i with
  | ofNat n => cases h; show T _ _; rw [show decide (Int.ofNat n ≠ 0) = decide (n ≠ 0) from yw n]; exact g
  | negSucc n => cases h
 | str _ => cases h
 | ref _ => cases h
noncomputable def GI (e : E) : Bool := match e with
 | .bin .. => true
 | .attr .. => true
 | .idx .. => true
 | .var .. => true
 | .cmp .. => true
 | _ => false
theorem tO (p : Ev m ρ H e v) (h0 : GI e = true) (h : E9 v = some c) : Tv m ρ H e c := by
 refine ⟨fun T g => ?_⟩
 have w := p.s (fun v H => truth v H fun b => T b H) (CW h g)
 cases e <;> first | exact (Bool.false_ne_true h0).elim | exact w
theorem GJ : Tv m ρ H (.aZ c) c := ⟨fun _ g => g⟩
theorem t_n (p : Tv m ρ H e c) : Tv m ρ H (.not e) (!c) := ⟨fun _ g => p.s _ g⟩
theorem B2 (p : Tv m ρ H e c) : Tv m ρ H (.and_ (.cons e .nil)) c := ⟨fun _ g => p.s _ (by cases c <;> exact g)⟩
theorem E' (p : Tv m ρ H e c) (q : Tv m ρ H (.and_ es) c') : Tv m ρ H (.and_ (.cons e es)) (c && c') := ⟨fun _ g => p.s _ (by cases c with | true => exact q.s _ g | false => exact g)⟩
theorem B3 (p : Tv m ρ H e c) : Tv m ρ H (.or_ (.cons e .nil)) c := ⟨fun _ g => p.s _ (by cases c <;> exact g)⟩
theorem Fa (p : Tv m ρ H e c) (q : Tv m ρ H (.or_ es) c') : Tv m ρ H (.or_ (.cons e es)) (c || c') := ⟨fun _ g => p.s _ (by cases c with | false => exact q.s _ g | true => exact g)⟩
inductive bc (m : Nat) (ρ : ap) (H : Hp) : Es → List V → Prop
 | nil : bc m ρ H .nil []
 | cons {e : E} {r : Es} {v : V} {vs : List V} (p : Ev m ρ H e v) (q : bc m ρ H r vs) : bc m ρ H (.cons e r) (v :: vs)
theorem bc.s (h : bc m ρ H es vs) : nL (cf m) es ρ H vs := by
 induction h with
 | nil => exact fun _ g => g
 | cons p _ q => exact fun _ g => p.s _ (q _ g)
theorem Fb (p : Ev m ρ H e v) : Ev m ρ H (.or_ (.cons e .nil)) v := ⟨p.s⟩
theorem GK (p : Ev m ρ H e (.bool c)) (q : Ev m ρ H (.or_ (.cons o es)) (.bool c')) : Ev m ρ H (.or_ (.cons e (.cons o es))) (.bool (c || c')) := ⟨fun _ g => p.s _ (by cases c with | false => exact q.s _ g | true => exact g)⟩
theorem Fc (p : Ev m ρ H e v) : Ev m ρ H (.and_ (.cons e .nil)) v := ⟨p.s⟩
theorem e_n (p : Ev m ρ H e (.bool c)) (q : Ev m ρ H (.and_ (.cons o es)) (.bool c')) : Ev m ρ H (.and_ (.cons e (.cons o es))) (.bool (c && c')) := ⟨fun _ g => p.s _ (by cases c with | true => exact q.s _ g | false => exact g)⟩
structure jX (ws : List V) (k : Nat) (v : V) (ws' : List V) : Prop where
 h : k < ws.length
 l : ws.length ≤ 10000
 e : ws' = ws.set k v
theorem s_i {L : List Nat} {x : Nat} (h : Ar (k < L.length)) (l : Ar (L.length ≤ 10000)) : jX (ak L) k (.int x) (ak (L.set k x)) := ⟨by rw [cO]; exact h.h, dY l.h, (we ..).symm⟩
theorem GL {L : List Nat} {x : Nat} (h : Ar (k < L.length)) (l : Ar (L.length ≤ 10000)) : jX (aK L) k (.str [x]) (aK (L.set k x)) := ⟨by rw [cP]; exact h.h, jV l.h, (pG ..).symm⟩
theorem GM {ws : List V} (h : Ar (k < ws.length)) (l : Ar (ws.length ≤ 10000)) : jX ws k v (ws.set k v) := ⟨h.h, l.h, rfl⟩
structure yD (ws : List V) (v : V) (ws' : List V) : Prop where
 l : ws.length ≤ 1000
 e : ws' = ws ++ [v]
theorem a_i {L : List Nat} {x : Nat} (l : Ar (L.length ≤ 1000)) : yD (ak L) (.int x) (ak (L ++ [x])) := ⟨dY l.h, by simp [ak]⟩
theorem a_l {ws : List V} (l : Ar (ws.length ≤ 1000)) : yD ws v (ws ++ [v]) := ⟨l.h, rfl⟩
theorem jX.s {ws ws' : List V} (w : jX ws k v ws') (u : Upd d (.list ws) (.list ws') H H') {W : Hp → Prop} (g : W H') : eI (.ref d) (.int k) v H W := by
 obtain ⟨h, l, rfl⟩ := w
 exact ⟨_, _, _, _, rfl, rfl, l, .inl ⟨Int.natCast_nonneg _, Int.ofNat_lt.mpr h, u⟩, g⟩
theorem fg (p : Ev m ρ H e v) (g : WB (cf m) r (ρ.set i v) H Q) : WB (cf m) (.cons (.asg i e) r) ρ H Q := aj (Ap p.s g)
theorem bY (p : Ev m ρ H e v) (h : v = z) (g : WB (cf m) r (ρ.set i z) H Q) : WB (cf m) (.cons (.asg i e) r) ρ H Q := fg (h ▸ p) g
theorem nR (p : Ev m ρ H e v) (g : Q (.ret v) ρ H) : WB (cf m) (.cons (.ret e) r) ρ H Q := aj (Aq p.s g)
theorem kL (p : Tv m ρ H e c) (g : br c (WB (cf m) a ρ H (KB (cf m) r Q)) (WB (cf m) b ρ H (KB (cf m) r Q))) : WB (cf m) (.cons (.ite e a b) r) ρ H Q := aj (As p.s (by cases c <;> exact g))
theorem fh (p : bc m ρ H es vs) (g : (cf m).Sp f vs H fun v H₁ => WB (cf m) r (ρ.set i v) H₁ Q) : WB (cf m) (.cons (.asg i (.call f es)) r) ρ H Q := aj (v6 p.s g)
theorem sw (p : bc m ρ H es vs) (g : (cf m).Sp f vs H fun v H₁ => Q (.ret v) ρ H₁) : WB (cf m) (.cons (.ret (.call f es)) r) ρ H Q := aj (v7 p.s g)
theorem gr (p : bc m ρ H es vs) (g : (cf m).Sp f vs H fun v H₁ => WB (cf m) r ρ H₁ Q) : WB (cf m) (.cons (.ex (.call f es)) r) ρ H Q := aj (v8 p.s g)
theorem CX {ws ws' : List V} (p : Ev m ρ H o (.ref d)) (q : Ev m ρ H e v) (u : Upd d (.list ws) (.list ws') H H') (w : yD ws v ws') (g : WB (cf m) r ρ H' Q) : WB (cf m) (.cons (.ex (.meth 0 o (.cons e .nil))) r) ρ H Q := by
 obtain ⟨l, rfl⟩ := w; exact aj (At p.s q.s u l g)
theorem nS {xa cc : Nat} {fs : List (Nat × V)} (q : Ev m ρ H e v) (p : Ev m ρ H o (.ref xa)) (m1 : List.Mem (xa, .inst cc d) H) (u : Upd d (.dict fs) (.dict (fset fs n v)) H H') (l : Nat.ble fs.length 100 = true) (k : jS cc n = true) (g : WB (cf m) r ρ H' Q) :
  WB (cf m) (.cons (.aE o n e) r) ρ H Q := aj (v9 q.s p.s m1 u (Nat.le_of_ble_eq_true l) k g)
theorem qO {ws ws' : List V} (q : Ev m ρ H e v) (p : Ev m ρ H o (.ref d)) (t : Ev m ρ H x (.int k)) (u : Upd d (.list ws) (.list ws') H H') (w : jX ws k v ws') (g : WB (cf m) r ρ H' Q) : WB (cf m) (.cons (.cM o x e) r) ρ H Q :=
 aj (aR (q.s _ (p.s _ (t.s _ (w.s u g)))))
theorem iI {op : Operator} (h : ρ i = some z) (q : Ev m ρ H e y) (w : cS op z y v) (t : dE z y) (g : WB (cf m) r (ρ.set i v) H Q) : WB (cf m) (.cons (.aQ i op e) r) ρ H Q := aj (yk h q.s t w g)
theorem AF {op : Operator} {ws ws' : List V} (p : Ev m ρ H o (.ref d)) (q : Ev m ρ H x (.int k)) (u : Upd d (.list ws) (.list ws') H H') (w : ly ws k z) (q' : Ev m ρ H e y) (n : cS op z y v) (t : dE z y) (w' : jX ws k v ws') (g : WB (cf m) r ρ H' Q) :
  WB (cf m) (.cons (.gM o x op e) r) ρ H Q := aj (aR (p.s _ (q.s _ ((wg u.mem w).s _ (q'.s _ ⟨t, n _ _ (w'.s u g)⟩)))))
theorem AG {op : Operator} {xa cc : Nat} {fs : List (Nat × V)} (p : Ev m ρ H o (.ref xa)) (m1 : List.Mem (xa, .inst cc d) H) (u : Upd d (.dict fs) (.dict (fset fs n v)) H H') (l : fs.lookup n = some z) (t0 : jS cc n = true)
  (q : Ev m ρ H e y) (w : cS op z y v) (t : dE z y) (l2 : Nat.ble fs.length 100 = true) (g : WB (cf m) r ρ H' Q) : WB (cf m) (.cons (.mB o n op e) r) ρ H Q := aj (yl p.s m1 u l t0 q.s t w (Nat.le_of_ble_eq_true l2) g)
theorem ch {it : E} (p : Ev m ρ H it (.int n)) (I : Nat → ap → Hp → Prop) (hn : Ar (n ≤ 10000)) (h0 : I 0 ρ H)
  (hb : ∀ k ρ H Q, k < n → I k ρ H → (∀ af H' aH, Sb aH H' → I (k + 1) af aH → Q .next af H' ∧ Q .cont af H') → WB (cf m) b (ρ.set i (.int (k : Nat))) H Q)
  (hq : ∀ af H', I n af H' → WB (cf m) r af H' Q) : WB (cf m) (.cons (.for_ i (.blt 1 (.cons it .nil)) b) r) ρ H Q := by
 refine aj (eF (p.s _ ⟨⟨by have := hn.h; (exact Int.natCast_nonneg _), by have := hn.h; (exact yt (this))⟩, fun a => ?_⟩))
 exact nO I hn.h h0 hb hq
theorem uY {a1 a2 a3 v1 v2 v3 : V} {j l : Nat} (p : bc m ρ H es [a1, a2, a3]) (q1 : ∀ d, Ev m (ρ.set k a1) ((d, .tup [a1, a2, a3]) :: H) e v1) (q2 : ∀ d, Ev m (ρ.set k a2) ((d, .tup [a1, a2, a3]) :: H) e v2) (q3 : ∀ d, Ev m (ρ.set k a3) ((d, .tup [a1, a2, a3]) :: H) e v3)
  (g : ∀ d d', WB (cf m) r (((ρ.set i v1).set j v2).set l v3) ((d', .list [v1, v2, v3]) :: (d, .tup [a1, a2, a3]) :: H) Q) : WB (cf m) (.cons (.p9 [i, j, l] (.comp k e (.tup es) (.aZ true))) r) ρ H Q := by
 refine aj (aR (p.s _ ⟨ai rfl, fun d => ⟨none, _, .tup (.head _) (ai rfl), ?_⟩⟩))
 exact ⟨trivial, (q1 d).s _ ⟨ai rfl, trivial, (q2 d).s _ ⟨ai rfl, trivial, (q3 d).s _ ⟨ai rfl, trivial, fun d' => ⟨d', _, rfl, .inr (.head _), ⟨rfl, ai rfl⟩, g d d'⟩⟩⟩⟩⟩
theorem CY (n x : Nat) : (List.replicate n [V.int x]).flatten = ak (List.replicate n x) := by
 induction n with
 | zero => rfl
 | succ n ih => rw [List.replicate_succ, List.flatten_cons, ih]; rfl
theorem CZ (n x : Nat) : (List.replicate n [V.str [x]]).flatten = aK (List.replicate n x) := by
 induction n with
 | zero => rfl
 | succ n ih => rw [List.replicate_succ, List.flatten_cons, ih]; rfl
theorem io {x : Nat} (p : Ev m ρ H e (.int x)) (q : ∀ t, Ev m ρ ((t, .list [.int x]) :: H) o (.int k)) (hn : Ar (k ≤ 1000)) {R : V → Hp → Prop} (g : ∀ t c, R (.ref c) ((c, .list (ak (List.replicate k x))) :: (t, .list [.int x]) :: H)) :
  ay (cf m) (.bin .Mult (.list (.cons e .nil)) o) ρ H R :=
 p.s _ ⟨ai rfl, fun t => (q t).s _ ⟨_, .head _, ⟨ai rfl, Int.le_trans (by decide) (Int.natCast_nonneg _), Int.ofNat_le.mpr hn.h⟩, fun c => by rw [Int.toNat_natCast, CY]; exact g t c⟩⟩
theorem qP {x : Nat} (p : Ev m ρ H e (.str [x])) (q : ∀ t, Ev m ρ ((t, .list [.str [x]]) :: H) o (.int k)) (hn : Ar (k ≤ 1000)) {R : V → Hp → Prop} (g : ∀ t c, R (.ref c) ((c, .list (aK (List.replicate k x))) :: (t, .list [.str [x]]) :: H)) :
  ay (cf m) (.bin .Mult (.list (.cons e .nil)) o) ρ H R :=
 p.s _ ⟨ai rfl, fun t => (q t).s _ ⟨_, .head _, ⟨ai rfl, Int.le_trans (by decide) (Int.natCast_nonneg _), Int.ofNat_le.mpr hn.h⟩, fun c => by rw [Int.toNat_natCast, CZ]; exact g t c⟩⟩
theorem jY {it : E} (p : Ev m ρ H it (.int n)) (I : Nat → ap → Hp → Prop) (H2 : Hp) (hsb : Sb H2 H) (hn : Ar (n ≤ 10000)) (h0 : I 0 ρ H2)
  (hb : ∀ k ρ H Q, k < n → I k ρ H → (∀ af H' aH, Sb aH H' → I (k + 1) af aH → Q .next af H' ∧ Q .cont af H') → WB (cf m) b (ρ.set i (.int (k : Nat))) H Q)
  (hq : ∀ af H', I n af H' → WB (cf m) r af H' Q) : WB (cf m) (.cons (.for_ i (.blt 1 (.cons it .nil)) b) r) ρ H Q := by
 refine aj (eF (p.s _ ⟨⟨by have := hn.h; (exact Int.natCast_nonneg _), by have := hn.h; (exact yt (this))⟩, fun a => ?_⟩))
 exact sv I H2 hsb hn.h h0 hb hq
theorem wi {ws : List V} {F : Nat → Hp} (p : Ev m ρ H o (.ref d)) (q : bc m ρ H es vs) (l : vs.length ≤ 100) (p' : List.Mem (d, .list ws) H) (u : ∀ t, Upd d (.list ws) (.list (ws ++ [.ref t])) ((t, .tup vs) :: H) (F t)) (l2 : Ar (ws.length ≤ 1000)) (g : ∀ t, WB (cf m) r ρ (F t) Q) :
  WB (cf m) (.cons (.ex (.meth 0 o (.cons (.tup es) .nil))) r) ρ H Q :=
 aj (aR (p.s _ ⟨⟨_, p'⟩, q.s _ ⟨l, fun t => ⟨_, _, u t, l2.h, g t⟩⟩⟩))
noncomputable def Ss.drop : Nat → Ss → Ss
 | 0, s => s
 | _ + 1, .nil => .nil
 | n + 1, .cons _ r => Ss.drop n r
noncomputable def Ss.fb (s : Ss) : Ss := match s with
 | .cons (.for_ _ _ b) _ => b
 | _ => .nil
theorem qQ (p : Ev m ρ H e (.int n)) (hn : Ar (n ≤ 10000)) {R : V → Hp → Prop} (g : ∀ a, R (.ref a) ((a, .range 0 n 1) :: H)) : ay (cf m) (.blt 1 (.cons e .nil)) ρ H R :=
 p.s _ ⟨⟨Int.le_trans (by decide) (Int.natCast_nonneg _), Int.ofNat_le.mpr hn.h⟩, g⟩
theorem AH (p : Ev m ρ H e (.int n)) (hn : Ar (n ≤ 10000)) {R : V → Hp → Prop} (g : ∀ a, R (.ref a) ((a, .range n (-1) (-1)) :: H)) : ay (cf m) (.blt 1 (.cons e (.cons (.neg (.ae 1)) (.cons (.neg (.ae 1)) .nil)))) ρ H R :=
 p.s _ ⟨_, rfl, ⟨_, rfl, ⟨⟨Int.le_trans (by decide) (Int.natCast_nonneg _), Int.ofNat_le.mpr hn.h, by decide, by decide, by decide, by decide⟩, g⟩⟩⟩
end
section
variable {m f i j k : Nat} {ρ : ap} {H : Hp} {t a b e x : E} {es r : Es} {v : V} {vs : List V} {c : Bool} {R : V → Hp → Prop} {S : List V → Hp → Prop}
theorem tP (p : Tv m ρ H t c) (g : br c (ay (cf m) a ρ H R) (ay (cf m) b ρ H R)) : ay (cf m) (.du t a b) ρ H R := p.s _ (by cases c <;> exact g)
theorem AI (p : Ev m ρ H x (.int i)) (q : bc m ρ H es [.int j, .int k]) (g : ∀ d, br (decide (i = j ∨ i = k)) (ay (cf m) a ρ ((d, .list [.int j, .int k]) :: H) R) (ay (cf m) b ρ ((d, .list [.int j, .int k]) :: H) R)) : ay (cf m) (.du (.cmp .In x (.list es)) a b) ρ H R := by
 refine p.s _ (q.s _ ⟨ai rfl, fun d => ⟨[(j : Int), (k : Int)], List.mem_cons_self, ai rfl, ?_⟩⟩)
 have e : decide ((i : Int) ∈ [(j : Int), (k : Int)]) = decide (i = j ∨ i = k) := bP (by simp only [List.mem_cons, List.not_mem_nil, or_false]; exact or_congr Int.ofNat_inj Int.ofNat_inj)
 rw [e]
 have g := g d
 by_cases h : i = j ∨ i = k
 ·rw [decide_eq_true h] at g ⊢; exact g
 ·rw [decide_eq_false h] at g ⊢; exact g
theorem kM (p : Ev m ρ H e v) (g : R v H) : ay (cf m) e ρ H R := p.s _ g
theorem w_call (g : cN (cf m) es ρ H fun vs H₁ => (cf m).Sp f vs H₁ R) : ay (cf m) (.call f es) ρ H R := g
theorem jo (p : Ev m ρ H e v) (g : cN (cf m) r ρ H fun vs H₁ => S (v :: vs) H₁) : cN (cf m) (.cons e r) ρ H S := p.s _ g
theorem lU (g : ay (cf m) e ρ H fun v H₁ => cN (cf m) r ρ H₁ fun vs H₂ => S (v :: vs) H₂) : cN (cf m) (.cons e r) ρ H S := g
theorem df (p : bc m ρ H es vs) (g : S vs H) : cN (cf m) es ρ H S := p.s _ g
end
section
variable {m f : Nat} {ρ : ap} {H : Hp} {e o x y : E} {es r : Es} {v : V} {vs : List V} {c : Bool} {R : V → Hp → Prop} {S : List V → Hp → Prop} {a b l : Ss} {Q : SQ}
theorem qR (g : cN (cf m) es ρ H fun vs H₁ => vs.length ≤ 100 ∧ ∀ t, R (.ref t) ((t, .tup vs) :: H₁)) : ay (cf m) (.tup es) ρ H R := g
theorem bu (g : cN (cf m) es ρ H fun vs H₁ => vs.length ≤ 100 ∧ ∀ t, R (.ref t) ((t, .list vs) :: H₁)) : ay (cf m) (.list es) ρ H R := g
theorem nT {op : CmpOp} (g : ay (cf m) x ρ H fun v H₁ => ay (cf m) y ρ H₁ fun w H₂ => ez op v w H₂ R) : ay (cf m) (.cmp op x y) ρ H R := g
theorem uZ (g : ay (cf m) e ρ H R) : ay (cf m) (.and_ (.cons e .nil)) ρ H R := g
theorem yE {i j : Nat} {da db : PyData} (p : Ev m ρ H x (.ref i)) (q : Ev m ρ H y (.ref j)) (d1 : mF H (.ref i) da) (d2 : mF H (.ref j) db) (s1 : SeqAt.shaped da = true) (s2 : SeqAt.shaped db = true) (h : PyData.eqv da db = true) (g : ay (cf m) (.and_ (.cons o es)) ρ H R) :
  ay (cf m) (.and_ (.cons (.cmp .Eq x y) (.cons o es))) ρ H R := p.s _ (q.s _ ⟨da, db, d1, d2, s1, s2, by rw [h]; exact g⟩)
theorem C0 {op : CmpOp} (g : ay (cf m) x ρ H fun v H₁ => ay (cf m) y ρ H₁ fun w H₂ => ez op v w H₂ fun z aD => truth z aD fun c => match c with | true => WB (cf m) a ρ aD (KB (cf m) l Q) | false => WB (cf m) b ρ aD (KB (cf m) l Q)) : WB (cf m) (.cons (.ite (.cmp op x y) a b) l) ρ H Q := aj (cG g)
theorem AJ {q : E} {i : Nat} (p : Ev m ρ H x v) (g : ∃ src items, Src v H src items ∧ eg (ce (cf m) q) (ay (cf m) e) src items i ρ items [] H fun acc H₂ => ∀ a, R (.ref a) ((a, .list acc) :: H₂)) : ay (cf m) (.comp i e x q) ρ H R := p.s _ g
theorem jZ {t : E} (p : Tv m ρ H t c) (q : c = true → Ev m ρ H x v) (q' : c = false → Ev m ρ H y v) : Ev m ρ H (.du t x y) v := ⟨fun _ g => p.s _ (by cases c with | true => exact (q rfl).s _ g | false => exact (q' rfl).s _ g)⟩
theorem u5 {s t : List Nat} (p : Ev m ρ H o (.str s)) (q : Ev m ρ H x (.str t)) (l : Ar (s.length ≤ 1000)) (l' : Ar (t.length ≤ 1000)) : Ev m ρ H (.meth 2 o (.cons x .nil)) (.int (Txt.find (st s) (st t))) := ⟨fun _ g => p.s _ ⟨trivial, q.s _ ⟨⟨l.h, l'.h⟩, g⟩⟩⟩
end
theorem wj {m a k : Nat} {ρ : ap} {H : Hp} {o : E} {vs : List V} {R : V → Hp → Prop} (p : Ev m ρ H o (.ref a)) (me : List.Mem (a, .list vs) H) (l : vs.length ≤ 10000) (hk : k ≤ 10000) (g : ∀ d, R (.ref d) ((d, .list (vs.drop k)) :: H)) : ay (cf m) (.slice o (.ae k) .bO) ρ H R :=
 p.s _ ⟨a, vs, k, vs.length, rfl, .inl me, l, .inr ⟨rfl, Int.natCast_nonneg _, Int.ofNat_le.mpr hk⟩, .inl ⟨rfl, rfl⟩, fun c => by rw [Int.toNat_natCast, Int.toNat_natCast, List.take_length]; exact g c⟩
theorem gF (n : Int) {b : Int} (h : 0 < b) : ∃ i : Nat, n.fmod b = (i : Int) ∧ (i : Int) < b := by
 have x := Int.fmod_nonneg_of_pos n h
 have y := Int.fmod_lt_of_pos n h
 exact ⟨(n.fmod b).toNat, (Int.toNat_of_nonneg x).symm, by rw [Int.toNat_of_nonneg x]; exact y⟩
section
variable {m n x i : Nat} {ρ : ap} {H H' : Hp} {r b : Ss} {Q : SQ} {e o it q : E} {es : Es} {R : V → Hp → Prop} {lo hi st' : Int}
theorem AK (p : bc m ρ H es [.int lo, .int hi, .int st']) (b : -10000 ≤ lo ∧ lo ≤ 10000 ∧ -10000 ≤ hi ∧ hi ≤ 10000 ∧ -10000 ≤ st' ∧ st' < 0) (g : ∀ a, R (.ref a) ((a, .range lo hi st') :: H)) : ay (cf m) (.blt 1 es) ρ H R := p.s _ ⟨b, g⟩
theorem u6 {f : Nat → Nat} {k : Nat} {x : V} (hx : ((List.range n).map fun j => V.int (f j : Nat))[k]? = some x) : k < n ∧ x = .int (f k : Nat) := by
 have hkn : k < n := by
  have := (List.getElem?_eq_some_iff.mp hx).1
  simpa using this
 rw [List.getElem?_map, List.getElem?_range hkn] at hx
 exact ⟨hkn, (Option.some.inj hx).symm⟩
theorem u7 {f : Nat → Nat} (p : bc m ρ H es [.int lo, .int hi, .int st']) (b' : -10000 ≤ lo ∧ lo ≤ 10000 ∧ -10000 ≤ hi ∧ hi ≤ 10000 ∧ -10000 ≤ st' ∧ st' < 0) (e : (bN lo hi st').map V.int = (List.range n).map fun j => V.int (f j : Nat)) (I : Nat → ap → Hp → Prop) (H2 : Hp) (hsb : Sb H2 H) (h0 : I 0 ρ H2)
  (hb : ∀ k ρ H Q, k < n → I k ρ H → (∀ af H' aH, Sb aH H' → I (k + 1) af aH → Q .next af H' ∧ Q .cont af H') → WB (cf m) b (ρ.set i (.int (f k : Nat))) H Q)
  (hq : ∀ af H', I n af H' → WB (cf m) r af H' Q) : WB (cf m) (.cons (.for_ i (.blt 1 es) b) r) ρ H Q := by
 refine aj (eF (AK p b' fun a => ⟨none, _, .rng (.head _) (by (exact ⟨lin [] [_] [.LE (.g (.n 10000)) (.v 0)] (.LE (.g (.n 10000)) (.v 0)) [1,1] rfl b'.1, ⟨lin [] [_] [.LE (.v 0) (.n 10000)] (.LE (.v 0) (.n 10000)) [1,1] rfl b'.2.1, ⟨lin [] [_] [.LE (.g (.n 10000)) (.v 0)] (.LE (.g (.n 10000)) (.v 0)) [1,1] rfl b'.2.2.1, ⟨lin [] [_] [.LE (.v 0) (.n 10000)] (.LE (.v 0) (.n 10000)) [1,1] rfl b'.2.2.2.1, ⟨lin [] [_] [.LE (.g (.n 10000)) (.v 0)] (.LE (.g (.n 10000)) (.v 0)) [1,1] rfl b'.2.2.2.2.1, ⟨lin [] [_] [.LT (.v 0) (.n 0)] (.LE (.v 0) (.n 10000)) [1,1] rfl b'.2.2.2.2.2, lin [] [_] [.LT (.v 0) (.n 0)] (.NE (.v 0) (.n 0)) [-1,1] rfl b'.2.2.2.2.2⟩⟩⟩⟩⟩⟩)), H2, hsb.skip, ?_⟩))
 rw [e]
 refine cZ I h0 (fun _ _ _ _ => trivial) (fun k x ρ H Q hx hi hk => ?_) fun af H' h => hq _ _ (by simpa using h)
 obtain ⟨hkn, rfl⟩ := u6 hx
 exact hb k ρ H Q hkn hi hk
theorem yF (p : Ev m ρ H it (.int n)) (hn : n ≤ 1000) (acc : Nat → List V) (a0 : acc 0 = []) (al : ∀ k, k ≤ n → (acc k).length ≤ 1000)
  (hb : ∀ k a o, k < n → ∃ c, Tv m (ρ.set x (.int k)) ((a, o) :: H) q c ∧ (c = true → ∃ v, Ev m (ρ.set x (.int k)) ((a, o) :: H) e v ∧ acc (k + 1) = acc k ++ [v]) ∧ (c = false → acc (k + 1) = acc k))
  (g : ∀ a o d, R (.ref d) ((d, .list (acc n)) :: (a, o) :: H)) : ay (cf m) (.comp x e (.blt 1 (.cons it .nil)) q) ρ H R := by
 refine qQ p ⟨az hn rfl⟩ fun a => ⟨none, (List.range n).map fun (k : Nat) => .int (k : Int), ?_, ?_⟩
 ·have e : (bN 0 (n : Int) 1).map V.int = (List.range n).map fun (k : Nat) => .int (k : Int) := by rw [jW]; simp
  rw [← e]; exact .rng (by simp) (by (exact ⟨ln [] [] (.LE (.g (.n 10000)) (.n 0)) [1] rfl, ⟨ln [] [] (.LE (.n 0) (.n 10000)) [1] rfl, ⟨ln [_] [] (.LE (.g (.n 10000)) (.c (.v 0))) [1] rfl, ⟨ln [_] [.le (.v 0) (.n 1000)] (.LE (.c (.v 0)) (.n 10000)) [1,1] rfl hn, ⟨ln [] [] (.LE (.g (.n 10000)) (.n 1)) [1] rfl, ⟨ln [] [] (.LE (.n 1) (.n 10000)) [1] rfl, ln [] [] (.NE (.n 1) (.n 0)) [1] rfl⟩⟩⟩⟩⟩⟩))
 ·refine iH (fun k acc' H' => k ≤ n ∧ acc' = acc k ∧ H' = (a, .range 0 n 1) :: H) ⟨Nat.zero_le _, a0.symm, rfl⟩ (fun _ _ _ _ => trivial) (fun k acc' H' h => h.2.1 ▸ al k h.1) ?_ ?_
  ·rintro k x' acc' H' Q' hx ⟨hk, rfl, rfl⟩ hh
   obtain ⟨hkn, rfl⟩ := u6 (f := id) hx
   obtain ⟨c, ht, h1, h2⟩ := hb k a (.range 0 n 1) hkn
   refine ht.s _ (hh c _ (fun hc Q2 hq => ?_) (fun hc => ⟨hkn, (h2 hc).symm, rfl⟩))
   obtain ⟨v, hv, e⟩ := h1 hc
   exact hv.s _ (hq _ _ ⟨hkn, e.symm, rfl⟩)
  ·rintro acc' H' ⟨_, rfl, rfl⟩ d
   rw [List.length_map, List.length_range]; exact g a _ d
theorem j0 {s : List Nat} (p : Ev m ρ H o (.str s)) (g : ay (cf m) e ρ H fun v H₁ => gV 4 (.str s) [v] H₁ R) : ay (cf m) (.meth 4 o (.cons e .nil)) ρ H R := p.s _ ⟨trivial, g⟩
theorem j2 {s : List Nat} {a : Nat} (L : List (List Nat)) (me : List.Mem (a, .list (L.map .str)) H) (h1 : s.length ≤ 10) (h2 : L.length ≤ 1000) (h3 : ∀ t ∈ L, t.length ≤ 100) (g : R (.str (un (Txt.join (st s) (L.map st)))) H) : gV 4 (.str s) [.ref a] H R := ⟨L, me, ⟨h1, h2, h3⟩, g⟩
theorem sy {a lo hi : Nat} {vs : List V} {u w : E} (p : Ev m ρ H o (.ref a)) (p1 : Ev m ρ H u (.int lo)) (p2 : Ev m ρ H w (.int hi)) (me : List.Mem (a, .list vs) H) (l : vs.length ≤ 10000) (l1 : lo ≤ 10000) (l2 : hi ≤ 10000) (g : ∀ d, R (.ref d) ((d, .list ((vs.take hi).drop lo)) :: H)) : ay (cf m) (.slice o u w) ρ H R :=
 p.s _ (p1.s _ (p2.s _ ⟨a, vs, lo, hi, rfl, .inl me, l, .inr ⟨rfl, Int.natCast_nonneg _, Int.ofNat_le.mpr l1⟩, .inr ⟨rfl, Int.natCast_nonneg _, Int.ofNat_le.mpr l2⟩, fun c => by rw [Int.toNat_natCast, Int.toNat_natCast]; exact g c⟩))
end
theorem sA {H : Hp} {T : Bool → Prop} (g : T true) : truth (.bool true) H T := g
theorem Fd {r c d f : Nat} {H : Hp} {fs : List (Nat × V)} {vB : Nat → Nat → Bool} {q : Prop} (m1 : (r, .inst c d) ∈ H) (m2 : (d, .dict fs) ∈ H) (o : vB c f = true) (g : q) :
  ∃ x c d fs, V.ref r = .ref x ∧ (x, O.inst c d) ∈ H ∧ (d, O.dict fs) ∈ H ∧ vB c f = true ∧ q := ⟨r, c, d, fs, rfl, m1, m2, o, g⟩
theorem AL {m : Nat} {ρ : ap} {H : Hp} {op op' : CmpOp} {a b c : E} {T : Bool → Hp → Prop} (g : ay (cf m) a ρ H fun x H₁ => ay (cf m) b ρ H₁ fun y H₂ => ez op x y H₂ fun r aD => truth r aD fun t => match t with
   | true => ay (cf m) c ρ aD fun z eJ => ez op' y z eJ fun v gW => truth v gW fun b => T b gW
   | false => T false aD) : ce (cf m) (.gf op op' a b c) ρ H T := g
theorem mi {m d : Nat} {ρ : ap} {H : Hp} {o e : E} {r : Ss} {Q : SQ} {ws : List V} (p : Ev m ρ H o (.ref d)) (me : List.Mem (d, .list ws) H) (g : ay (cf m) e ρ H fun v H₁ => ∃ xs H', Upd d (.list xs) (.list (xs ++ [v])) H₁ H' ∧ xs.length ≤ 1000 ∧ WB (cf m) r ρ H' Q) : WB (cf m) (.cons (.ex (.meth 0 o (.cons e .nil))) r) ρ H Q := aj (aR (p.s _ ⟨⟨_, me⟩, g⟩))
theorem sB {m f x c d : Nat} {ρ : ap} {H : Hp} {o : E} {R : V → Hp → Prop} {fs : List (Nat × V)} (p : Ev m ρ H o (.ref x)) (m1 : List.Mem (x, .inst c d) H) (m2 : List.Mem (d, .dict fs) H) (k : (cf m).vB c f = true) (g : (cf m).Sp f [.ref x] H R) : ay (cf m) (.gU f o .nil) ρ H R := p.s _ (Fd m1 m2 k g)
theorem u8 {m k d : Nat} {ρ : ap} {H H' : Hp} {r : Ss} {Q : SQ} {e : E} {op : Operator} {ws ws' : List V} {z y v : V} (u : Upd d (.list ws) (.list ws') H H') (w : ly ws k z) (q' : Ev m ρ H e y) (n : cS op z y v) (t : dE z y) (w' : jX ws k v ws') (g : WB (cf m) r ρ H' Q) :
  kY (.ref d) (.int k) H fun old aD => ay (cf m) e ρ aD fun y eJ => dE old y ∧ cn op old y eJ fun v gW => eI (.ref d) (.int k) v gW fun xg => KB (cf m) r Q .next ρ xg := (wg u.mem w).s _ (q'.s _ ⟨t, n _ _ (w'.s u g)⟩)
theorem mj {m i : Nat} {ρ : ap} {H : Hp} {r : Ss} {Q : SQ} {op : Operator} {x y v : V} (t : dE x y) (w : cS op x y v) (g : WB (cf m) r (ρ.set i v) H Q) : dE x y ∧ cn op x y H fun v H₂ => KB (cf m) r Q .next (ρ.set i v) H₂ := ⟨t, w _ _ g⟩
theorem yG {c : Bool} {H : Hp} {A B : Prop} (g : br c A B) : truth (.bool c) H fun c => match c with | true => A | false => B := by cases c <;> exact g
theorem B5 {k : Nat} {H : Hp} {A B : Prop} (g : br (decide (k ≠ 0)) A B) : truth (.int k) H fun c => match c with | true => A | false => B := by
 show match decide ((k : Int) ≠ 0) with | true => A | false => B
 rw [yw]; cases h : decide (k ≠ 0) <;> (rw [h] at g; exact g)
section
variable {m f i : Nat} {ρ : ap} {H : Hp} {a b r : Ss} {Q : SQ} {e o t : E} {es : Es} {x y v : V} {vs : List V} {c : Bool} {R : V → Hp → Prop} {T : Bool → Hp → Prop} {op : Operator} {cp : CmpOp}
theorem j8 (g : ay (cf m) e ρ H fun v H₁ => WB (cf m) r (ρ.set i v) H₁ Q) : WB (cf m) (.cons (.asg i e) r) ρ H Q := aj (aR g)
theorem cH (g : ay (cf m) e ρ H fun v H₁ => Q (.ret v) ρ H₁) : WB (cf m) (.cons (.ret e) r) ρ H Q := aj (aR g)
theorem yH (g : ce (cf m) t ρ H fun c H₁ => match c with | true => WB (cf m) a ρ H₁ (KB (cf m) r Q) | false => WB (cf m) b ρ H₁ (KB (cf m) r Q)) : WB (cf m) (.cons (.ite t a b) r) ρ H Q := aj (cG g)
theorem u9 (q : bc m ρ H es vs) (g : (cf m).Sp f vs H fun x H₁ => ay (cf m) o ρ H₁ fun y H₂ => cn op x y H₂ R) : ay (cf m) (.bin op (.call f es) o) ρ H R := q.s _ g
theorem yI (q : Ev m ρ H o y) (w : cS op x y v) (g : R v H) : ay (cf m) o ρ H fun y H₂ => cn op x y H₂ R := q.s _ (w _ _ g)
theorem Fe (q : Ev m ρ H o y) (w : cw cp x y (.bool c)) {c' : Bool} (h : c = c') (g : R (.bool c') H) : ay (cf m) o ρ H fun y H₂ => ez cp x y H₂ R := q.s _ (w _ _ (h ▸ g))
theorem sC (p : Tv m ρ H e c) (q : c = true → ∀ T' : Bool → Hp → Prop, T' false H → dO (cf m) es ρ H T') (g : T false H) : dO (cf m) (.cons e es) ρ H T := p.s _ (by cases c with | true => exact q rfl T g | false => exact g)
theorem AM (p : Ev m ρ H e (.bool c)) (q : c = true → ∀ R' : V → Hp → Prop, R' (.bool false) H → ay (cf m) (.and_ (.cons o es)) ρ H R') (g : R (.bool false) H) : ay (cf m) (.and_ (.cons e (.cons o es))) ρ H R := p.s _ (by cases c with | true => exact q rfl R g | false => exact g)
end
theorem B6 {i : Int} {b c : Nat} (e : i.fmod b = c) (h : 0 < b) : cS .Mod (.int i) (.int b) (.int c) := fun _ _ g => ⟨Int.ofNat_ne_zero.mpr (Nat.ne_of_gt h), e ▸ g⟩
theorem sD {op : Operator} {x y v z : V} (w : cS op x y v) (h : v = z) : cS op x y z := h ▸ w
theorem Ff {m : Nat} {ρ : ap} {H : Hp} {op op' : CmpOp} {a b d : E} {x y z : V} {c c' : Bool} (p : Ev m ρ H a x) (q : Ev m ρ H b y) (w : cw op x y (.bool c)) (p' : Ev m ρ H d z) (w' : cw op' y z (.bool c')) : Tv m ρ H (.gf op op' a b d) (c && c') :=
 ⟨fun _ g => p.s _ (q.s _ (w _ _ (by cases c with | true => exact p'.s _ (w' _ _ g) | false => exact g)))⟩
theorem B7 {H : Hp} {op : CmpOp} {x y : V} {c : Bool} {A B : Hp → Prop} (w : cw op x y (.bool c)) (g : br c (A H) (B H)) : ez op x y H fun v aD => truth v aD fun b => match b with | true => A aD | false => B aD := w _ _ (yG g)
theorem vb {m d i : Nat} {ρ : ap} {H : Hp} {it : E} {b r : Ss} {Q : SQ} {L : List Nat} (p : Ev m ρ H it (.ref d)) (me : List.Mem (d, .list (ak L)) H) (l : L.length ≤ 10000) (I : Nat → ap → Hp → Prop) (h0 : I 0 ρ H) (ha : ∀ k ρ H, I k ρ H → List.Mem (d, .list (ak L)) H)
  (hb : ∀ k ρ H Q, k < L.length → I k ρ H → (∀ af H' aH, Sb aH H' → I (k + 1) af aH → Q .next af H' ∧ Q .cont af H') → WB (cf m) b (ρ.set i (.int (L.getD k 0 : Nat))) H Q)
  (hq : ∀ af H', I L.length af H' → WB (cf m) r af H' Q) : WB (cf m) (.cons (.for_ i it b) r) ρ H Q := by
 refine aj (eF (p.s _ ⟨_, _, .list me (dY l), H, .refl, cZ I h0 ha (fun k x ρ H Q hx hi hk => ?_) fun af H' h => hq _ _ (cO L ▸ h)⟩))
 have hkl : k < L.length := by have := (List.getElem?_eq_some_iff.mp hx).1; rwa [cO] at this
 rw [pE hkl] at hx
 cases Option.some.inj hx
 exact hb k ρ H Q hkl hi hk
theorem vc {m f : Nat} {ρ : ap} {H : Hp} {op : CmpOp} {o : E} {es : Es} {x : V} {vs : List V} {a b r : Ss} {Q : SQ} (p : Ev m ρ H o x) (q : bc m ρ H es vs) (g : (cf m).Sp f vs H fun y H₂ => ez op x y H₂ fun v aD => truth v aD fun c => match c with | true => WB (cf m) a ρ aD (KB (cf m) r Q) | false => WB (cf m) b ρ aD (KB (cf m) r Q)) :
  WB (cf m) (.cons (.ite (.cmp op o (.call f es)) a b) r) ρ H Q := aj (cG (p.s _ (q.s _ g)))
section
variable {m n xa cc d : Nat} {ρ : ap} {H H' : Hp} {o e t : E} {b r : Ss} {Q : SQ} {v : V} {fs : List (Nat × V)} {c : Bool}
theorem bD (g : ay (cf m) e ρ H fun v H₁ => ay (cf m) o ρ H₁ fun x H₂ => dB x n v jS H₂ fun aD => WB (cf m) r ρ aD Q) : WB (cf m) (.cons (.aE o n e) r) ρ H Q := aj (aR g)
theorem bQ (p : Ev m ρ H o (.ref xa)) (m1 : List.Mem (xa, .inst cc d) H) (u : Upd d (.dict fs) (.dict (fset fs n v)) H H') (l : Nat.ble fs.length 100 = true) (k : jS cc n = true) (g : WB (cf m) r ρ H' Q) :
  ay (cf m) o ρ H fun x H₂ => dB x n v jS H₂ fun aD => WB (cf m) r ρ aD Q := p.s _ ⟨_, _, _, _, _, rfl, m1, u, Nat.le_of_ble_eq_true l, k, g⟩
theorem vd (p : Tv m ρ H t c) (g : br c (WB (cf m) b ρ H (fun fl af H' => match fl with | .ret v => Q (.ret v) af H' | _ => ∃ aH, Sb aH H' ∧ eB (ce (cf m) t) (WB (cf m) b) n af aH Q)) (Q .next ρ H)) : eB (ce (cf m) t) (WB (cf m) b) (n + 1) ρ H Q := p.s _ (by cases c <;> exact g)
end
set_option compiler.extract_closed false
local macro_rules | `(tactic| walk_at "n6") => `(tactic| first | assumption | exact ai rfl | exact az ‹_› rfl | exact CK ‹_› rfl | exact CL ‹_› rfl | exact EU ‹_› ‹_› rfl | exact Nat.lt_of_lt_of_le ‹_› ‹_› | exact CM ‹_› ‹_›)
local macro_rules | `(tactic| walk_at "ar") => `(tactic| (apply Ar.mk; first | walk_at "n6" | trivial | (exact ⟨by walk_at "n6", by walk_at "n6"⟩) | omega))
local macro_rules | `(tactic| walk_at "m") => `(tactic| first | assumption | exact List.Mem.head _ | (apply List.Mem.tail; walk_at "m"))
local macro_rules | `(tactic| walk_at "u") => `(tactic| first | with_reducible apply Upd.here | (with_reducible apply Upd.there; walk_at "u"))
local macro_rules | `(tactic| walk_at "l") => `(tactic| first | assumption | exact rfl)
local macro_rules | `(tactic| walk_at "gl") => `(tactic| first | (apply Gw; walk_at "ar"; walk_at "ar") | (apply Gx; walk_at "ar"; walk_at "ar") | (apply EY; walk_at "ar"; walk_at "ar") | (apply EZ; walk_at "l"; walk_at "ar"))
local macro_rules | `(tactic| walk_at "ix") => `(tactic| first | (apply wg; walk_at "m"; walk_at "gl") | (apply Gy; walk_at "m"; walk_at "gl") | (apply CS; walk_at "ar"; walk_at "ar"))
local macro_rules | `(tactic| walk_at "ln") => `(tactic| first | (apply GE; walk_at "m"; (first | apply Gz | apply GB | apply GC); walk_at "ar") | (apply GF; walk_at "ar"))
local macro_rules | `(tactic| walk_at "o") => `(tactic| first | (apply wf; exact rfl; walk_at "ar") | (apply nP; walk_at "ar") | (with_reducible apply yy; walk_at "ar"; walk_at "ar") | (with_reducible apply qN; walk_at "ar") | (with_reducible apply yA; walk_at "ar") | with_reducible exact Op.add | with_reducible exact Op.sub | with_reducible exact CQ | with_reducible exact Op.and)
local macro_rules | `(tactic| walk_at "c") => `(tactic| first | (apply CR; exact rfl) | exact c_1 | exact EW | exact EX | (apply tN; exact rfl))
local macro_rules | `(tactic| walk_at "v") => `(tactic| first
 | (apply cT; walk_at "l")
 | apply cU
 | (apply gR; exact rfl)
 | (apply AE; exact rfl)
 | (apply E8; walk_at "v"; walk_at "v")
 | (apply f9; walk_at "v"; walk_at "v"; walk_at "o")
 | (apply e_a; walk_at "v"; walk_at "m"; walk_at "m"; walk_at "l"; exact rfl)
 | (apply e_i; walk_at "v"; walk_at "v"; walk_at "ix")
 | (apply wh; walk_at "v"; walk_at "v"; walk_at "c")
 | (apply GH; walk_at "v"; walk_at "ln")
 | (apply CU; walk_at "v")
 | (apply CV; walk_at "v"; walk_at "v")
 | (apply E4; walk_at "t"; walk_at "v"; walk_at "v"; (first | exact E5 | exact E7 | exact E6 | exact rfl))
 | (apply yC; walk_at "v")
 | (apply Fb; walk_at "v")
 | (apply GK; walk_at "v"; walk_at "v")
 | (apply Fc; walk_at "v")
 | (apply e_n; walk_at "v"; walk_at "v"))
local macro_rules | `(tactic| walk_at "t") => `(tactic| first
 | (apply tO; walk_at "v"; exact rfl; exact rfl)
 | (apply t_n; walk_at "t")
 | (apply B2; walk_at "t")
 | (apply E'; walk_at "t"; walk_at "t")
 | (apply B3; walk_at "t")
 | (apply Fa; walk_at "t"; walk_at "t")
 | apply GJ)
local macro_rules | `(tactic| walk_at "vs") => `(tactic| first | exact bc.nil | (apply bc.cons; walk_at "v"; walk_at "vs"))
local macro_rules | `(tactic| walk_at "sl") => `(tactic| first | (apply s_i; walk_at "ar"; walk_at "ar") | (apply GL; walk_at "ar"; walk_at "ar") | (apply GM; walk_at "ar"; walk_at "ar"))
local macro_rules | `(tactic| walk_at "S") => `(tactic| first
 | (apply fg; walk_at "v")
 | (apply kL; walk_at "t")
 | (apply nR; walk_at "v")
 | (apply fh; walk_at "vs")
 | (apply sw; walk_at "vs")
 | (apply gr; walk_at "vs")
 | (apply CX; walk_at "v"; walk_at "v"; walk_at "u"; (first | apply a_i | apply a_l); walk_at "ar")
 | (apply nS; walk_at "v"; walk_at "v"; walk_at "m"; walk_at "u"; exact rfl; exact rfl)
 | (apply qO; walk_at "v"; walk_at "v"; walk_at "v"; walk_at "u"; walk_at "sl")
 | (apply iI; walk_at "l"; walk_at "v"; walk_at "o"; trivial)
 | (apply AF; walk_at "v"; walk_at "v"; walk_at "u"; walk_at "gl"; walk_at "v"; walk_at "o"; trivial; walk_at "sl")
 | (apply AG; walk_at "v"; walk_at "m"; walk_at "u"; walk_at "l"; exact rfl; walk_at "v"; walk_at "o"; trivial; exact rfl)
 | apply an)
local macro_rules | `(tactic| walk_at "G") => `(tactic| repeat walk_at "S")
local macro_rules | `(tactic| walk_at "pick") => `(tactic| first | with_reducible apply Pick.here | (with_reducible apply Pick.there; walk_at "pick"))
local macro_rules | `(tactic| walk_at "sb") => `(tactic| first | with_reducible apply Sb.refl | with_reducible apply Sb.nil | (with_reducible apply Sb.pick; walk_at "pick"; walk_at "sb") | (with_reducible apply Sb.skip; walk_at "sb"))
structure PA where
 (x d bd kd sd hd : Nat)
structure PD where
 (b k s : List Nat) (side rights : Nat) (ep : Int) (half full key : Nat)
noncomputable def Fg (A : PA) (g z : Nat) (P : PD) : List (Nat × V) :=
 [(19, .ref g), (20, .ref z), (21, .ref A.bd), (22, .ref A.kd), (23, .ref A.sd), (18, .int P.side), (17, .int P.rights), (16, .int P.ep), (24, .int P.half), (3, .int P.full), (25, .int P.key), (26, .ref A.hd)]
noncomputable abbrev dy (A : PA) (g z : Nat) (P : PD) (T : Hp) : Hp :=
 (A.x, .inst cPos A.d) :: (A.d, .dict (Fg A g z P)) :: (A.bd, .list (ak P.b)) :: (A.kd, .list (ak P.k)) :: (A.sd, .list (ak P.s)) :: (A.hd, .list []) :: T
structure bB (A : PA) (g z : Nat) (P : PD) (H : Hp) : Prop where
 i : (A.x, .inst cPos A.d) ∈ H
 f : (A.d, .dict (Fg A g z P)) ∈ H
 b : (A.bd, .list (ak P.b)) ∈ H
 k : (A.kd, .list (ak P.k)) ∈ H
 s : (A.sd, .list (ak P.s)) ∈ H
 h : (A.hd, .list []) ∈ H
structure GA where
 (g d rm ra kg kn pw p0 p1 cs : Nat) (rr ca : Nat → Nat) (fs : List (Nat × V))
structure GD where
 (aa ab : Nat) (hd : Bool) (rm kg kn p0 p1 : List Nat) (ry : Nat → List Nat) (cs : Nat → Option (Nat × Nat × Nat × Nat))
noncomputable def yJ (A : GA) (G : GD) (i : Nat) : V := match G.cs i with | some _ => .ref (A.ca i) | none => .none
structure aS (A : GA) (G : GD) (H : Hp) : Prop where
 i : (A.g, .inst ig A.d) ∈ H
 f : (A.d, .dict A.fs) ∈ H
 l0 : A.fs.lookup 0 = some (.int G.aa)
 l1 : A.fs.lookup 1 = some (.int G.ab)
 l2 : A.fs.lookup 2 = some (.int (G.aa * G.ab : Nat))
 l4 : A.fs.lookup 4 = some (.bool G.hd)
 l7 : A.fs.lookup 7 = some (.ref A.rm)
 l8 : A.fs.lookup 8 = some (.ref A.ra)
 l9 : A.fs.lookup 9 = some (.ref A.kg)
 l10 : A.fs.lookup 10 = some (.ref A.kn)
 Fi : A.fs.lookup 11 = some (.ref A.pw)
 Fj : A.fs.lookup 12 = some (.ref A.cs)
 rm : (A.rm, .list (ak G.rm)) ∈ H
 ra : (A.ra, .list ((List.range 8).map fun d => .ref (A.rr d))) ∈ H
 rr : ∀ d, d < 8 → (A.rr d, .list (ak (G.ry d))) ∈ H
 kg : (A.kg, .list (ak G.kg)) ∈ H
 kn : (A.kn, .list (ak G.kn)) ∈ H
 pw : (A.pw, .list [.ref A.p0, .ref A.p1]) ∈ H
 p0 : (A.p0, .list (ak G.p0)) ∈ H
 p1 : (A.p1, .list (ak G.p1)) ∈ H
 cs : (A.cs, .list ((List.range 4).map (yJ A G))) ∈ H
 ca : ∀ i a b c d, i < 4 → G.cs i = some (a, b, c, d) → (A.ca i, .tup [.int a, .int b, .int c, .int d]) ∈ H
structure eo (G : GD) : Prop where
 f : 2 ≤ G.aa ∧ G.aa ≤ 8
 r : 3 ≤ G.ab ∧ G.ab ≤ 8
 s : G.aa * G.ab ≤ 35
 rm : G.rm.length = G.ab
 kg : G.kg.length = G.aa * G.ab
 kn : G.kn.length = G.aa * G.ab
 p0 : G.p0.length = G.aa * G.ab
 p1 : G.p1.length = G.aa * G.ab
 ry : ∀ d, d < 8 → (G.ry d).length = G.aa * G.ab
structure ZA where
 (z d pc ep rt : Nat) (pr : Nat → Nat) (pl : List V) (fs : List (Nat × V))
structure ZD where
 (pc : Nat → List Nat) (ep rt : List Nat) (sd : Nat)
noncomputable def bM (p : Nat) : Prop := (1 ≤ p ∧ p ≤ 6) ∨ (9 ≤ p ∧ p ≤ 14)
structure dK (A : ZA) (Z : ZD) (aa size : Nat) (H : Hp) : Prop where
 i : (A.z, .inst nJ A.d) ∈ H
 f : (A.d, .dict A.fs) ∈ H
 GN : A.fs.lookup 15 = some (.ref A.pc)
 GO : A.fs.lookup 16 = some (.ref A.ep)
 GP : A.fs.lookup 17 = some (.ref A.rt)
 GQ : A.fs.lookup 18 = some (.int Z.sd)
 pc : (A.pc, .list A.pl) ∈ H
 pl : A.pl.length ≤ 100
 pr : ∀ p, bM p → A.pl[p]? = some (.ref (A.pr p)) ∧ (A.pr p, .list (ak (Z.pc p))) ∈ H ∧ (Z.pc p).length = size
 ep : (A.ep, .list (ak Z.ep)) ∈ H
 le : Z.ep.length = aa
 rt : (A.rt, .list (ak Z.rt)) ∈ H
 lr : Z.rt.length = 16
theorem bB.up {A : PA} {g z : Nat} {P : PD} {H : Hp} {c : Nat × O} (h : bB A g z P H) : bB A g z P (c :: H) :=
 ⟨.tail _ h.i, .tail _ h.f, .tail _ h.b, .tail _ h.k, .tail _ h.s, .tail _ h.h⟩
theorem bB.here {A : PA} {g z : Nat} {P : PD} {T : Hp} : bB A g z P (dy A g z P T) :=
 ⟨by simp, by simp, by simp, by simp, by simp, by simp⟩
theorem aS.up {A : GA} {G : GD} {H : Hp} {c : Nat × O} (h : aS A G H) : aS A G (c :: H) :=
 { h with i := .tail _ h.i, f := .tail _ h.f, rm := .tail _ h.rm, ra := .tail _ h.ra, rr := fun d e => .tail _ (h.rr d e), kg := .tail _ h.kg, kn := .tail _ h.kn, pw := .tail _ h.pw, p0 := .tail _ h.p0, p1 := .tail _ h.p1, cs := .tail _ h.cs, ca := fun i a b c d e f => .tail _ (h.ca i a b c d e f) }
theorem dK.up {A : ZA} {Z : ZD} {f s : Nat} {H : Hp} {c : Nat × O} (h : dK A Z f s H) : dK A Z f s (c :: H) :=
 { h with i := .tail _ h.i, f := .tail _ h.f, pc := .tail _ h.pc, pr := fun p e => ⟨(h.pr p e).1, .tail _ (h.pr p e).2.1, (h.pr p e).2.2⟩, ep := .tail _ h.ep, rt := .tail _ h.rt }
theorem nU {n p : Nat} {H Q} (hf : 2 < n) (h : Q (.int (p &&& 7 : Nat)) H) : (cf n).Sp 2 [.int p] H Q := by
 refine au hf rfl rfl fun m hm => ?_
 walk_at "G"
 exact ⟨_, Sb.refl, h⟩
theorem tQ {n p : Nat} {H Q} (hf : 1 < n) (h : Q (.int (p >>> 3 : Nat)) H) : (cf n).Sp 1 [.int p] H Q := by
 refine au hf rfl rfl fun m hm => ?_
 walk_at "G"
 exact ⟨_, Sb.refl, h⟩
theorem dQ {n s k : Nat} {H Q} (hf : 0 < n) (h : Q (.int (s * 8 + k : Nat)) H) : (cf n).Sp 0 [.int s, .int k] H Q := by
 refine au hf rfl rfl fun m hm => ?_
 walk_at "G"
 exact ⟨_, Sb.refl, h⟩
noncomputable def putD (Z : ZD) (P : PD) (p s : Nat) : PD :=
 { P with b := P.b.set s p, k := P.k.set (p &&& 7) (P.k.getD (p &&& 7) 0 ||| 1 <<< s), s := P.s.set (p >>> 3) (P.s.getD (p >>> 3) 0 ||| 1 <<< s), key := P.key ^^^ (Z.pc p).getD s 0 }
theorem ve {p : Nat} (h : bM p) : p < 15 := h.elim (fun q => Nat.lt_of_le_of_lt q.2 (by decide)) (fun q => Nat.lt_of_le_of_lt q.2 (by decide))
theorem j9 {p : Nat} (h : bM p) : p &&& 7 < 7 ∧ p >>> 3 < 2 := (by unfold bM; decide : ∀ p, p < 15 → bM p → p &&& 7 < 7 ∧ p >>> 3 < 2) p (ve h) h
theorem C1 {n : Nat} {A : PA} {B : ZA} {Z : ZD} {P : PD} {g p s f z : Nat} {T : Hp} {Q : V → Hp → Prop} (hf : 34 < n) (hp : bM p) (hs : s < P.b.length) (hb : P.b.length ≤ 100) (hk : P.k.length = 7) (hs2 : P.s.length = 2)
  (hz : dK B Z f P.b.length T) (h : Q .none (dy A g B.z (putD Z P p s) T)) : (cf n).Sp 34 [.ref A.x, .int p, .int s] (dy A g B.z P T) Q := by
 obtain ⟨q1, q2⟩ := j9 hp
 obtain ⟨z1, z2, z3, z4, z5, z6, z7, z8, z9, Fk, AN, Fm, AO⟩ := hz
 obtain ⟨r1, r2, r3⟩ := z9 p hp
 have s1 : s ≤ 1000 := Nat.le_of_lt (Nat.lt_of_lt_of_le hs (Nat.le_trans hb (ai rfl)))
 have s2 : p &&& 7 < P.k.length := hk ▸ q1
 have s3 : p >>> 3 < P.s.length := hs2 ▸ q2
 have s4 : s < (Z.pc p).length := r3 ▸ hs
 have s5 : (Z.pc p).length ≤ 100 := r3 ▸ hb
 refine au hf rfl rfl fun m hm => ?_
 walk_at "G"
 refine aj (aR (Ev.s (v := .ref A.kd) (by walk_at "v") _ (bc.s (vs := [.int p]) (by walk_at "vs") _ (nU (aq hm rfl) ?_))))
 apply u8; walk_at "u"; walk_at "gl"; walk_at "v"; walk_at "o"; trivial; walk_at "sl"
 refine aj (aR (Ev.s (v := .ref A.sd) (by walk_at "v") _ (bc.s (vs := [.int p]) (by walk_at "vs") _ (tQ (aq hm rfl) ?_))))
 apply u8; walk_at "u"; walk_at "gl"; walk_at "v"; walk_at "o"; trivial; walk_at "sl"
 walk_at "G"
 exact ⟨_, Sb.refl, h⟩
open PySem.Builtin PySem.Builtin.Str PySem.StrLaws
noncomputable def dig (n : Nat) : List Nat := (Nat.toDigits 10 n).map Char.toNat
theorem sE (n : Nat) : un (Str.ofString (toString (n : Int))) = dig n := by
 unfold un dig
 have : (toString (n : Int)).toList = Nat.toDigits 10 n := by
  rw [Int.toString_eq_repr, Int.repr_eq_if]
  rw [if_pos (Int.natCast_nonneg n), Nat.toList_repr]; rfl
 rw [signs_ofString, this]
theorem dg {n : Nat} (h : n < 10) : dig n = [48 + n] := by
 match n, h with
 | 0, _ => decide +kernel
 | 1, _ => decide +kernel
 | 2, _ => decide +kernel
 | 3, _ => decide +kernel
 | 4, _ => decide +kernel
 | 5, _ => decide +kernel
 | 6, _ => decide +kernel
 | 7, _ => decide +kernel
 | 8, _ => decide +kernel
 | 9, _ => decide +kernel
 | n + 10, h => exact absurd h (by exact Nat.not_le_of_lt (ai rfl))
theorem vf {n : Nat} (h : 10 ≤ n) : dig n = dig (n / 10) ++ [48 + n % 10] := by
 unfold dig
 rw [Nat.toDigits_of_base_le (by decide) h, List.map_append]
 congr 1
 have : n % 10 < 10 := Nat.mod_lt _ (by decide)
 generalize n % 10 = k at this
 match k, this with
 | 0, _ => decide +kernel
 | 1, _ => decide +kernel
 | 2, _ => decide +kernel
 | 3, _ => decide +kernel
 | 4, _ => decide +kernel
 | 5, _ => decide +kernel
 | 6, _ => decide +kernel
 | 7, _ => decide +kernel
 | 8, _ => decide +kernel
 | 9, _ => decide +kernel
 | n + 10, h => exact absurd h (by exact Nat.not_le_of_lt (ai rfl))
noncomputable def cL (s : List Nat) (c : Nat) : Int := match s.findIdx? (· == c) with | some i => i | none => -1
noncomputable def bf (c : Nat) : List Nat → List (List Nat)
 | [] => [[]]
 | x :: r => if x = c then [] :: bf c r else match bf c r with
  | p :: q => (x :: p) :: q
  | [] => [[x]]
theorem jp (c : Nat) : ∀ s, bf c s ≠ []
 | [] => by simp [bf]
 | x :: r => by unfold bf; split; simp; split <;> simp
noncomputable def fU (c : Nat) : List Nat → Nat → List Nat
 | [], _ => []
 | x :: r, i => if x = c then i :: fU c r (i + 1) else fU c r (i + 1)
theorem yK (s : List Nat) (c : Nat) : occurrences (st s) (st [c]) 0 s.length (s.length + 1) = fU c s 0 := by
 rw [occ_eq]
 have key : ∀ (r : List Nat) (i : Nat) (pre : List Nat) (a : Array Nat) (f : Nat), s = pre ++ r → i = pre.length → f ≤ i → a.size ≤ i →
   (forIn (List.range' i (r.length + 1)) (a, f) (occBody (st s) (st [c]) s.length (s.length + 1))).run.fst.toList = a.toList ++ fU c r i := by
  intro r
  induction r with
  | nil =>
   intro i pre a f hs hi hf ha
   have hl : s.length = i := by rw [hs, hi]; simp
   rw [show ([] : List Nat).length + 1 = 1 from rfl, List.range'_one, List.forIn_cons]
   unfold occBody
   rw [if_neg (by rintro ⟨⟨_, h⟩, _⟩; have : [c].length = 1 := rfl; simp [Str.length] at h; (exact ln [_,_] [.eq (.v 0) (.v 1),.le (.a (.v 1) (.n 1)) (.v 0)] .ff [0,1,1] rfl hl h))]
   simp [fU]
  | cons x r ih =>
   intro i pre a f hs hi hf ha
   have hl : s.length = i + (r.length + 1) := by rw [hs, hi]; simp
   rw [List.range'_succ, List.forIn_cons]
   have hat : subAt (st s) (st [c]) i = decide (x = c) := by
    rw [subAt_eq]
    have : (st s).cps.toList.drop i = x :: r := by show s.toArray.toList.drop i = _; rw [List.toList_toArray, hs, hi]; simp
    rw [this]
    show ((x :: r).take 1 == [c]) = _
    by_cases h : x = c <;> simp [List.take, h]
   unfold fU
   by_cases h : x = c
   ·rw [if_pos h]
    have := ih (i + 1) (pre ++ [x]) (a.push i) (i + 1) (by rw [hs]; simp) (by simp [hi]) (Nat.le_refl _) (by simp; (exact ha))
    unfold occBody at this ⊢
    rw [if_pos ⟨⟨⟨by show a.size < s.length + 1; (exact ln [_,_,_,_] [.le (.v 0) (.v 2),.eq (.v 1) (.a (.v 2) (.a (.v 3) (.n 1)))] (.lt (.v 0) (.a (.v 1) (.n 1))) [1,1,-1] rfl ha hl), hf⟩, by show i + 1 ≤ _; (exact ln [_,_,_] [.eq (.v 1) (.a (.v 0) (.a (.v 2) (.n 1)))] (.le (.a (.v 0) (.n 1)) (.v 1)) [1,-1] rfl hl)⟩, by rw [hat]; simpa using h⟩]
    refine Eq.trans this ?_
    simp
   ·rw [if_neg h]
    have := ih (i + 1) (pre ++ [x]) a f (by rw [hs]; simp) (by simp [hi]) (by exact Nat.le_trans hf (Nat.le_add_right _ _)) (by exact Nat.le_trans ha (Nat.le_add_right _ _))
    unfold occBody at this ⊢
    rw [if_neg (by rintro ⟨_, q⟩; rw [hat] at q; exact h (by simpa using q))]
    exact this
 have := key s 0 [] #[] 0 rfl rfl (Nat.le_refl _) (Nat.le_refl _)
 simpa using this
theorem tR (c : Nat) (s : List Nat) : ∀ (r cur pre : List Nat), s = pre ++ cur ++ r →
  (partsFrom (st s) 1 pre.length (fU c r (pre.length + cur.length))).map un = match bf c r with | p :: q => (cur ++ p) :: q | [] => [] := by
 intro r
 induction r with
 | nil =>
  intro cur pre hs
  show [un (strSub (st s) pre.length (st s).length)] = [cur ++ []]
  unfold un
  rw [strSub_toList]
  show [(s.toArray.toList.drop _).take _] = _
  rw [List.toList_toArray, hs]
  simp [Str.length]
 | cons x r ih =>
  intro cur pre hs
  unfold fU bf
  by_cases h : x = c
  ·rw [if_pos h, if_pos h]
   show un (strSub (st s) pre.length (pre.length + cur.length)) :: (partsFrom (st s) 1 (pre.length + cur.length + 1) (fU c r (pre.length + cur.length + 1))).map un = (cur ++ []) :: bf c r
   have e := ih [] (pre ++ cur ++ [x]) (by rw [hs]; simp)
   have el : (pre ++ cur ++ [x]).length = pre.length + cur.length + 1 := by simp; (exact lie [_,_] [] (.a (.v 0) (.a (.v 1) (.n 1))) (.a (.a (.v 0) (.v 1)) (.n 1)) [1] [1] rfl rfl)
   rw [el, List.length_nil, Nat.add_zero] at e
   rw [e]
   congr 1
   ·unfold un
    rw [strSub_toList]
    show (s.toArray.toList.drop _).take _ = _
    rw [List.toList_toArray, hs]
    simp
   ·cases hq : bf c r with
    | nil => exact absurd hq (jp c r)
    | cons p q => simp
  ·rw [if_neg h, if_neg h]
   have e := ih (cur ++ [x]) pre (by rw [hs]; simp)
   have el : pre.length + (cur ++ [x]).length = pre.length + cur.length + 1 := by simp; (exact lie [_,_] [] (.a (.v 0) (.a (.v 1) (.n 1))) (.a (.a (.v 0) (.v 1)) (.n 1)) [1] [1] rfl rfl)
   rw [el] at e
   rw [e]
   cases hq : bf c r with
   | nil => exact absurd hq (jp c r)
   | cons p q => simp
theorem tS (c : Nat) : ∀ (s : List Nat), fU c s 0 = [] → bf c s = [s] := by
 suffices g : ∀ (s : List Nat) (i : Nat), fU c s i = [] → bf c s = [s] from fun s => g s 0
 intro s
 induction s with
 | nil => intro _ _; rfl
 | cons x r ih =>
  intro i h
  unfold fU at h
  split at h
  ·cases h
  ·rename_i hx
   unfold bf
   rw [if_neg hx, ih _ h]
theorem nV (c : Nat) (s : List Nat) (hs : ∀ x ∈ s, x < 128) (hc : c < 128) : (Txt.split (st s) (st [c])).map un = bf c s := by
 unfold Txt.split
 have k1 : ∀ l : List Nat, (∀ x ∈ l, x < 128) → Builtin.Str.strKind (st l) = 1 := by
  intro l hl
  unfold Builtin.Str.strKind
  rw [if_pos (by show l.toArray.all _ = true; simp; intro x hx; have := hl x hx; (exact bq this rfl))]
 have e1 : decide (Builtin.Str.strKind (st s) < Builtin.Str.strKind (st [c])) = false := by
  rw [k1 s hs, k1 [c] (by simpa using hc)]; rfl
 have hlen : (st s).length = s.length := by simp [Str.length]
 have yL : occurrences (st s) (st [c]) 0 (st s).length ((st s).length + 1) = fU c s 0 := by rw [hlen]; exact yK s c
 rw [e1, yL]
 by_cases h0 : s = []
 ·subst h0
  rfl
 ·have hl : decide ((st s).length < (st [c]).length) = false := by
   apply decide_eq_false
   have : 0 < s.length := List.length_pos_iff.mpr h0
   rw [hlen]; show ¬ s.length < 1; (exact Nat.not_lt_of_le this)
  rw [hl]
  simp only [Bool.or_false, Bool.false_eq_true, if_false]
  by_cases hp : (fU c s 0).isEmpty = true
  ·rw [if_pos hp, tS c s (by simpa using hp)]
   simp [un]
  ·rw [if_neg hp, partsBetween_eq]
   have := tR c s s [] [] rfl
   simp only [List.length_nil, Nat.add_zero, List.nil_append] at this
   rw [show (st [c]).length = 1 from rfl, this]
   cases hq : bf c s with
   | nil => exact absurd hq (jp c s)
   | cons p q => rfl
noncomputable def glue (c : Nat) : List (List Nat) → List Nat
 | [] => []
 | [x] => x
 | x :: y :: r => x ++ c :: glue c (y :: r)
theorem join_one (c : Nat) : ∀ (L : List (List Nat)), un (Txt.join (st [c]) (L.map st)) = glue c L := by
 have go : ∀ L : List (List Nat), un (Str.join (st [c]) (L.map st)) = glue c L := by
  intro L
  induction L with
  | nil => rfl
  | cons x L ih =>
  cases L with
  | nil => simp [Str.join, un, glue]
  | cons y r =>
   show un (st x ++ st [c] ++ Str.join (st [c]) ((y :: r).map st)) = x ++ c :: glue c (y :: r)
   rw [← ih]
   generalize Str.join (st [c]) ((y :: r).map st) = J
   show ((x.toArray ++ [c].toArray) ++ J.cps).toList = _
   simp [un]
 intro L
 unfold Txt.join
 rw [glued_eq_join]
 exact go L
theorem ip (c : Nat) : ∀ (L : List (List Nat)), L ≠ [] → (∀ p ∈ L, c ∉ p) → bf c (glue c L) = L
 | [], h, _ => absurd rfl h
 | [x], _, h => by
  have hx := h x (by simp)
  show bf c x = [x]
  clear h
  rename_i hz; clear hz
  induction x with
  | nil => rfl
  | cons a x ih =>
   unfold bf
   rw [if_neg (fun e => hx (by simp [e])), ih (fun e => hx (by simp [e]))]
 | x :: y :: r, _, h => by
  have ih := ip c (y :: r) (by simp) (fun p hp => h p (by simp at hp ⊢; exact .inr hp))
  have hx := h x (by simp)
  show bf c (x ++ c :: glue c (y :: r)) = _
  clear h
  rename_i hz; clear hz
  induction x with
  | nil => show bf c (c :: glue c (y :: r)) = _; unfold bf; rw [if_pos rfl, ih]
  | cons a x GR =>
   show bf c (a :: (x ++ c :: glue c (y :: r))) = _
   unfold bf
   rw [if_neg (fun e => hx (by simp [e])), GR (fun e => hx (by simp [e]))]
noncomputable def oZ : List Int := [1, 0, -1, 0, 1, -1, -1, 1]
noncomputable def f' : List V := oZ.map .int
noncomputable def grow (d : Nat) : Bool := decide (0 < oZ.getD d 0) || decide (d = 1)
theorem vg {n d : Nat} {H Q} (hf : 6 < n) (hd : d < 8) (hr : (dX, .tup f') ∈ H) (h : Q (.bool (grow d)) H) : (cf n).Sp 6 [.int d] H Q := by
 have hx : f'[d]? = some (.int (oZ.getD d 0)) := by
  have hd : d < oZ.length := hd
  rw [f', List.getElem?_map, List.getElem?_eq_getElem hd, List.getD_eq_getElem?_getD, List.getElem?_eq_getElem hd]; rfl
 refine au hf rfl rfl fun m hm => ?_
 walk_at "G"
 exact ⟨_, Sb.refl, h⟩
noncomputable def tT (x : Nat) : Nat :=
 let b := x >>> 1
 let b := b ||| b >>> 1
 let b := b ||| b >>> 2
 let b := b ||| b >>> 4
 let b := b ||| b >>> 8
 let b := b ||| b >>> 16
 b ||| b >>> 32
noncomputable def ed (ray ck : Nat) (g : Bool) : Nat :=
 if ray &&& ck = 0 then ray else if g then ray &&& ((ray &&& ck) ^^^ ((ray &&& ck) - 1)) else ray - (ray &&& tT (ray &&& ck))
theorem yM {n d sq ck : Nat} {A : GA} {G : GD} {H : Hp} {Q : V → Hp → Prop} (hf : 16 < n) (hd : d < 8) (hg : aS A G H) (hr : (dX, .tup f') ∈ H) (hs : sq < (G.ry d).length) (hl : (G.ry d).length ≤ 100)
  (h : Q (.int (ed ((G.ry d).getD sq 0) ck (grow d) : Nat)) H) : (cf n).Sp 16 [.ref A.g, .int d, .int sq, .int ck] H Q := by
 have g1 := hg.i; have g2 := hg.f; have g3 := hg.l8; have g4 := hg.ra; have g5 := hg.rr d hd
 refine au hf rfl rfl fun m hm => ?_
 walk_at "G"
 unfold ed at h
 refine bF (fun h0 => ?_) (fun h0 => ?_)
 ·rw [if_pos h0] at h
  walk_at "G"
  exact ⟨_, Sb.refl, h⟩
 ·rw [if_neg h0] at h
  have h1 : 1 ≤ (G.ry d).getD sq 0 &&& ck := Nat.pos_of_ne_zero h0
  refine an (aj (kH (bc.s (vs := [.int d]) (by walk_at "vs")) (vg (aq hm rfl) hd hr (yG (gO (fun hw => ?_) (fun hw => ?_))))))
  ·rw [hw, if_pos rfl] at h
   walk_at "G"
   exact ⟨_, Sb.refl, h⟩
  ·rw [hw, if_neg Bool.false_ne_true] at h
   walk_at "G"
   exact ⟨_, Sb.refl, h⟩
noncomputable def dh (f : Nat → Nat) (k : Nat) : Nat := (List.range k).foldl (fun x d => x ||| f d) 0
theorem fi (f : Nat → Nat) (k : Nat) : dh f (k + 1) = dh f k ||| f k := by
 unfold dh; rw [List.range_succ, List.foldl_append]; rfl
theorem AP {n sq ck : Nat} {A : GA} {G : GD} {H : Hp} {Q : V → Hp → Prop} (hf : 17 < n) (hg : aS A G H) (hr : (dX, .tup f') ∈ H) (hs : ∀ d, d < 8 → sq < (G.ry d).length ∧ (G.ry d).length ≤ 100)
  (h : Q (.int (dh (fun d => ed ((G.ry d).getD sq 0) ck (grow d)) 4 : Nat)) H) : (cf n).Sp 17 [.ref A.g, .int sq, .int ck] H Q := by
 refine au hf rfl rfl fun m hm => ?_
 walk_at "S"
 refine ch cU (fun k af H' => af 0 = some (.ref A.g) ∧ af 1 = some (.int sq) ∧ af 2 = some (.int ck) ∧ af 3 = some (.int (dh (fun d => ed ((G.ry d).getD sq 0) ck (grow d)) k : Nat)) ∧ H' = H) ⟨ai rfl⟩ ⟨rfl, rfl, rfl, rfl, rfl⟩ ?_ ?_
 ·rintro k af H' Q' hk ⟨e0, e1, e2, e3, rfl⟩ hq
  have tU : k < 8 := bq hk rfl
  refine aj (aR ⟨_, e3, bc.s (vs := [.ref A.g, .int k, .int sq, .int ck]) (by walk_at "vs") _ (yM (aq hm rfl) tU hg hr (hs k tU).1 (hs k tU).2 (mj trivial (by walk_at "o") ?_))⟩)
  walk_at "G"
  refine (hq _ _ _ .refl ?_).1
  exact ⟨e0, e1, e2, by rw [fi]; rfl, rfl⟩
 ·rintro af H' ⟨e0, e1, e2, e3, rfl⟩
  walk_at "G"
  exact ⟨_, Sb.refl, h⟩
theorem Fo (lo n : Nat) : (bN (lo : Int) ((lo + n : Nat) : Int) 1).map V.int = (List.range n).map fun (k : Nat) => .int ((lo + k : Nat) : Int) := by
 have e0 : (Builtin.Range.rangeSize (lo : Int) ((lo + n : Nat) : Int) 1).toNat = n := by
  unfold Builtin.Range.rangeSize
  simp
  try omega
 unfold bN; rw [e0]; simp
theorem pI {lo n a : Nat} {H : Hp} (hn : lo + n ≤ 10000) : Src (.ref a) ((a, .range (lo : Int) ((lo + n : Nat) : Int) 1) :: H) none ((List.range n).map fun (k : Nat) => .int ((lo + k : Nat) : Int)) :=
 Fo lo n ▸ .rng (.head _) ⟨Int.le_trans (by decide) (Int.natCast_nonneg _), Int.ofNat_le.mpr (Nat.le_trans (Nat.le_add_right _ _) hn), Int.le_trans (by decide) (Int.natCast_nonneg _), Int.ofNat_le.mpr hn, by decide, by decide, by decide⟩
theorem sG {lo n i a : Nat} {body : ap → Hp → SQ → Prop} {ρ : ap} {H : Hp} {Q : SQ} (I : Nat → ap → Hp → Prop) (hn : lo + n ≤ 10000) (h0 : I 0 ρ H)
  (hb : ∀ k ρ H Q, k < n → I k ρ H → (∀ af H' aH, Sb aH H' → I (k + 1) af aH → Q .next af H' ∧ Q .cont af H') → body (ρ.set i (.int (lo + k : Nat))) H Q)
  (hq : ∀ af H', I n af H' → Q .next af H') :
  ∃ src items, Src (.ref a) ((a, .range (lo : Int) ((lo + n : Nat) : Int) 1) :: H) src items ∧ ∃ H₂, Sb H₂ ((a, .range (lo : Int) ((lo + n : Nat) : Int) 1) :: H) ∧ forL body src items i items ρ H₂ Q := by
 refine ⟨none, _, pI hn, H, .skip .refl, ?_⟩
 refine cZ I h0 (fun _ _ _ _ => trivial) (fun k x ρ H Q hx hi hk => ?_) fun af H' h => hq _ _ (by simpa using h)
 have hkn : k < n := by
  have := (List.getElem?_eq_some_iff.mp hx).1
  simpa using this
 have : x = .int ((lo + k : Nat) : Int) := by
  rw [List.getElem?_map, List.getElem?_range hkn] at hx
  exact (Option.some.inj hx).symm
 subst this
 exact hb k ρ H Q hkn hi hk
theorem AQ {m lo n i : Nat} {ρ : ap} {H : Hp} {b r : Ss} {es : Es} {Q : SQ} (p : bc m ρ H es [.int lo, .int (lo + n : Nat)]) (I : Nat → ap → Hp → Prop) (hn : lo + n ≤ 10000) (h0 : I 0 ρ H)
  (hb : ∀ k ρ H Q, k < n → I k ρ H → (∀ af H' aH, Sb aH H' → I (k + 1) af aH → Q .next af H' ∧ Q .cont af H') → WB (cf m) b (ρ.set i (.int (lo + k : Nat))) H Q)
  (hq : ∀ af H', I n af H' → WB (cf m) r af H' Q) : WB (cf m) (.cons (.for_ i (.blt 1 es) b) r) ρ H Q :=
 aj (eF (p.s _ ⟨⟨Int.le_trans (by decide) (Int.natCast_nonneg _), Int.ofNat_le.mpr (Nat.le_trans (Nat.le_add_right _ _) hn), Int.le_trans (by decide) (Int.natCast_nonneg _), Int.ofNat_le.mpr hn⟩, fun _ => sG I hn h0 hb hq⟩))
theorem AR {n sq ck : Nat} {A : GA} {G : GD} {H : Hp} {Q : V → Hp → Prop} (hf : 18 < n) (hg : aS A G H) (hr : (dX, .tup f') ∈ H) (hs : ∀ d, d < 8 → sq < (G.ry d).length ∧ (G.ry d).length ≤ 100)
  (h : Q (.int (dh (fun d => ed ((G.ry (4 + d)).getD sq 0) ck (grow (4 + d))) 4 : Nat)) H) : (cf n).Sp 18 [.ref A.g, .int sq, .int ck] H Q := by
 refine au hf rfl rfl fun m hm => ?_
 walk_at "S"
 refine AQ (lo := 4) (n := 4) (by walk_at "vs") (fun k af H' => af 0 = some (.ref A.g) ∧ af 1 = some (.int sq) ∧ af 2 = some (.int ck) ∧ af 3 = some (.int (dh (fun d => ed ((G.ry (4 + d)).getD sq 0) ck (grow (4 + d))) k : Nat)) ∧ H' = H) (ai rfl) ⟨rfl, rfl, rfl, rfl, rfl⟩ ?_ ?_
 ·rintro k af H' Q' hk ⟨e0, e1, e2, e3, rfl⟩ hq
  have tU : 4 + k < 8 := Nat.add_lt_add_left hk 4
  refine aj (aR ⟨_, e3, bc.s (vs := [.ref A.g, .int (4 + k : Nat), .int sq, .int ck]) (by walk_at "vs") _ (yM (aq hm rfl) tU hg hr (hs _ tU).1 (hs _ tU).2 (mj trivial (by walk_at "o") ?_))⟩)
  walk_at "G"
  refine (hq _ _ _ .refl ?_).1
  exact ⟨e0, e1, e2, by rw [fi]; rfl, rfl⟩
 ·rintro af H' ⟨e0, e1, e2, e3, rfl⟩
  walk_at "G"
  exact ⟨_, Sb.refl, h⟩
theorem sH {n : Nat} {A : PA} {g z : Nat} {P : PD} {H Q} (hf : 43 < n) (hp : bB A g z P H) (hk : P.k.length = 7) (h : Q (.int (P.k.getD 4 0 ||| P.k.getD 5 0 : Nat)) H) : (cf n).Sp 43 [.ref A.x] H Q := by
 have p1 := hp.i; have p2 := hp.f; have p4 := hp.k
 have l4 : 4 < P.k.length := hk ▸ ai rfl
 have l5 : 5 < P.k.length := hk ▸ ai rfl
 have l6 : P.k.length ≤ 100 := hk ▸ ai rfl
 refine au hf rfl rfl fun m hm => ?_
 walk_at "G"
 exact ⟨_, Sb.refl, h⟩
theorem yN {n : Nat} {A : PA} {g z : Nat} {P : PD} {H Q} (hf : 44 < n) (hp : bB A g z P H) (hk : P.k.length = 7) (h : Q (.int (P.k.getD 3 0 ||| P.k.getD 5 0 : Nat)) H) : (cf n).Sp 44 [.ref A.x] H Q := by
 have p1 := hp.i; have p2 := hp.f; have p4 := hp.k
 have l4 : 3 < P.k.length := hk ▸ ai rfl
 have l5 : 5 < P.k.length := hk ▸ ai rfl
 have l6 : P.k.length ≤ 100 := hk ▸ ai rfl
 refine au hf rfl rfl fun m hm => ?_
 walk_at "G"
 exact ⟨_, Sb.refl, h⟩
theorem pJ {n s k : Nat} {A : PA} {g z : Nat} {P : PD} {H Q} (hf : 35 < n) (hp : bB A g z P H) (hk : P.k.length = 7) (hs : P.s.length = 2) (h1 : s < 2) (h2 : k < 7) (h : Q (.int (P.s.getD s 0 &&& P.k.getD k 0 : Nat)) H) : (cf n).Sp 35 [.ref A.x, .int s, .int k] H Q := by
 have p1 := hp.i; have p2 := hp.f; have p4 := hp.k; have p5 := hp.s
 have l4 : k < P.k.length := hk ▸ h2
 have l5 : s < P.s.length := hs ▸ h1
 have l6 : P.k.length ≤ 100 := hk ▸ ai rfl
 have l7 : P.s.length ≤ 100 := hs ▸ ai rfl
 refine au hf rfl rfl fun m hm => ?_
 walk_at "G"
 exact ⟨_, Sb.refl, h⟩
noncomputable def pw (G : GD) (i : Nat) : List Nat := if i = 0 then G.p0 else G.p1
noncomputable def tV (G : GD) (P : PD) (sq side : Nat) : Nat := (pw G (1 - side)).getD sq 0 &&& P.k.getD 1 0 &&& P.s.getD side 0
noncomputable def kN (G : GD) (P : PD) (sq side : Nat) : Nat :=
 tV G P sq side ||| (G.kn.getD sq 0 &&& P.k.getD 2 0 ||| G.kg.getD sq 0 &&& P.k.getD 6 0) &&& P.s.getD side 0
theorem yO {B : GA} {G : GD} {H : Hp} {side : Nat} (hg : aS B G H) (go : eo G) (h1 : side < 2) : ∃ d, [V.ref B.p0, .ref B.p1][1 - side]? = some (.ref d) ∧ List.Mem (d, .list (ak (pw G (1 - side)))) H ∧ (pw G (1 - side)).length = G.aa * G.ab := by
 rcases fZ h1 with rfl | rfl
 ·exact ⟨_, rfl, hg.p1, go.p1⟩
 ·exact ⟨_, rfl, hg.p0, go.p0⟩
theorem yP {n sq side z : Nat} {A : PA} {B : GA} {G : GD} {P : PD} {H Q} (hf : 45 < n) (hp : bB A B.g z P H) (hg : aS B G H) (go : eo G) (hk : P.k.length = 7) (hs : P.s.length = 2) (h1 : side < 2) (h2 : sq < G.aa * G.ab)
  (h : Q (.int (tV G P sq side : Nat)) H) : (cf n).Sp 45 [.ref A.x, .int sq, .int side] H Q := by
 have p1 := hp.i; have p2 := hp.f; have p4 := hp.k; have p5 := hp.s; have g1 := hg.i; have g2 := hg.f; have g3 := hg.Fi; have g4 := hg.pw
 obtain ⟨d, x1, x2, x3⟩ := yO hg go h1
 have l1 : 1 < P.k.length := hk ▸ ai rfl
 have l2 : P.k.length ≤ 100 := hk ▸ ai rfl
 have l3 : side < P.s.length := hs ▸ h1
 have l4 : P.s.length ≤ 100 := hs ▸ ai rfl
 have l5 : sq < (pw G (1 - side)).length := x3 ▸ h2
 have l6 : (pw G (1 - side)).length ≤ 35 := x3 ▸ go.s
 refine au hf rfl rfl fun m hm => ?_
 walk_at "G"
 exact ⟨_, Sb.refl, h⟩
theorem yQ {n sq side z : Nat} {A : PA} {B : GA} {G : GD} {P : PD} {H Q} (hf : 46 < n) (hp : bB A B.g z P H) (hg : aS B G H) (go : eo G) (hk : P.k.length = 7) (hs : P.s.length = 2) (h1 : side < 2) (h2 : sq < G.aa * G.ab)
  (h : Q (.int (kN G P sq side : Nat)) H) : (cf n).Sp 46 [.ref A.x, .int sq, .int side] H Q := by
 have p1 := hp.i; have p2 := hp.f; have p4 := hp.k; have p5 := hp.s; have g1 := hg.i; have g2 := hg.f; have g3 := hg.l9; have g4 := hg.kg; have g5 := hg.l10; have g6 := hg.kn
 have l1 : 2 < P.k.length := hk ▸ ai rfl
 have l2 : P.k.length ≤ 100 := hk ▸ ai rfl
 have l3 : side < P.s.length := hs ▸ h1
 have l4 : P.s.length ≤ 100 := hs ▸ ai rfl
 have l5 : 6 < P.k.length := hk ▸ ai rfl
 have l6 : sq < G.kn.length := go.kn ▸ h2
 have l7 : sq < G.kg.length := go.kg ▸ h2
 have l8 : G.kn.length ≤ 35 := go.kn ▸ go.s
 have l9 : G.kg.length ≤ 35 := go.kg ▸ go.s
 refine au hf rfl rfl fun m hm => ?_
 walk_at "G"
 refine cH (u9 (vs := [.ref A.x, .int sq, .int side]) (by walk_at "vs") (yP (aq hm rfl) hp hg go hk hs h1 h2 (yI (by walk_at "v") (by walk_at "o") ?_)))
 exact ⟨_, Sb.refl, h⟩
theorem C2 {n sq side ck z : Nat} {A : PA} {B : GA} {G : GD} {P : PD} {H Q} (hf : 47 < n) (hp : bB A B.g z P H) (hg : aS B G H) (hr : (dX, .tup f') ∈ H) (go : eo G) (hk : P.k.length = 7) (hs : P.s.length = 2) (h1 : side < 2) (h2 : sq < G.aa * G.ab)
  (a1 : kN G P sq side = 0)
  (a2 : dh (fun d => ed ((G.ry d).getD sq 0) ck (grow d)) 4 &&& ((P.k.getD 4 0 ||| P.k.getD 5 0) &&& P.s.getD side 0) = 0)
  (a3 : dh (fun d => ed ((G.ry (4 + d)).getD sq 0) ck (grow (4 + d))) 4 &&& ((P.k.getD 3 0 ||| P.k.getD 5 0) &&& P.s.getD side 0) = 0)
  (h : Q (.bool false) H) : (cf n).Sp 47 [.ref A.x, .int sq, .int side, .int ck] H Q := by
 have p1 := hp.i; have p2 := hp.f; have p5 := hp.s
 have l3 : side < P.s.length := hs ▸ h1
 have l4 : P.s.length ≤ 100 := hs ▸ ai rfl
 have Fp : ∀ d, d < 8 → sq < (G.ry d).length ∧ (G.ry d).length ≤ 100 := fun d hd => by rw [go.ry d hd]; exact ⟨h2, Nat.le_trans go.s (ai rfl)⟩
 refine au hf rfl rfl fun m hm => ?_
 refine aj (kH (bc.s (vs := [.ref A.x, .int sq, .int side]) (by walk_at "vs")) (yQ (aq hm rfl) hp hg go hk hs h1 h2 (B5 (bj (fun q => q a1) ?_))))
 walk_at "G"
 refine j8 (u9 (vs := [.ref A.x]) (by walk_at "vs") (sH (aq hm rfl) hp hk (yI (by walk_at "v") (by walk_at "o") ?_)))
 refine yH (qM (sC (by walk_at "t") (fun _ T' g' => jU (Av (bc.s (vs := [.ref B.g, .int sq, .int ck]) (by walk_at "vs") _ (AP (aq hm rfl) hg hr Fp (yI (by walk_at "v") (by walk_at "o") (B5 (bj (fun q => q a2) g'))))))) ?_))
 walk_at "G"
 refine j8 (u9 (vs := [.ref A.x]) (by walk_at "vs") (yN (aq hm rfl) hp hk (yI (by walk_at "v") (by walk_at "o") ?_)))
 refine cH (AM (by walk_at "v") (fun _ R' g' => uZ (nT (u9 (vs := [.ref B.g, .int sq, .int ck]) (by walk_at "vs") (AR (aq hm rfl) hg hr Fp (yI (by walk_at "v") (by walk_at "o") (Fe cU (by walk_at "c") (by exact decide_eq_false fun q => q a3) g')))))) ?_)
 exact ⟨_, Sb.refl, h⟩
theorem AS {n k : Nat} {H Q} (hf : 19 < n) (h : Q (.bool false) H) : (cf n).Sp 19 [.int (1 <<< k : Nat)] H Q := by
 have := dc k
 have e2 : 1 <<< k &&& (1 <<< k - 1) = 0 := by
  rw [Nat.shiftLeft_eq, Nat.one_mul, Nat.and_two_pow_sub_one_eq_mod]
  exact Nat.mod_self _
 refine au hf rfl rfl fun m hm => ?_
 walk_at "G"
 exact ⟨_, Sb.refl, by rw [decide_eq_false fun q => q e2]; exact h⟩
noncomputable def j' (Z : ZD) (P : PD) (aa : Nat) : Nat :=
 Z.rt.getD P.rights 0 ^^^ (if 0 ≤ P.ep then Z.ep.getD (P.ep.toNat % aa) 0 else 0) ^^^ (if P.side = 1 then Z.sd else 0)
theorem AT {n : Nat} {A : PA} {B : GA} {G : GD} {D : ZA} {Z : ZD} {P : PD} {H Q} (hf : 30 < n) (hp : bB A B.g D.z P H) (hg : aS B G H) (go : eo G) (hz : dK D Z G.aa (G.aa * G.ab) H) (hr : P.rights < 16) (he : -1 ≤ P.ep) (hs : P.side < 2)
  (h : Q (.int (j' Z P G.aa : Nat)) H) : (cf n).Sp 30 [.ref A.x] H Q := by
 have p1 := hp.i; have p2 := hp.f; have g1 := hg.i; have g2 := hg.f; have g3 := hg.l0; have z1 := hz.i; have z2 := hz.f; have z3 := hz.GO; have z4 := hz.GP; have z5 := hz.GQ; have z6 := hz.ep; have z7 := hz.rt
 have l1 : P.rights < Z.rt.length := hz.lr ▸ hr
 have l2 : Z.rt.length ≤ 16 := Nat.le_of_eq hz.lr
 unfold j' at h
 refine au hf rfl rfl fun m hm => ?_
 walk_at "G"
 refine bF (fun e => ?_) (fun e => ?_)
 ·have e : 0 ≤ P.ep := e
  rw [if_pos e] at h
  have e2 : P.ep.fmod (G.aa : Int) = ((P.ep.toNat % G.aa : Nat) : Int) := by
   obtain ⟨k, hk⟩ := Int.eq_ofNat_of_zero_le e
   rw [hk]; exact yv k G.aa
  have f0 : 0 < G.aa := cY go.f.1 rfl
  have e3 : P.ep.toNat % G.aa < Z.ep.length := by rw [hz.le]; exact Nat.mod_lt _ f0
  have e4 : Z.ep.length ≤ 8 := hz.le ▸ go.f.2
  refine iI (by walk_at "l") (e_i (by walk_at "v") (f9 (by walk_at "v") (by walk_at "v") (B6 e2 f0)) (by walk_at "ix")) (by walk_at "o") (by exact trivial) ?_
  walk_at "G"
  refine bF (fun e => ?_) (fun e => ?_)
  ·rw [if_pos e] at h
   walk_at "G"
   exact ⟨_, Sb.refl, h⟩
  ·rw [if_neg e, Nat.xor_zero] at h
   walk_at "G"
   exact ⟨_, Sb.refl, h⟩
 ·have e : ¬ 0 ≤ P.ep := e
  rw [if_neg e, Nat.xor_zero] at h
  walk_at "G"
  refine bF (fun e => ?_) (fun e => ?_)
  ·rw [if_pos e] at h
   walk_at "G"
   exact ⟨_, Sb.refl, h⟩
  ·rw [if_neg e, Nat.xor_zero] at h
   walk_at "G"
   exact ⟨_, Sb.refl, h⟩
noncomputable def fj (f : Nat → Nat) (k x : Nat) : Nat := (List.range k).foldl (fun x d => x ^^^ f d) x
theorem lz (f : Nat → Nat) (k x : Nat) : fj f (k + 1) x = fj f k x ^^^ f k := by
 unfold fj; rw [List.range_succ, List.foldl_append]; rfl
noncomputable def gb (Z : ZD) (b : List Nat) (s : Nat) : Nat := if b.getD s 0 = 0 then 0 else (Z.pc (b.getD s 0)).getD s 0
theorem AU {n : Nat} {A : PA} {B : GA} {G : GD} {D : ZA} {Z : ZD} {P : PD} {H Q} (hf : 31 < n) (hp : bB A B.g D.z P H) (hg : aS B G H) (go : eo G) (hz : dK D Z G.aa (G.aa * G.ab) H) (hr : P.rights < 16) (he : -1 ≤ P.ep) (hs : P.side < 2)
  (hb : P.b.length = G.aa * G.ab) (hok : ∀ s, s < P.b.length → P.b.getD s 0 = 0 ∨ bM (P.b.getD s 0))
  (h : Q (.int (fj (gb Z P.b) (G.aa * G.ab) (j' Z P G.aa) : Nat)) H) : (cf n).Sp 31 [.ref A.x] H Q := by
 have p1 := hp.i; have p2 := hp.f; have p3 := hp.b; have z1 := hz.i; have z2 := hz.f; have z3 := hz.GN; have z4 := hz.pc; have z5 := hz.pl
 have q3 : P.b.length ≤ 35 := hb ▸ go.s
 refine au hf rfl rfl fun m hm => ?_
 walk_at "G"
 refine AT (aq hm rfl) hp hg go hz hr he hs ?_
 walk_at "G"
 refine vb (by walk_at "v") p3 (Nat.le_trans q3 (ai rfl)) (fun k af H' => af 1 = some (.ref D.pc) ∧ af 2 = some (.int (fj (gb Z P.b) k (j' Z P G.aa) : Nat)) ∧ af 3 = some (.int k) ∧ H' = H) ⟨rfl, rfl, rfl, rfl⟩ (fun _ _ _ e => e.2.2.2 ▸ p3) ?_ ?_
 ·rintro k af H' Q' hkl ⟨e1, e2, e3, rfl⟩ hq
  rw [lz, gb] at hq
  walk_at "S"
  refine bF (fun e => ?_) (fun e => ?_)
  ·obtain ⟨r1, r2, r3⟩ := hz.pr _ ((hok k hkl).resolve_left e)
   rw [if_neg e] at hq
   have l1 : k < (Z.pc (P.b.getD k 0)).length := r3 ▸ hb ▸ hkl
   have l2 : (Z.pc (P.b.getD k 0)).length ≤ 35 := r3 ▸ go.s
   walk_at "G"
   refine (hq _ _ _ .refl ?_).1
   exact ⟨e1, rfl, rfl, rfl⟩
  ·rw [if_pos (Decidable.not_not.mp e), Nat.xor_zero] at hq
   walk_at "G"
   refine (hq _ _ _ .refl ?_).1
   exact ⟨e1, e2, rfl, rfl⟩
 ·rintro af H' ⟨e1, e2, e3, rfl⟩
  rw [hb] at e2
  walk_at "G"
  exact ⟨_, Sb.refl, h⟩
theorem wk {n k0 k1 : Nat} {A : PA} {g z : Nat} {P : PD} {H Q} (hf : 40 < n) (hp : bB A g z P H) (hk : P.k.length = 7) (hs : P.s.length = 2) (h0 : P.s.getD 0 0 &&& P.k.getD 6 0 = 1 <<< k0) (h1 : P.s.getD 1 0 &&& P.k.getD 6 0 = 1 <<< k1)
  (h : Q .none H) : (cf n).Sp 40 [.ref A.x] H Q := by
 refine au hf rfl rfl fun m hm => ?_
 refine aj (eF (bc.s (vs := [.int (0 : Nat), .int (1 : Nat)]) (by walk_at "vs") _ ⟨ai rfl, fun a => ⟨_, _, .tup (.head _) (ai rfl), H, .skip .refl, ?_⟩⟩))
 refine cZ (fun k af H' => af 0 = some (.ref A.x) ∧ H' = H) ⟨rfl, rfl⟩ (fun _ _ _ _ => trivial) ?_ ?_
 ·rintro k x af H' Q' hkk ⟨e0, rfl⟩ hq
  obtain ⟨sd, kk, rfl, hsd, hh⟩ : ∃ sd kk, x = .int (sd : Nat) ∧ sd < 2 ∧ P.s.getD sd 0 &&& P.k.getD 6 0 = 1 <<< kk := by
   match k, hkk with
   | 0, hkk => cases hkk; exact ⟨0, k0, rfl, ai rfl, h0⟩
   | 1, hkk => cases hkk; exact ⟨1, k1, rfl, ai rfl, h1⟩
  walk_at "G"
  refine pJ (k := 6) (aq hm rfl) hp hk hs hsd (ai rfl) ?_
  rw [hh]
  walk_at "G"
  refine bj (Nat.ne_of_gt (dc kk)) ?_
  refine an (aj (kH (bc.s (vs := [.int (1 <<< kk : Nat)]) (by walk_at "vs")) (AS (aq hm rfl) ?_)))
  walk_at "G"
  refine (hq _ _ _ .refl ?_).1
  exact ⟨e0, rfl⟩
 ·rintro af H' ⟨e1, rfl⟩
  walk_at "G"
  exact ⟨_, Sb.refl, h⟩
theorem wm {n : Nat} {A : PA} {B : GA} {G : GD} {z : Nat} {P : PD} {H Q} (hf : 41 < n) (hp : bB A B.g z P H) (hg : aS B G H) (go : eo G) (hk : P.k.length = 7) (h1 : P.k.getD 1 0 &&& (G.rm.getD 0 0 ||| G.rm.getD (G.ab - 1) 0) = 0)
  (h : Q .none H) : (cf n).Sp 41 [.ref A.x] H Q := by
 have p1 := hp.i; have p2 := hp.f; have p4 := hp.k; have g1 := hg.i; have g2 := hg.f; have g3 := hg.l1; have g4 := hg.l7; have g5 := hg.rm
 have q1 : 1 ≤ G.ab := cY go.r.1 rfl
 have q2 : 0 < G.rm.length := go.rm ▸ q1
 have q3 : G.ab - 1 < G.rm.length := by rw [go.rm]; exact Nat.sub_lt q1 Nat.zero_lt_one
 have q4 : G.rm.length ≤ 8 := go.rm ▸ go.r.2
 have l1 : 1 < P.k.length := hk ▸ ai rfl
 have l2 : P.k.length ≤ 100 := hk ▸ ai rfl
 refine au hf rfl rfl fun m hm => ?_
 walk_at "G"
 refine bj (fun q => q h1) ?_
 walk_at "G"
 exact ⟨_, Sb.refl, h⟩
noncomputable def mq (G : GD) (P : PD) (i : Nat) : Prop := P.rights &&& 1 <<< i = 0 ∨ ∃ a b c d, G.cs i = some (a, b, c, d) ∧ a < P.b.length ∧ c < P.b.length ∧ P.b.getD a 0 = (i >>> 1) * 8 + 6 ∧ P.b.getD c 0 = (i >>> 1) * 8 + 4
theorem tW {n : Nat} {A : PA} {B : GA} {G : GD} {z : Nat} {P : PD} {H Q} (hf : 42 < n) (hp : bB A B.g z P H) (hg : aS B G H) (go : eo G) (hb : P.b.length ≤ 100) (hr : P.rights < 16) (hw : ∀ i, i < 4 → mq G P i)
  (h : Q .none H) : (cf n).Sp 42 [.ref A.x] H Q := by
 have p1 := hp.i; have p2 := hp.f; have p3 := hp.b; have g1 := hg.i; have g2 := hg.f; have g3 := hg.Fj; have g4 := hg.cs
 refine au hf rfl rfl fun m hm => ?_
 refine kL (t_n (Ff cU (by walk_at "v") (by walk_at "c") cU (by walk_at "c"))) (im (by rw [decide_eq_true (Nat.zero_le _), decide_eq_true hr]; rfl) ?_)
 walk_at "G"
 refine ch cU (fun k af H' => af 0 = some (.ref A.x) ∧ H' = H) ⟨ai rfl⟩ ⟨rfl, rfl⟩ ?_ ?_
 ·rintro k af H' Q' hk ⟨e0, rfl⟩ hq
  walk_at "S"
  refine bF (fun e => ?_) (fun e => ?_)
  ·refine aj (aR (hq _ _ _ .refl ?_).2)
   exact ⟨e0, rfl⟩
  ·obtain ⟨a, b, c, d, q, la, lc, qa, qc⟩ := (hw k hk).resolve_left e
   have gt := hg.ca k a b c d hk q
   refine an (bY (by walk_at "v") (show yJ B G k = .ref (B.ca k) by unfold yJ; rw [q]) ?_)
   walk_at "G"
   refine vc (x := .int (P.b.getD a 0 : Nat)) (vs := [.int (k >>> 1 : Nat), .int (6 : Nat)]) (by walk_at "v") (by walk_at "vs") (dQ (aq hm rfl) ?_)
   refine B7 (by walk_at "c") ?_
   refine bj (fun r => r qa) (an ?_)
   refine vc (x := .int (P.b.getD c 0 : Nat)) (vs := [.int (k >>> 1 : Nat), .int (4 : Nat)]) (by walk_at "v") (by walk_at "vs") (dQ (aq hm rfl) ?_)
   refine B7 (by walk_at "c") ?_
   refine bj (fun r => r qc) (an ?_)
   walk_at "G"
   refine (hq _ _ _ .refl ?_).1
   exact ⟨e0, rfl⟩
 ·rintro af H' ⟨e0, rfl⟩
  walk_at "G"
  exact ⟨_, Sb.refl, h⟩
theorem tX {n k0 k1 : Nat} {A : PA} {B : GA} {G : GD} {z : Nat} {P : PD} {H Q} (hf : 59 < n) (hp : bB A B.g z P H) (hg : aS B G H) (go : eo G) (hk : P.k.length = 7) (hs : P.s.length = 2) (h0 : P.s.getD 0 0 &&& P.k.getD 6 0 = 1 <<< k0) (h1 : P.s.getD 1 0 &&& P.k.getD 6 0 = 1 <<< k1)
  (h2 : P.k.getD 1 0 &&& (G.rm.getD 0 0 ||| G.rm.getD (G.ab - 1) 0) = 0)
  (h : Q .none H) : (cf n).Sp 59 [.ref A.x] H Q := by
 refine au hf rfl rfl fun m hm => aj (uU ?_)
 walk_at "S"
 refine wk (aq hm rfl) hp hk hs h0 h1 ?_
 walk_at "S"
 refine wm (aq hm rfl) hp hg go hk h2 ?_
 walk_at "G"
 exact ⟨_, Sb.refl, h⟩
theorem wn {n : Nat} {A : PA} {B : GA} {G : GD} {z : Nat} {P : PD} {H Q} (hf : 60 < n) (hp : bB A B.g z P H) (hg : aS B G H) (go : eo G) (hb : P.b.length ≤ 100) (hr : P.rights < 16) (hw : ∀ i, i < 4 → mq G P i)
  (h : Q .none H) : (cf n).Sp 60 [.ref A.x] H Q := by
 refine au hf rfl rfl fun m hm => aj (uU ?_)
 walk_at "S"
 refine tW (aq hm rfl) hp hg go hb hr hw ?_
 walk_at "G"
 exact ⟨_, Sb.refl, h⟩
theorem sJ {n sq : Nat} {A : PA} {B : GA} {G : GD} {z : Nat} {P : PD} {H Q} (hf : 38 < n) (hp : bB A B.g z P H) (hg : aS B G H) (go : eo G) (hb : P.b.length = G.aa * G.ab) (hs : P.side < 2)
  (hd : G.hd = true) (r5 : 5 ≤ G.ab) (h1 : sq < G.aa * G.ab) (e1 : sq / G.aa = if P.side = 0 then G.ab - 3 else 2)
  (e2 : P.b.getD sq 0 = 0) (e3 : P.b.getD (if P.side = 0 then sq + G.aa else sq - G.aa) 0 = 0) (e4 : P.b.getD (if P.side = 0 then sq - G.aa else sq + G.aa) 0 = (1 - P.side) * 8 + 1)
  (h : Q (.bool true) H) : (cf n).Sp 38 [.ref A.x, .int sq] H Q := by
 have p1 := hp.i; have p2 := hp.f; have p3 := hp.b; have g1 := hg.i; have g2 := hg.f; have g3 := hg.l0; have g4 := hg.l1; have g5 := hg.l2; have g6 := hg.l4
 have f0 : 0 < G.aa := cY go.f.1 rfl
 have f8 := go.f.2
 have r3 : 3 ≤ G.ab := go.r.1
 have lb : P.b.length ≤ 35 := hb ▸ go.s
 have hsd : 1 - P.side ≤ 1 := Nat.sub_le _ _
 have hs1 : P.side ≤ 1 := Nat.le_of_lt_succ hs
 have hq : 2 ≤ sq / G.aa ∧ sq / G.aa + 2 < G.ab := by
  rw [e1]; split
  ·exact ⟨ln [_,_] [.le (.n 5) (.v 0),.eq (.a (.v 1) (.n 3)) (.v 0)] (.le (.n 2) (.v 1)) [1,1,-1] rfl r5 (aM r3), ln [_,_] [.eq (.a (.v 0) (.n 3)) (.v 1)] (.lt (.a (.v 0) (.n 2)) (.v 1)) [1,1] rfl (aM r3)⟩
  ·exact ⟨Nat.le_refl _, r5⟩
 have Fq := Nat.div_add_mod sq G.aa
 have lo : G.aa ≤ sq := Nat.le_trans (Nat.le_trans (Nat.le_of_eq (Nat.mul_one _).symm) (Nat.mul_le_mul_left _ (cY hq.1 rfl))) (Nat.le_trans (Nat.le_add_right _ _) (Nat.le_of_eq Fq))
 have hi : sq + G.aa < G.aa * G.ab := by
  have a2 : G.aa * (sq / G.aa + 2) ≤ G.aa * G.ab := Nat.mul_le_mul_left _ (Nat.le_of_lt hq.2)
  have a3 := Nat.mod_lt sq f0
  rw [Nat.mul_add] at a2
  exact ln [_,_,_,_,_] [.eq (.a (.v 3) (.v 4)) (.v 0),.lt (.v 4) (.v 1),.le (.a (.v 3) (.r (.v 1) 2)) (.v 2)] (.lt (.a (.v 0) (.v 1)) (.v 2)) [1,-1,1,1] rfl Fq a3 a2
 have fin : ∀ (ρ : ap) (r : Nat) (ah : Int) (s1 s2 : Nat), ρ 0 = some (.ref A.x) → ρ 1 = some (.int sq) → ρ 2 = some (.ref B.g) → ρ 3 = some (.int r) → ρ 4 = some (.int ah) → sq / G.aa = r → (sq : Int) + ah = s1 → (sq : Int) - ah = s2 → s1 < P.b.length → s2 < P.b.length →
   P.b.getD s1 0 = 0 → P.b.getD s2 0 = (1 - P.side) * 8 + 1 → ∀ m, m = 38 → WB (cf m) (jN.body.drop 5) ρ H (bT Q) := by
  intro ρ r ah s1 s2 x0 x1 x2 x3 x4 y0 y1 y2 l1 l2 b1 b2 m hm
  have l0 : sq < P.b.length := hb ▸ h1
  walk_at "S"
  refine bj (fun q => q y0) (an (kL (Fa (by walk_at "t") (B3 (tO (wh (e_i (by walk_at "v") (f9 (by walk_at "v") (by walk_at "v") (sD Op.add (congrArg V.int y1))) (by walk_at "ix")) (by walk_at "v") (by walk_at "c")) rfl rfl))) (im ?_ (an ?_))))
  ·rw [e2, b1]; rfl
  ·refine cH (nT (Ev.s (v := .int (P.b.getD s2 0 : Nat)) (e_i (by walk_at "v") (f9 (by walk_at "v") (by walk_at "v") (sD Op.sub (congrArg V.int y2))) (by walk_at "ix")) _ (bc.s (vs := [.int (1 - P.side : Nat), .int (1 : Nat)]) (by walk_at "vs") _ (dQ (hm ▸ ai rfl) (Cx (by walk_at "c") ?_)))))
   rw [decide_eq_true b2]
   exact ⟨_, Sb.refl, h⟩
 refine au hf rfl rfl fun m hm => ?_
 walk_at "S"
 walk_at "S"
 refine im (by rw [hd, decide_eq_false (Nat.not_lt_zero _), decide_eq_false (Nat.not_le_of_lt h1)]; rfl) ?_
 walk_at "G"
 have i1 : (sq : Int) - (G.aa : Int) = ((sq - G.aa : Nat) : Int) := (Int.ofNat_sub lo).symm
 have i2 : sq + G.aa < P.b.length := hb ▸ hi
 have i3 : sq - G.aa < P.b.length := hb ▸ Nat.lt_of_le_of_lt (Nat.sub_le _ _) h1
 refine bF (fun e => ?_) (fun e => ?_)
 ·rw [if_pos e] at e1 e3 e4
  walk_at "S"
  walk_at "S"
  exact an (fin _ _ _ _ _ rfl rfl rfl rfl rfl e1 rfl i1 i2 i3 e3 e4 m hm.symm)
 ·rw [if_neg e] at e1 e3 e4
  exact an (fin _ _ _ _ _ rfl rfl rfl rfl rfl e1 i1 (Int.sub_neg _ _) i3 i2 e3 e4 m hm.symm)
theorem yR {n sq : Nat} {A : PA} {B : GA} {G : GD} {z : Nat} {P : PD} {H Q} (hf : 39 < n) (hp : bB A B.g z P H) (hg : aS B G H) (go : eo G) (hk : P.k.length = 7) (hs2 : P.s.length = 2) (hs : P.side < 2) (h1 : sq < G.aa * G.ab)
  (h : Q (.bool (decide ((pw G (1 - P.side)).getD sq 0 &&& (P.s.getD P.side 0 &&& P.k.getD 1 0) ≠ 0))) H) : (cf n).Sp 39 [.ref A.x, .int sq] H Q := by
 have p1 := hp.i; have p2 := hp.f; have g1 := hg.i; have g2 := hg.f; have g3 := hg.Fi; have g4 := hg.pw
 obtain ⟨d, x1, x2, x3⟩ := yO hg go hs
 have hs1 : P.side ≤ 1 := Nat.le_of_lt_succ hs
 have l5 : sq < (pw G (1 - P.side)).length := x3 ▸ h1
 have l6 : (pw G (1 - P.side)).length ≤ 35 := x3 ▸ go.s
 refine au hf rfl rfl fun m hm => ?_
 refine cH (nT (bX (Ev.s (v := .int ((pw G (1 - P.side)).getD sq 0 : Nat)) (by walk_at "v") _ (bc.s (vs := [.ref A.x, .int P.side, .int (1 : Nat)]) (by walk_at "vs") _ (pJ (aq hm rfl) hp hk hs2 hs (ai rfl) (Cw (by walk_at "o") (Fe cU (by walk_at "c") rfl ?_)))))))
 exact ⟨_, Sb.refl, h⟩
theorem yS {i : Nat} {s : List Nat} {body : ap → Hp → SQ → Prop} {ρ : ap} {H : Hp} {Q : SQ} (I : Nat → ap → Hp → Prop) (hl : s.length ≤ 10000) (hc : ∀ c ∈ s, c < 128) (h0 : I 0 ρ H)
  (hb : ∀ k c ρ H Q, s[k]? = some c → I k ρ H → (∀ af H' aH, Sb aH H' → I (k + 1) af aH → Q .next af H' ∧ Q .cont af H') → body (ρ.set i (.str [c])) H Q)
  (hq : ∀ af H', I s.length af H' → Q .next af H') :
  ∃ src items, Src (.str s) H src items ∧ ∃ H₂, Sb H₂ H ∧ forL body src items i items ρ H₂ Q := by
 refine ⟨none, _, .str hl hc, H, .refl, ?_⟩
 refine cZ I h0 (fun _ _ _ _ => trivial) (fun k x ρ H Q hx hi hk => ?_) fun af H' h => hq _ _ (by simpa using h)
 rw [List.getElem?_map] at hx
 cases q : s[k]? with
 | none => rw [q] at hx; cases hx
 | some c => rw [q] at hx; cases Option.some.inj hx; exact hb k c ρ H Q q hi hk
section
variable {m d i : Nat} {ρ : ap} {H H' : Hp} {it o e x : E} {b r : Ss} {Q : SQ} {R : V → Hp → Prop}
theorem qS {s : List Nat} (p : Ev m ρ H it (.str s)) (hl : s.length ≤ 10000) (hc : ∀ c ∈ s, c < 128) (I : Nat → ap → Hp → Prop) (h0 : I 0 ρ H)
  (hb : ∀ k c ρ H Q, s[k]? = some c → I k ρ H → (∀ af H' aH, Sb aH H' → I (k + 1) af aH → Q .next af H' ∧ Q .cont af H') → WB (cf m) b (ρ.set i (.str [c])) H Q)
  (hq : ∀ af H', I s.length af H' → WB (cf m) r af H' Q) : WB (cf m) (.cons (.for_ i it b) r) ρ H Q := aj (eF (p.s _ (yS I hl hc h0 hb hq)))
theorem jq {s t : List Nat} {k : Int} (p : Ev m ρ H o (.str s)) (q : Ev m ρ H x (.str t)) (l : s.length ≤ 1000) (l' : t.length ≤ 1000) (h : Txt.find (st s) (st t) = k) : Ev m ρ H (.meth 2 o (.cons x .nil)) (.int k) := h ▸ u5 p q ⟨l⟩ ⟨l'⟩
theorem kO (g : ∀ a, WB (cf m) r (ρ.set i (.ref a)) ((a, .list []) :: H) Q) : WB (cf m) (.cons (.asg i (.list .nil)) r) ρ H Q := j8 (bu (bc.nil.s _ ⟨Nat.zero_le _, g⟩))
theorem vh {ws : List V} (p : Ev m ρ H o (.ref d)) (me : List.Mem (d, .list ws) H) (g : ay (cf m) e ρ H fun v H₁ => gV 1 (.ref d) [v] H₁ fun _ H' => WB (cf m) r ρ H' Q) : WB (cf m) (.cons (.ex (.meth 1 o (.cons e .nil))) r) ρ H Q := aj (aR (p.s _ ⟨⟨_, me⟩, g⟩))
theorem yT {a : Nat} {xs ys : List Nat} (me : List.Mem (a, .list (ak ys)) H) (u : Upd d (.list (ak xs)) (.list (ak (xs ++ ys))) H H') (l : xs.length ≤ 1000) (l' : ys.length ≤ 1000) (g : R .none H') : gV 1 (.ref d) [.ref a] H R :=
 ⟨ak xs, ak ys, H', me, by rw [ak, ak, ← List.map_append]; exact u, dY l, dY l', g⟩
theorem sK {s t : List Nat} (p : Ev m ρ H o (.str s)) (q : Ev m ρ H x (.str t)) (l : s.length ≤ 1000) (l' : 0 < t.length) (g : ∀ a, R (.ref a) ((a, .list ((Txt.split (st s) (st t)).map fun x => .str (un x))) :: H)) : ay (cf m) (.meth 3 o (.cons x .nil)) ρ H R :=
 p.s _ ⟨trivial, q.s _ ⟨⟨l, l'⟩, g⟩⟩
end
noncomputable def sL (c : Nat) : Int := if 48 ≤ c ∧ c ≤ 57 then ((c - 48 : Nat) : Int) else -1
theorem kP : ∀ c, c < 128 → Txt.find (st nK) (st [c]) = sL c := by decide +kernel
noncomputable def jb (l : List Nat) : Nat := l.foldl (fun a c => a * 10 + (c - 48)) 0
theorem nW (l : List Nat) (c : Nat) : jb (l ++ [c]) = jb l * 10 + (c - 48) := by unfold jb; rw [List.foldl_append]; rfl
theorem take_snoc {s : List Nat} {k c : Nat} (h : s[k]? = some c) : s.take (k + 1) = s.take k ++ [c] := by
 rw [List.take_add_one, h]; rfl
theorem iq {s : List Nat} {k c : Nat} (h : s[k]? = some c) : c ∈ s := List.mem_of_getElem? h
theorem yU {n : Nat} {t : List Nat} {H Q} (hf : 51 < n) (hd : ∀ c ∈ t, 48 ≤ c ∧ c ≤ 57) (h0 : t ≠ []) (h1 : t[0]? = some 48 → t.length = 1) (hl : t.length ≤ 100)
  (h : Q (.int (jb t : Nat)) H) : (cf n).Sp 51 [.str t] H Q := by
 have hp : 0 < t.length := List.length_pos_iff.mpr h0
 have h2 : (decide (t = []) || (decide (t.getD 0 0 = 48) && decide (1 < t.length))) = false := by
  rw [decide_eq_false h0]
  by_cases e : t.getD 0 0 = 48
  ·rw [List.getD_eq_getElem?_getD, List.getElem?_eq_getElem hp] at e
   rw [h1 (by rw [List.getElem?_eq_getElem hp]; exact congrArg some e), Bool.false_or]; exact Bool.and_false _
  ·rw [decide_eq_false e]; rfl
 refine au hf rfl rfl fun m hm => ?_
 walk_at "S"
 refine im h2 ?_
 walk_at "G"
 refine qS (by walk_at "v") (bq hl rfl) (fun c hc => Nat.lt_of_le_of_lt (hd c hc).2 (ai rfl)) (fun k af H' => af 1 = some (.int (jb (t.take k) : Nat)) ∧ H' = H) ⟨rfl, rfl⟩ ?_ ?_
 ·rintro k c af H' Q' hk ⟨e1, rfl⟩ hq
  have hc := hd c (iq hk)
  refine fg (jq (k := (c - 48 : Nat)) (by walk_at "v") (by walk_at "v") (ai rfl) (ai rfl) (by rw [kP c (Nat.lt_of_le_of_lt hc.2 (ai rfl)), sL, if_pos hc])) ?_
  walk_at "S"
  refine bj (Nat.not_lt_zero _) ?_
  walk_at "G"
  refine (hq _ _ _ .refl ?_).1
  exact ⟨by rw [take_snoc hk, nW]; rfl, rfl⟩
 ·rintro af H' ⟨e1, rfl⟩
  rw [List.take_length] at e1
  walk_at "G"
  exact ⟨_, Sb.refl, h⟩
theorem wo : ∀ c, c < 128 → Txt.find (st bI) (st [c]) = cL bI c := by decide +kernel
noncomputable def letters : List Nat := [80, 78, 66, 82, 81, 75, 112, 110, 98, 114, 113, 107]
noncomputable def code (c : Nat) : Nat := (cL bI c).toNat
theorem cC : ∀ c, c ∈ letters → c < 128 ∧ cL bI c = (code c : Int) ∧ 0 < code c ∧ code c < 15 ∧ code c ≠ 7 ∧ code c ≠ 8 ∧ bI.getD (code c) 0 = c ∧ sL c = -1 ∧ c ≠ 46 ∧ c ≠ 47 ∧ c ≠ 32 ∧ ¬(48 ≤ c ∧ c ≤ 57) := by decide +kernel
theorem lA {n c : Nat} {H Q} (hf : 5 < n) (hc : c ∈ letters) (h : Q (.int (code c : Nat)) H) : (cf n).Sp 5 [.str [c]] H Q := by
 obtain ⟨a1, a2, a3, a4, a5, a6, a7, a8, a9, _⟩ := cC c hc
 refine au hf rfl rfl fun m hm => ?_
 walk_at "S"
 refine im (by rw [decide_eq_false a9]; rfl) (an (nR (jq (k := code c) (by walk_at "v") (by walk_at "v") (ai rfl) (ai rfl) (by rw [wo c a1, a2])) ?_))
 exact ⟨_, Sb.refl, h⟩
noncomputable def bZ : List Nat → List Nat → Bool → Option (List Nat)
 | [], acc, _ => some acc
 | c :: r, acc, wd => if 48 ≤ c ∧ c ≤ 57 then (if c = 48 ∨ wd = true then none else bZ r (acc ++ List.replicate (c - 48) 0) true)
   else if c ∈ letters then bZ r (acc ++ [code c]) false else none
theorem jr : ∀ (t acc : List Nat) (wd : Bool) (cs : List Nat), bZ t acc wd = some cs → acc.length ≤ cs.length
 | [], acc, _, cs, h => by cases h; exact Nat.le_refl _
 | c :: r, acc, wd, cs, h => by
  unfold bZ at h
  split at h
  ·split at h
   ·cases h
   ·have := jr _ _ _ _ h; simp at this; (exact Nat.le_of_add_right_le this)
  ·split at h
   ·have := jr _ _ _ _ h; simp at this; (exact Nat.le_of_lt this)
   ·cases h
theorem pK (a b : List Nat) : ak a ++ ak b = ak (a ++ b) := by simp [ak]
theorem drop_cons {s : List Nat} {k c : Nat} (h : s[k]? = some c) : s.drop k = c :: s.drop (k + 1) := by
 have hk := (List.getElem?_eq_some_iff.mp h)
 obtain ⟨hk, e⟩ := hk
 rw [List.drop_eq_getElem_cons hk, e]
theorem AV {n aa : Nat} {t cs : List Nat} {H Q} (hf : 52 < n) (hr : bZ t [] false = some cs) (hl : cs.length = aa) (h8 : aa ≤ 100) (ht : t.length ≤ 100) (hc : ∀ c ∈ t, c < 128)
  (h : ∀ a, Q (.ref a) ((a, .list (ak cs)) :: H)) : (cf n).Sp 52 [.str t, .int aa] H Q := by
 refine au hf rfl rfl fun m hm => kO fun a => ?_
 walk_at "S"
 refine qS (by walk_at "v") (bq ht rfl) hc (fun k af H' => ∃ acc wd, bZ (t.drop k) acc wd = some cs ∧ af 1 = some (.int aa) ∧ af 2 = some (.ref a) ∧ af 3 = some (.bool wd) ∧ H' = (a, .list (ak acc)) :: H) ⟨[], false, hr, rfl, rfl, rfl, rfl⟩ ?_ ?_
 ·rintro k c af H' Q' hk ⟨acc, wd, e, e1, e2, e3, rfl⟩ hq
  have nX := hc c (iq hk)
  rw [drop_cons hk] at e
  have le : acc.length ≤ 1000 := Nat.le_trans (jr _ _ _ _ e) (hl ▸ bq h8 rfl)
  unfold bZ at e
  by_cases hd : 48 ≤ c ∧ c ≤ 57
  ·rw [if_pos hd] at e
   have Fs : ¬ (c = 48 ∨ wd = true) := fun q => by rw [if_pos q] at e; cases e
   rw [if_neg Fs] at e
   obtain ⟨n1, n2⟩ := not_or.mp Fs
   have l10 : c - 48 ≤ 1000 := Nat.le_trans (Nat.sub_le _ _) (ij nX rfl)
   refine fg (jq (k := (c - 48 : Nat)) (by walk_at "v") (by walk_at "v") (ai rfl) (ai rfl) (by rw [kP c nX, sL, if_pos hd])) ?_
   walk_at "S"
   refine gD (Nat.zero_le _) ?_
   walk_at "S"
   refine im (by rw [decide_eq_false (show ¬ c - 48 = 0 from fun q => n1 (Nat.le_antisymm (Nat.le_of_sub_eq_zero q) hd.1)), Bool.eq_false_iff.mpr n2]; rfl) ?_
   refine an (vh (by walk_at "v") (.head _) (io (by walk_at "v") (fun t => by walk_at "v") ⟨l10⟩ fun t d => yT (.head _) (.there (.there .here)) le (by rw [List.length_replicate]; exact l10) ?_))
   walk_at "G"
   refine (hq _ _ ((a, .list (ak (acc ++ List.replicate (c - 48) 0))) :: H) (.skip (.skip .refl)) ?_).1
   exact ⟨_, _, e, e1, e2, rfl, rfl⟩
  ·rw [if_neg hd] at e
   have hm : c ∈ letters := Decidable.byContradiction fun q => by rw [if_neg q] at e; cases e
   rw [if_pos hm] at e
   refine fg (jq (k := -1) (by walk_at "v") (by walk_at "v") (ai rfl) (ai rfl) (by rw [kP c nX, sL, if_neg hd])) ?_
   walk_at "S"
   refine bj (by decide) ?_
   walk_at "S"
   refine lA (by omega) hm ?_
   walk_at "S"
   refine bj (Nat.not_le_of_lt (cC c hm).2.2.1) ?_
   walk_at "G"
   refine (hq _ _ ((a, .list (ak (acc ++ [code c]))) :: H) .refl ?_).1
   exact ⟨_, _, e, e1, e2, rfl, rfl⟩
 ·rintro af H' ⟨acc, wd, e, e1, e2, e3, rfl⟩
  rw [List.drop_length] at e
  cases e
  have : cs.length ≤ 100 := hl ▸ h8
  walk_at "S"
  refine bj (fun q => q hl) ?_
  walk_at "G"
  exact ⟨_, Sb.refl, h a⟩
theorem wp {n aa ab : Nat} {t : List Nat} {rows bs : List (List Nat)} {H Q} (hf : 53 < n) (hs : bf 47 t = rows) (hn : rows.length = ab) (hb : bs.length = ab) (h8 : aa ≤ 8 ∧ ab ≤ 8)
  (hr : ∀ k r, k < ab → rows[ab - 1 - k]? = some r → ∃ b, bs[k]? = some b ∧ bZ r [] false = some b ∧ b.length = aa ∧ r.length ≤ 100) (ht : t.length ≤ 1000) (hc : ∀ c ∈ t, c < 128) (hc2 : ∀ r ∈ rows, ∀ c ∈ r, c < 128)
  (h : ∀ a, Q (.ref a) ((a, .list (ak bs.flatten)) :: H)) : (cf n).Sp 53 [.str t, .int aa, .int ab] H Q := by
 have e0 : ((Txt.split (st t) (st [47])).map fun x => V.str (un x)) = rows.map .str := by
  rw [← hs, ← nV 47 t hc (ai rfl), List.map_map]; rfl
 have q8 := h8.2
 have nl : (rows.map V.str).length ≤ 8 := by rw [List.length_map, hn]; exact q8
 refine au hf rfl rfl fun m hm => j8 (sK (by walk_at "v") (by walk_at "v") ht (ai rfl) fun ra => ?_)
 rw [e0]
 walk_at "S"
 refine bj (fun q => q (by rw [List.length_map, hn])) (an (kO fun a => ?_))
 refine ch (by walk_at "v") (fun k af H' => af 1 = some (.int aa) ∧ af 2 = some (.int ab) ∧ af 3 = some (.ref ra) ∧ af 4 = some (.ref a) ∧ H' = (a, .list (ak (bs.take k).flatten)) :: (ra, .list (rows.map .str)) :: H) ⟨bq q8 rfl⟩ ⟨rfl, rfl, rfl, rfl, rfl⟩ ?_ ?_
 ·rintro k af H' Q' hk ⟨e1, e2, e3, e4, rfl⟩ hq
  have k1 : 1 ≤ ab := Nat.lt_of_le_of_lt (Nat.zero_le _) hk
  have k2 : k ≤ ab - 1 := Nat.le_sub_one_of_lt hk
  have kr : ∀ j, ab - 1 - j < rows.length := fun j => by rw [hn]; exact Nat.lt_of_le_of_lt (Nat.sub_le _ _) (Nat.sub_lt k1 Nat.zero_lt_one)
  obtain ⟨r, hrr⟩ : ∃ r, rows[ab - 1 - k]? = some r := ⟨_, List.getElem?_eq_getElem (kr k)⟩
  obtain ⟨b, GT, hrd, yV, hrl⟩ := hr k r hk hrr
  have lk : (rows.map V.str)[ab - 1 - k]? = some (.str r) := by rw [List.getElem?_map, hrr]; rfl
  walk_at "S"
  refine AV (cs := b) (aq hm rfl) hrd yV (bq h8.1 rfl) hrl (fun c hc => hc2 r (List.mem_of_getElem? hrr) c hc) (fun c => ?_)
  have hlen : (bs.take k).flatten.length ≤ 64 := by
   have : ∀ l : List (List Nat), (∀ b ∈ l, b.length = aa) → l.flatten.length = l.length * aa := by
    intro l
    induction l with
    | nil => intro _; exact (Nat.zero_mul _).symm
    | cons x l ih => intro hx; rw [List.flatten_cons, List.length_append, ih (fun b hb => hx b (.tail _ hb)), hx x (.head _), List.length_cons, Nat.succ_mul, Nat.add_comm]
   rw [this _ ?_]
   ·rw [List.length_take]
    exact Nat.le_trans (Nat.mul_le_mul (Nat.le_trans (Nat.min_le_left _ _) (Nat.le_trans (Nat.le_of_lt hk) q8)) h8.1) (by decide)
   ·intro x hx
    obtain ⟨j, hj⟩ := List.mem_iff_getElem?.mp (List.mem_of_mem_take hx)
    have jl : j < ab := hb ▸ (List.getElem?_eq_some_iff.mp hj).1
    obtain ⟨b', h1, _, h3, _⟩ := hr j _ jl (List.getElem?_eq_getElem (kr j))
    rw [hj] at h1; cases h1; exact h3
  walk_at "G"
  refine vh (by walk_at "v") (.tail _ (.head _)) (kM (by walk_at "v") (yT (.head _) (.there .here) (bq hlen rfl) (yV ▸ bq h8.1 rfl) ?_))
  walk_at "G"
  refine (hq _ _ ((a, .list (ak (bs.take (k + 1)).flatten)) :: (ra, .list (rows.map .str)) :: H) ?_ ?_).1
  ·rw [show bs.take (k + 1) = bs.take k ++ [b] by rw [List.take_add_one, GT]; rfl, List.flatten_append, List.flatten_singleton]; exact .skip .refl
  ·exact ⟨e1, e2, e3, e4, rfl⟩
 ·rintro af H' ⟨e1, e2, e3, e4, rfl⟩
  rw [← hb, List.take_length]
  walk_at "G"
  exact ⟨_, .keep (.skip .refl), h a⟩
theorem yW {n side : Nat} {H Q} (hf : 54 < n) (hs : side < 2) (h : Q (.int side) H) : (cf n).Sp 54 [.str [if side = 0 then 119 else 98]] H Q := by
 refine au hf rfl rfl fun m hm => ?_
 rcases fZ hs with rfl | rfl
 ·walk_at "G"
  exact ⟨_, Sb.refl, h⟩
 ·walk_at "G"
  exact ⟨_, Sb.refl, h⟩
noncomputable def iY (r : Nat) : List Nat :=
 match (if r &&& 1 ≠ 0 then [75] else []) ++ (if r >>> 1 &&& 1 ≠ 0 then [81] else []) ++ (if r >>> 2 &&& 1 ≠ 0 then [107] else []) ++ (if r >>> 3 &&& 1 ≠ 0 then [113] else []) with
 | [] => [45]
 | l => l
theorem pL {n p l : Nat} {t : List Nat} {H Q} (hf : 57 < n) (hd : ∀ c ∈ t, 48 ≤ c ∧ c ≤ 57) (h0 : t ≠ []) (h1 : t[0]? = some 48 → t.length = 1) (hl : t.length ≤ 100) (hv : l ≤ jb t)
  (h : Q (.int (jb t : Nat)) H) : (cf n).Sp 57 [.str t, .int p, .int l] H Q := by
 refine au hf rfl rfl fun m hm => ?_
 walk_at "S"
 refine yU (aq hm rfl) hd h0 h1 hl ?_
 walk_at "S"
 refine bj (Nat.not_lt_of_le hv) ?_
 walk_at "G"
 exact ⟨_, Sb.refl, h⟩
theorem tY : ∀ c, c < 128 → Txt.find (st gB) (st [c]) = cL gB c := by decide +kernel
theorem tZ : ∀ c, c < 128 → Txt.find (st gC) (st [c]) = cL gC c := by decide +kernel
theorem sM : ∀ k, k < 8 → cL gB (97 + k) = (k : Int) := by decide +kernel
theorem sN : ∀ k, k < 8 → cL gC (49 + k) = (k : Int) := by decide +kernel
theorem C3 {n aa ab f r : Nat} {H Q} (hf : 50 < n) (h1 : f < aa) (h2 : aa ≤ 8) (h3 : r < ab) (h4 : ab ≤ 8) (h : Q (.int (r * aa + f : Nat)) H) : (cf n).Sp 50 [.int aa, .int ab, .str [97 + f, 49 + r]] H Q := by
 have f8 := Nat.lt_of_lt_of_le h1 h2
 have r8 := Nat.lt_of_lt_of_le h3 h4
 refine au hf rfl rfl fun m hm => ?_
 walk_at "S"
 refine bj (fun q => q rfl) ?_
 refine an (fg (jq (k := f) (by walk_at "v") (by walk_at "v") (ai rfl) (ai rfl) ((tY _ (show 97 + f < 97 + 31 from Nat.add_lt_add_left (Nat.lt_of_lt_of_le f8 (ai rfl)) 97)).trans (sM _ f8))) ?_)
 refine fg (jq (k := r) (by walk_at "v") (by walk_at "v") (ai rfl) (ai rfl) ((tZ _ (show 49 + r < 49 + 79 from Nat.add_lt_add_left (Nat.lt_of_lt_of_le r8 (ai rfl)) 49)).trans (sN _ r8))) ?_
 walk_at "S"
 refine im (by rw [decide_eq_false (Nat.not_lt_zero _), decide_eq_false (Nat.not_le_of_lt h1), decide_eq_false (Nat.not_lt_zero _), decide_eq_false (Nat.not_le_of_lt h3)]; rfl) ?_
 walk_at "G"
 exact ⟨_, Sb.refl, h⟩
noncomputable def fk (aa : Nat) (ep : Int) : List Nat := if ep < 0 then [45] else [97 + ep.toNat % aa, 49 + ep.toNat / aa]
theorem C4 {n aa ab : Nat} {ep : Int} {H Q} (hf : 56 < n) (h1 : 2 ≤ aa ∧ aa ≤ 8) (h2 : ab ≤ 8) (h3 : -1 ≤ ep) (h4 : ep < (aa * ab : Nat)) (h : Q (.int ep) H) : (cf n).Sp 56 [.str (fk aa ep), .int aa, .int ab] H Q := by
 unfold fk
 refine au hf rfl rfl fun m hm => ?_
 by_cases e : ep < 0
 ·have : ep = -1 := Int.le_antisymm (Int.le_sub_one_of_lt e) h3
  subst this
  rw [if_pos e]
  walk_at "S"
  refine gD rfl ?_
  walk_at "G"
  exact ⟨_, Sb.refl, h⟩
 ·rw [if_neg e]
  obtain ⟨k, rfl⟩ := Int.eq_ofNat_of_zero_le (Int.not_lt.mp e)
  simp only [Int.toNat_natCast]
  have hk : k < aa * ab := Int.ofNat_lt.mp h4
  have g1 : k % aa < aa := Nat.mod_lt _ (cY h1.1 rfl)
  have g3 : k / aa * aa + k % aa = k := by have := Nat.div_add_mod k aa; rw [Nat.mul_comm] at this; exact this
  walk_at "S"
  refine bj (fun q => nomatch (List.cons.inj q).2) ?_
  walk_at "G"
  refine C3 (aq hm rfl) g1 h1.2 (Nat.div_lt_of_lt_mul hk) h2 ?_
  rw [g3]
  walk_at "S"
  refine bj (Nat.not_lt_zero _) ?_
  walk_at "G"
  exact ⟨_, Sb.refl, h⟩
theorem find_right : ∀ c, c < 128 → Txt.find (st bh) (st [c]) = cL bh c := by decide +kernel
noncomputable def AW : List Nat → Nat → Int → Option Nat
 | [], r, _ => some r
 | c :: t, r, last => if cL bh c ≤ last then none else AW t (r ||| 1 <<< (cL bh c).toNat) (cL bh c)
theorem yX : ∀ r, r < 16 → AW (iY r) 0 (-1) = some r ∨ r = 0 := by decide +kernel
theorem iJ : ∀ r, r < 16 → (∀ c ∈ iY r, c < 128 ∧ c ≠ 32) ∧ (iY r).length ≤ 4 ∧ (r ≠ 0 → iY r ≠ [45]) ∧ (r = 0 → iY r = [45]) := by decide +kernel
theorem t8 {n r : Nat} {H Q} (hf : 55 < n) (hr : r < 16) (h : Q (.int r) H) : (cf n).Sp 55 [.str (iY r)] H Q := by
 obtain ⟨o1, o2, o3, o4⟩ := iJ r hr
 have GU : ∀ c, c < 128 → cL bh c ≤ 10 := by decide +kernel
 refine au hf rfl rfl fun m hm => ?_
 walk_at "S"
 by_cases e : r = 0
 ·refine gD (o4 e) ?_
  subst e
  walk_at "G"
  exact ⟨_, Sb.refl, h⟩
 ·refine bj (o3 e) ?_
  walk_at "G"
  refine qS (by walk_at "v") (bq o2 rfl) (fun c hc => (o1 c hc).1) (fun k af H' => ∃ x last, AW ((iY r).drop k) x last = some r ∧ -1 ≤ last ∧ af 1 = some (.int (x : Nat)) ∧ af 2 = some (.int last) ∧ H' = H) ⟨0, -1, (yX r hr).resolve_right e, Int.le_refl _, rfl, rfl, rfl⟩ ?_ ?_
  ·rintro k c af H' Q' hk ⟨x, last, e0, el, e1, e2, rfl⟩ hq
   have c1 := (o1 c (iq hk)).1
   rw [drop_cons hk] at e0
   unfold AW at e0
   by_cases hd : cL bh c ≤ last
   ·rw [if_pos hd] at e0; cases e0
   ·rw [if_neg hd] at e0
    obtain ⟨j, hj⟩ := Int.eq_ofNat_of_zero_le (show 0 ≤ cL bh c from Int.le_of_sub_one_lt (Int.lt_of_le_of_lt el (Int.not_le.mp hd)))
    have hj' : cL bh c = (j : Int) := hj
    rw [hj'] at hd e0
    have jl : j ≤ 10 := Int.ofNat_le.mp (hj' ▸ GU c c1)
    refine fg (jq (k := j) (by walk_at "v") (by walk_at "v") (ai rfl) (ai rfl) ((find_right c c1).trans hj')) ?_
    walk_at "S"
    refine bj hd ?_
    walk_at "G"
    refine (hq _ _ _ .refl ?_).1
    exact ⟨_, _, e0, Int.le_trans (by decide) (Int.natCast_nonneg j), rfl, rfl, rfl⟩
  ·rintro af H' ⟨x, last, e0, el, e1, e2, rfl⟩
   rw [List.drop_length] at e0
   cases e0
   walk_at "S"
   refine bj e ?_
   walk_at "G"
   exact ⟨_, Sb.refl, h⟩
structure TD where
 (rows : List (List Nat)) (side rights : Nat) (ep : Int) (half full : Nat)
structure AX (T : TD) (aa ab : Nat) (bs : List (List Nat)) : Prop where
 n : T.rows.length = ab
 b : bs.length = ab
 r : ∀ k r, k < ab → T.rows[ab - 1 - k]? = some r → ∃ b, bs[k]? = some b ∧ bZ r [] false = some b ∧ b.length = aa ∧ r.length ≤ 10
 c : ∀ r ∈ T.rows, ∀ c ∈ r, c < 128 ∧ c ≠ 47 ∧ c ≠ 32
 s : T.side < 2
 rt : T.rights < 16
 e : -1 ≤ T.ep ∧ T.ep < (aa * ab : Nat)
 h : T.half < 10 ^ 15
 f : 1 ≤ T.full ∧ T.full < 10 ^ 15
noncomputable def bG (T : TD) (aa : Nat) : List (List Nat) := [glue 47 T.rows, [if T.side = 0 then 119 else 98], iY T.rights, fk aa T.ep, dig T.half, dig T.full]
noncomputable def dR (T : TD) (aa : Nat) : List Nat := glue 32 (bG T aa)
theorem vj (n : Nat) : (∀ c ∈ dig n, 48 ≤ c ∧ c ≤ 57) ∧ dig n ≠ [] ∧ jb (dig n) = n ∧ ((dig n)[0]? = some 48 → (dig n).length = 1) := by
 have main : (∀ c ∈ dig n, 48 ≤ c ∧ c ≤ 57) ∧ dig n ≠ [] ∧ jb (dig n) = n ∧ ((dig n)[0]? = some 48 → n = 0) := by
  induction n using Nat.strongRecOn with
  | _ n ih =>
   by_cases h : n < 10
   ·rw [dg h]
    refine ⟨fun c hc => ?_, by simp, by simp [jb], fun e => by simp at e; (exact e)⟩
    simp at hc; (exact ⟨ln [_,_] [.eq (.v 0) (.a (.n 48) (.v 1))] (.le (.n 48) (.v 0)) [1,-1] rfl hc, ln [_,_] [.lt (.v 1) (.n 10),.eq (.v 0) (.a (.n 48) (.v 1))] (.le (.v 0) (.n 57)) [1,1,1] rfl h hc⟩)
   ·rw [vf (by exact Nat.le_of_not_lt h)]
    obtain ⟨a, b, c, d⟩ := ih (n / 10) (by (exact ln [_,_,_] [.gP (.v 1) (.n 10),.eq (.a (.k 10 (.v 0)) (.v 2)) (.v 1)] (.lt (.v 0) (.v 1)) [10,9,1] rfl h dm))
    refine ⟨fun x hx => ?_, by simp, ?_, fun e => ?_⟩
    ·rcases List.mem_append.mp hx with q | q
     ·exact a x q
     ·simp at q; have := Nat.mod_lt n (show 0 < 10 by decide); (exact ⟨ln [_,_] [.eq (.v 0) (.a (.n 48) (.v 1))] (.le (.n 48) (.v 0)) [1,-1] rfl q, ln [_,_] [.eq (.v 0) (.a (.n 48) (.v 1)),.lt (.v 1) (.n 10)] (.le (.v 0) (.n 57)) [1,1,1] rfl q this⟩)
    ·rw [nW, c]; (exact lie [_,_,_,_] [.eq (.a (.k 10 (.v 0)) (.v 3)) (.v 2),.eq (.a (.v 1) (.n 48)) (.a (.n 48) (.v 3))] (.a (.r (.v 0) 10) (.v 1)) (.v 2) [1,1,1] [1,-1,-1] rfl rfl dm (aM (ln [_] [] (.le (.n 48) (.a (.n 48) (.v 0))) [1] rfl)))
    ·have : 0 < (dig (n / 10)).length := List.length_pos_iff.mpr b
     rw [List.getElem?_append_left this] at e
     have := d e
     (exact lie [_,_,_] [.gP (.v 0) (.n 10),.eq (.v 1) (.n 0),.lt (.v 2) (.n 10),.eq (.a (.k 10 (.v 1)) (.v 2)) (.v 0)] (.v 0) (.n 0) [0,1,10,1,-1] [1,1,0,0,0] rfl rfl h this md dm)
 obtain ⟨a, b, c, d⟩ := main
 refine ⟨a, b, c, fun e => ?_⟩
 rw [d e, dg (by decide)]; rfl
theorem fo : ∀ (k n : Nat), n < 10 ^ (k + 1) → (dig n).length ≤ k + 1
 | 0, n, h => by rw [dg (by simpa using h)]; simp
 | k + 1, n, h => by
  by_cases h1 : n < 10
  ·rw [dg h1]; simp
  ·rw [vf (by exact Nat.le_of_not_lt h1), List.length_append]
   have := fo k (n / 10) (by rw [Nat.pow_succ] at h; (exact ln [_,_,_,_] [.lt (.v 2) (.r (.v 1) 10),.eq (.a (.k 10 (.v 0)) (.v 3)) (.v 2)] (.lt (.v 0) (.v 1)) [10,1,1] rfl h dm))
   simp; (exact this)
theorem iK {c : Nat} : ∀ {L : List (List Nat)} {x : Nat}, x ∈ glue c L → x = c ∨ ∃ p ∈ L, x ∈ p
 | [], x, h => by simp [glue] at h
 | [p], x, h => .inr ⟨p, by simp, h⟩
 | p :: q :: r, x, h => by
  have h : x ∈ p ++ c :: glue c (q :: r) := h
  rcases List.mem_append.mp h with h | h
  ·exact .inr ⟨p, by simp, h⟩
  ·rcases List.mem_cons.mp h with h | h
   ·exact .inl h
   ·rcases iK h with h | ⟨y, hy, h⟩
    ·exact .inl h
    ·exact .inr ⟨y, by simp at hy ⊢; exact .inr hy, h⟩
theorem cA (c B : Nat) : ∀ (L : List (List Nat)), (∀ p ∈ L, p.length ≤ B) → (glue c L).length ≤ L.length * (B + 1)
 | [], _ => by simp [glue]
 | [p], h => by have := h p (by simp); show p.length ≤ _; simp; (exact Nat.le_trans this (Nat.le_add_right _ _))
 | p :: q :: r, h => by
  have ih := cA c B (q :: r) (fun y hy => h y (by simp at hy ⊢; exact .inr hy))
  have := h p (by simp)
  show (p ++ c :: glue c (q :: r)).length ≤ _
  rw [List.length_append, List.length_cons, List.length_cons, Nat.succ_mul]
  (exact ln [_,_,_,_] [.le (.v 1) (.v 2),.le (.v 0) (.v 3)] (.le (.a (.v 0) (.a (.v 1) (.n 1))) (.a (.v 2) (.a (.v 3) (.n 1)))) [1,1,1] rfl ih this)
theorem t9 {n pa : Nat} {B : GA} {G : GD} {T : TD} {bs : List (List Nat)} {H Q} (hf : 58 < n) (hg : aS B G H) (go : eo G) (ok : AX T G.aa G.ab bs)
  (h : ∀ a b, Q (.ref b) ((b, .tup [.ref a, .int T.side, .int T.rights, .int T.ep]) :: (a, .list (ak bs.flatten)) :: (pa, .list ((bG T G.aa).map .str)) :: H)) :
  (cf n).Sp 58 [.ref pa, .ref B.g] ((pa, .list ((bG T G.aa).map .str)) :: H) Q := by
 have g1 := hg.i; have g2 := hg.f; have g3 := hg.l0; have g4 := hg.l1
 have q0 := go.f; have q1 := go.r; have q2 := go.s
 obtain ⟨o1, o2, o3, o4, o5, o6, o7, o8, o9⟩ := ok
 have nl : ((bG T G.aa).map V.str).length ≤ 10000 := ai rfl
 have rl : ∀ p ∈ T.rows, p.length ≤ 10 := by
  intro p hp
  obtain ⟨j, hj⟩ := List.mem_iff_getElem?.mp hp
  have jl : j ≤ G.ab - 1 := Nat.le_sub_one_of_lt (o1 ▸ (List.getElem?_eq_some_iff.mp hj).1)
  obtain ⟨b, _, _, _, h4⟩ := o3 (G.ab - 1 - j) p (Nat.lt_of_le_of_lt (Nat.sub_le _ _) (Nat.sub_lt (cY q1.1 rfl) Nat.zero_lt_one)) (by rw [Nat.sub_sub_self jl]; exact hj)
  exact h4
 have tl : (glue 47 T.rows).length ≤ 1000 := Nat.le_trans (cA 47 10 T.rows rl) (by rw [o1]; exact Nat.le_trans (Nat.mul_le_mul_right _ q1.2) (by decide))
 have ne : T.rows ≠ [] := fun e => Nat.not_le_of_lt q1.1 (by rw [← o1, e]; exact Nat.zero_le _)
 refine au hf rfl rfl fun m hm => ?_
 walk_at "S"
 refine wp (rows := T.rows) (bs := bs) (aq hm rfl) (ip 47 _ ne (fun p hp hc => (o4 p hp _ hc).2.1 rfl)) o1 o2 ⟨q0.2, q1.2⟩ (fun k r hk hr => ?_) tl (fun c hc => ?_) (fun r hr c hc => (o4 r hr c hc).1) (fun a => ?_)
 ·obtain ⟨b, h1, h2, h3, h4⟩ := o3 k r hk hr
  exact ⟨b, h1, h2, h3, bq h4 rfl⟩
 ·rcases iK hc with e | ⟨p, hp, e⟩
  ·exact e ▸ ai rfl
  ·exact (o4 p hp c e).1
 walk_at "S"
 refine yW (aq hm rfl) o5 ?_
 walk_at "S"
 refine t8 (aq hm rfl) o6 ?_
 refine cH (qR (jo (by walk_at "v") (jo (by walk_at "v") (jo (by walk_at "v") (lU (w_call (bc.s (vs := [.str (fk G.aa T.ep), .int G.aa, .int G.ab]) (by walk_at "vs") _ (C4 (aq hm rfl) q0 q1.2 o7.1 o7.2 (df .nil ⟨ai rfl, fun t => ?_⟩)))))))))
 exact ⟨_, Sb.refl, h _ _⟩
theorem pM (k : Nat) : 1 <<< k * 2 = 1 <<< (k + 1) := by simp only [Nat.shiftLeft_eq, Nat.pow_succ]; (exact lie [_] [] (.r (.k 1 (.v 0)) 2) (.k 1 (.r (.v 0) 2)) [1] [1] rfl rfl)
theorem kf (k w : Nat) : (1 <<< k) >>> w = if w ≤ k then 1 <<< (k - w) else 0 := by
 simp only [Nat.shiftLeft_eq, Nat.shiftRight_eq_div_pow, Nat.one_mul]
 split
 ·rename_i h
  rw [Nat.pow_div h (by decide)]
 ·rename_i h
  exact Nat.div_eq_of_lt (Nat.pow_lt_pow_right (by decide) (by exact Nat.lt_of_not_le h))
noncomputable def Ft : E := .bin .RShift (.var 0) (.var 1)
noncomputable def B8 : Ss := .cons (.aQ 1 .Mult (.ae 2)) .nil
noncomputable def Fu : E := .cmp .Gt (.var 1) (.ae 1)
noncomputable def B9 : Ss := .cons (.aQ 1 .FloorDiv (.ae 2)) (.cons (.ite (.bin .RShift (.var 0) (.var 1)) (.cons (.aQ 0 .RShift (.var 1)) (.cons (.aQ 2 .Add (.var 1)) .nil)) .nil) .nil)
theorem GV {m k : Nat} {H : Hp} {Q : SQ} (hk : k < 64) (hq : ∀ af j, af 0 = some (.int (1 <<< k : Nat)) → af 1 = some (.int (1 <<< j : Nat)) → j ≤ 6 → k < 1 <<< j → Q .next af H) :
  ∀ (d j : Nat) (ρ : ap), j + d = 6 → ρ 0 = some (.int (1 <<< k : Nat)) → ρ 1 = some (.int (1 <<< j : Nat)) → eB (ce (cf m) Ft) (WB (cf m) B8) (d + 1) ρ H Q := by
 intro d
 induction d with
 | zero =>
  intro j ρ hj e0 e1
  have : j = 6 := hj
  subst this
  refine vd (by walk_at "t") (bj ?_ (hq ρ 6 e0 e1 (Nat.le_refl _) hk))
  rw [kf, if_neg (show ¬ 1 <<< 6 ≤ k from Nat.not_le_of_lt hk)]; exact fun q => q rfl
 | succ d ih =>
  intro j ρ hj e0 e1
  refine vd (by walk_at "t") ?_
  rw [kf]
  by_cases h : 1 <<< j ≤ k
  ·rw [if_pos h]
   refine gD (Nat.ne_of_gt (dc _)) ?_
   unfold B8
   walk_at "G"
   refine ⟨_, Sb.refl, ih (j + 1) _ (by rw [Nat.add_assoc, Nat.add_comm 1]; exact hj) e0 ?_⟩
   rw [← pM]; rfl
  ·rw [if_neg h]
   exact bj (fun q => q rfl) (hq ρ j e0 e1 (hj ▸ Nat.le_add_right _ _) (Nat.lt_of_not_le h))
theorem GW {m : Nat} {H : Hp} {Q : SQ} : ∀ (j r sq : Nat) (ρ : ap), j ≤ 6 → ρ 0 = some (.int (1 <<< r : Nat)) → ρ 1 = some (.int (1 <<< j : Nat)) → ρ 2 = some (.int sq) → r < 1 <<< j →
  (∀ af, af 2 = some (.int (sq + r : Nat)) → Q .next af H) → eB (ce (cf m) Fu) (WB (cf m) B9) (j + 1) ρ H Q := by
 intro j
 induction j with
 | zero =>
  intro r sq ρ hj e0 e1 e2 hr hq
  cases r with
  | zero => exact vd (by walk_at "t") (bj (by decide) (hq ρ e2))
  | succ r => exact absurd (Nat.lt_of_succ_lt_succ hr) (Nat.not_lt_zero r)
 | succ j ih =>
  intro r sq ρ hj e0 e1 e2 hr hq
  have hp := dc j
  have hs := pM j
  have hd : 1 <<< (j + 1) / 2 = 1 <<< j := by rw [← hs]; exact Nat.mul_div_cancel _ (by decide)
  refine vd (by walk_at "t") (gD (show 1 < 1 <<< (j + 1) from ln [_,_] [.lt (.n 0) (.v 1),.eq (.r (.v 1) 2) (.v 0)] (.lt (.n 1) (.v 0)) [1,2,1] rfl hp hs) ?_)
  unfold B9
  refine iI e1 cU (sD (wf rfl ⟨by decide, by decide⟩) (congrArg (fun x : Nat => V.int x) hd)) trivial ?_
  walk_at "S"
  rw [kf]
  by_cases h : 1 <<< j ≤ r
  ·rw [if_pos h]
   refine gD (Nat.ne_of_gt (dc _)) ?_
   walk_at "G"
   refine ⟨_, Sb.refl, ih (r - 1 <<< j) (sq + 1 <<< j) _ (ij hj rfl) ?_ rfl rfl (ln [_,_,_,_] [.lt (.v 2) (.v 3),.eq (.r (.v 1) 2) (.v 3),.eq (.a (.v 0) (.v 1)) (.v 2)] (.lt (.v 0) (.v 1)) [1,1,-1,1] rfl hr hs (aM h)) (fun af e => hq af ?_)⟩
   ·show some (V.int ((1 <<< r) >>> (1 <<< j) : Nat)) = _
    rw [kf, if_pos h]
   ·rw [e, Nat.add_assoc, Nat.add_sub_cancel' h]
  ·rw [if_neg h]
   refine bj (fun q => q rfl) ?_
   walk_at "G"
   exact ⟨_, Sb.refl, ih r sq _ (ij hj rfl) e0 rfl e2 (Nat.lt_of_not_le h) hq⟩
theorem AY {n k : Nat} {H Q} (hf : 20 < n) (hk : k < 64) (h : Q (.int k) H) : (cf n).Sp 20 [.int (1 <<< k : Nat)] H Q := by
 refine au hf rfl rfl fun m hm => ?_
 walk_at "S"
 refine bj (Nat.ne_of_gt (dc k)) ?_
 walk_at "G"
 refine aj (kG ⟨H, Sb.refl, 7, GV hk (fun af j e0 e1 hj hkj => ?_) 6 0 _ rfl rfl rfl⟩)
 show WB _ _ _ _ _
 walk_at "G"
 refine aj (kG ⟨H, Sb.refl, j + 1, GW j k 0 _ hj e0 e1 rfl hkj (fun af e => ?_)⟩)
 rw [Nat.zero_add] at e
 show WB _ _ _ _ _
 walk_at "G"
 exact ⟨_, Sb.refl, h⟩
theorem AZ (k : Nat) : Builtin.bitAnd ((1 <<< k : Nat) : Int) (-((1 <<< k : Nat) : Int)) = ((1 <<< k : Nat) : Int) := by
 have hp := dc k
 have e : -((1 <<< k : Nat) : Int) = Builtin.bitNot ((1 <<< k - 1 : Nat) : Int) := by unfold Builtin.bitNot; (exact kv [_,_] [] [.eq (.a (.v 1) (.n 1)) (.v 0)] (.g (.c (.v 0))) (.s (.g (.c (.v 1))) (.n 1)) [1,1] [1,-1] rfl rfl (aM hp))
 rw [e, su]
 have : 1 <<< k &&& (1 <<< k - 1) = 0 := by
  rw [Nat.shiftLeft_eq, Nat.one_mul, Nat.and_two_pow_sub_one_eq_mod]
  exact Nat.mod_self _
 rw [this]; rfl
theorem C5 {n k : Nat} {H Q} (hf : 21 < n) (hk : k < 64) (h : Q (.int k) H) : (cf n).Sp 21 [.int (1 <<< k : Nat)] H Q := by
 refine au hf rfl rfl fun m hm => sw (.cons (f9 (cT rfl) (yC (cT rfl)) (sD Op.and (congrArg V.int (AZ k)))) .nil) (AY (aq hm rfl) hk ?_)
 exact ⟨_, Sb.refl, h⟩
theorem C6 {n k side : Nat} {A : PA} {g z : Nat} {P : PD} {H Q} (hf : 36 < n) (hp : bB A g z P H) (hk : P.k.length = 7) (hs : P.s.length = 2) (h1 : side < 2) (h2 : k < 64) (h3 : P.s.getD side 0 &&& P.k.getD 6 0 = 1 <<< k) (h : Q (.int k) H) : (cf n).Sp 36 [.ref A.x, .int side] H Q := by
 have p1 := hp.i; have p2 := hp.f; have p4 := hp.k; have p5 := hp.s
 have l1 : side < P.s.length := hs ▸ h1
 have l2 : P.s.length ≤ 2 := Nat.le_of_eq hs
 have l3 : 6 < P.k.length := hk ▸ ai rfl
 have l4 : P.k.length ≤ 7 := Nat.le_of_eq hk
 refine au hf rfl rfl fun m hm => ?_
 walk_at "S"
 rw [h3]
 refine C5 (aq hm rfl) h2 ?_
 exact ⟨_, Sb.refl, h⟩
theorem ua {n sq side z : Nat} {A : PA} {B : GA} {G : GD} {P : PD} {H Q} (hf : 48 < n) (hp : bB A B.g z P H) (hg : aS B G H) (hr : (dX, .tup f') ∈ H) (go : eo G) (hk : P.k.length = 7) (hs : P.s.length = 2) (h1 : side < 2) (h2 : sq < G.aa * G.ab)
  (h3 : P.s.getD side 0 &&& P.k.getD 6 0 = 1 <<< sq)
  (a1 : kN G P sq (1 - side) = 0)
  (a2 : dh (fun d => ed ((G.ry d).getD sq 0) (P.s.getD 0 0 ||| P.s.getD 1 0) (grow d)) 4 &&& ((P.k.getD 4 0 ||| P.k.getD 5 0) &&& P.s.getD (1 - side) 0) = 0)
  (a3 : dh (fun d => ed ((G.ry (4 + d)).getD sq 0) (P.s.getD 0 0 ||| P.s.getD 1 0) (grow (4 + d))) 4 &&& ((P.k.getD 3 0 ||| P.k.getD 5 0) &&& P.s.getD (1 - side) 0) = 0)
  (h : Q (.bool false) H) : (cf n).Sp 48 [.ref A.x, .int side] H Q := by
 have p1 := hp.i; have p2 := hp.f; have p5 := hp.s
 have l0 : 0 < P.s.length := hs ▸ Nat.zero_lt_succ _
 have l1 : 1 < P.s.length := hs ▸ Nat.le_refl _
 have l2 : P.s.length ≤ 2 := Nat.le_of_eq hs
 have s1 : side ≤ 1 := Nat.le_of_lt_succ h1
 refine au hf rfl rfl fun m hm => ?_
 walk_at "S"
 refine cH (w_call (jo (by walk_at "v") (lU (w_call (bc.s (vs := [.ref A.x, .int side]) (by walk_at "vs") _ (C6 (aq hm rfl) hp hk hs h1 (Nat.lt_of_lt_of_le h2 (bq go.s rfl)) h3 ?_))))))
 refine df (vs := [.int (1 - side : Nat), .int (P.s.getD 0 0 ||| P.s.getD 1 0 : Nat)]) (by walk_at "vs") (C2 (aq hm rfl) hp hg hr go hk hs (Nat.lt_succ_of_le (Nat.sub_le _ _)) h2 a1 a2 a3 ?_)
 exact ⟨_, Sb.refl, h⟩
theorem wq {n : Nat} {A : PA} {B : GA} {G : GD} {D : ZA} {Z : ZD} {P : PD} {T : Hp} {Q} (hf : 37 < n) (hg : aS B G T) (go : eo G) (hz : dK D Z G.aa (G.aa * G.ab) T) (hr : P.rights < 16) (he : -1 ≤ P.ep) (hs : P.side < 2)
  (hb : P.b.length = G.aa * G.ab) (hok : ∀ s, s < P.b.length → P.b.getD s 0 = 0 ∨ bM (P.b.getD s 0))
  (h : Q .none (dy A B.g D.z { P with key := fj (gb Z P.b) (G.aa * G.ab) (j' Z P G.aa) } T)) : (cf n).Sp 37 [.ref A.x] (dy A B.g D.z P T) Q := by
 refine au hf rfl rfl fun m hm => bD (w_call (bc.s (vs := [.ref A.x]) (by walk_at "vs") _ (AU (aq hm rfl) .here hg.up.up.up.up.up.up go hz.up.up.up.up.up.up hr he hs hb hok ?_)))
 refine bQ (by walk_at "v") (by walk_at "m") (by walk_at "u") rfl rfl ?_
 walk_at "G"
 exact ⟨_, Sb.refl, h⟩
noncomputable def P0 (size : Nat) : PD := ⟨List.replicate size 0, List.replicate 7 0, [0, 0], 0, 0, -1, 0, 1, 0⟩
theorem C7 {n z : Nat} {B : GA} {G : GD} {H : Hp} {Q} (hf : 33 < n) (hg : aS B G H) (go : eo G) (h : ∀ A : PA, Q (.ref A.x) (dy A B.g z (P0 (G.aa * G.ab)) H)) : (cf n).Sp 33 [.ref B.g, .ref z] H Q := by
 have g1 := hg.i; have g2 := hg.f; have g5 := hg.l2
 have q3 : G.aa * G.ab ≤ 1000 := bq go.s rfl
 refine mf (i := 32) (c := cPos) hf rfl fun m hm x d => au (aq hm rfl) rfl rfl fun m' hm' => ?_
 walk_at "G"
 refine bD (io (k := G.aa * G.ab) (by walk_at "v") (fun t => by walk_at "v") ⟨q3⟩ fun t1 bd => bQ (by walk_at "v") (by walk_at "m") (by walk_at "u") rfl rfl ?_)
 refine bD (io (k := 7) (by walk_at "v") (fun t => by walk_at "v") ⟨ai rfl⟩ fun t2 kd => bQ (by walk_at "v") (by walk_at "m") (by walk_at "u") rfl rfl ?_)
 refine bD (bu (bc.s (vs := [.int (0 : Nat), .int (0 : Nat)]) (by walk_at "vs") _ ⟨ai rfl, fun sd => bQ (by walk_at "v") (by walk_at "m") (by walk_at "u") rfl rfl ?_⟩))
 walk_at "G"
 refine bD (bu (bc.nil.s _ ⟨Nat.zero_le _, fun hd => bQ (by walk_at "v") (by walk_at "m") (by walk_at "u") rfl rfl (an ?_)⟩))
 refine ⟨dy ⟨x, d, bd, kd, sd, hd⟩ B.g z (P0 (G.aa * G.ab)) H, ?_, rfl, h ⟨x, d, bd, kd, sd, hd⟩⟩
 exact .pick (.there (.there (.there (.there (.there (.there .here)))))) (.pick (.there (.there (.there (.there (.there (.there .here)))))) (.pick (.there (.there (.there (.there .here)))) (.pick (.there (.there .here)) (.pick (.there .here) (.pick .here (.skip (.skip .refl)))))))
noncomputable def putK (Z : ZD) (bl : List Nat) (P : PD) (s : Nat) : PD := if bl.getD s 0 = 0 then P else putD Z P (bl.getD s 0) s
noncomputable def av (Z : ZD) (bl : List Nat) (k : Nat) (P : PD) : PD := (List.range k).foldl (putK Z bl) P
theorem bU (Z : ZD) (bl : List Nat) (k : Nat) (P : PD) : av Z bl (k + 1) P = putK Z bl (av Z bl k P) k := by
 unfold av; rw [List.range_succ, List.foldl_append]; rfl
theorem cx (Z : ZD) (bl : List Nat) (P : PD) : ∀ k, (av Z bl k P).b.length = P.b.length ∧ (av Z bl k P).k.length = P.k.length ∧ (av Z bl k P).s.length = P.s.length
 | 0 => ⟨rfl, rfl, rfl⟩
 | k + 1 => by
  rw [bU]
  obtain ⟨a, b, c⟩ := cx Z bl P k
  unfold putK
  split
  ·exact ⟨a, b, c⟩
  ·unfold putD
   simp [a, b, c]
noncomputable def aV (Z : ZD) (bl : List Nat) (size side rights half full : Nat) (ep : Int) : PD :=
 { av Z bl size (P0 size) with side := side, rights := rights, half := half, full := full, ep := ep }
noncomputable def vk (Z : ZD) (bl : List Nat) (aa size side rights half full : Nat) (ep : Int) : PD :=
 { aV Z bl size side rights half full ep with key := fj (gb Z (av Z bl size (P0 size)).b) size (j' Z (aV Z bl size side rights half full ep) aa) }
structure A0 (G : GD) (Z : ZD) (bl : List Nat) (side rights : Nat) (ep : Int) (half full k0 k1 : Nat) : Prop where
 l : bl.length = G.aa * G.ab
 ok : ∀ s, s < bl.length → bl.getD s 0 = 0 ∨ bM (bl.getD s 0)
 s : side < 2
 r : rights < 16
 e : -1 ≤ ep ∧ ep < (G.aa * G.ab : Nat)
 same : (av Z bl (G.aa * G.ab) (P0 (G.aa * G.ab))).b = bl
 c0 : k0 < G.aa * G.ab
 c1 : k1 < G.aa * G.ab
 h0 : (av Z bl (G.aa * G.ab) (P0 (G.aa * G.ab))).s.getD 0 0 &&& (av Z bl (G.aa * G.ab) (P0 (G.aa * G.ab))).k.getD 6 0 = 1 <<< k0
 h1 : (av Z bl (G.aa * G.ab) (P0 (G.aa * G.ab))).s.getD 1 0 &&& (av Z bl (G.aa * G.ab) (P0 (G.aa * G.ab))).k.getD 6 0 = 1 <<< k1
 h2 : (av Z bl (G.aa * G.ab) (P0 (G.aa * G.ab))).k.getD 1 0 &&& (G.rm.getD 0 0 ||| G.rm.getD (G.ab - 1) 0) = 0
 w : ∀ i, i < 4 → mq G (aV Z bl (G.aa * G.ab) side rights half full (-1)) i
 p1 : 0 ≤ ep → G.hd = true ∧ 5 ≤ G.ab ∧ ep.toNat / G.aa = (if side = 0 then G.ab - 3 else 2) ∧ bl.getD ep.toNat 0 = 0 ∧ bl.getD (if side = 0 then ep.toNat + G.aa else ep.toNat - G.aa) 0 = 0 ∧
  bl.getD (if side = 0 then ep.toNat - G.aa else ep.toNat + G.aa) 0 = (1 - side) * 8 + 1
 a : ∀ sq, sq = (if side = 0 then k1 else k0) → ∀ ep', kN G (aV Z bl (G.aa * G.ab) side rights half full ep') sq side = 0 ∧
  dh (fun d => ed ((G.ry d).getD sq 0) ((aV Z bl (G.aa * G.ab) side rights half full ep').s.getD 0 0 ||| (aV Z bl (G.aa * G.ab) side rights half full ep').s.getD 1 0) (grow d)) 4 &&& (((aV Z bl (G.aa * G.ab) side rights half full ep').k.getD 4 0 ||| (aV Z bl (G.aa * G.ab) side rights half full ep').k.getD 5 0) &&& (aV Z bl (G.aa * G.ab) side rights half full ep').s.getD side 0) = 0 ∧
  dh (fun d => ed ((G.ry (4 + d)).getD sq 0) ((aV Z bl (G.aa * G.ab) side rights half full ep').s.getD 0 0 ||| (aV Z bl (G.aa * G.ab) side rights half full ep').s.getD 1 0) (grow (4 + d))) 4 &&& (((aV Z bl (G.aa * G.ab) side rights half full ep').k.getD 3 0 ||| (aV Z bl (G.aa * G.ab) side rights half full ep').k.getD 5 0) &&& (aV Z bl (G.aa * G.ab) side rights half full ep').s.getD side 0) = 0
noncomputable def dS (G : GD) (Z : ZD) (bl : List Nat) (side : Nat) (ep : Int) : Int :=
 if 0 ≤ ep ∧ (pw G (1 - side)).getD ep.toNat 0 &&& ((av Z bl (G.aa * G.ab) (P0 (G.aa * G.ab))).s.getD side 0 &&& (av Z bl (G.aa * G.ab) (P0 (G.aa * G.ab))).k.getD 1 0) ≠ 0 then ep else -1
theorem pO (Z : ZD) (bl : List Nat) (P : PD) : ∀ k, (av Z bl k P).ep = P.ep
 | 0 => rfl
 | k + 1 => by
  rw [bU, ← pO Z bl P k]
  unfold putK
  split <;> rfl
theorem yY {n fb ba side rights half full k0 k1 : Nat} {ep : Int} {bl : List Nat} {B : GA} {G : GD} {D : ZA} {Z : ZD} {H : Hp} {Q} (hf : 61 < n) (hg : aS B G H) (go : eo G) (hz : dK D Z G.aa (G.aa * G.ab) H) (hsr : (dX, .tup f') ∈ H)
  (m1 : (fb, .tup [.ref ba, .int side, .int rights, .int ep]) ∈ H) (m2 : (ba, .list (ak bl)) ∈ H) (ok : A0 G Z bl side rights ep half full k0 k1)
  (h : ∀ A : PA, Q (.ref A.x) (dy A B.g D.z (vk Z bl G.aa (G.aa * G.ab) side rights half full (dS G Z bl side ep)) H)) : (cf n).Sp 61 [.ref fb, .int half, .int full, .ref B.g, .ref D.z] H Q := by
 have g1 := hg.i; have g2 := hg.f; have g5 := hg.l2
 have q3 := go.s
 have bl1 := ok.l; have bl2 := ok.ok
 generalize hsz : G.aa * G.ab = size at *
 obtain ⟨t1, t2, t3⟩ := cx Z bl (P0 size) size
 have A1 : (av Z bl size (P0 size)).b.length = size := by rw [t1]; simp [P0]
 have C8 : (av Z bl size (P0 size)).k.length = 7 := by rw [t2]; simp [P0]
 have C9 : (av Z bl size (P0 size)).s.length = 2 := by rw [t3]; simp [P0]
 have s1 : size ≤ 10000 := az q3 rfl
 have A2 : bl.length ≤ 10000 := bl1 ▸ s1
 refine au hf rfl rfl fun m hm => ?_
 refine aj (aR (kM (v := .ref fb) (by walk_at "v") ⟨fb, _, rfl, .inl m1, ⟨rfl, ai rfl⟩, ?_⟩))
 refine fh (vs := [.ref B.g, .ref D.z]) (by walk_at "vs") (C7 (n := m) (aq hm rfl) hg go (fun A => ?_))
 rw [hsz]
 refine ch (n := size) (by walk_at "v") (fun k af H' => af 1 = some (.int half) ∧ af 2 = some (.int full) ∧ af 5 = some (.ref A.x) ∧ af 7 = some (.ref ba) ∧ af 8 = some (.int side) ∧ af 9 = some (.int rights) ∧ af 10 = some (.int ep) ∧ H' = dy A B.g D.z (av Z bl k (P0 size)) H) ⟨s1⟩ ⟨rfl, rfl, rfl, rfl, rfl, rfl, rfl, rfl⟩ ?_ ?_
 ·rintro k af H' Q' hk ⟨e1, e2, e5, e7, e8, e9, e10, rfl⟩ hq
  obtain ⟨l1, l2, l3⟩ := cx Z bl (P0 size) k
  have l1' : (av Z bl k (P0 size)).b.length = size := by rw [l1]; simp [P0]
  have k1 : k < bl.length := bl1 ▸ hk
  rw [bU] at hq
  unfold putK at hq
  walk_at "S"
  refine bF (fun ne => ?_) (fun e => ?_)
  ·rw [if_neg ne] at hq
   refine gr (vs := [.ref A.x, .int (bl.getD k 0), .int k]) (by walk_at "vs") (C1 (n := m) (z := 0) (f := G.aa) (aq hm rfl) ((bl2 k k1).resolve_left ne) (by rw [l1']; exact hk) (by rw [l1']; exact az q3 rfl) (by rw [l2]; simp [P0]) (by rw [l3]; simp [P0]) (by rw [l1']; exact hz) ?_)
   refine an (an (hq _ _ _ .refl ?_).1)
   exact ⟨e1, e2, e5, e7, e8, e9, e10, rfl⟩
  ·rw [if_pos (Decidable.not_not.mp e)] at hq
   refine an (an (hq _ _ _ .refl ?_).1)
   exact ⟨e1, e2, e5, e7, e8, e9, e10, rfl⟩
 ·rintro af H' ⟨e1, e2, e5, e7, e8, e9, e10, rfl⟩
  subst hsz
  have ub := pO Z bl (P0 (G.aa * G.ab)) (G.aa * G.ab)
  have e0 : ({ av Z bl (G.aa * G.ab) (P0 (G.aa * G.ab)) with side := side, rights := rights, half := half, full := full } : PD) = aV Z bl (G.aa * G.ab) side rights half full (-1) := by
   unfold aV; rw [show (-1 : Int) = (P0 (G.aa * G.ab)).ep from rfl, ← ub]
  have A3 : aS B G (dy A B.g D.z (aV Z bl (G.aa * G.ab) side rights half full (-1)) H) := hg.up.up.up.up.up.up
  have side1 : side ≤ 1 := Nat.le_of_lt_succ ok.s
  have Fv : (av Z bl (G.aa * G.ab) (P0 (G.aa * G.ab))).b.length ≤ 100 := by rw [A1]; exact az q3 rfl
  have fin : ∀ (ep' : Int) (ρ : ap), ρ 5 = some (.ref A.x) → ρ 8 = some (.int side) → -1 ≤ ep' → ep' = dS G Z bl side ep →
    WB (cf m) (fT.body.drop 10) ρ (dy A B.g D.z (aV Z bl (G.aa * G.ab) side rights half full ep') H) (bT Q) := by
   intro ep' ρ q5 q8 qe qk
   refine gr (vs := [.ref A.x]) (by walk_at "vs") (wq (n := m) (aq hm rfl) hg go hz ok.r qe ok.s A1 (fun s hs => ?_) ?_)
   ·show (av Z bl (G.aa * G.ab) (P0 (G.aa * G.ab))).b.getD s 0 = 0 ∨ bM ((av Z bl (G.aa * G.ab) (P0 (G.aa * G.ab))).b.getD s 0)
    rw [ok.same]
    exact bl2 s (by rw [bl1, ← A1]; exact hs)
   obtain ⟨a1, a2, a3⟩ := ok.a _ rfl ep'
   have C' : 1 - (1 - side) = side := Nat.sub_sub_self side1
   refine aj (cG (eY ((by walk_at "vs" : bc m _ _ _ [.ref A.x, .int (1 - side : Nat)]).s) (ua (n := m) (sq := if side = 0 then k1 else k0) (P := vk Z bl G.aa (G.aa * G.ab) side rights half full ep') (aq hm rfl) .here hg.up.up.up.up.up.up (.tail _ (.tail _ (.tail _ (.tail _ (.tail _ (.tail _ hsr)))))) go C8 C9 (Nat.lt_of_le_of_lt (Nat.sub_le _ _) (by decide)) ?_ ?_ (by rw [C']; exact a1) (by rw [C']; exact a2) (by rw [C']; exact a3) ?_)))
   ·have := ok.c0; have := ok.c1; split <;> assumption
   ·have := ok.s
    obtain e | e := fZ ok.s
    ·subst e; exact ok.h1
    ·subst e; exact ok.h0
   refine an (nR (by walk_at "v") ⟨_, Sb.refl, ?_⟩)
   rw [qk]
   exact h A
  walk_at "S"
  walk_at "S"
  walk_at "S"
  walk_at "S"
  show WB (cf m) _ _ (dy A B.g D.z { av Z bl (G.aa * G.ab) (P0 (G.aa * G.ab)) with side := side, rights := rights, half := half, full := full } H) _
  rw [e0]
  refine gr (vs := [.ref A.x]) (by walk_at "vs") (tX (n := m) (P := aV Z bl (G.aa * G.ab) side rights half full (-1)) (aq hm rfl) .here A3 go C8 C9 ok.h0 ok.h1 ok.h2 ?_)
  refine gr (vs := [.ref A.x]) (by walk_at "vs") (wn (n := m) (P := aV Z bl (G.aa * G.ab) side rights half full (-1)) (aq hm rfl) .here A3 go Fv ok.r ok.w ?_)
  by_cases c : 0 ≤ ep
  ·obtain ⟨k, rfl⟩ := Int.eq_ofNat_of_zero_le c
   obtain ⟨q1, q2, GY, q4, q5, q6⟩ := ok.p1 c
   have ek : k < G.aa * G.ab := Int.ofNat_lt.mp ok.e.2
   have sm := ok.same
   walk_at "S"
   refine gD (Nat.zero_le k) ?_
   refine aj (cG (uV (eY ((by walk_at "vs" : bc m _ _ _ [.ref A.x, .int k]).s) (sJ (n := m) (P := aV Z bl (G.aa * G.ab) side rights half full (-1)) (aq hm rfl) .here A3 go A1 ok.s q1 q2 ek GY (by show (av Z bl (G.aa * G.ab) (P0 (G.aa * G.ab))).b.getD k 0 = 0; rw [sm]; exact q4) (by show (av Z bl (G.aa * G.ab) (P0 (G.aa * G.ab))).b.getD (if side = 0 then _ else _) 0 = 0; rw [sm]; exact q5) (by show (av Z bl (G.aa * G.ab) (P0 (G.aa * G.ab))).b.getD (if side = 0 then _ else _) 0 = _; rw [sm]; exact q6) ?_))))
   refine an (aj (cG (eY ((by walk_at "vs" : bc m _ _ _ [.ref A.x, .int k]).s) (yR (n := m) (P := aV Z bl (G.aa * G.ab) side rights half full (-1)) (aq hm rfl) .here A3 go C8 C9 ok.s ek ?_))))
   by_cases d : (pw G (1 - side)).getD k 0 &&& ((av Z bl (G.aa * G.ab) (P0 (G.aa * G.ab))).s.getD side 0 &&& (av Z bl (G.aa * G.ab) (P0 (G.aa * G.ab))).k.getD 1 0) ≠ 0
   ·rw [decide_eq_true (show (pw G (1 - (aV Z bl (G.aa * G.ab) side rights half full (-1)).side)).getD k 0 &&& ((aV Z bl (G.aa * G.ab) side rights half full (-1)).s.getD (aV Z bl (G.aa * G.ab) side rights half full (-1)).side 0 &&& (aV Z bl (G.aa * G.ab) side rights half full (-1)).k.getD 1 0) ≠ 0 from d)]
    refine sA ?_
    refine nS (cT e10) (cT e5) (.head _) (.there .here) rfl rfl (an (an (fin (k : Int) _ e5 e8 (Int.le_trans (by decide) (Int.natCast_nonneg k)) ?_)))
    unfold dS
    rw [if_pos ⟨c, d⟩]
   ·rw [decide_eq_false (show ¬ ((pw G (1 - (aV Z bl (G.aa * G.ab) side rights half full (-1)).side)).getD k 0 &&& ((aV Z bl (G.aa * G.ab) side rights half full (-1)).s.getD (aV Z bl (G.aa * G.ab) side rights half full (-1)).side 0 &&& (aV Z bl (G.aa * G.ab) side rights half full (-1)).k.getD 1 0) ≠ 0) from d)]
    refine an (an (fin (-1) _ e5 e8 (by decide) ?_))
    unfold dS
    rw [if_neg (fun x => d x.2)]
  ·walk_at "S"
   refine bj c ?_
   refine an (fin (-1) _ e5 e8 (by decide) ?_)
   unfold dS
   rw [if_neg (fun x => c x.1)]
theorem A4 {n k0 k1 : Nat} {T : TD} {bs : List (List Nat)} {B : GA} {G : GD} {D : ZA} {Z : ZD} {H : Hp} {Q} (hf : 62 < n) (hg : aS B G H) (go : eo G) (hz : dK D Z G.aa (G.aa * G.ab) H) (hsr : (dX, .tup f') ∈ H)
  (tk : AX T G.aa G.ab bs) (ok : A0 G Z bs.flatten T.side T.rights T.ep T.half T.full k0 k1)
  (h : ∀ A : PA, Q (.ref A.x) (dy A B.g D.z (vk Z bs.flatten G.aa (G.aa * G.ab) T.side T.rights T.half T.full (dS G Z bs.flatten T.side T.ep)) H)) : (cf n).Sp 62 [.str (dR T G.aa), .ref B.g, .ref D.z] H Q := by
 have q0 := go.f; have q1 := go.r; have q2 := go.s
 have ro := iJ T.rights tk.rt
 have d1 := vj T.half; have d2 := vj T.full
 have l1 := fo 14 T.half tk.h; have l2 := fo 14 T.full tk.f.2
 have rl : ∀ p ∈ T.rows, p.length ≤ 10 := by
  intro p hp
  obtain ⟨j, hj⟩ := List.mem_iff_getElem?.mp hp
  have jl : j ≤ G.ab - 1 := Nat.le_sub_one_of_lt (tk.n ▸ (List.getElem?_eq_some_iff.mp hj).1)
  obtain ⟨b, _, _, _, h4⟩ := tk.r (G.ab - 1 - j) p (Nat.lt_of_le_of_lt (Nat.sub_le _ _) (Nat.sub_lt (cY q1.1 rfl) Nat.zero_lt_one)) (by rw [Nat.sub_sub_self jl]; exact hj)
  exact h4
 have tl : (glue 47 T.rows).length ≤ 88 := Nat.le_trans (cA 47 10 T.rows rl) (by rw [tk.n]; exact Nat.mul_le_mul_right _ q1.2)
 have pc : ∀ p ∈ bG T G.aa, p.length ≤ 88 ∧ ∀ c ∈ p, c < 128 ∧ c ≠ 32 := by
  intro p hp
  simp only [bG, List.mem_cons, List.not_mem_nil, or_false] at hp
  rcases hp with rfl | rfl | rfl | rfl | rfl | rfl
  ·refine ⟨tl, fun c hc => ?_⟩
   rcases iK hc with e | ⟨p, hp, e⟩
   ·(exact ⟨ln [_] [.eq (.v 0) (.n 47)] (.lt (.v 0) (.n 128)) [1,1] rfl e, ln [_] [.eq (.v 0) (.n 47)] (.ne (.v 0) (.n 32)) [1,-1] rfl e⟩)
   ·have := tk.c p hp c e; (exact ⟨ln [_] [.lt (.v 0) (.n 128)] (.lt (.v 0) (.n 128)) [1,1] rfl this.1, (Nat.lt_or_gt_of_ne this.2.2).elim (fun qz => ln [_] [.lt (.v 0) (.n 32)] (.ne (.v 0) (.n 32)) [-1,1] rfl qz) (fun qz => ln [_] [.lt (.n 32) (.v 0)] (.ne (.v 0) (.n 32)) [1,1] rfl qz)⟩)
  ·refine ⟨by simp, fun c hc => ?_⟩
   simp at hc; subst hc; split <;> (first | exact ⟨ln [] [] (.lt (.n 98) (.n 128)) [1] rfl, ln [] [] (.ne (.n 98) (.n 32)) [1] rfl⟩ | exact ⟨ln [] [] (.lt (.n 119) (.n 128)) [1] rfl, ln [] [] (.ne (.n 119) (.n 32)) [1] rfl⟩)
  ·exact ⟨by (exact bq ro.2.1 rfl), ro.1⟩
  ·unfold fk
   have f1 : T.ep.toNat % G.aa < G.aa := Nat.mod_lt _ (by exact cY q0.1 rfl)
   split
   ·exact ⟨by simp, fun c hc => by simp at hc; (exact ⟨ln [_] [.eq (.v 0) (.n 45)] (.lt (.v 0) (.n 128)) [1,1] rfl hc, ln [_] [.eq (.v 0) (.n 45)] (.ne (.v 0) (.n 32)) [1,-1] rfl hc⟩)⟩
   ·have f2 : T.ep.toNat / G.aa < G.ab := Nat.div_lt_of_lt_mul (by have := tk.e; omega)
    generalize T.ep.toNat / G.aa = y at f2 ⊢
    generalize T.ep.toNat % G.aa = x at f1 ⊢
    refine ⟨by simp, fun c hc => ?_⟩
    rcases List.mem_cons.mp hc with e | hc
    ·(exact ⟨ln [_,_,_] [.le (.v 1) (.n 8),.lt (.v 2) (.v 1),.eq (.v 0) (.a (.n 97) (.v 2))] (.lt (.v 0) (.n 128)) [1,1,1,1] rfl q0.2 f1 e, ln [_,_] [.eq (.v 0) (.a (.n 97) (.v 1))] (.ne (.v 0) (.n 32)) [1,-1] rfl e⟩)
    ·have := List.mem_singleton.mp hc; (exact ⟨ln [_,_,_] [.le (.v 1) (.n 8),.lt (.v 2) (.v 1),.eq (.v 0) (.a (.n 49) (.v 2))] (.lt (.v 0) (.n 128)) [1,1,1,1] rfl q1.2 f2 this, ln [_,_] [.eq (.v 0) (.a (.n 49) (.v 1))] (.ne (.v 0) (.n 32)) [1,-1] rfl this⟩)
  ·exact ⟨by (exact bq l1 rfl), fun c hc => by have := d1.1 c hc; (exact ⟨ln [_] [.le (.v 0) (.n 57)] (.lt (.v 0) (.n 128)) [1,1] rfl this.2, ln [_] [.le (.n 48) (.v 0)] (.ne (.v 0) (.n 32)) [1,1] rfl this.1⟩)⟩
  ·exact ⟨by (exact bq l2 rfl), fun c hc => by have := d2.1 c hc; (exact ⟨ln [_] [.le (.v 0) (.n 57)] (.lt (.v 0) (.n 128)) [1,1] rfl this.2, ln [_] [.le (.n 48) (.v 0)] (.ne (.v 0) (.n 32)) [1,1] rfl this.1⟩)⟩
 have hsp : bf 32 (dR T G.aa) = bG T G.aa := ip 32 _ (by simp [bG]) (fun p hp hc => ((pc p hp).2 _ hc).2 rfl)
 have nX : ∀ c ∈ dR T G.aa, c < 128 := by
  intro c hc
  rcases iK hc with e | ⟨p, hp, e⟩
  ·(exact ln [_] [.eq (.v 0) (.n 32)] (.lt (.v 0) (.n 128)) [1,1] rfl e)
  ·exact ((pc p hp).2 c e).1
 have Fw : (dR T G.aa).length ≤ 1000 := Nat.le_trans (cA 32 88 _ (fun p hp => (pc p hp).1)) (by simp [bG])
 have nl : ((bG T G.aa).map V.str).length ≤ 6 := Nat.le_refl _
 have e0 : ((Txt.split (st (dR T G.aa)) (st [32])).map fun x => V.str (un x)) = (bG T G.aa).map .str := by
  rw [← hsp, ← nV 32 _ nX (ai rfl), List.map_map]; rfl
 refine au hf rfl rfl fun m hm => j8 (sK (by walk_at "v") (by walk_at "v") Fw (ai rfl) fun pa => ?_)
 rw [e0]
 walk_at "S"
 refine bj (fun q => q rfl) ?_
 walk_at "G"
 refine t9 (aq hm rfl) hg go tk (fun a b => ?_)
 walk_at "S"
 refine pL (p := 4) (l := 0) (aq hm rfl) d1.1 d1.2.1 d1.2.2.2 (bq l1 rfl) (Nat.zero_le _) ?_
 walk_at "S"
 refine pL (p := 5) (l := 1) (aq hm rfl) d2.1 d2.2.1 d2.2.2.2 (bq l2 rfl) (by rw [d2.2.2.1]; exact tk.f.1) ?_
 rw [d1.2.2.1, d2.2.2.1]
 walk_at "S"
 refine yY (fb := b) (ba := a) (aq hm rfl) hg.up.up.up go hz.up.up.up (.tail _ (.tail _ (.tail _ hsr))) (.head _) (.tail _ (.head _)) ok (fun A => ?_)
 refine ⟨_, ?_, h A⟩
 walk_at "sb"
theorem js {m n : Nat} {ρ : ap} {H : Hp} {e : E} (p : Ev m ρ H e (.int n)) (l : n < 10 ^ 20) : Ev m ρ H (.blt 4 (.cons e .nil)) (.str (dig n)) := ⟨fun R g => p.s _ ⟨⟨Int.natCast_nonneg _, Int.lt_of_lt_of_le (Int.ofNat_lt.mpr l) (by decide)⟩, by rw [sE]; exact g⟩⟩
section
variable {m f i j : Nat} {ρ : ap} {H : Hp} {o a b d : E} {es : Es} {R : V → Hp → Prop} {s t : List Nat} {x y z : V} {c c' : Bool} {op op' : CmpOp}
theorem Fx (p : Ev m ρ H a x) (q : Ev m ρ H b y) (w : cw op x y (.bool c)) (p' : Ev m ρ H d z) (w' : cw op' y z (.bool c')) : Ev m ρ H (.gf op op' a b d) (.bool (c && c')) :=
 ⟨fun _ g => p.s _ (q.s _ (w _ _ (by cases c with | true => exact p'.s _ (w' _ _ g) | false => exact g)))⟩
theorem yZ (ls : s.length ≤ i) (lt : t.length ≤ j) (e : Nat.ble (i + j) 10000 = true) (g : (s ++ t).length ≤ i + j → R (.str (s ++ t)) H) : cn .Add (.str s) (.str t) H R :=
 ⟨Nat.le_trans (Nat.add_le_add ls lt) (Nat.le_of_ble_eq_true e), g (by rw [List.length_append]; exact Nat.add_le_add ls lt)⟩
theorem gG (q : Ev m ρ H o (.str t)) (ls : s.length ≤ i) (lt : t.length ≤ j) (e : Nat.ble (i + j) 10000 = true) (g : (s ++ t).length ≤ i + j → R (.str (s ++ t)) H) : ay (cf m) o ρ H fun y H₂ => cn .Add (.str s) y H₂ R := q.s _ (yZ ls lt e g)
end
theorem Da {n p : Nat} {H Q} (hf : 3 < n) (hp : bM p) (h : Q (.bool true) H) : (cf n).Sp 3 [.int p] H Q := by
 have hh : 0 < p ∧ p < 15 ∧ p ≠ 7 ∧ p ≠ 8 := by unfold bM at hp; (exact ⟨hp.elim (fun qz => ln [_] [.le (.n 1) (.v 0)] (.lt (.n 0) (.v 0)) [1,1] rfl qz.1) (fun qz => ln [_] [.le (.n 9) (.v 0)] (.lt (.n 0) (.v 0)) [1,1] rfl qz.1), ⟨hp.elim (fun qz => ln [_] [.le (.v 0) (.n 6)] (.lt (.v 0) (.n 15)) [1,1] rfl qz.2) (fun qz => ln [_] [.le (.v 0) (.n 14)] (.lt (.v 0) (.n 15)) [1,1] rfl qz.2), ⟨hp.elim (fun qz => ln [_] [.le (.v 0) (.n 6)] (.ne (.v 0) (.n 7)) [-1,1] rfl qz.2) (fun qz => ln [_] [.le (.n 9) (.v 0)] (.ne (.v 0) (.n 7)) [1,1] rfl qz.1), hp.elim (fun qz => ln [_] [.le (.v 0) (.n 6)] (.ne (.v 0) (.n 8)) [-1,1] rfl qz.2) (fun qz => ln [_] [.le (.n 9) (.v 0)] (.ne (.v 0) (.n 8)) [1,1] rfl qz.1)⟩⟩⟩)
 refine au hf rfl rfl fun m hm => nR (e_n (Fx cU (by walk_at "v") (by walk_at "c") (by walk_at "v") (by walk_at "c")) (by walk_at "v")) ⟨_, Sb.refl, ?_⟩
 rw [decide_eq_true hh.1, decide_eq_true hh.2.1, decide_eq_true hh.2.2.1, decide_eq_true hh.2.2.2]
 exact h
theorem pP {n p : Nat} {H Q} (hf : 4 < n) (hp : bM p) (h : Q (.str [bI.getD p 0]) H) : (cf n).Sp 4 [.int p] H Q := by
 have h14 : p < bI.length := by show p < 15; unfold bM at hp; (exact hp.elim (fun qz => ln [_] [.le (.v 0) (.n 6)] (.lt (.v 0) (.n 15)) [1,1] rfl qz.2) (fun qz => ln [_] [.le (.v 0) (.n 14)] (.lt (.v 0) (.n 15)) [1,1] rfl qz.2))
 refine au hf rfl rfl fun m hm => yH (qM (sC (by walk_at "t") (fun _ T' g' => jU (uV (eY (bc.s (vs := [.int p]) (by walk_at "vs")) (Da (aq hm rfl) hp g')))) ?_))
 walk_at "G"
 exact ⟨_, Sb.refl, h⟩
noncomputable def wr : List Nat → Nat → List Nat
 | [], g => if 0 < g then dig g else []
 | p :: r, g => if p = 0 then wr r (g + 1) else (if 0 < g then dig g else []) ++ bI.getD p 0 :: wr r 0
theorem y3 {n c : Nat} {r W : List Nat} {H Q} (hf : 63 < n) (hW : wr r 0 = W) (m1 : (c, .list (ak r)) ∈ H) (hr : r.length ≤ 100) (hok : ∀ p ∈ r, p = 0 ∨ bM p) (hl : W.length ≤ 1000)
  (h : Q (.str W) H) : (cf n).Sp 63 [.ref c] H Q := by
 refine au hf rfl rfl fun m hm => ?_
 walk_at "G"
 refine vb (by walk_at "v") m1 (bq hr rfl) (fun k af H' => ∃ t g, t ++ wr (r.drop k) g = W ∧ g ≤ k ∧ af 1 = some (.str t) ∧ af 2 = some (.int (g : Nat)) ∧ H' = H) ⟨[], 0, hW, Nat.le_refl _, rfl, rfl, rfl⟩ (fun k af H' e => by obtain ⟨_, _, _, _, _, _, rfl⟩ := e; exact m1) ?_ ?_
 ·rintro k af H' Q' hkl ⟨t, g, et, gk, e1, e2, rfl⟩ hq
  have hrk : r[k]? = some (r.getD k 0) := by rw [List.getD_eq_getElem?_getD, List.getElem?_eq_getElem hkl]; rfl
  rw [drop_cons hrk] at et
  unfold wr at et
  walk_at "S"
  refine bF (fun e => ?_) (fun e => ?_)
  ·rw [if_pos e] at et
   walk_at "G"
   refine (hq _ _ _ .refl ?_).1
   exact ⟨t, g + 1, et, Nat.lt_succ_of_le gk, e1, rfl, rfl⟩
  ·have ep := (hok _ (List.mem_of_getElem? hrk)).resolve_left e
   rw [if_neg e] at et
   have lt := congrArg List.length et
   rw [List.length_append, List.length_append, List.length_cons] at lt
   walk_at "S"
   refine bF (fun g0 => ?_) (fun g0 => ?_)
   ·rw [if_pos g0] at et lt
    have a1 : t.length + (dig g).length ≤ 999 := ln [_,_,_,_] [.eq (.a (.v 0) (.a (.v 1) (.a (.v 2) (.n 1)))) (.v 3),.le (.v 3) (.n 1000)] (.le (.a (.v 0) (.v 1)) (.n 999)) [1,1,1] rfl lt hl
    have a2 : (t ++ dig g).length + [bI.getD (r.getD k 0) 0].length ≤ 1000 := by rw [List.length_append]; exact Nat.succ_le_succ a1
    refine iI e1 (js (by walk_at "v") (Nat.lt_of_le_of_lt gk (Nat.lt_of_lt_of_le hkl (Nat.le_trans hr (by decide))))) (by walk_at "o") (by exact trivial) ?_
    walk_at "G"
    refine aj (aR ⟨_, rfl, bc.s (vs := [.int (r.getD k 0 : Nat)]) (by walk_at "vs") _ (pP (aq hm rfl) ep (mj trivial (by walk_at "o") ?_))⟩)
    walk_at "G"
    refine (hq _ _ _ .refl ?_).1
    exact ⟨_, 0, by rw [← et]; simp, Nat.zero_le _, rfl, rfl, rfl⟩
   ·rw [if_neg g0] at et lt
    have a2 : t.length + [bI.getD (r.getD k 0) 0].length ≤ 1000 := ln [_,_,_,_] [.eq (.a (.v 0) (.a (.v 3) (.a (.v 2) (.n 1)))) (.v 1),.le (.v 1) (.n 1000)] (.le (.a (.v 0) (.n 1)) (.n 1000)) [1,1,1] rfl lt hl
    walk_at "G"
    refine aj (aR ⟨_, e1, bc.s (vs := [.int (r.getD k 0 : Nat)]) (by walk_at "vs") _ (pP (aq hm rfl) ep (mj trivial (by walk_at "o") ?_))⟩)
    walk_at "G"
    refine (hq _ _ _ .refl ?_).1
    exact ⟨_, 0, by rw [← et]; simp, Nat.zero_le _, rfl, rfl, rfl⟩
 ·rintro af H' ⟨t, g, et, gk, e1, e2, rfl⟩
  rw [List.drop_length] at et
  unfold wr at et
  have lt := congrArg List.length et
  rw [List.length_append] at lt
  walk_at "S"
  refine bF (fun g0 => ?_) (fun g0 => ?_)
  ·rw [if_pos g0] at et lt
   have a1 : t.length + (dig g).length ≤ 1000 := lt ▸ hl
   refine iI e1 (js (by walk_at "v") (Nat.lt_of_le_of_lt gk (Nat.lt_of_le_of_lt hr (by decide)))) (by walk_at "o") (by exact trivial) ?_
   walk_at "G"
   exact ⟨_, Sb.refl, et ▸ h⟩
  ·rw [if_neg g0, List.append_nil] at et
   walk_at "G"
   exact ⟨_, Sb.refl, et ▸ h⟩
theorem A5 {n c : Nat} {r : List Nat} {H Q} (hf : 63 < n) (m1 : (c, .list (ak r)) ∈ H) (hr : r.length ≤ 100) (hok : ∀ p ∈ r, p = 0 ∨ bM p) (hl : (wr r 0).length ≤ 1000)
  (h : Q (.str (wr r 0)) H) : (cf n).Sp 63 [.ref c] H Q := y3 hf rfl m1 hr hok hl h
noncomputable def ft (bl : List Nat) (aa k : Nat) : List Nat := (bl.drop (k * aa)).take aa
noncomputable def aP (bl : List Nat) (aa ab : Nat) : List (List Nat) := (List.range ab).map fun j => wr (ft bl aa (ab - 1 - j)) 0
noncomputable def GZ : E := .cmp .Gt (.var 3) (.ae 0)
noncomputable def Db : Ss := (.cons (.aQ 3 .Sub (.var 1)) (.cons (.ex (.meth 0 (.var 2) (.cons (.call 63 (.cons (.slice (.var 0) (.var 3) (.bin .Add (.var 3) (.var 1))) .nil)) .nil))) .nil))
theorem y4 {m ba rw aa ab : Nat} {bl : List Nat} {H : Hp} {Q : SQ} (hf : 63 < m) (m1 : (ba, .list (ak bl)) ∈ H) (hl : bl.length = ab * aa) (h1 : 0 < aa) (h2 : bl.length ≤ 100) (hok : ∀ p ∈ bl, p = 0 ∨ bM p) (hr : ab ≤ 100) (hw : ∀ k, (wr (ft bl aa k) 0).length ≤ 100)
  (hq : ∀ af, af 2 = some (.ref rw) → Q .next af ((rw, .list ((aP bl aa ab).map .str)) :: H)) :
  ∀ (d : Nat) (ρ : ap), d ≤ ab → ρ 0 = some (.ref ba) → ρ 1 = some (.int aa) → ρ 2 = some (.ref rw) → ρ 3 = some (.int (d * aa : Nat)) →
   eB (ce (cf m) GZ) (WB (cf m) Db) (d + 1) ρ ((rw, .list (((aP bl aa ab).take (ab - d)).map .str)) :: H) Q := by
 intro d
 induction d with
 | zero =>
  intro ρ hd e0 e1 e2 e3
  have : (aP bl aa ab).take (ab - 0) = aP bl aa ab := List.take_of_length_le (by simp [aP])
  rw [this]
  refine (Tv.s (m := m) (c := decide (0 < 0 * aa)) (by walk_at "t")) _ ?_
  rw [decide_eq_false (by rw [Nat.zero_mul]; decide)]
  exact hq ρ e2
 | succ d ih =>
  intro ρ hd e0 e1 e2 e3
  have hmul : (d + 1) * aa = d * aa + aa := Nat.succ_mul d aa
  have hle : d * aa + aa ≤ bl.length := by rw [hl, ← hmul]; exact Nat.mul_le_mul_right _ hd
  have l1 : d * aa + aa ≤ 10000 := Nat.le_trans hle (az h2 rfl)
  have dr : d < ab := hd
  have tk : (((aP bl aa ab).take (ab - (d + 1))).map V.str).length ≤ 1000 := by rw [List.length_map, List.length_take]; exact Nat.le_trans (Nat.min_le_left _ _) (Nat.le_trans (Nat.sub_le _ _) (az hr rfl))
  refine (Tv.s (m := m) (c := decide (0 < (d + 1) * aa)) (by walk_at "t")) _ ?_
  rw [decide_eq_true (Nat.mul_pos (Nat.succ_pos d) h1)]
  show WB (cf m) Db _ _ _
  unfold Db
  refine iI (v := .int (d * aa : Nat)) e3 (cT e1) (by rw [show d * aa = (d + 1) * aa - aa by rw [hmul, Nat.add_sub_cancel]]; exact wf rfl ⟨by rw [hmul]; exact Nat.le_add_left _ _⟩) trivial ?_
  refine mi (cT e2) (.head _) (w_call (lU (sy (a := ba) (lo := d * aa) (hi := d * aa + aa) (by walk_at "v") (by walk_at "v") (by walk_at "v") (.tail _ m1) (dY (az h2 rfl)) (Nat.le_trans (Nat.le_add_right _ _) l1) l1 fun c => ?_)))
  have esl : ((ak bl).take (d * aa + aa)).drop (d * aa) = ak (ft bl aa d) := by
   rw [List.drop_take]
   unfold ak ft
   rw [Nat.add_sub_cancel_left, List.map_take, List.map_drop]
  rw [esl]
  refine df .nil (A5 (n := m) (r := ft bl aa d) hf (.head _) (by unfold ft; rw [List.length_take, List.length_drop]; exact Nat.le_trans (Nat.min_le_right _ _) (Nat.le_trans (Nat.sub_le _ _) h2)) (fun p hp => hok p (List.mem_of_mem_drop (List.mem_of_mem_take hp))) (Nat.le_trans (hw d) (by decide)) ⟨_, _, .there .here, tk, an ?_⟩)
  refine ⟨(rw, .list (((aP bl aa ab).take (ab - d)).map .str)) :: H, ?_, ih _ (Nat.le_of_lt dr) e0 e1 e2 rfl⟩
  have rd : ab - d = ab - (d + 1) + 1 := by (exact lie [_,_,_,_] [.eq (.a (.v 0) (.v 2)) (.v 3),.eq (.a (.v 1) (.a (.v 2) (.n 1))) (.v 3)] (.v 0) (.a (.v 1) (.n 1)) [1,1,-1] [1,-1,1] rfl rfl (aM (ln [_,_] [.le (.a (.v 0) (.n 1)) (.v 1)] (.le (.v 0) (.v 1)) [1,1] rfl hd)) (aM hd))
  have e5 : (aP bl aa ab).take (ab - d) = (aP bl aa ab).take (ab - (d + 1)) ++ [wr (ft bl aa d) 0] := by
   rw [rd]
   refine il ?_
   unfold aP
   rw [List.getElem?_map, List.getElem?_range (by (exact ln [_,_,_] [.eq (.a (.v 0) (.a (.v 2) (.n 1))) (.v 1)] (.lt (.v 0) (.v 1)) [1,1] rfl (aM hd)))]
   show some (wr (ft bl aa (ab - 1 - (ab - (d + 1)))) 0) = _
   rw [Nat.add_comm d 1, ← Nat.sub_sub, Nat.sub_sub_self (Nat.le_sub_one_of_lt hd)]
  rw [e5, List.map_append]
  exact .pick (.there .here) (.skip .refl)
theorem pQ {n ba aa ab : Nat} {bl : List Nat} {H Q} (hf : 64 < n) (m1 : (ba, .list (ak bl)) ∈ H) (hl : bl.length = ab * aa) (h1 : 0 < aa) (h2 : bl.length ≤ 100) (hok : ∀ p ∈ bl, p = 0 ∨ bM p) (hr : ab ≤ 100) (hw : ∀ k, (wr (ft bl aa k) 0).length ≤ 100)
  (h : Q (.str (glue 47 (aP bl aa ab))) H) : (cf n).Sp 64 [.ref ba, .int aa] H Q := by
 refine au hf rfl rfl fun m hm => kO fun rw => ?_
 have := y4 (m := m) (rw := rw) (Q := KB (cf m) (.cons (.ret (.meth 4 (.aA [47]) (.cons (.var 2) .nil))) .nil) (bT Q)) (aq hm rfl) m1 hl h1 h2 hok hr hw (fun af e => by
  refine cH (j0 (s := [47]) (by walk_at "v") (kM (by walk_at "v") (j2 (aP bl aa ab) (.head _) (by decide) (by rw [aP, List.length_map, List.length_range]; exact bq hr rfl) (fun t ht => ?_) ?_)))
  ·obtain ⟨j, _, rfl⟩ := List.mem_map.mp ht
   exact hw _
  ·rw [join_one]
   exact ⟨_, .skip .refl, h⟩) ab
 rw [Nat.sub_self] at this
 walk_at "S"
 rw [hl]
 exact aj (kG ⟨_, .refl, ab + 1, this _ (Nat.le_refl _) rfl rfl rfl rfl⟩)
theorem uc : ∀ r, r < 16 → iY r = (match ((List.range 4).map fun i => if r >>> i &&& 1 ≠ 0 then [bh.getD i 0] else []).flatten with | [] => [45] | l => l) := by decide +kernel
theorem nY {n r : Nat} {H Q} (hf : 65 < n) (hr : r < 16) (h : Q (.str (iY r)) H) : (cf n).Sp 65 [.int r] H Q := by
 rw [uc r hr] at h
 generalize hp : (fun (i : Nat) => if r >>> i &&& 1 ≠ 0 then [bh.getD i 0] else []) = part at h
 have pl : ∀ k, (((List.range k).map part).flatten).length ≤ k := by
  intro k
  induction k with
  | zero => simp
  | succ k ih =>
   rw [List.range_succ, List.map_append, List.flatten_append, List.length_append, List.map_singleton, List.flatten_singleton]
   have : (part k).length ≤ 1 := by rw [← hp]; dsimp only; split <;> simp
   (exact ln [_,_,_] [.le (.v 0) (.v 2),.le (.v 1) (.n 1)] (.le (.a (.v 0) (.v 1)) (.a (.v 2) (.n 1))) [1,1,1] rfl ih this)
 have hp1 : ∀ k, r >>> k &&& 1 ≠ 0 → part k = [bh.getD k 0] := fun k c => by rw [← hp]; dsimp only; rw [if_pos c]
 have hp0 : ∀ k, ¬ (r >>> k &&& 1 ≠ 0) → part k = [] := fun k c => by rw [← hp]; dsimp only; rw [if_neg c]
 clear hp
 refine au hf rfl rfl fun m hm => ?_
 walk_at "S"
 refine ch cU (fun k af H' => af 0 = some (.int r) ∧ af 1 = some (.str ((List.range k).map part).flatten) ∧ H' = H) ⟨ai rfl⟩ ⟨rfl, rfl, rfl⟩ ?_ ?_
 ·rintro k af H' Q' hk ⟨e0, e1, rfl⟩ hq
  have es : ((List.range (k + 1)).map part).flatten = ((List.range k).map part).flatten ++ part k := by rw [List.range_succ, List.map_append, List.flatten_append]; simp
  have hk' : k < bh.length := hk
  have a1 : ((List.range k).map part).flatten.length + [bh.getD k 0].length ≤ 5 := Nat.succ_le_succ (Nat.le_trans (pl k) (Nat.le_of_lt hk))
  walk_at "S"
  refine bF (fun c => ?_) (fun c => ?_)
  ·walk_at "G"
   refine (hq _ _ _ .refl ?_).1
   exact ⟨e0, by rw [es, hp1 k c]; rfl, rfl⟩
  ·walk_at "G"
   refine (hq _ _ _ .refl ?_).1
   exact ⟨e0, by rw [es, hp0 k c, List.append_nil]; exact e1, rfl⟩
 ·rintro af H' ⟨e0, e1, rfl⟩
  generalize ((List.range 4).map part).flatten = F at e1 h
  cases F with
  | nil =>
   walk_at "S"
   refine gD rfl ?_
   walk_at "G"
   exact ⟨_, Sb.refl, h⟩
  | cons a l =>
   walk_at "S"
   refine bj (fun q => nomatch q) ?_
   walk_at "G"
   exact ⟨_, Sb.refl, h⟩
theorem wu {n aa k : Nat} {H Q} (hf : 49 < n) (h1 : 2 ≤ aa ∧ aa ≤ 8) (h2 : k < aa * 8) (h : Q (.str [97 + k % aa, 49 + k / aa]) H) : (cf n).Sp 49 [.int aa, .int k] H Q := by
 have f0 : 0 < aa := cY h1.1 rfl
 have f8 := h1.2
 have g1 : k % aa < gB.length := Nat.lt_of_lt_of_le (Nat.mod_lt _ f0) f8
 have g2 : k / aa < gC.length := Nat.div_lt_of_lt_mul h2
 have f1 : ∀ j, j < 8 → [gB.getD j 0] = [97 + j] := by decide +kernel
 have f2 : ∀ j, j < 8 → [gC.getD j 0] = [49 + j] := by decide +kernel
 refine au hf rfl rfl fun m hm => ?_
 walk_at "S"
 refine im (by rw [decide_eq_false (Nat.not_lt_zero _), decide_eq_false (Nat.not_le_of_lt h2)]; rfl) ?_
 walk_at "G"
 refine ⟨_, Sb.refl, ?_⟩
 rw [f1 _ g1, f2 _ g2]
 exact h
structure Dc (G : GD) (P : PD) : Prop where
 l : P.b.length = G.ab * G.aa
 l2 : P.b.length ≤ 100
 ok : ∀ p ∈ P.b, p = 0 ∨ bM p
 w : ∀ k, (wr (ft P.b G.aa k) 0).length ≤ 10
 r : P.rights < 16
 s : P.side < 2
 e : -1 ≤ P.ep ∧ P.ep < (G.aa * G.ab : Nat)
 h : P.half < 10 ^ 15
 f : P.full < 10 ^ 15
theorem ud {n z : Nat} {A : PA} {B : GA} {G : GD} {P : PD} {H Q} (hf : 66 < n) (hp : bB A B.g z P H) (hg : aS B G H) (go : eo G) (ok : Dc G P)
  (h : Q (.str (glue 32 [glue 47 (aP P.b G.aa G.ab), [if P.side = 0 then 119 else 98], iY P.rights, fk G.aa P.ep])) H) : (cf n).Sp 66 [.ref A.x] H Q := by
 have p1 := hp.i; have p2 := hp.f; have g1 := hg.i; have g2 := hg.f; have g3 := hg.l0
 have q0 := go.f; have q1 := go.r.2
 have hb : (glue 47 (aP P.b G.aa G.ab)).length ≤ 88 := Nat.le_trans (cA 47 10 _ (fun p hp => by obtain ⟨j, _, rfl⟩ := List.mem_map.mp hp; exact ok.w _)) (by rw [aP, List.length_map, List.length_range]; exact Nat.mul_le_mul_right _ q1)
 have hr := (iJ P.rights ok.r).2.1
 have he : (fk G.aa P.ep).length ≤ 2 := by unfold fk; split <;> exact ai rfl
 refine au hf rfl rfl fun m hm => ?_
 have fin : ∀ ρ : ap, ρ 0 = some (.ref A.x) → ρ 1 = some (.str [if P.side = 0 then 119 else 98]) → ρ 2 = some (.str (fk G.aa P.ep)) → WB (cf m) (ej.body.drop 4) ρ H (bT Q) := by
  intro ρ e0 e1 e2
  refine cH (bX (bX (bX (bX (bX (bX (bc.s (vs := [.ref A.bd, .int G.aa]) (by walk_at "vs") _ (pQ (ab := G.ab) (aq hm rfl) hp.b ok.l (cY q0.1 rfl) ok.l2 ok.ok (bq q1 rfl) (fun k => Nat.le_trans (ok.w k) (by decide)) ?_))))))))
  refine gG (j := 1) (by walk_at "v") hb (Nat.le_refl _) rfl fun w1 => gG (j := 1) (cT e1) w1 (Nat.le_refl _) rfl fun w2 => gG (j := 1) (by walk_at "v") w2 (Nat.le_refl _) rfl fun w3 => ?_
  refine bc.s (vs := [.int P.rights]) (by walk_at "vs") _ (nY (aq hm rfl) ok.r ?_)
  refine yZ w3 hr rfl fun w4 => gG (j := 1) (by walk_at "v") w4 (Nat.le_refl _) rfl fun w5 => gG (cT e2) w5 he rfl fun _ => ⟨_, Sb.refl, ?_⟩
  simpa [glue] using h
 have ee : ∀ ρ : ap, ρ 0 = some (.ref A.x) → ρ 1 = some (.str [if P.side = 0 then 119 else 98]) → WB (cf m) (ej.body.drop 2) ρ H (bT Q) := by
  intro ρ e0 e1
  walk_at "S"
  walk_at "S"
  refine bF (fun c => ?_) (fun c => ?_)
  ·have c : 0 ≤ P.ep := c
   obtain ⟨k, hk⟩ := Int.eq_ofNat_of_zero_le c
   have hk : P.ep = (k : Int) := hk
   have ex : fk G.aa P.ep = [97 + k % G.aa, 49 + k / G.aa] := by unfold fk; rw [if_neg (Int.not_lt.mpr c), hk]; rfl
   have k1 : k < G.aa * 8 := Nat.lt_of_lt_of_le (Int.ofNat_lt.mp (hk ▸ ok.e.2)) (Nat.mul_le_mul_left _ q1)
   refine fh (vs := [.int G.aa, .int P.ep]) (by walk_at "vs") ?_
   rw [hk]
   refine wu (aq hm rfl) q0 k1 (an (fin _ e0 e1 ?_))
   rw [ex]; rfl
  ·have c : ¬ 0 ≤ P.ep := c
   refine an (fin _ e0 e1 ?_)
   have ex : fk G.aa P.ep = [45] := by unfold fk; rw [if_pos (Int.not_le.mp c)]
   rw [ex]; rfl
 walk_at "S"
 walk_at "S"
 refine bF (fun c => ?_) (fun c => ?_)
 ·walk_at "S"
  exact an (ee _ rfl (by rw [c]; rfl))
 ·exact an (ee _ rfl (by rw [if_pos (Nat.le_zero.mp (Nat.le_of_lt_succ (Nat.lt_of_le_of_ne (Nat.le_of_lt_succ ok.s) c)))]; rfl))
theorem A6 {n z : Nat} {A : PA} {B : GA} {G : GD} {P : PD} {H Q} (hf : 67 < n) (hp : bB A B.g z P H) (hg : aS B G H) (go : eo G) (ok : Dc G P)
  (h : Q (.str (dR ⟨aP P.b G.aa G.ab, P.side, P.rights, P.ep, P.half, P.full⟩ G.aa)) H) : (cf n).Sp 67 [.ref A.x] H Q := by
 have p1 := hp.i; have p2 := hp.f
 have q1 := go.r.2
 have hb : (glue 47 (aP P.b G.aa G.ab)).length ≤ 88 := Nat.le_trans (cA 47 10 _ (fun p hp => by obtain ⟨j, _, rfl⟩ := List.mem_map.mp hp; exact ok.w _)) (by rw [aP, List.length_map, List.length_range]; exact Nat.mul_le_mul_right _ q1)
 have hr := (iJ P.rights ok.r).2.1
 have he : (fk G.aa P.ep).length ≤ 88 := by unfold fk; split <;> exact ai rfl
 have hF : (glue 32 [glue 47 (aP P.b G.aa G.ab), [if P.side = 0 then 119 else 98], iY P.rights, fk G.aa P.ep]).length ≤ 4 * 89 :=
  cA 32 88 _ (fun p hp => by
   simp only [List.mem_cons, List.not_mem_nil, or_false] at hp
   rcases hp with rfl | rfl | rfl | rfl
   ·exact hb
   ·exact ai rfl
   ·exact bq hr rfl
   ·exact he)
 have hT : dR ⟨aP P.b G.aa G.ab, P.side, P.rights, P.ep, P.half, P.full⟩ G.aa = glue 32 [glue 47 (aP P.b G.aa G.ab), [if P.side = 0 then 119 else 98], iY P.rights, fk G.aa P.ep] ++ [32] ++ dig P.half ++ [32] ++ dig P.full := by
  simp [dR, bG, glue]
 rw [hT] at h
 refine au hf rfl rfl fun m hm => cH (bX (bX (bX (bX (bc.s (vs := [.ref A.x]) (by walk_at "vs") _ (ud (aq hm rfl) hp hg go ok ?_))))))
 refine gG (j := 1) (by walk_at "v") hF (Nat.le_refl _) rfl fun w1 => gG (js (by walk_at "v") (Nat.lt_of_lt_of_le ok.h (by decide))) w1 (fo 14 P.half ok.h) rfl fun w2 => gG (j := 1) (by walk_at "v") w2 (Nat.le_refl _) rfl fun w3 =>
  gG (js (by walk_at "v") (Nat.lt_of_lt_of_le ok.f (by decide))) w3 (fo 14 P.full ok.f) rfl fun _ => ⟨_, Sb.refl, h⟩
open PySem.Builtin PySem.Builtin.Str PySem.StrLaws
noncomputable def fw (n : Nat) : List Nat → Nat → Nat → List Nat
 | [], _, _ => []
 | x :: r, i, k + 1 => fw n r (i + 1) k
 | x :: r, i, 0 => if (x :: r).take n = List.replicate n 46 then i :: fw n r (i + 1) (n - 1) else fw n r (i + 1) 0
noncomputable def cE (n : Nat) (d : List Nat) : List Nat → Nat → List Nat
 | [], _ => []
 | x :: r, k + 1 => cE n d r k
 | x :: r, 0 => if (x :: r).take n = List.replicate n 46 then d ++ cE n d r (n - 1) else x :: cE n d r 0
theorem wv (n : Nat) (hn : 1 ≤ n) (s : List Nat) : occurrences (st s) (st (List.replicate n 46)) 0 s.length (s.length + 1) = fw n s 0 0 := by
 rw [occ_eq]
 have hpl : (st (List.replicate n 46)).length = n := by simp [Str.length]
 have key : ∀ (r : List Nat) (i : Nat) (pre : List Nat) (a : Array Nat) (f k : Nat), s = pre ++ r → i = pre.length → (k = 0 → f ≤ i) → (0 < k → f = i + k) → a.size ≤ i →
   (forIn (List.range' i (r.length + 1)) (a, f) (occBody (st s) (st (List.replicate n 46)) s.length (s.length + 1))).run.fst.toList = a.toList ++ fw n r i k := by
  intro r
  induction r with
  | nil =>
   intro i pre a f k hs hi A7 hf1 ha
   have hl : s.length = i := by rw [hs, hi]; simp
   rw [show ([] : List Nat).length + 1 = 1 from rfl, List.range'_one, List.forIn_cons]
   unfold occBody
   rw [if_neg (by rintro ⟨⟨_, h⟩, _⟩; rw [hpl] at h; (exact ln [_,_,_] [.le (.n 1) (.v 0),.eq (.v 1) (.v 2),.le (.a (.v 2) (.v 0)) (.v 1)] .ff [0,1,1,1] rfl hn hl h))]
   cases k <;> simp [fw]
  | cons x r ih =>
   intro i pre a f k hs hi A7 hf1 ha
   have hl : s.length = i + (r.length + 1) := by rw [hs, hi]; simp
   rw [List.range'_succ, List.forIn_cons]
   have hat : subAt (st s) (st (List.replicate n 46)) i = decide ((x :: r).take n = List.replicate n 46) := by
    rw [subAt_eq, hpl]
    have e1 : (st s).cps.toList.drop i = x :: r := by show s.toArray.toList.drop i = _; rw [List.toList_toArray, hs, hi]; simp
    rw [e1]
    show ((x :: r).take n == List.replicate n 46) = _
    by_cases h : (x :: r).take n = List.replicate n 46
    ·rw [h]; simp
    ·rw [decide_eq_false h]; exact beq_eq_false_iff_ne.mpr h
   cases k with
   | succ k =>
    have hf := hf1 (by exact ai rfl)
    have := ih (i + 1) (pre ++ [x]) a f k (by rw [hs]; simp) (by simp [hi]) (by (exact fun qz => ln [_,_,_] [.eq (.v 0) (.a (.v 1) (.a (.v 2) (.n 1))),.eq (.v 2) (.n 0)] (.le (.v 0) (.a (.v 1) (.n 1))) [1,1,1] rfl hf qz)) (by (exact fun qz => lie [_,_,_] [.eq (.v 0) (.a (.v 1) (.a (.v 2) (.n 1)))] (.v 0) (.a (.a (.v 1) (.n 1)) (.v 2)) [1,1] [1,-1] rfl rfl hf)) (by exact Nat.le_trans ha (Nat.le_add_right _ _))
    unfold occBody at this ⊢
    rw [if_neg (by rintro ⟨⟨⟨_, q⟩, _⟩, _⟩; have q : f ≤ i := q; (exact ln [_,_,_] [.eq (.v 0) (.a (.v 1) (.a (.v 2) (.n 1))),.le (.v 0) (.v 1)] .ff [0,-1,1] rfl hf q))]
    exact this
   | zero =>
    have hf := A7 rfl
    unfold fw
    by_cases h : (x :: r).take n = List.replicate n 46
    ·rw [if_pos h]
     have hn2 : n ≤ r.length + 1 := by have := congrArg List.length h; rw [List.length_take, List.length_replicate, List.length_cons] at this; exact this ▸ Nat.min_le_right _ _
     have := ih (i + 1) (pre ++ [x]) (a.push i) (i + n) (n - 1) (by rw [hs]; simp) (by simp [hi]) (by (exact fun qz => ln [_,_,_] [.eq (.v 2) (.n 0),.eq (.a (.v 2) (.n 1)) (.v 1)] (.le (.a (.v 0) (.v 1)) (.a (.v 0) (.n 1))) [1,1,-1] rfl qz (aM hn))) (by (exact fun qz => lie [_,_,_] [.eq (.a (.v 2) (.n 1)) (.v 1)] (.a (.v 0) (.v 1)) (.a (.a (.v 0) (.n 1)) (.v 2)) [1,-1] [1,1] rfl rfl (aM hn))) (by simp; (exact ha))
     unfold occBody at this ⊢
     rw [if_pos ⟨⟨⟨by show a.size < s.length + 1; (exact ln [_,_,_,_] [.le (.v 0) (.v 2),.eq (.v 1) (.a (.v 2) (.a (.v 3) (.n 1)))] (.lt (.v 0) (.a (.v 1) (.n 1))) [1,1,-1] rfl ha hl), hf⟩, by rw [hpl]; (exact ln [_,_,_,_] [.eq (.v 2) (.a (.v 0) (.a (.v 3) (.n 1))),.le (.v 1) (.a (.v 3) (.n 1))] (.le (.a (.v 0) (.v 1)) (.v 2)) [1,-1,1] rfl hl hn2)⟩, by rw [hat]; simpa using h⟩]
     simp only [hpl] at this ⊢
     refine Eq.trans this ?_
     simp
    ·rw [if_neg h]
     have := ih (i + 1) (pre ++ [x]) a f 0 (by rw [hs]; simp) (by simp [hi]) (by (exact fun qz => ln [_,_] [.le (.v 0) (.v 1)] (.le (.v 0) (.a (.v 1) (.n 1))) [1,1] rfl hf)) (by (exact fun qz => lie [_,_] [.le (.v 0) (.v 1),.lt (.n 0) (.n 0)] (.v 0) (.a (.a (.v 1) (.n 1)) (.n 0)) [1,1,0] [0,0,1] rfl rfl hf qz)) (by exact Nat.le_trans ha (Nat.le_add_right _ _))
     unfold occBody at this ⊢
     rw [if_neg (by rintro ⟨_, q⟩; rw [hat] at q; exact h (by simpa using q))]
     exact this
 have := key s 0 [] #[] 0 0 rfl rfl (by (exact fun qz => ln [] [] (.le (.n 0) (.n 0)) [1] rfl)) (by (exact fun qz => lie [] [] (.n 0) (.a (.n 0) (.n 0)) [1] [1] rfl rfl)) (Nat.le_refl _)
 simpa using this
theorem jc (d : List Nat) (x : Str) (p : Str) (q : List Str) : un (Str.join (st d) (x :: p :: q)) = un x ++ d ++ un (Str.join (st d) (p :: q)) := by
 show ((x.cps ++ d.toArray) ++ (Str.join (st d) (p :: q)).cps).toList = _
 simp [un]
theorem sO (n : Nat) (hn : 1 ≤ n) (d s : List Nat) : ∀ (r : List Nat) (i : Nat) (pre : List Nat) (a k : Nat), s = pre ++ r → i = pre.length → k ≤ r.length → (k = 0 → a ≤ i) → (0 < k → a = i + k) →
  un (Str.join (st d) (partsFrom (st s) n a (fw n r i k))) = (s.drop a).take (i - a) ++ cE n d r k := by
 intro r
 induction r with
 | nil =>
  intro i pre a k hs hi hk h0 h1
  have hl : s.length = i := by rw [hs, hi]; simp
  have : fw n [] i k = [] := by cases k <;> rfl
  rw [this]
  have : cE n d [] k = [] := by cases k <;> rfl
  rw [this, List.append_nil]
  show un (strSub (st s) a (st s).length) = _
  unfold un
  rw [strSub_toList]
  have : (st s).length = s.length := by simp [Str.length]
  rw [this, hl]
 | cons x r ih =>
  intro i pre a k hs hi hk h0 h1
  cases k with
  | succ k =>
   have := h1 (by exact ai rfl)
   have e := ih (i + 1) (pre ++ [x]) a k (by rw [hs]; simp) (by simp [hi]) (by simp at hk; (exact hk)) (by (exact fun qz => ln [_,_,_] [.eq (.v 0) (.a (.v 1) (.a (.v 2) (.n 1))),.eq (.v 2) (.n 0)] (.le (.v 0) (.a (.v 1) (.n 1))) [1,1,1] rfl this qz)) (by (exact fun qz => lie [_,_,_] [.eq (.v 0) (.a (.v 1) (.a (.v 2) (.n 1)))] (.v 0) (.a (.a (.v 1) (.n 1)) (.v 2)) [1,1] [1,-1] rfl rfl this))
   show un (Str.join (st d) (partsFrom (st s) n a (fw n r (i + 1) k))) = _ ++ cE n d r k
   rw [e, show i + 1 - a = 0 by (exact lie [_] [.eq (.v 0) (.n 0)] (.v 0) (.n 0) [1,1] [1,-1] rfl rfl (zC (ln [_,_,_] [.eq (.v 1) (.a (.v 0) (.a (.v 2) (.n 1)))] (.le (.a (.v 0) (.n 1)) (.v 1)) [1,-1] rfl this))), show i - a = 0 by (exact lie [_] [.eq (.v 0) (.n 0)] (.v 0) (.n 0) [1,1] [1,-1] rfl rfl (zC (ln [_,_,_] [.eq (.v 1) (.a (.v 0) (.a (.v 2) (.n 1)))] (.le (.v 0) (.v 1)) [1,-1] rfl this)))]
  | zero =>
   have ha := h0 rfl
   unfold fw cE
   by_cases h : (x :: r).take n = List.replicate n 46
   ·rw [if_pos h, if_pos h]
    have hn2 : n ≤ r.length + 1 := by have := congrArg List.length h; rw [List.length_take, List.length_replicate, List.length_cons] at this; exact this ▸ Nat.min_le_right _ _
    have e := ih (i + 1) (pre ++ [x]) (i + n) (n - 1) (by rw [hs]; simp) (by simp [hi]) (by exact ln [_,_,_] [.le (.v 2) (.a (.v 1) (.n 1)),.eq (.a (.v 0) (.n 1)) (.v 2)] (.le (.v 0) (.v 1)) [1,1,1] rfl hn2 (aM hn)) (by (exact fun qz => ln [_,_,_] [.eq (.v 2) (.n 0),.eq (.a (.v 2) (.n 1)) (.v 1)] (.le (.a (.v 0) (.v 1)) (.a (.v 0) (.n 1))) [1,1,-1] rfl qz (aM hn))) (by (exact fun qz => lie [_,_,_] [.eq (.a (.v 2) (.n 1)) (.v 1)] (.a (.v 0) (.v 1)) (.a (.a (.v 0) (.n 1)) (.v 2)) [1,-1] [1,1] rfl rfl (aM hn)))
    obtain ⟨p, q, G0⟩ := partsFrom_ne (st s) n (i + n) (fw n r (i + 1) (n - 1))
    show un (Str.join (st d) (strSub (st s) a i :: partsFrom (st s) n (i + n) (fw n r (i + 1) (n - 1)))) = _
    rw [G0] at e ⊢
    rw [jc, e, show i + 1 - (i + n) = 0 by (exact lie [_] [.eq (.v 0) (.n 0)] (.v 0) (.n 0) [1,1] [1,-1] rfl rfl (zC (ln [_,_] [.le (.n 1) (.v 1)] (.le (.a (.v 0) (.n 1)) (.a (.v 0) (.v 1))) [1,1] rfl hn))), List.take_zero, List.nil_append, List.append_assoc]
    congr 1
    unfold un
    rw [strSub_toList]
   ·rw [if_neg h, if_neg h]
    have e := ih (i + 1) (pre ++ [x]) a 0 (by rw [hs]; simp) (by simp [hi]) (by exact ai rfl) (by (exact fun qz => ln [_,_] [.le (.v 0) (.v 1)] (.le (.v 0) (.a (.v 1) (.n 1))) [1,1] rfl ha)) (by (exact fun qz => lie [_,_] [.le (.v 0) (.v 1),.lt (.n 0) (.n 0)] (.v 0) (.a (.a (.v 1) (.n 1)) (.n 0)) [1,1,0] [0,0,1] rfl rfl ha qz))
    rw [e]
    have hd : s.drop i = x :: r := by rw [hs, hi]; simp
    have : (s.drop a).take (i + 1 - a) = (s.drop a).take (i - a) ++ [x] := by
     rw [show i + 1 - a = (i - a) + 1 by (exact lie [_,_,_,_] [.eq (.a (.v 0) (.v 2)) (.a (.v 3) (.n 1)),.eq (.a (.v 1) (.v 2)) (.v 3)] (.v 0) (.a (.v 1) (.n 1)) [1,1,-1] [1,-1,1] rfl rfl (aM (ln [_,_] [.le (.v 0) (.v 1)] (.le (.v 0) (.a (.v 1) (.n 1))) [1,1] rfl ha)) (aM ha)), List.take_add_one, List.getElem?_drop, show a + (i - a) = i by (exact lie [_,_,_] [.eq (.a (.v 1) (.v 0)) (.v 2)] (.a (.v 0) (.v 1)) (.v 2) [1,1] [1,-1] rfl rfl (aM ha))]
     have : s[i]? = some x := by rw [hs, hi]; simp
     rw [this]; rfl
    rw [this, List.append_assoc]; rfl
theorem ww (n : Nat) (hn : 1 ≤ n) (d s : List Nat) : un (Txt.replace (st s) (st (List.replicate n 46)) (st d)) = cE n d s 0 := by
 have hpl : (st (List.replicate n 46)).length = n := by simp [Str.length]
 have hlen : (st s).length = s.length := by simp [Str.length]
 have main := sO n hn d s s 0 [] 0 0 rfl rfl (Nat.zero_le _) (fun _ => Nat.le_refl _) (by (exact fun qz => lie [] [] (.n 0) (.a (.n 0) (.n 0)) [1] [1] rfl rfl))
 rw [List.drop_zero, Nat.sub_zero, List.take_zero, List.nil_append] at main
 unfold Txt.replace
 rw [hlen, wv n hn s, hpl]
 by_cases h : (fw n s 0 0).isEmpty = true
 ·rw [if_pos (by rw [h]; rfl)]
  have e : fw n s 0 0 = [] := by simpa using h
  rw [e] at main
  rw [← main]
  show un (st s) = un (strSub (st s) 0 (st s).length)
  rw [sub_whole]
 ·rw [if_neg (by simp; exact ⟨by simpa using h, by (exact fun qz => ln [_,_] [.le (.n 1) (.v 1),.eq (.v 1) (.n 0)] (.ne (.v 0) (.n 0)) [0,1,1] rfl hn qz)⟩), glued_eq_join, partsBetween_eq]
  exact main
noncomputable def gH (r : List Nat) : Nat → List Nat
 | 0 => r
 | j + 1 => cE (8 - j) (dig (8 - j)) (gH r j) 0
noncomputable def fG : List Nat → Nat → List Nat
 | [], g => if 0 < g then [48 + g] else []
 | c :: r, g => if c = 46 then fG r (g + 1) else (if 0 < g then [48 + g] else []) ++ c :: fG r 0
noncomputable def canon : List Bool → Nat → List Nat
 | [], _ => []
 | b :: r, i => (if b then 46 else 200 + i) :: canon r (i + 1)
noncomputable def dT (r : List Nat) : Nat → List Nat
 | 0 => r
 | j + 1 => cE (8 - j) [48 + (8 - j)] (dT r j) 0
noncomputable def kh : Nat → (List Bool → Bool) → Bool
 | 0, p => p []
 | n + 1, p => kh n (fun l => p (true :: l)) && kh n (fun l => p (false :: l))
noncomputable def ue (l : List Bool) : Bool := decide (dT (canon l 0) 8 = fG (canon l 0) 0) && (List.range 9).all fun j => decide ((dT (canon l 0) j).length ≤ 8)
theorem jt : ∀ (n : Nat) (p : List Bool → Bool), kh n p = true → ∀ l : List Bool, l.length = n → p l = true
 | 0, p, h, l, hl => by have : l = [] := List.length_eq_zero_iff.mp hl; rw [this]; exact h
 | n + 1, p, h, [], hl => by cases hl
 | n + 1, p, h, b :: l, hl => by
  simp only [kh, Bool.and_eq_true] at h
  cases b with
  | true => exact jt n _ h.1 l (by simpa using hl)
  | false => exact jt n _ h.2 l (by simpa using hl)
theorem A8 : ∀ n, n < 9 → kh n ue = true := by decide +kernel
theorem iL (f : Nat → Nat) (n : Nat) (hn : 1 ≤ n) (d : List Nat) (h0 : f 46 = 46) (hd : d.map f = d) : ∀ (s : List Nat) (k : Nat), (∀ x ∈ s, f x = 46 → x = 46) → cE n d (s.map f) k = (cE n d s k).map f
 | [], k, _ => by cases k <;> rfl
 | x :: r, k + 1, h => iL f n hn d h0 hd r k (fun y hy => h y (by simp [hy]))
 | x :: r, 0, h => by
  have ih1 := iL f n hn d h0 hd r (n - 1) (fun y hy => h y (by simp [hy]))
  have G1 := iL f n hn d h0 hd r 0 (fun y hy => h y (by simp [hy]))
  have e : ((f x :: r.map f).take n = List.replicate n 46) ↔ ((x :: r).take n = List.replicate n 46) := by
   rw [← List.map_cons, ← List.map_take]
   constructor
   ·intro q
    refine List.ext_getElem? fun i => ?_
    have qi := congrArg (fun l => l[i]?) q
    simp only [List.getElem?_map] at qi
    cases hx : ((x :: r).take n)[i]? with
    | none => rw [hx] at qi; exact qi
    | some y =>
     rw [hx] at qi
     have hm : y ∈ x :: r := List.mem_of_mem_take (List.mem_of_getElem? hx)
     rw [← qi]
     have : f y = 46 := by
      have hr : (List.replicate n 46)[i]? = some (f y) := qi.symm
      have := List.mem_of_getElem? hr
      exact (List.mem_replicate.mp this).2
     show some y = some (f y)
     rw [this, h y hm this]
   ·intro q
    rw [q, List.map_replicate, h0]
  show cE n d (f x :: r.map f) 0 = _
  unfold cE
  by_cases c : (x :: r).take n = List.replicate n 46
  ·rw [if_pos (e.mpr c), if_pos c, ih1, List.map_append, hd]
  ·rw [if_neg (fun q => c (e.mp q)), if_neg c, G1]; rfl
theorem kQ (r : List Nat) : ∀ j, j ≤ 8 → gH r j = dT r j
 | 0, _ => rfl
 | j + 1, h => by
  show cE (8 - j) (dig (8 - j)) (gH r j) 0 = cE (8 - j) [48 + (8 - j)] (dT r j) 0
  rw [kQ r j (by exact ij h rfl), dg (by (exact ln [_,_] [.eq (.a (.v 0) (.v 1)) (.n 8)] (.lt (.v 0) (.n 10)) [1,1] rfl (aM (ln [_] [.le (.a (.v 0) (.n 1)) (.n 8)] (.le (.v 0) (.n 8)) [1,1] rfl h))))]
theorem iM {n : Nat} {d : List Nat} : ∀ {s : List Nat} {k x : Nat}, x ∈ cE n d s k → x ∈ s ∨ x ∈ d
 | [], k, x, h => by cases k <;> simp [cE] at h
 | y :: r, k + 1, x, h => by rcases iM (s := r) (k := k) h with h | h; exact .inl (by simp [h]); exact .inr h
 | y :: r, 0, x, h => by
  unfold cE at h
  split at h
  ·rcases List.mem_append.mp h with h | h
   ·exact .inr h
   ·rcases iM h with h | h; exact .inl (by simp [h]); exact .inr h
  ·rcases List.mem_cons.mp h with h | h
   ·exact .inl (by simp [h])
   ·rcases iM h with h | h; exact .inl (by simp [h]); exact .inr h
theorem lB (f : Nat → Nat) (s : List Nat) (h0 : f 46 = 46) (hd : ∀ k, 49 ≤ k → k ≤ 56 → f k = k) (hs : ∀ x ∈ s, f x = 46 → x = 46) : ∀ j, j ≤ 8 → dT (s.map f) j = (dT s j).map f ∧ (∀ x ∈ dT s j, f x = 46 → x = 46)
 | 0, _ => ⟨rfl, hs⟩
 | j + 1, h => by
  obtain ⟨e, g⟩ := lB f s h0 hd hs j (by exact ij h rfl)
  constructor
  ·show cE (8 - j) [48 + (8 - j)] (dT (s.map f) j) 0 = (cE (8 - j) [48 + (8 - j)] (dT s j) 0).map f
   rw [e]
   refine iL f (8 - j) (by (exact ln [_,_] [.le (.a (.v 1) (.n 1)) (.n 8),.eq (.a (.v 0) (.v 1)) (.n 8)] (.le (.n 1) (.v 0)) [1,1,-1] rfl h (aM (ln [_] [.le (.a (.v 0) (.n 1)) (.n 8)] (.le (.v 0) (.n 8)) [1,1] rfl h)))) _ h0 ?_ _ _ g
   show [f (48 + (8 - j))] = _
   rw [hd _ (by (exact ln [_,_] [.le (.a (.v 1) (.n 1)) (.n 8),.eq (.a (.v 0) (.v 1)) (.n 8)] (.le (.n 49) (.a (.n 48) (.v 0))) [1,1,-1] rfl h (aM (ln [_] [.le (.a (.v 0) (.n 1)) (.n 8)] (.le (.v 0) (.n 8)) [1,1] rfl h)))) (by (exact ln [_,_] [.eq (.a (.v 0) (.v 1)) (.n 8)] (.le (.a (.n 48) (.v 0)) (.n 56)) [1,1] rfl (aM (ln [_] [.le (.a (.v 0) (.n 1)) (.n 8)] (.le (.v 0) (.n 8)) [1,1] rfl h))))]
  ·intro x hx
   rcases iM hx with q | q
   ·exact g x q
   ·have := List.mem_singleton.mp q
    intro e2
    rw [this, hd _ (by (exact ln [_,_] [.le (.a (.v 1) (.n 1)) (.n 8),.eq (.a (.v 0) (.v 1)) (.n 8)] (.le (.n 49) (.a (.n 48) (.v 0))) [1,1,-1] rfl h (aM (ln [_] [.le (.a (.v 0) (.n 1)) (.n 8)] (.le (.v 0) (.n 8)) [1,1] rfl h)))) (by (exact ln [_,_] [.eq (.a (.v 0) (.v 1)) (.n 8)] (.le (.a (.n 48) (.v 0)) (.n 56)) [1,1] rfl (aM (ln [_] [.le (.a (.v 0) (.n 1)) (.n 8)] (.le (.v 0) (.n 8)) [1,1] rfl h))))] at e2
    (exact lie [_,_] [.eq (.a (.n 48) (.v 1)) (.n 46)] (.v 0) (.n 46) [0,1] [0,1] rfl rfl e2)
theorem nZ (f : Nat → Nat) (h0 : f 46 = 46) (hd : ∀ k, 49 ≤ k → k ≤ 56 → f k = k) : ∀ (s : List Nat) (g : Nat), g + s.length ≤ 8 → (∀ x ∈ s, f x = 46 → x = 46) → fG (s.map f) g = (fG s g).map f
 | [], g, hl, _ => by
  show (if 0 < g then [48 + g] else []) = (if 0 < g then [48 + g] else []).map f
  by_cases c : 0 < g
  ·rw [if_pos c]; simp at hl; show _ = [f (48 + g)]; rw [hd _ (by (exact ln [_] [.lt (.n 0) (.v 0)] (.le (.n 49) (.a (.n 48) (.v 0))) [1,1] rfl c)) (by (exact ln [_] [.le (.v 0) (.n 8)] (.le (.a (.n 48) (.v 0)) (.n 56)) [1,1] rfl hl))]
  ·rw [if_neg c]; rfl
 | x :: r, g, hl, hs => by
  simp at hl
  have i1 := nZ f h0 hd r (g + 1) (by (exact ln [_,_] [.le (.a (.v 0) (.a (.v 1) (.n 1))) (.n 8)] (.le (.a (.a (.v 0) (.n 1)) (.v 1)) (.n 8)) [1,1] rfl hl)) (fun y hy => hs y (by simp [hy]))
  have i0 := nZ f h0 hd r 0 (by (exact ln [_,_] [.le (.a (.v 1) (.a (.v 0) (.n 1))) (.n 8)] (.le (.a (.n 0) (.v 0)) (.n 8)) [1,1] rfl hl)) (fun y hy => hs y (by simp [hy]))
  show fG (f x :: r.map f) g = _
  unfold fG
  by_cases c : x = 46
  ·rw [if_pos c, if_pos (by rw [c]; exact h0), i1]
  ·rw [if_neg c, if_neg (fun q => c (hs x (by simp) q)), i0, List.map_append]
   congr 1
   split
   ·show _ = [f (48 + g)]; rw [hd _ (by omega) (by (exact ln [_,_] [.le (.a (.v 0) (.a (.v 1) (.n 1))) (.n 8)] (.le (.a (.n 48) (.v 0)) (.n 56)) [1,1] rfl hl))]
   ·rfl
noncomputable def n5 (r : List Nat) (x : Nat) : Nat := if 200 ≤ x then r.getD (x - 200) 0 else x
theorem n7 (r : List Nat) : ∀ (t pre : List Nat), r = pre ++ t → (canon (t.map fun c => decide (c = 46)) pre.length).map (n5 r) = t
 | [], _, _ => rfl
 | c :: t, pre, h => by
  have ih := n7 r t (pre ++ [c]) (by rw [h]; simp)
  rw [List.length_append, List.length_singleton] at ih
  show n5 r (if decide (c = 46) = true then 46 else 200 + pre.length) :: (canon (t.map fun c => decide (c = 46)) (pre.length + 1)).map (n5 r) = _
  rw [ih]
  congr 1
  by_cases q : c = 46
  ·rw [decide_eq_true q, if_pos rfl, q]; rfl
  ·rw [decide_eq_false q, if_neg Bool.false_ne_true]
   unfold n5
   rw [if_pos (by exact Nat.le_add_right _ _), Nat.add_sub_cancel_left, h]
   simp [List.getD_eq_getElem?_getD]
theorem n8 : ∀ (l : List Bool) (i : Nat), (canon l i).length = l.length
 | [], _ => rfl
 | b :: l, i => by show (canon l (i + 1)).length + 1 = _; rw [n8 l]; rfl
theorem pR (r : List Nat) : ∀ (t pre : List Nat), r = pre ++ t → ∀ x ∈ canon (t.map fun c => decide (c = 46)) pre.length, n5 r x = 46 → x = 46
 | [], _, _, x, hx, _ => by cases hx
 | c :: t, pre, h, x, hx, e => by
  rcases List.mem_cons.mp hx with q | q
  ·have q : x = if decide (c = 46) = true then 46 else 200 + pre.length := q
   by_cases z : c = 46
   ·rw [decide_eq_true z, if_pos rfl] at q; exact q
   ·rw [decide_eq_false z, if_neg Bool.false_ne_true] at q
    exfalso
    rw [q] at e
    unfold n5 at e
    rw [if_pos (by exact Nat.le_add_right _ _), Nat.add_sub_cancel_left, h] at e
    simp [List.getD_eq_getElem?_getD] at e
    exact z e
  ·have := pR r t (pre ++ [c]) (by rw [h]; simp)
   rw [List.length_append, List.length_singleton] at this
   exact this x q e
theorem fy (r : List Nat) (hl : r.length ≤ 8) : gH r 8 = fG r 0 ∧ ∀ j, j ≤ 8 → (gH r j).length ≤ 8 := by
 have p := jt r.length ue (A8 _ (by exact Nat.lt_succ_of_le hl)) (r.map fun c => decide (c = 46)) (by simp)
 unfold ue at p
 simp only [Bool.and_eq_true, decide_eq_true_eq, List.all_eq_true, List.mem_range] at p
 obtain ⟨p1, p2⟩ := p
 have e := n7 r r [] rfl
 have g := pR r r [] rfl
 rw [List.length_nil] at e g
 have h0 : n5 r 46 = 46 := rfl
 have hd : ∀ k, 49 ≤ k → k ≤ 56 → n5 r k = k := fun k _ _ => by unfold n5; rw [if_neg (by omega)]
 have cm := lB (n5 r) _ h0 hd g
 rw [e] at cm
 constructor
 ·rw [kQ r 8 (by exact ai rfl), (cm 8 (by exact ai rfl)).1, p1, ← nZ (n5 r) h0 hd _ 0 (by rw [n8]; simpa using hl) g, e]
 ·intro j hj
  rw [kQ r j hj, (cm j hj).1, List.length_map]
  exact p2 j (by exact Nat.lt_succ_of_le hj)
theorem join_nil : ∀ (L : List (List Nat)), un (Txt.join (st []) (L.map st)) = L.flatten := by
 have go : ∀ L : List (List Nat), un (Str.join (st []) (L.map st)) = L.flatten := by
  intro L
  induction L with
  | nil => rfl
  | cons x L ih =>
   cases L with
   | nil => simp [Str.join, un]
   | cons y r =>
    rw [List.map_cons, List.map_cons, jc, ← List.map_cons, ih]
    simp [un]
 intro L
 unfold Txt.join
 rw [glued_eq_join]
 exact go L
theorem ki : ∀ l : List (List Nat), (∀ s ∈ l, ∀ c ∈ s, c < 128) → PyData.canLayAll0 (l.map fun s => .str (st s)) = true
 | [], _ => by simp [PyData.canLayAll0]
 | s :: l, h => by
  have h1 : PyData.strOk (st s) = true := by
   show s.toArray.all _ = true
   simp
   intro x hx; have := h s (by simp) x hx; (exact bq this rfl)
  simp only [List.map_cons, PyData.canLayAll0, PyData.canLay0, h1, ki l (fun t ht => h t (by simp [ht])), Bool.and_self]
theorem ir : ∀ l : List (List Nat), PyData.depthAll (l.map fun s => .str (st s)) = 0
 | [] => by simp [PyData.depthAll]
 | s :: l => by simp [PyData.depthAll, PyData.depth, ir l]
theorem km (l : List (List Nat)) (h : ∀ s ∈ l, ∀ c ∈ s, c < 128) : SeqAt.shaped (.list (l.map fun s => .str (st s))) = true := by
 unfold SeqAt.shaped
 rw [PyData.canLay0, ki l h, PyData.depth, ir]; rfl
theorem pS : ∀ l k : List (List Nat), PyData.eqvAll (l.map fun s => .str (st s)) (k.map fun s => .str (st s)) = decide (l = k)
 | [], [] => by simp [PyData.eqvAll]
 | s :: l, t :: k => by
  simp only [List.map_cons, PyData.eqvAll, PyData.eqv, pS l k]
  by_cases h : s = t
  ·subst h; simp
  ·have : (st s == st t) = false := by
    apply beq_eq_false_iff_ne.mpr
    intro e; exact h (by have := congrArg un e; simpa [un] using this)
   simp [this, h]
 | [], _ :: _ => by simp [PyData.eqvAll]
 | _ :: _, [] => by simp [PyData.eqvAll]
noncomputable def hR (aa a b : Nat) : Int := ((b % aa : Nat) : Int) - ((a % aa : Nat) : Int)
noncomputable def hU (aa a b : Nat) : Int := ((b / aa : Nat) : Int) - ((a / aa : Nat) : Int)
noncomputable def hF (aa a b : Nat) : Nat := max (hR aa a b).natAbs (hU aa a b).natAbs
noncomputable def hW (aa a b : Nat) : Int := (hR aa a b).fdiv (hF aa a b) + aa * (hU aa a b).fdiv (hF aa a b)
noncomputable def iu (L : List Nat) (aa a b : Nat) : Bool := (List.range (hF aa a b - 1)).all fun k => L.getD ((a : Int) + hW aa a b * ((1 + k : Nat) : Int)).toNat 0 == 46
noncomputable def hits (L : List Nat) (aa a b : Nat) : Bool :=
 let m := L.getD a 0
 if m ∈ [80, 112] then decide ((hR aa a b).natAbs = 1) && decide (hU aa a b = if m = 80 then 1 else -1)
 else if m ∈ [78, 110] then decide ((hR aa a b).natAbs * (hU aa a b).natAbs = 2)
 else if m ∈ [75, 107] then decide (hF aa a b = 1)
 else if (hR aa a b = 0 ∨ hU aa a b = 0) then (if m ∈ [66, 98] then false else iu L aa a b)
 else if m ∈ [82, 114] ∨ (hR aa a b).natAbs ≠ (hU aa a b).natAbs then false
 else iu L aa a b
theorem B' {x y n : Nat} (h : x ≤ n) (g : y ≤ n) : ((x : Int) - (y : Int)).natAbs ≤ n := by omega
theorem Fy {aa size a b k : Nat} (h1 : 2 ≤ aa) (ha : a < size) (hb : b < size) (hs : ∃ r, size = aa * r) (hk : 1 ≤ k ∧ k < hF aa a b)
  (hc : hR aa a b = 0 ∨ hU aa a b = 0 ∨ (hR aa a b).natAbs = (hU aa a b).natAbs) : 0 ≤ (a : Int) + hW aa a b * (k : Int) ∧ (a : Int) + hW aa a b * (k : Int) < size := by
 obtain ⟨r, rfl⟩ := hs
 have am := Nat.mod_lt a (show 0 < aa by exact cY h1 rfl)
 have bm := Nat.mod_lt b (show 0 < aa by exact cY h1 rfl)
 have ad := Nat.div_add_mod a aa
 have adr : a / aa < r := Nat.div_lt_of_lt_mul ha
 have G2 : b / aa < r := Nat.div_lt_of_lt_mul hb
 have A9 : hF aa a b = max (hR aa a b).natAbs (hU aa a b).natAbs := rfl
 have eR : hR aa a b = ((b % aa : Nat) : Int) - ((a % aa : Nat) : Int) := rfl
 have eU : hU aa a b = ((b / aa : Nat) : Int) - ((a / aa : Nat) : Int) := rfl
 unfold hW
 clear ha hb
 generalize hF aa a b = F at *
 generalize hR aa a b = R at *
 generalize hU aa a b = U at *
 generalize a % aa = x1 at *
 generalize a / aa = y1 at *
 generalize b % aa = x2 at *
 generalize b / aa = y2 at *
 have F0 : (F : Int) ≠ 0 := by exact yu (cY hk.2 rfl)
 have sgn : ∀ x : Int, x = 0 ∨ x.natAbs = F → ∃ s : Int, x.fdiv F = s ∧ (s = 0 ∨ s = 1 ∨ s = -1) ∧ x = s * F := by
  intro x hx
  rcases hx with rfl | hx
  ·exact ⟨0, by simp, .inl rfl, by simp⟩
  ·rcases Int.natAbs_eq x with e | e
   ·refine ⟨1, ?_, .inr (.inl rfl), by (exact kv [_,_] [_] [.eq (.v 1) (.v 0),.EQ (.v 0) (.c (.v 1))] (.v 0) (.k 1 (.c (.v 0))) [1,1,1] [1,-1,-1] rfl rfl hx e)⟩
    rw [e, hx]; exact Int.fdiv_self F0
   ·rw [hx] at e
    refine ⟨-1, ?_, .inr (.inr rfl), e.trans (Int.neg_one_mul _).symm⟩
    rw [e, ← Int.neg_one_mul]; exact Int.mul_fdiv_cancel _ F0
 obtain ⟨s, e1, e2, e3⟩ := sgn R (by rcases hc with h | h | h; exact .inl h; exact .inr (by rw [A9, h]; exact (Nat.max_eq_left (Nat.zero_le _)).symm); exact .inr (by rw [A9, ← h]; exact (Nat.max_self _).symm))
 obtain ⟨t, f1, f2, f3⟩ := sgn U (by rcases hc with h | h | h; exact .inr (by rw [A9, h]; exact (Nat.max_eq_right (Nat.zero_le _)).symm); exact .inl h; exact .inr (by rw [A9, h]; exact (Nat.max_self _).symm))
 rw [e1, f1]
 clear sgn e1 f1
 have g1 : 0 ≤ (x1 : Int) + s * k ∧ (x1 : Int) + s * k < aa := by
  rcases e2 with h | h | h <;> rw [h] at e3 ⊢ <;> (first | exact ⟨ln [_,_] [] (.LE (.n 0) (.a (.c (.v 0)) (.k 0 (.c (.v 1))))) [1] rfl, ln [_,_,_] [.lt (.v 0) (.v 2)] (.LT (.a (.c (.v 0)) (.k 0 (.c (.v 1)))) (.c (.v 2))) [1,1] rfl am⟩ | exact ⟨ln [_,_] [] (.LE (.n 0) (.a (.c (.v 0)) (.k 1 (.c (.v 1))))) [1] rfl, lin [_,_,_,_,_] [_] [.lt (.v 1) (.v 3),.lt (.v 4) (.v 2),.EQ (.v 0) (.s (.c (.v 4)) (.c (.v 0))),.EQ (.v 0) (.k 1 (.c (.v 3)))] (.LT (.a (.c (.v 0)) (.k 1 (.c (.v 1)))) (.c (.v 2))) [1,1,1,1,-1] rfl hk.2 bm eR e3⟩ | omega)
 have g2 : 0 ≤ (y1 : Int) + t * k ∧ (y1 : Int) + t * k < r := by
  rcases f2 with h | h | h <;> rw [h] at f3 ⊢ <;> (first | exact ⟨ln [_,_] [] (.LE (.n 0) (.a (.c (.v 0)) (.k 0 (.c (.v 1))))) [1] rfl, ln [_,_,_] [.lt (.v 0) (.v 2)] (.LT (.a (.c (.v 0)) (.k 0 (.c (.v 1)))) (.c (.v 2))) [1,1] rfl adr⟩ | exact ⟨ln [_,_] [] (.LE (.n 0) (.a (.c (.v 0)) (.k 1 (.c (.v 1))))) [1] rfl, lin [_,_,_,_,_] [_] [.lt (.v 1) (.v 3),.lt (.v 4) (.v 2),.EQ (.v 0) (.s (.c (.v 4)) (.c (.v 0))),.EQ (.v 0) (.k 1 (.c (.v 3)))] (.LT (.a (.c (.v 0)) (.k 1 (.c (.v 1)))) (.c (.v 2))) [1,1,1,1,-1] rfl hk.2 G2 eU f3⟩ | omega)
 have hx : (a : Int) + (s + aa * t) * k = (aa : Int) * ((y1 : Int) + t * k) + ((x1 : Int) + s * k) := by
  have : (a : Int) = aa * (y1 : Int) + (x1 : Int) := by rw [← ad]; simp
  rw [Int.mul_add, Int.add_mul, Int.mul_assoc, this]; (exact kv [_] [_,_,_] [] (.a (.a (.v 0) (.c (.v 0))) (.a (.v 1) (.v 2))) (.a (.a (.v 0) (.v 2)) (.a (.c (.v 0)) (.v 1))) [1] [1] rfl rfl)
 rw [hx]
 generalize (x1 : Int) + s * k = X at *
 generalize (y1 : Int) + t * k = Y at *
 obtain ⟨x, rfl⟩ := Int.eq_ofNat_of_zero_le g1.1
 obtain ⟨y, rfl⟩ := Int.eq_ofNat_of_zero_le g2.1
 have m1 : aa * (y + 1) ≤ aa * r := Nat.mul_le_mul_left _ (by exact Int.ofNat_lt.mp g2.2)
 rw [Nat.mul_add] at m1
 have m2 : (aa : Int) * (y : Int) = ((aa * y : Nat) : Int) := by simp
 rw [m2]
 (exact ⟨ln [_,_] [] (.LE (.n 0) (.a (.c (.v 0)) (.c (.v 1)))) [1] rfl, ln [_,_,_,_] [.LT (.c (.v 1)) (.c (.v 3)),.le (.a (.v 0) (.r (.v 3) 1)) (.v 2)] (.LT (.a (.c (.v 0)) (.c (.v 1))) (.c (.v 2))) [1,1,1] rfl g1.2 m1⟩)
theorem kp {lo n x a : Nat} {C : Cfg} {elt : ap → Hp → (V → Hp → Prop) → Prop} {ρ : ap} {H : Hp} {Q : List V → Hp → Prop} (g : Nat → V) (hn : lo + n ≤ 1000)
  (hb : ∀ k Q', k < n → Q' (g k) ((a, O.range (lo : Int) ((lo + n : Nat) : Int) 1) :: H) → elt (ρ.set x (.int (lo + k : Nat))) ((a, .range (lo : Int) ((lo + n : Nat) : Int) 1) :: H) Q')
  (hq : Q ((List.range n).map g) ((a, .range (lo : Int) ((lo + n : Nat) : Int) 1) :: H)) :
  ∃ src items, Src (.ref a) ((a, .range (lo : Int) ((lo + n : Nat) : Int) 1) :: H) src items ∧ eg (ce C (.aZ true)) elt src items x ρ items [] ((a, .range (lo : Int) ((lo + n : Nat) : Int) 1) :: H) Q := by
 refine ⟨none, _, pI (Nat.le_trans hn (ai rfl)), ?_⟩
 refine iH (fun k acc H' => acc = (List.range k).map g ∧ k ≤ n ∧ H' = (a, .range (lo : Int) ((lo + n : Nat) : Int) 1) :: H) ⟨rfl, by (exact ai rfl), rfl⟩ (fun _ _ _ _ => trivial) (fun k acc H' h => by rw [h.1]; simp; (exact ln [_,_,_] [.le (.a (.v 1) (.v 2)) (.n 1000),.le (.v 0) (.v 2)] (.le (.v 0) (.n 1000)) [1,1,1] rfl hn h.2.1)) ?_ ?_
 ·rintro k x' acc H' Q' hx ⟨rfl, hk', rfl⟩ hh
  have hkn : k < n := by
   have := (List.getElem?_eq_some_iff.mp hx).1
   simpa using this
  have : x' = .int ((lo + k : Nat) : Int) := by
   rw [List.getElem?_map, List.getElem?_range hkn] at hx
   exact (Option.some.inj hx).symm
  subst this
  refine hh true _ (fun _ y5 y6 => hb k y5 hkn (y6 _ _ ⟨?_, by (exact hkn), rfl⟩)) (fun e => by cases e)
  rw [List.range_succ, List.map_append]; rfl
 ·rintro acc H' ⟨rfl, _, rfl⟩
  rw [List.length_map, List.length_range]
  exact hq
theorem n9 (L : List Nat) : aK L = (L.map fun c => [c]).map V.str := by simp [aK]
theorem allEq (f : Nat → Nat) (n c : Nat) : decide ((List.range n).map (fun k => [f k]) = (List.replicate n c).map fun x => [x]) = (List.range n).all fun k => f k == c := by
 by_cases h : ∀ k, k < n → f k = c
 ·rw [decide_eq_true, (List.all_eq_true.mpr (fun k hk => by simpa using h k (List.mem_range.mp hk)))]
  rw [List.map_replicate]
  refine List.ext_getElem? fun k => ?_
  by_cases hk : k < n
  ·rw [List.getElem?_map, List.getElem?_range hk, List.getElem?_replicate_of_lt hk]; simp [h k hk]
  ·rw [List.getElem?_eq_none (by simp; (exact Nat.le_of_not_lt hk)), List.getElem?_eq_none (by simp; (exact Nat.le_of_not_lt hk))]
 ·rw [decide_eq_false]
  ·symm
   rw [← Bool.not_eq_true, List.all_eq_true]
   intro q; exact h fun k hk => by simpa using q k (List.mem_range.mpr hk)
  ·intro e
   refine h fun k hk => ?_
   have := congrArg (fun l => l[k]?) e
   simp [hk] at this
   exact this
theorem vl {n c aa a b : Nat} {L : List Nat} {H Q} (hf : 72 < n) (m1 : (c, .list (aK L)) ∈ H) (hl : L.length ≤ 100) (h1 : 2 ≤ aa) (h8 : aa ≤ 8) (ha : a < L.length) (hb : b < L.length) (hs : ∃ r, L.length = aa * r) (hne : L.getD a 0 ∈ [80, 112] ∨ 0 < hF aa a b) (hc : ∀ x ∈ L, x < 128)
  (h : Q (.bool (hits L aa a b)) H) : (cf n).Sp 72 [.ref c, .int aa, .int a, .int b] H Q := by
 have hbt := fun k => Fy (k := k) h1 ha hb hs
 have far : max (((hR aa a b).natAbs : Nat) : Int) (((hU aa a b).natAbs : Nat) : Int) = ((hF aa a b : Nat) : Int) := nQ _ _
 have f0 : 0 < aa := Nat.lt_of_lt_of_le (by decide) h1
 have f1 : aa ≤ 1000000 := az h8 rfl
 refine au hf rfl rfl fun m hm => ?_
 walk_at "S"
 apply bY
 walk_at "v"
 exact (rfl : _ = V.int (hR aa a b))
 apply bY
 walk_at "v"
 exact (rfl : _ = V.int (hU aa a b))
 apply bY
 walk_at "v"
 exact (rfl : _ = V.int (hF aa a b))
 have uf : hF aa a b ≤ 100 := Nat.max_le.mpr ⟨B' (Nat.le_trans (Nat.le_of_lt (Nat.mod_lt _ f0)) (bq h8 rfl)) (Nat.le_trans (Nat.le_of_lt (Nat.mod_lt _ f0)) (bq h8 rfl)), B' (Nat.le_trans (Nat.div_le_self _ _) (Nat.le_trans (Nat.le_of_lt hb) hl)) (Nat.le_trans (Nat.div_le_self _ _) (Nat.le_trans (Nat.le_of_lt ha) hl))⟩
 have Fz : hW aa a b = (hR aa a b).fdiv (hF aa a b) + aa * (hU aa a b).fdiv (hF aa a b) := rfl
 have Dd : (hU aa a b).natAbs ≤ hF aa a b := Nat.le_max_right _ _
 unfold hits at h
 unfold iu at h
 generalize HK : L.getD a 0 = man at *
 generalize hR aa a b = R at *
 generalize hU aa a b = U at *
 generalize hF aa a b = F at *
 generalize hW aa a b = W at *
 walk_at "S"
 refine bF (fun c1 => ?_) (fun c1 => ?_)
 ·simp only [if_pos c1] at h
  walk_at "S"
  exact ⟨_, Sb.refl, by rw [AD]; exact h⟩
 simp only [if_neg c1] at h
 have F0 : 0 < F := hne.resolve_left c1
 refine an ?_
 have u1 : U.natAbs ≤ 1000000 := Nat.le_trans Dd (az uf rfl)
 walk_at "S"
 refine bF (fun c2 => ?_) (fun c2 => ?_)
 ·simp only [if_pos c2] at h
  walk_at "S"
  exact ⟨_, Sb.refl, h⟩
 simp only [if_neg c2] at h
 refine an ?_
 walk_at "S"
 refine bF (fun c3 => ?_) (fun c3 => ?_)
 ·simp only [if_pos c3] at h
  walk_at "S"
  exact ⟨_, Sb.refl, h⟩
 simp only [if_neg c3] at h
 refine an ?_
 have fq : -1 ≤ U.fdiv F ∧ U.fdiv F ≤ 1 := by
  have fp : (0 : Int) < F := Int.ofNat_lt.mpr F0
  rw [Int.fdiv_eq_ediv_of_nonneg _ (Int.le_of_lt fp)]
  clear h hbt hc hs hne
  refine ⟨(Int.le_ediv_iff_mul_le fp).mpr (by rw [Int.neg_one_mul]; exact Int.neg_le_of_neg_le (Int.le_trans na1 (Int.ofNat_le.mpr Dd))), ?_⟩
  have : U / (F : Int) < 2 := (Int.ediv_lt_iff_lt_mul fp).mpr (by (exact lin [_,_] [_] [.le (.v 1) (.v 0),.lt (.n 0) (.v 0),.LE (.v 0) (.c (.v 1))] (.LT (.v 0) (.k 2 (.c (.v 0)))) [1,1,1,1] rfl Dd F0 Int.le_natAbs))
  (exact lin [] [_] [.LT (.v 0) (.n 2)] (.LE (.v 0) (.n 1)) [1,1] rfl this)
 have fin : ∀ ρ : ap, ρ 0 = some (.ref c) → ρ 1 = some (.int aa) → ρ 2 = some (.int a) → ρ 5 = some (.int R) → ρ 6 = some (.int U) → ρ 7 = some (.int F) → (R = 0 ∨ U = 0 ∨ R.natAbs = U.natAbs) →
   Q (.bool ((List.range (F - 1)).all fun k => L.getD ((a : Int) + W * ((1 + k : Nat) : Int)).toNat 0 == 46)) H → WB (cf m) (jQ.body.drop 9) ρ H (bT Q) := by
  intro ρ e0 e1 e2 e5 e6 e7 hcc hq
  have fa : -1000000 ≤ U.fdiv F := Int.le_trans (by decide) fq.1
  have fb : U.fdiv F ≤ 1000000 := Int.le_trans fq.2 (by decide)
  have De : F = 1 + (F - 1) := (Nat.add_sub_cancel' F0).symm
  have Df : 1 + (F - 1) ≤ 100 := De ▸ uf
  refine bY (by walk_at "v") (congrArg V.int Fz.symm) (cH (nT (bc.s (vs := [.int (1 : Nat), .int (1 + (F - 1) : Nat)]) (by rw [← De]; walk_at "vs") _ ⟨⟨by decide, by decide, Int.le_trans (by decide) (Int.natCast_nonneg _), Int.ofNat_le.mpr (bq Df rfl)⟩, fun rg => ?_⟩)))
  refine kp (C := cf m) (lo := 1) (n := F - 1) (fun k => .str [L.getD ((a : Int) + W * ((1 + k : Nat) : Int)).toNat 0]) (bq Df rfl) ?_ fun c1 => ?_
  ·intro k Q' hk hq'
   obtain ⟨b1, b2⟩ := hbt (1 + k) ⟨Nat.le_add_right _ _, by rw [De]; exact Nat.add_lt_add_left hk 1⟩ hcc
   have b3 : ((a : Int) + W * ((1 + k : Nat) : Int)).toNat < L.length := (Int.toNat_lt b1).mpr b2
   refine Ev.s (m := m) (e_i (by walk_at "v") (f9 (by walk_at "v") (f9 (by walk_at "v") (by walk_at "v") (yA ⟨⟨Int.le_trans (by decide) (Int.natCast_nonneg _), Int.ofNat_le.mpr (Nat.le_trans (Nat.le_of_lt (Nat.add_lt_add_left hk 1)) (bq Df rfl))⟩⟩)) (sD Op.add (congrArg V.int (Int.toNat_of_nonneg b1).symm))) (by walk_at "ix")) _ hq'
  ·rw [show ((List.range (F - 1)).map fun k => V.str [L.getD ((a : Int) + W * ((1 + k : Nat) : Int)).toNat 0]) = ((List.range (F - 1)).map fun k => [L.getD ((a : Int) + W * ((1 + k : Nat) : Int)).toNat 0]).map V.str from by simp]
   have k1 : F - 1 ≤ 1000 := Nat.le_trans (Nat.sub_le _ _) (bq uf rfl)
   refine qP (k := F - 1) (by walk_at "v") (fun t => by walk_at "v") ⟨k1⟩ fun t c2 => ?_
   rw [n9]
   refine ⟨.list (((List.range (F - 1)).map fun k => [L.getD ((a : Int) + W * ((1 + k : Nat) : Int)).toNat 0]).map fun s => .str (st s)), .list (((List.replicate (F - 1) 46).map fun x => [x]).map fun s => .str (st s)), .of (.te ?_), .of (.te (.head _)), km _ ?_, km _ ?_, ?_⟩
   ·walk_at "m"
   ·intro s hs x hx
    obtain ⟨k, _, rfl⟩ := List.mem_map.mp hs
    have := List.mem_singleton.mp hx
    rw [this, List.getD_eq_getElem?_getD]
    cases q : L[((a : Int) + W * ((1 + k : Nat) : Int)).toNat]? with
    | none => exact ai rfl
    | some y => exact hc y (List.mem_of_getElem? q)
   ·intro s hs x hx
    obtain ⟨k, hk, rfl⟩ := List.mem_map.mp hs
    rw [List.mem_singleton.mp hx, (List.mem_replicate.mp hk).2]
    exact ai rfl
   ·refine ⟨H, by walk_at "sb", ?_⟩
    rw [PyData.eqv, pS, allEq]
    exact hq
 walk_at "S"
 walk_at "S"
 have cc : ((decide (R = 0) || decide (U = 0)) && decide (man ∈ [66, 98]) || (!(decide (R = 0) || decide (U = 0)) && (decide (man ∈ [82, 114]) || decide (R.natAbs ≠ U.natAbs)))) = decide ((R = 0 ∨ U = 0) ∧ man ∈ [66, 98] ∨ ¬ (R = 0 ∨ U = 0) ∧ (man ∈ [82, 114] ∨ R.natAbs ≠ U.natAbs)) := by
  simp only [Bool.decide_or, Bool.decide_and, decide_not]
 refine gO (fun hT => ?_) (fun hF => ?_)
 ·have hT := of_decide_eq_true (cc.symm.trans hT)
  walk_at "S"
  refine ⟨_, Sb.refl, ?_⟩
  rcases hT with ⟨z, q⟩ | ⟨z, q⟩
  ·rw [if_pos z, if_pos q] at h; exact h
  ·rw [if_neg z, if_pos q] at h; exact h
 ·have hF := of_decide_eq_false (cc.symm.trans hF)
  refine an ?_
  refine fin _ rfl rfl rfl rfl rfl rfl ?_ ?_
  ·by_cases z : R = 0 ∨ U = 0
   ·exact z.imp id .inl
   ·exact .inr (.inr (Decidable.byContradiction fun q => hF (.inr ⟨z, .inr q⟩)))
  ·by_cases z : R = 0 ∨ U = 0
   ·rw [if_pos z, if_neg fun q => hF (.inl ⟨z, q⟩)] at h; exact h
   ·rw [if_neg z, if_neg fun q => hF (.inr ⟨z, q⟩)] at h; exact h
noncomputable def fz (L : List Nat) (aa man sq : Nat) : Nat := if man ∈ [80, 112] ∧ (sq < aa ∨ L.length - aa ≤ sq) then (if man = 80 then 82 else 114) else man
noncomputable def iw (L : List Nat) (aa man sq mv prey : Nat) : List Nat :=
 if L.getD sq 0 = 46 then
  (if (decide (fz L aa man sq ∈ [80, 78, 66, 82, 81]) = decide (mv = 0)) ∧ hits (L.set sq (fz L aa man sq)) aa sq prey = true then (L.set sq (fz L aa man sq)).set sq 46 else L.set sq (fz L aa man sq))
 else L
theorem A' {aa a b : Nat} (h1 : 0 < aa) (h : a ≠ b) : 0 < hF aa a b := Nat.pos_of_ne_zero fun e => h (by
 have r1 : b % aa = a % aa := Int.ofNat.inj (Int.eq_of_sub_eq_zero (Int.natAbs_eq_zero.mp (Nat.le_zero.mp (e ▸ Nat.le_max_left (hR aa a b).natAbs (hU aa a b).natAbs))))
 have u1 : b / aa = a / aa := Int.ofNat.inj (Int.eq_of_sub_eq_zero (Int.natAbs_eq_zero.mp (Nat.le_zero.mp (e ▸ Nat.le_max_right (hR aa a b).natAbs (hU aa a b).natAbs))))
 rw [← Nat.div_add_mod a aa, ← Nat.div_add_mod b aa, r1, u1])
theorem vm {n c aa man sq mv prey : Nat} {L : List Nat} {H Q} (hf : 74 < n) (hl : L.length ≤ 100) (h1 : 2 ≤ aa) (h8 : aa ≤ 8) (hs : ∃ r, L.length = aa * r) (dL : sq < L.length) (hpr : prey < L.length) (hp : L.getD prey 0 ≠ 46) (hmn : man < 128) (hc : ∀ x ∈ L, x < 128) (wx : aa ≤ L.length) (di : mv < 2)
  (h : Q .none ((c, .list (aK (iw L aa man sq mv prey))) :: H)) : (cf n).Sp 74 [.ref c, .int aa, .str [man], .int sq, .int mv, .int prey] ((c, .list (aK L)) :: H) Q := by
 refine au hf rfl rfl fun m hm => ?_
 unfold iw at h
 have fin : ∀ ρ : ap, ρ 0 = some (.ref c) → ρ 1 = some (.int aa) → ρ 2 = some (.str [fz L aa man sq]) → ρ 3 = some (.int sq) → ρ 4 = some (.int mv) → ρ 5 = some (.int prey) → WB (cf m) (lx.body.drop 1) ρ ((c, .list (aK L)) :: H) (bT Q) := by
  intro ρ e0 e1 e2 e3 e4 e5
  have hm' : fz L aa man sq < 128 := by unfold fz; split; split <;> decide; exact hmn
  generalize fz L aa man sq = lC at *
  walk_at "S"
  refine bF (fun c1 => ?_) (fun c1 => ?_)
  ·rw [if_pos c1] at h
   have hne : sq ≠ prey := fun e => hp (by rw [← e]; exact c1)
   have ll : (L.set sq lC).length = L.length := List.length_set ..
   have lc : ∀ x ∈ L.set sq lC, x < 128 := fun x hx => (List.mem_or_eq_of_mem_set hx).elim (hc x) fun q => q ▸ hm'
   walk_at "S"
   refine aj (cG (qM (jT (Tv.s (c := decide (decide (lC ∈ [80, 78, 66, 82, 81]) = decide (mv = 0))) (by walk_at "t")) ?_)))
   by_cases c2 : decide (lC ∈ [80, 78, 66, 82, 81]) = decide (mv = 0)
   ·rw [decide_eq_true c2]
    refine jU (eY (bc.s (vs := [.ref c, .int aa, .int sq, .int prey]) (by walk_at "vs")) ?_)
    refine vl (n := m) (L := L.set sq lC) (aq hm rfl) (by walk_at "m") (ll ▸ hl) h1 h8 (ll ▸ dL) (ll ▸ hpr) (ll ▸ hs) (.inr (A' (Nat.le_of_succ_le h1) hne)) lc ?_
    cases hh : hits (L.set sq lC) aa sq prey with
    | true =>
     rw [if_pos ⟨c2, hh⟩] at h
     have HL : sq < (L.set sq lC).length := ll ▸ dL
     have hl' : (L.set sq lC).length ≤ 100 := ll ▸ hl
     walk_at "G"
     exact ⟨_, Sb.refl, h⟩
    | false =>
     rw [if_neg (fun q => Bool.false_ne_true (hh.symm.trans q.2))] at h
     walk_at "G"
     exact ⟨_, Sb.refl, h⟩
   ·rw [if_neg (fun q => c2 q.1)] at h
    rw [decide_eq_false c2]
    walk_at "G"
    exact ⟨_, Sb.refl, h⟩
  ·rw [if_neg c1] at h
   walk_at "G"
   exact ⟨_, Sb.refl, h⟩
 walk_at "S"
 have lm : fz L aa man sq = bif decide (man ∈ [80, 112]) && (decide (sq < aa) || decide (L.length - aa ≤ sq)) then (bif decide (man = 80) then 82 else 114) else man := by
  unfold fz
  simp only [cond_eq_ite, Bool.and_eq_true, Bool.or_eq_true, decide_eq_true_eq]
 refine gO (fun hT => ?_) (fun hF => ?_)
 ·rw [hT] at lm
  walk_at "S"
  walk_at "S"
  refine fin _ rfl rfl ?_ rfl rfl rfl
  rw [lm]
  cases decide (man = 80) <;> rfl
 ·rw [hF] at lm
  walk_at "S"
  exact fin _ rfl rfl (by rw [lm]; rfl) rfl rfl rfl
noncomputable def wy (L : List Nat) (aa i : Nat) : Bool :=
 jn aa i && decide (L.getD (i / 2 * (L.length - aa) + aa / 2) 0 = (if i / 2 = 0 then 75 else 107)) && decide (L.getD (i / 2 * (L.length - aa) + (if i % 2 = 0 then aa - 1 else 0)) 0 = (if i / 2 = 0 then 82 else 114))
noncomputable def fA (L : List Nat) (aa : Nat) (nb : Nat → Bool) (k : Nat) : Nat := (List.range k).foldl (fun r i => if wy L aa i = true ∧ nb i = true then r + 1 <<< i else r) 0
theorem ju (L : List Nat) (aa : Nat) (nb : Nat → Bool) (k : Nat) : fA L aa nb (k + 1) = if wy L aa k = true ∧ nb k = true then fA L aa nb k + 1 <<< k else fA L aa nb k := by
 unfold fA; rw [List.range_succ, List.foldl_append]; rfl
theorem oa {n c aa : Nat} {N : Int} {L : List Nat} {H Q} (hf : 76 < n) (m1 : (c, .list (aK L)) ∈ H) (hl : L.length ≤ 100) (h1 : 2 ≤ aa) (h8 : aa ≤ 8) (wx : 2 * aa ≤ L.length)
  (h : Q (.int (fA L aa (fun i => decide (Builtin.bitAnd (N.fdiv ((2 : Int) ^ i)) 1 = 0)) 4 : Nat)) H) : (cf n).Sp 76 [.ref c, .int aa, .int N] H Q := by
 refine au hf rfl rfl fun m hm => ?_
 walk_at "S"
 refine ch cU (fun k af H' => af 0 = some (.ref c) ∧ af 1 = some (.int aa) ∧ af 2 = some (.int N) ∧ af 3 = some (.int (fA L aa (fun i => decide (Builtin.bitAnd (N.fdiv ((2 : Int) ^ i)) 1 = 0)) k : Nat)) ∧ H' = H) ⟨by decide⟩ ⟨rfl, rfl, rfl, rfl, rfl⟩ ?_ ?_
 ·rintro k af H' Q' hk ⟨e0, e1, e2, e3, rfl⟩ hq
  rw [ju] at hq
  have i2 : k / 2 < 2 := by (exact ln [_,_,_] [.lt (.v 1) (.n 4),.eq (.a (.k 2 (.v 0)) (.v 2)) (.v 1)] (.lt (.v 0) (.n 2)) [2,1,1] rfl hk dm)
  have a1 : aa ≤ L.length := by exact ln [_,_] [.le (.k 2 (.v 0)) (.v 1)] (.le (.v 0) (.v 1)) [1,1] rfl wx
  have a2 : L.length - aa ≤ 1000000 := by (exact ln [_,_,_] [.le (.v 1) (.n 100),.eq (.a (.v 0) (.v 2)) (.v 1)] (.le (.v 0) (.n 1000000)) [1,1,1] rfl hl (aM (ln [_,_] [.le (.k 2 (.v 0)) (.v 1)] (.le (.v 0) (.v 1)) [2,1] rfl wx)))
  have a3 : k / 2 * (L.length - aa) + aa / 2 < L.length := by
   have : k / 2 * (L.length - aa) ≤ 1 * (L.length - aa) := Nat.mul_le_mul_right _ (by exact ij i2 rfl)
   (exact ln [_,_,_,_,_,_] [.le (.n 2) (.v 3),.le (.v 0) (.k 1 (.v 4)),.eq (.a (.v 4) (.v 3)) (.v 2),.eq (.a (.k 2 (.v 1)) (.v 5)) (.v 3)] (.lt (.a (.v 0) (.v 1)) (.v 2)) [2,1,2,2,1] rfl h1 this (aM (ln [_,_] [.le (.k 2 (.v 0)) (.v 1)] (.le (.v 0) (.v 1)) [2,1] rfl wx)) dm)
  have a4 : k / 2 * (L.length - aa) + (bif decide (k % 2 = 0) then aa - 1 else 0) < L.length := by
   have : k / 2 * (L.length - aa) ≤ 1 * (L.length - aa) := Nat.mul_le_mul_right _ (by exact ij i2 rfl)
   cases decide (k % 2 = 0) <;> simp <;> (first | exact ln [_,_,_,_,_] [.le (.v 0) (.k 1 (.v 3)),.eq (.a (.v 3) (.v 4)) (.v 2),.eq (.a (.v 1) (.n 1)) (.v 4)] (.lt (.a (.v 0) (.v 1)) (.v 2)) [1,1,1,1] rfl this (aM (ln [_,_] [.le (.k 2 (.v 0)) (.v 1)] (.le (.v 0) (.v 1)) [2,1] rfl wx)) (aM (ln [_] [.le (.n 2) (.v 0)] (.le (.n 1) (.v 0)) [1,1] rfl h1)) | exact ln [_,_,_,_] [.le (.n 2) (.v 2),.le (.v 0) (.k 1 (.v 3)),.eq (.a (.v 3) (.v 2)) (.v 1)] (.lt (.v 0) (.v 1)) [1,1,1,1] rfl h1 this (aM (ln [_,_] [.le (.k 2 (.v 0)) (.v 1)] (.le (.v 0) (.v 1)) [2,1] rfl wx)))
  walk_at "G"
  have hc : (decide (((0 : Nat) : Int) < bif decide (k % 2 = 0) then (aa : Int) - ((3 : Nat) : Int) - ((aa / 2 : Nat) : Int) else ((aa / 2 : Nat) : Int) - ((2 : Nat) : Int)) && (decide (L.getD (k / 2 * (L.length - aa) + aa / 2) 0 = [75, 107].getD (k / 2) 0) &&
    decide (L.getD (k / 2 * (L.length - aa) + bif decide (k % 2 = 0) then aa - 1 else 0) 0 = [82, 114].getD (k / 2) 0))) = wy L aa k := by
   rw [← Bool.and_assoc]
   unfold wy jn
   rcases CN hk with rfl | rfl | rfl | rfl
   ·exact congrArg (fun b => b && _ && _) (bP (by show (0 : Int) < (aa : Int) - 3 - ((aa / 2 : Nat) : Int) ↔ _; (exact ⟨fun qz => ln [_,_] [.LT (.n 0) (.s (.s (.c (.v 1)) (.n 3)) (.c (.v 0)))] (.lt (.a (.v 0) (.n 3)) (.v 1)) [1,1] rfl qz, fun qz => ln [_,_] [.lt (.a (.v 1) (.n 3)) (.v 0)] (.LT (.n 0) (.s (.s (.c (.v 0)) (.n 3)) (.c (.v 1)))) [1,1] rfl qz⟩)))
   ·exact congrArg (fun b => b && _ && _) (bP (by show (0 : Int) < ((aa / 2 : Nat) : Int) - 2 ↔ _; (exact ⟨fun qz => ln [_] [.LT (.n 0) (.s (.c (.v 0)) (.n 2))] (.lt (.n 2) (.v 0)) [1,1] rfl qz, fun qz => ln [_] [.lt (.n 2) (.v 0)] (.LT (.n 0) (.s (.c (.v 0)) (.n 2))) [1,1] rfl qz⟩)))
   ·exact congrArg (fun b => b && _ && _) (bP (by show (0 : Int) < (aa : Int) - 3 - ((aa / 2 : Nat) : Int) ↔ _; (exact ⟨fun qz => ln [_,_] [.LT (.n 0) (.s (.s (.c (.v 1)) (.n 3)) (.c (.v 0)))] (.lt (.a (.v 0) (.n 3)) (.v 1)) [1,1] rfl qz, fun qz => ln [_,_] [.lt (.a (.v 1) (.n 3)) (.v 0)] (.LT (.n 0) (.s (.s (.c (.v 0)) (.n 3)) (.c (.v 1)))) [1,1] rfl qz⟩)))
   ·exact congrArg (fun b => b && _ && _) (bP (by show (0 : Int) < ((aa / 2 : Nat) : Int) - 2 ↔ _; (exact ⟨fun qz => ln [_] [.LT (.n 0) (.s (.c (.v 0)) (.n 2))] (.lt (.n 2) (.v 0)) [1,1] rfl qz, fun qz => ln [_] [.lt (.n 2) (.v 0)] (.LT (.n 0) (.s (.c (.v 0)) (.n 2))) [1,1] rfl qz⟩)))
  rw [hc]
  refine gO (fun hT => ?_) (fun hF => ?_)
  ·walk_at "S"
   refine gO (fun hN => ?_) (fun hN => ?_)
   ·rw [if_pos ⟨hT, hN⟩] at hq
    walk_at "G"
    refine (hq _ _ _ .refl ?_).1
    exact ⟨e0, e1, e2, rfl, rfl⟩
   ·rw [if_neg (fun q => Bool.false_ne_true (hN.symm.trans q.2))] at hq
    walk_at "G"
    refine (hq _ _ _ .refl ?_).1
    exact ⟨e0, e1, e2, e3, rfl⟩
  ·rw [if_neg (fun q => Bool.false_ne_true (hF.symm.trans q.1))] at hq
   walk_at "G"
   refine (hq _ _ _ .refl ?_).1
   exact ⟨e0, e1, e2, e3, rfl⟩
 ·rintro af H' ⟨e0, e1, e2, e3, rfl⟩
  walk_at "S"
  exact ⟨_, Sb.refl, h⟩
noncomputable def cj (mv : Nat) : Nat := if mv = 0 then 112 else 80
noncomputable def dj (mv : Nat) : Nat := if mv = 0 then 80 else 112
noncomputable def aB (aa ab mv f j : Nat) : Nat := if mv = 0 then (ab - (j + 1)) * aa + f else j * aa + f
noncomputable def od (L : List Nat) (aa ab mv f : Nat) : List Nat := if L.getD (aB aa ab mv f 3) 0 = 46 then L.set (aB aa ab mv f 3) (cj mv) else L
noncomputable def oi (L : List Nat) (aa ab mv f : Nat) (x1 : Int) (prey : Nat) : List Nat :=
 if x1 = 0 then iw (od L aa ab mv f) aa (dj mv) (if f = 0 then aB aa ab mv f 3 + 1 else aB aa ab mv f 3 - 1) mv prey else od L aa ab mv f
noncomputable def dn (L : List Nat) (aa ab mv f : Nat) (x1 x2 : Int) (prey : Nat) : List Nat × Int :=
 if L.getD (aB aa ab mv f 1) 0 ≠ 46 ∨ L.getD (aB aa ab mv f 2) 0 ≠ 46 then (L, -1)
 else (oi L aa ab mv f x1 prey, if (oi L aa ab mv f x1 prey).getD (aB aa ab mv f 3) 0 ≠ cj mv ∨ x2 = 3 then -1 else (aB aa ab mv f 2 : Nat))
theorem wz (L : List Nat) (aa man sq mv prey : Nat) : (iw L aa man sq mv prey).length = L.length := by
 unfold iw
 split
 ·split <;> simp
 ·rfl
theorem Be : ((List.range 9).all fun aa => (List.range 9).all fun ab => (List.range 2).all fun mv => (List.range aa).all fun f => (List.range 4).all fun j =>
  !(Nat.ble 2 aa && Nat.ble 5 ab && Nat.ble 1 j) || (Nat.blt (aB aa ab mv f j) (aa * ab) && (Nat.ble 1 (aB aa ab mv f j) && Nat.ble (aB aa ab mv f j + aa) (aa * ab)))) = true := by decide +kernel
theorem y7 {n c aa ab mv f prey : Nat} {N x1 x2 : Int} {L : List Nat} {H Q} (hf : 75 < n) (hl : L.length ≤ 100) (h1 : 2 ≤ aa) (h8 : aa ≤ 8) (hs : L.length = aa * ab) (h5 : 5 ≤ ab) (G3 : ab ≤ 8) (hpr : prey < L.length) (hp : L.getD prey 0 ≠ 46) (hc : ∀ x ∈ L, x < 128)
  (n1 : N.fmod 2 = (mv : Int)) (di : mv < 2) (n2 : (N.fdiv 2).fmod (aa : Int) = (f : Int)) (hff : f < aa) (n3 : (N.fdiv (2 * (aa : Int))).fmod 2 = x1) (n4 : (N.fdiv (4 * (aa : Int))).fmod 4 = x2)
  (h : Q (.int (dn L aa ab mv f x1 x2 prey).2) ((c, .list (aK (dn L aa ab mv f x1 x2 prey).1)) :: H)) : (cf n).Sp 75 [.ref c, .int aa, .int ab, .int N, .int prey] ((c, .list (aK L)) :: H) Q := by
 have Bf : ∀ j, 1 ≤ j → j ≤ 3 → aB aa ab mv f j < L.length ∧ 1 ≤ aB aa ab mv f j ∧ aB aa ab mv f j + aa ≤ L.length := fun j j1 j3 => by
  have w := ik (ik (ik (ik (ik Be (Nat.lt_succ_of_le h8)) (Nat.lt_succ_of_le G3)) di) hff) (Nat.lt_succ_of_le j3)
  rw [Nat.ble_eq_true_of_le h1, Nat.ble_eq_true_of_le h5, Nat.ble_eq_true_of_le j1] at w
  rw [hs]
  exact ⟨Nat.le_of_ble_eq_true (ag w).1, Nat.le_of_ble_eq_true (ag (ag w).2).1, Nat.le_of_ble_eq_true (ag (ag w).2).2⟩
 refine au hf rfl rfl fun m hm => ?_
 have Aw : ([112, 80] : List Nat).getD mv 0 = cj mv := by rcases fZ di with rfl | rfl <;> rfl
 have ym : ([80, 112] : List Nat).getD mv 0 = dj mv := by rcases fZ di with rfl | rfl <;> rfl
 have FA : cj mv < 128 := by unfold cj; split <;> decide
 have FB : dj mv < 128 := by unfold dj; split <;> decide
 have q4 : (N.fdiv ((4 * aa : Nat) : Int)).fmod ((4 : Nat) : Int) = x2 := n4
 have q3 : (N.fdiv ((2 * aa : Nat) : Int)).fmod ((2 : Nat) : Int) = x1 := n3
 have f1 : aa ≤ 1000000 := az h8 rfl
 have f2 : 0 < aa := Nat.lt_of_lt_of_le (by decide) h1
 have f3 : 0 < 2 * aa ∧ 2 * aa ≤ 1000000 := ⟨Nat.mul_pos (by decide) f2, az (Nat.mul_le_mul_left 2 h8) rfl⟩
 have f4 : 0 < 4 * aa ∧ 4 * aa ≤ 1000000 := ⟨Nat.mul_pos (by decide) f2, az (Nat.mul_le_mul_left 4 h8) rfl⟩
 obtain ⟨f5, f6⟩ := f3
 obtain ⟨f7, f8⟩ := f4
 have fin2 : ∀ (ρ : ap) (L2 : List Nat) (H' : Hp), Sb ((c, .list (aK L2)) :: H) H' → L2.length = L.length → ρ 0 = some (.ref c) → ρ 1 = some (.int aa) → ρ 3 = some (.int N) → ρ 5 = some (.int mv) → ρ 8 = some (.int (aB aa ab mv f 2 : Nat)) → ρ 9 = some (.int (aB aa ab mv f 3 : Nat)) →
   Q (.int (if L2.getD (aB aa ab mv f 3) 0 ≠ cj mv ∨ x2 = 3 then -1 else (aB aa ab mv f 2 : Nat))) ((c, .list (aK L2)) :: H) → WB (cf m) (dP.body.drop 6) ρ H' (bT Q) := by
  intro ρ L2 H' hsb hll e0 e1 e3 e5 e8 e9 hq
  have mc : (c, O.list (aK L2)) ∈ H' := hsb.subset _ (.head _)
  obtain ⟨Dg, G4, Dh⟩ := Bf 3 (by decide) (by decide)
  rw [← hll] at Dg hl
  walk_at "S"
  rw [Aw, q4]
  refine yz (fun hT => ?_) (fun hF => ?_)
  ·rw [if_pos (show _ ∨ x2 = 3 from hT)] at hq
   walk_at "G"
   exact ⟨_, hsb, hq⟩
  ·rw [if_neg (show ¬ (_ ∨ x2 = 3) from hF)] at hq
   walk_at "G"
   exact ⟨_, hsb, hq⟩
 have fin : ∀ (ρ : ap) (u v : Nat) (o1 o2 : O), ρ 0 = some (.ref c) → ρ 1 = some (.int aa) → ρ 3 = some (.int N) → ρ 4 = some (.int prey) → ρ 5 = some (.int mv) → ρ 6 = some (.int f) → ρ 7 = some (.int (aB aa ab mv f 1 : Nat)) → ρ 8 = some (.int (aB aa ab mv f 2 : Nat)) → ρ 9 = some (.int (aB aa ab mv f 3 : Nat)) →
   WB (cf m) (dP.body.drop 3) ρ ((u, o1) :: (v, o2) :: (c, .list (aK L)) :: H) (bT Q) := by
  intro ρ u v o1 o2 e0 e1 e3 e4 e5 e6 e7 e8 e9
  have s1 := (Bf 1 (by decide) (by decide)).1
  have s2 := (Bf 2 (by decide) (by decide)).1
  obtain ⟨Dg, G4, Dh⟩ := Bf 3 (by decide) (by decide)
  have Ca : ∀ L1 : List Nat, L1.length = L.length → (∀ x ∈ L1, x < 128) → L1.getD prey 0 ≠ 46 →
    (∀ L2 : List Nat, L2 = (if x1 = 0 then iw L1 aa (dj mv) (if f = 0 then aB aa ab mv f 3 + 1 else aB aa ab mv f 3 - 1) mv prey else L1) → Q (.int (if L2.getD (aB aa ab mv f 3) 0 ≠ cj mv ∨ x2 = 3 then -1 else (aB aa ab mv f 2 : Nat))) ((c, .list (aK L2)) :: H)) →
    WB (cf m) (dP.body.drop 5) ρ ((u, o1) :: (v, o2) :: (c, .list (aK L1)) :: H) (bT Q) := by
   intro L1 hll hc1 hp1 hq
   have hq := hq _ rfl
   walk_at "S"
   rw [q3]
   refine bF (fun c1 => ?_) (fun c1 => ?_)
   ·rw [if_pos (show x1 = 0 from c1)] at hq
    walk_at "S"
    rw [ym]
    have ew : (bif decide (f = 0) then aB aa ab mv f 3 + 1 else aB aa ab mv f 3 - 1) = if f = 0 then aB aa ab mv f 3 + 1 else aB aa ab mv f 3 - 1 := by rw [cond_eq_ite]; simp only [decide_eq_true_eq]
    have sb : (if f = 0 then aB aa ab mv f 3 + 1 else aB aa ab mv f 3 - 1) < L1.length := by
     rw [hll]; clear hq
     split
     ·exact Nat.lt_of_lt_of_le (Nat.add_lt_add_left (show 1 < aa from h1) _) Dh
     ·exact Nat.lt_of_le_of_lt (Nat.sub_le _ _) Dg
    rw [ew]
    refine ii (n := m) (H' := (c, .list (aK L1)) :: H) (aq hm rfl) (by walk_at "sb") ?_
    refine vm (n := m) (aq hm rfl) (hll ▸ hl) h1 h8 ⟨ab, hll.trans hs⟩ sb (hll ▸ hpr) hp1 FB hc1 (Nat.le_trans (Nat.le_add_left _ _) (hll ▸ Dh)) di ?_
    exact an (fin2 ρ _ _ .refl ((wz ..).trans hll) e0 e1 e3 e5 e8 e9 hq)
   ·rw [if_neg (show ¬ x1 = 0 from c1)] at hq
    exact an (fin2 ρ L1 _ (by walk_at "sb") hll e0 e1 e3 e5 e8 e9 hq)
  unfold dn at h
  unfold oi at h
  unfold od at h
  walk_at "S"
  refine yz (fun hT => ?_) (fun hF => ?_)
  ·rw [if_pos hT] at h
   walk_at "G"
   exact ⟨_, by walk_at "sb", h⟩
  rw [if_neg hF] at h
  walk_at "S"
  walk_at "S"
  refine bF (fun c3 => ?_) (fun c3 => ?_)
  ·simp only [if_pos c3] at h
   walk_at "S"
   rw [Aw]
   refine an (Ca _ (List.length_set ..) (fun x hx => (List.mem_or_eq_of_mem_set hx).elim (hc x) fun q => q ▸ FA) ?_ (fun L2 e => by rw [e]; exact h))
   have : aB aa ab mv f 3 ≠ prey := fun q => hp (by rw [← q]; exact c3)
   rw [List.getD_eq_getElem?_getD, List.getElem?_set_ne this, ← List.getD_eq_getElem?_getD]
   exact hp
  ·simp only [if_neg c3] at h
   exact an (Ca L rfl hc hp (fun L2 e => by rw [e]; exact h))
 apply bY
 walk_at "v"
 exact congrArg V.int n1
 apply bY
 walk_at "v"
 exact congrArg V.int n2
 walk_at "S"
 rcases fZ di with rfl | rfl
 ·refine gD rfl (uY (by walk_at "vs") (fun _ => by walk_at "v") (fun _ => by walk_at "v") (fun _ => by walk_at "v") fun d d' => an ?_)
  exact fin _ _ _ _ _ rfl rfl rfl rfl rfl rfl rfl rfl rfl
 ·refine bj (by decide) (uY (by walk_at "vs") (fun _ => by walk_at "v") (fun _ => by walk_at "v") (fun _ => by walk_at "v") fun d d' => an ?_)
  exact fin _ _ _ _ _ rfl rfl rfl rfl rfl rfl rfl rfl rfl
noncomputable abbrev ef (r d : Nat) (s : Nat) (T : Hp) : Hp := (r, .inst jR d) :: (d, .dict [(14, .int s)]) :: T
noncomputable def oj (s : Nat) : Nat :=
 let s := s ^^^ s >>> 12
 let s := s ^^^ (s <<< 25 &&& 18446744073709551615)
 s ^^^ s >>> 27
theorem wA (x : Nat) : x &&& 18446744073709551615 < 2 ^ 64 := Nat.lt_of_le_of_lt Nat.and_le_right (by decide)
theorem wB {s : Nat} (h : s < 2 ^ 64) : oj s < 2 ^ 64 := by
 unfold oj
 have sh : ∀ (x k : Nat), x < 2 ^ 64 → x >>> k < 2 ^ 64 := fun x k hx => Nat.lt_of_le_of_lt (by rw [Nat.shiftRight_eq_div_pow]; exact Nat.div_le_self _ _) hx
 have h1 := Nat.xor_lt_two_pow h (sh _ 12 h)
 have h2 := Nat.xor_lt_two_pow h1 (wA ((s ^^^ s >>> 12) <<< 25))
 exact Nat.xor_lt_two_pow h2 (sh _ 27 h2)
theorem Bg {a b : Nat} (h : Nat.ble (b + 1) (2 ^ 64) = true) : cS .Mult (.int a) (.int b) (.int (a * b : Nat)) := fun _ _ g => ⟨⟨Int.lt_of_lt_of_le (by decide) (Int.natCast_nonneg _), Int.ofNat_lt.mpr (Nat.le_of_ble_eq_true h)⟩, g⟩
theorem vn {n r d s : Nat} {T : Hp} {Q} (hf : 24 < n) (hs : s < 2 ^ 64) (h : ∀ x : Nat, Q (.int x) (ef r d (oj s) T)) : (cf n).Sp 24 [.ref r] (ef r d s T) Q := by
 have h1 : s ^^^ s >>> 12 < 2 ^ 64 := Nat.xor_lt_two_pow hs (Nat.lt_of_le_of_lt (by rw [Nat.shiftRight_eq_div_pow]; exact Nat.div_le_self _ _) hs)
 refine au hf rfl rfl fun m hm => ?_
 walk_at "G"
 exact nR (f9 (f9 (by walk_at "v") (by walk_at "v") (Bg rfl)) (by walk_at "v") (by walk_at "o")) ⟨_, Sb.refl, h _⟩
theorem qT {n r d s len : Nat} {T : Hp} {Q} (hf : 27 < n) (hl : len ≤ 100) (hs : s < 2 ^ 64) (h : ∀ (a : Nat) (L : List Nat) (s' : Nat), L.length = len → s' < 2 ^ 64 → Q (.ref a) ((a, .list (ak L)) :: ef r d s' T)) : (cf n).Sp 27 [.ref r, .int len] (ef r d s T) Q := by
 refine au hf rfl rfl fun m hm => kO fun a => ?_
 refine ch (by walk_at "v") (fun k af H' => ∃ (L : List Nat) (s' : Nat), L.length = k ∧ s' < 2 ^ 64 ∧ af 0 = some (.ref r) ∧ af 2 = some (.ref a) ∧ H' = (a, .list (ak L)) :: ef r d s' T) ⟨bq hl rfl⟩ ⟨[], s, rfl, hs, rfl, rfl, rfl⟩ ?_ ?_
 ·rintro k af H' Q' hk ⟨L, s', hL, hs', e0, e2, rfl⟩ hq
  refine mi (by walk_at "v") (.head _) (sB (by walk_at "v") (.tail _ (.head _)) (.tail _ (.tail _ (.head _))) rfl (ii (H' := ef r d s' ((a, .list (ak L)) :: T)) (aq hm rfl) (.pick (.there .here) (.pick (.there .here) .refl)) (vn (aq hm rfl) hs' fun x => ⟨ak L, _, .there (.there .here), dY (by rw [hL]; exact Nat.le_trans (Nat.le_of_lt hk) (bq hl rfl)), an ?_⟩)))
  refine (hq _ _ ((a, .list (ak (L ++ [x]))) :: ef r d (oj s') T) ?_ ?_).1
  ·rw [show ak (L ++ [x]) = ak L ++ [.int (x : Nat)] from List.map_append]
   exact .pick (.there (.there .here)) .refl
  ·exact ⟨_, _, by rw [List.length_append, hL]; rfl, wB hs', e0, e2, rfl⟩
 ·rintro af H' ⟨L, s', hL, hs', e0, e2, rfl⟩
  walk_at "G"
  exact ⟨_, Sb.refl, h a L s' hL hs'⟩
theorem wC {n sa : Nat} {S : List Nat} {T : Hp} {Q} (hf : 28 < n) (hS : S.length = 4) (m1 : (sa, .list (ak S)) ∈ T) (h : ∀ (a : Nat) (L : List Nat), L.length = 16 → Q (.ref a) ((a, .list (ak L)) :: T)) : (cf n).Sp 28 [.ref sa] T Q := by
 have sl : S.length ≤ 4 := Nat.le_of_eq hS
 refine au hf rfl rfl fun m hm => kO fun a => ?_
 refine ch cU (fun k af H' => ∃ (L : List Nat), L.length = k ∧ af 0 = some (.ref sa) ∧ af 1 = some (.ref a) ∧ H' = (a, .list (ak L)) :: T) ⟨ai rfl⟩ ⟨[], rfl, rfl, rfl, rfl⟩ ?_ ?_
 ·rintro k af H' Q' hk ⟨L, hL, e0, e1, rfl⟩ hq
  have ll : L.length ≤ 16 := hL ▸ Nat.le_of_lt hk
  walk_at "S"
  refine ch cU (fun j dz aH => ∃ x : Nat, dz 0 = some (.ref sa) ∧ dz 1 = some (.ref a) ∧ dz 2 = some (.int k) ∧ dz 3 = some (.int x) ∧ aH = (a, .list (ak L)) :: T) ⟨ai rfl⟩ ⟨0, e0, e1, rfl, rfl, rfl⟩ ?_ ?_
  ·rintro j dz aH y5 hj ⟨x, f0, f1, f2, f3, rfl⟩ hq2
   have jl : j < S.length := hS ▸ hj
   have j4 : j ≤ 4 := Nat.le_of_lt hj
   walk_at "S"
   refine gO (fun _ => ?_) (fun _ => ?_)
   ·walk_at "G"
    refine (hq2 _ _ _ .refl ?_).1
    exact ⟨_, f0, f1, f2, rfl, rfl⟩
   ·walk_at "G"
    refine (hq2 _ _ _ .refl ?_).1
    exact ⟨x, f0, f1, f2, f3, rfl⟩
  ·rintro dz aH ⟨x, f0, f1, f2, f3, rfl⟩
   walk_at "G"
   refine (hq _ _ _ .refl ?_).1
   exact ⟨L ++ [x], by rw [List.length_append, hL]; rfl, f0, f1, rfl⟩
 ·rintro af H' ⟨L, hL, e0, e1, rfl⟩
  walk_at "G"
  exact ⟨_, Sb.refl, h a L hL⟩
theorem vo {p : Nat} (h : bM p) : p % 8 < 7 ∧ p / 8 < 2 ∧ p < 15 :=
 have l := ve h
 ⟨((by unfold bM; decide : ∀ p, p < 15 → bM p → p % 8 < 7 ∧ p / 8 < 2) p l h).1, ((by unfold bM; decide : ∀ p, p < 15 → bM p → p % 8 < 7 ∧ p / 8 < 2) p l h).2, l⟩
structure G5 (B : GA) (size r d pl k : Nat) (H : Hp) (R : List V) (pr : Nat → Nat) (pc : Nat → List Nat) (s' : Nat) (Hk : Hp) (ρ : ap) (H' : Hp) : Prop where
 l : R.length = k
 s : s' < 2 ^ 64
 row : ∀ p, p < k → bM p → R[p]? = some (.ref (pr p)) ∧ (pr p, .list (ak (pc p))) ∈ Hk ++ H ∧ (pc p).length = size
 e0 : ρ 0 = some (.ref B.g)
 e2 : ρ 2 = some (.ref r)
 e3 : ρ 3 = some (.ref pl)
 e : H' = (pl, .list R) :: ef r d s' (Hk ++ H)
theorem Bh : ∀ k, k < 15 → (bM k ↔ 1 ≤ k &&& 7 ∧ k &&& 7 ≤ 6) := by unfold bM; decide
theorem Bi {n : Nat} {B : GA} {G : GD} {H : Hp} {Q} (hf : 29 < n) (hg : aS B G H) (go : eo G)
  (h : ∀ (D : ZA) (Z : ZD) (H' : Hp), dK D Z G.aa (G.aa * G.ab) (H' ++ H) → Q (.ref D.z) (H' ++ H)) : (cf n).Sp 29 [.ref B.g, .int 5] H Q := by
 have g1 := hg.i; have g2 := hg.f; have g3 := hg.l0; have g5 := hg.l2
 have q0 := go.f; have q3 := go.s
 have p0 : (5 : Nat) &&& 18446744073709551615 = 5 := by decide +kernel
 have w0 : cS .BitAnd (.int (5 : Nat)) (.int (18446744073709551615 : Nat)) (.int (5 : Nat)) := by
  have := wf (op := .BitAnd) (a := 5) (b := 18446744073709551615) rfl ⟨trivial⟩
  rwa [p0] at this
 have FC : G.aa * G.ab ≤ 100 := az q3 rfl
 have FD : G.aa ≤ 100 := az q0.2 rfl
 refine au hf rfl rfl fun m hm => ?_
 refine fh (vs := [.int (5 : Nat)]) (.cons (cT rfl) .nil) ?_
 refine mf (n := m) (i := 22) (c := jR) (aq hm rfl) rfl (fun m2 hm2 r d => ?_)
 refine au (by exact aq hm2 rfl) rfl rfl (fun m' hm' => ?_)
 refine nS (f9 (cT rfl) (AE rfl) w0) (cT rfl) (.head _) (.there .here) rfl rfl ?_
 walk_at "S"
 refine bj (by decide) (an (an ⟨ef r d 5 H, .refl, rfl, ?_⟩))
 refine aj (aY (bu (df .nil ⟨ai rfl, fun pl => ?_⟩)))
 refine ch (n := 15) cU (fun k af H' => ∃ (R : List V) (pr : Nat → Nat) (pc : Nat → List Nat) (s' : Nat) (Hk : Hp), G5 B (G.aa * G.ab) r d pl k H R pr pc s' Hk af H') ⟨by decide⟩
  ⟨[], fun _ => 0, fun _ => [], 5, [], rfl, by decide, fun p hp => absurd hp (Nat.not_lt_zero _), rfl, rfl, rfl, rfl⟩ ?_ ?_
 ·rintro k af H' Q' hk ⟨R, pr, pc, s', Hk, hR, hs', hrow, e0, e2, e3, rfl⟩ hq
  have G6 : (B.g, O.inst ig B.d) ∈ Hk ++ H := List.mem_append_right _ g1
  have G7 : (B.d, O.dict B.fs) ∈ Hk ++ H := List.mem_append_right _ g2
  have hok := Bh k hk
  have r1 : R.length ≤ 1000 := hR ▸ Nat.le_of_lt (Nat.lt_of_lt_of_le hk (by decide))
  have Cb : ∀ {X : V} {c : Nat × O} {p : Nat}, p < k → bM p → (R ++ [X])[p]? = some (.ref (pr p)) ∧ (pr p, .list (ak (pc p))) ∈ (c :: Hk) ++ H ∧ (pc p).length = G.aa * G.ab := fun {X c p} hp hpk => by
   obtain ⟨a1, a2, a3⟩ := hrow p hp hpk
   exact ⟨by rw [List.getElem?_append_left (hR ▸ hp)]; exact a1, .tail _ a2, a3⟩
  have pT : ¬ bM k → WB (cf m) (.cons (.ex (.meth 0 (.var 3) (.cons (.list .nil) .nil))) .nil) (af.set 4 (.int k)) ((pl, .list R) :: ef r d s' (Hk ++ H)) (KB (cf m) .nil Q') := by
   intro hno
   refine mi (cT e3) (.head _) (bu (df .nil ⟨ai rfl, fun b => ⟨R, _, .there .here, r1, an (an (hq _ _ ((pl, .list (R ++ [.ref b])) :: ef r d s' ((b, .list []) :: (Hk ++ H))) (.pick (.there .here) (.pick (.there .here) (.pick (.there .here) (.pick .here .refl)))) ?_).1)⟩⟩))
   exact ⟨_, pr, pc, s', (b, .list []) :: Hk, by rw [List.length_append, hR]; rfl, hs', fun p hp hpk => Cb (Nat.lt_of_le_of_ne (Nat.le_of_lt_succ hp) (fun e => hno (e ▸ hpk))) hpk, e0, e2, e3, rfl⟩
  refine aj (cG (AL (kM (v := .int (1 : Nat)) (AE rfl) (w_call (df (vs := [.int k]) (.cons (cT rfl) .nil) (nU (n := m) (aq hm rfl) ((CR rfl) _ _ ?_)))))))
  generalize k &&& 7 = kd at *
  by_cases c1 : 1 ≤ kd
  ·rw [decide_eq_true c1]
   refine sA (kM (v := .int (6 : Nat)) (AE rfl) ?_)
   refine (CR rfl) _ _ ?_
   by_cases c2 : kd ≤ 6
   ·rw [decide_eq_true c2]
    have hyes : bM k := hok.mpr ⟨c1, c2⟩
    refine mi (cT e3) (.head _) (w_call (df (vs := [.ref r, .int (G.aa * G.ab : Nat)]) (by walk_at "vs") (ii (n := m) (H' := ef r d s' ((pl, .list R) :: (Hk ++ H))) (aq hm rfl) (.pick (.there .here) (.pick (.there .here) (.pick .here .refl))) (qT (n := m) (aq hm rfl) FC hs' (fun b L s'' hL hs'' => ⟨R, _, .there (.there (.there .here)), r1, ?_⟩)))))
    refine an (an (hq _ _ ((pl, .list (R ++ [.ref b])) :: ef r d s'' ((b, .list (ak L)) :: (Hk ++ H))) (.pick (.there (.there (.there .here))) (.pick (.there .here) (.pick (.there .here) (.pick .here .refl)))) ?_).1)
    refine ⟨_, fun p => if p = k then b else pr p, fun p => if p = k then L else pc p, s'', (b, .list (ak L)) :: Hk, by rw [List.length_append, hR]; rfl, hs'', fun p hp hpk => ?_, e0, e2, e3, rfl⟩
    by_cases pk : p = k
    ·subst pk
     rw [if_pos rfl, if_pos rfl]
     exact ⟨by rw [List.getElem?_append_right (Nat.le_of_eq hR), hR, Nat.sub_self]; rfl, .head _, hL⟩
    ·rw [if_neg pk, if_neg pk]
     exact Cb (Nat.lt_of_le_of_ne (Nat.le_of_lt_succ hp) pk) hpk
   ·rw [decide_eq_false c2]
    exact pT (fun q => c2 (hok.mp q).2)
  ·rw [decide_eq_false c1]
   exact pT (fun q => c1 (hok.mp q).1)
 ·rintro af H' ⟨R, pr, pc, s', Hk, hR, hs', hrow, e0, e2, e3, rfl⟩
  have G6 : (B.g, O.inst ig B.d) ∈ Hk ++ H := List.mem_append_right _ g1
  have G7 : (B.d, O.dict B.fs) ∈ Hk ++ H := List.mem_append_right _ g2
  refine fh (vs := [.ref r, .int G.aa]) (by walk_at "vs") (ii (n := m) (H' := ef r d s' ((pl, .list R) :: (Hk ++ H))) (aq hm rfl) (.pick (.there .here) (.pick (.there .here) (.pick .here .refl))) (qT (n := m) (aq hm rfl) FD hs' (fun ea EL s2 G8 hs2 => ?_)))
  refine aj (aY (w_call (lU (w_call (df (vs := [.ref r, .int (4 : Nat)]) (by walk_at "vs") (ii (n := m) (H' := ef r d s2 ((ea, .list (ak EL)) :: (pl, .list R) :: (Hk ++ H))) (aq hm rfl) (.pick (.there .here) (.pick (.there .here) .refl)) (qT (n := m) (len := 4) (aq hm rfl) (by decide) hs2 (fun sa SL s3 G9 hs3 => ?_))))))))
  refine df .nil (wC (n := m) (aq hm rfl) G9 (.head _) (fun ra RL He => ?_))
  refine aj (gq (w_call (jo (v := .ref pl) (by walk_at "v") (jo (v := .ref ea) (by walk_at "v") (jo (v := .ref ra) (by walk_at "v") (lU (sB (x := r) (by walk_at "v") (.tail _ (.tail _ (.head _))) (.tail _ (.tail _ (.tail _ (.head _)))) rfl (ii (n := m) (H' := ef r d s3 ((ra, .list (ak RL)) :: (sa, .list (ak SL)) :: (ea, .list (ak EL)) :: (pl, .list R) :: (Hk ++ H))) (aq hm rfl) (.pick (.there (.there .here)) (.pick (.there (.there .here)) .refl)) (vn (n := m) (aq hm rfl) hs3 (fun x => ?_))))))))))
  refine df .nil (mf (n := m) (i := 25) (c := nJ) (aq hm rfl) rfl (fun m2 hm2 z zd => ?_))
  refine au (by exact aq hm2 rfl) rfl rfl (fun m' hm' => ?_)
  walk_at "G"
  refine ⟨_, .refl, rfl, ?_⟩
  refine ⟨((z, .inst nJ zd) :: (zd, .dict [(15, .ref pl), (16, .ref ea), (17, .ref ra), (18, .int x)]) :: ef r d (oj s3) ((ra, .list (ak RL)) :: (sa, .list (ak SL)) :: (ea, .list (ak EL)) :: (pl, .list R) :: Hk)) ++ H, .refl, ?_⟩
  refine h ⟨z, zd, pl, ea, ra, pr, R, [(15, .ref pl), (16, .ref ea), (17, .ref ra), (18, .int x)]⟩ ⟨pc, EL, RL, x⟩ _ ?_
  exact ⟨.head _, .tail _ (.head _), rfl, rfl, rfl, rfl, by walk_at "m", by show R.length ≤ 100; exact hR ▸ ai rfl, fun p hp => by
   obtain ⟨a1, a2, a3⟩ := hrow p (vo hp).2.2 hp
   exact ⟨a1, .tail _ (.tail _ (.tail _ (.tail _ (.tail _ (.tail _ (.tail _ (.tail _ a2))))))), a3⟩, by walk_at "m", G8, by walk_at "m", He⟩
noncomputable def apart1 (aa one two : Nat) : Bool := decide (1 < (((one % aa : Nat) : Int) - ((two % aa : Nat) : Int)).natAbs) || decide (1 < (((one / aa : Nat) : Int) - ((two / aa : Nat) : Int)).natAbs)
noncomputable def bC (aa one k : Nat) : List Nat := (List.range k).filter (apart1 aa one)
theorem qU (aa one k : Nat) : bC aa one (k + 1) = bC aa one k ++ (if apart1 aa one k = true then [k] else []) := by
 unfold bC; rw [List.range_succ, List.filter_append]
 congr 1
 by_cases h : apart1 aa one k = true
 ·rw [if_pos h]; simp [h]
 ·rw [if_neg h]; simp [h]
theorem lD (aa one k : Nat) : (bC aa one k).length ≤ k := by
 unfold bC; exact Nat.le_trans (List.length_filter_le ..) (by simp)
noncomputable def mr (aa ab : Nat) (N : Int) (one j : Nat) : List Nat :=
 if N.fmod 2 = 0 then [aa / 2, aa * ab - aa + aa / 2] else [one, (bC aa one (aa * ab)).getD j 0]
theorem y8 {n aa ab one j : Nat} {N : Int} {H Q} (hf : 73 < n) (h1 : 2 ≤ aa ∧ aa ≤ 8) (h2 : 3 ≤ ab ∧ ab ≤ 8) (hs : aa * ab ≤ 35) (h3 : (N.fdiv 2).fmod (aa * ab : Nat) = (one : Int)) (hone : one < aa * ab)
  (hj : ((N.fdiv 2).fdiv (aa * ab : Nat)).fmod ((bC aa one (aa * ab)).length : Nat) = (j : Int)) (hjl : j < (bC aa one (aa * ab)).length)
  (h : ∀ a, Q (.ref a) ((a, .list (ak (mr aa ab N one j))) :: H)) : (cf n).Sp 73 [.int aa, .int ab, .int N] H Q := by
 have r8 := h2.2
 have hfr : aa ≤ aa * ab := Nat.le_mul_of_pos_right _ (cY h2.1 rfl)
 have s0 : 0 < aa * ab := Nat.lt_of_le_of_lt (Nat.zero_le _) hone
 have f0 : 0 < aa := cY h1.1 rfl
 have f8 := h1.2
 unfold mr at h
 refine au hf rfl rfl fun m hm => ?_
 walk_at "S"
 walk_at "S"
 refine bF (fun c => ?_) (fun c => ?_)
 ·have c : N.fmod 2 = 0 := c
  rw [if_pos c] at h
  exact cH (bu (bc.s (vs := [.int (aa / 2 : Nat), .int (aa * ab - aa + aa / 2 : Nat)]) (by walk_at "vs") _ ⟨ai rfl, fun a => ⟨_, .refl, h a⟩⟩))
 ·have c : ¬ N.fmod 2 = 0 := c
  rw [if_neg c] at h
  refine an (bY (v := .int ((N.fdiv (2 : Nat)).fmod (aa * ab : Nat))) (by walk_at "v") (congrArg V.int h3) (kO fun a => ?_))
  refine ch (by walk_at "v") (fun k af H' => af 0 = some (.int aa) ∧ af 2 = some (.int N) ∧ af 3 = some (.int (aa * ab : Nat)) ∧ af 4 = some (.int one) ∧ af 5 = some (.ref a) ∧ H' = (a, .list (ak (bC aa one k))) :: H) ⟨bq hs rfl⟩ ⟨rfl, rfl, rfl, rfl, rfl, rfl⟩ ?_ ?_
  ·rintro k af H' Q' hk ⟨e0, e2, e3, e4, e5, rfl⟩ hq
   have al : (bC aa one k).length ≤ 35 := Nat.le_trans (lD aa one k) (Nat.le_trans (Nat.le_of_lt hk) hs)
   rw [qU] at hq
   walk_at "S"
   refine gO (fun d => ?_) (fun d => ?_)
   ·rw [if_pos (show apart1 aa one k = true from d)] at hq
    walk_at "G"
    refine (hq _ _ _ .refl ?_).1
    exact ⟨e0, e2, e3, e4, e5, rfl⟩
   ·rw [if_neg (Bool.eq_false_iff.mp (show apart1 aa one k = false from d)), List.append_nil] at hq
    walk_at "G"
    refine (hq _ _ _ .refl ?_).1
    exact ⟨e0, e2, e3, e4, e5, rfl⟩
  ·rintro af H' ⟨e0, e2, e3, e4, e5, rfl⟩
   have al : (bC aa one (aa * ab)).length ≤ 35 := Nat.le_trans (lD _ _ _) hs
   refine cH (bu (bc.s (vs := [.int one, .int ((bC aa one (aa * ab)).getD j 0 : Nat)]) (.cons (by walk_at "v") (.cons (e_i (y := .ref a) (by walk_at "v") (f9 (v := .int ((N.fdiv (2 : Nat)).fdiv (aa * ab : Nat))) (by walk_at "v") (by walk_at "v") (B6 hj (Nat.lt_of_le_of_lt (Nat.zero_le _) hjl))) (by walk_at "ix")) .nil)) _ ⟨ai rfl, fun b => ⟨_, .pick .here (.skip .refl), h b⟩⟩))
noncomputable def cd (c : Nat) : Nat := if c = 46 then 0 else code c
noncomputable def dq (L : List Nat) (aa k : Nat) : List Nat := (L.drop (k * aa)).take aa
noncomputable def aT (L : List Nat) (aa ab : Nat) : List (List Nat) := (List.range ab).map fun j => fG (dq L aa (ab - 1 - j)) 0
theorem Bj (ab aa : Nat) (h1 : 0 < aa) (h2 : 0 < ab) : (bN (((ab * aa - aa : Nat) : Int)) (-1) (-(aa : Int))).map V.int = (List.range ab).map fun (k : Nat) => .int (((ab - 1 - k) * aa : Nat) : Int) := by
 have hm : ab * aa = (ab - 1) * aa + aa := by
  have : (ab - 1 + 1) * aa = (ab - 1) * aa + aa := Nat.succ_mul _ _
  rwa [Nat.sub_add_cancel h2] at this
 have e0 : (Builtin.Range.rangeSize (((ab * aa - aa : Nat) : Int)) (-1) (-(aa : Int))).toNat = ab := by
  unfold Builtin.Range.rangeSize
  rw [if_neg (by (exact ln [_] [] (.vz (.n 0) (.g (.c (.v 0)))) [1] rfl)), if_pos (by exact Int.natCast_nonneg _)]
  rw [show ((ab * aa - aa : Nat) : Int) - -1 - 1 = (((ab - 1) * aa : Nat) : Int) by (exact kv [_,_,_,_] [] [.eq (.v 2) (.a (.v 1) (.v 3)),.eq (.a (.v 0) (.v 3)) (.v 2)] (.s (.s (.c (.v 0)) (.g (.n 1))) (.n 1)) (.c (.v 1)) [1,1,1] [1,-1,-1] rfl rfl hm (aM (ln [_,_,_] [.eq (.v 1) (.a (.v 2) (.v 0))] (.le (.v 0) (.v 1)) [1,-1] rfl hm))), Int.neg_neg]
  rw [show (((ab - 1) * aa : Nat) : Int) / (aa : Int) = ((ab - 1 : Nat) : Int) by
   rw [← Int.natCast_ediv, Nat.mul_div_cancel _ h1]]
  (exact Nat.sub_add_cancel h2)
 unfold bN
 rw [e0, List.map_map]
 refine List.map_congr_left fun k hk => ?_
 have hk := List.mem_range.mp hk
 show V.int _ = V.int _
 congr 1
 have : (ab - 1) * aa = (ab - 1 - k) * aa + k * aa := by rw [← Nat.add_mul]; congr 1; omega
 have e3 : (aa : Int) * (k : Int) = ((k * aa : Nat) : Int) := by rw [Nat.mul_comm]; simp
 show ((ab * aa - aa : Nat) : Int) + -(aa : Int) * (k : Int) = _
 rw [Int.neg_mul, e3]
 (exact kv [_,_,_,_,_,_] [] [.eq (.v 3) (.a (.v 4) (.v 5)),.eq (.v 4) (.a (.v 2) (.v 1)),.eq (.a (.v 0) (.v 5)) (.v 3)] (.a (.c (.v 0)) (.g (.c (.v 1)))) (.c (.v 2)) [1,1,1,1] [1,-1,-1,-1] rfl rfl hm this (aM (ln [_,_,_] [.eq (.v 1) (.a (.v 2) (.v 0))] (.le (.v 0) (.v 1)) [1,-1] rfl hm)))
theorem ug (L : List Nat) : (L.map fun c => [c]).flatten = L := by
 induction L with
 | nil => rfl
 | cons x L ih => rw [List.map_cons, List.flatten_cons, ih]; rfl
theorem y9 (m : Nat) : Str.ofString (toString (m : Int)) = st (dig m) := by
 have := sE m
 unfold un at this
 generalize Str.ofString (toString (m : Int)) = x at this
 cases x with
 | mk cps => show Str.mk cps = Str.mk _; rw [← this]
noncomputable def vp (r i : Nat) : Bool := decide (r >>> i &&& 1 ≠ 0)
noncomputable def eu (r k : Nat) : List (List Nat) := ((List.range k).filter (vp r)).map fun i => [bh.getD i 0]
theorem uh : ∀ r, r < 16 → iY r = (if (eu r 4).flatten = [] then [45] else (eu r 4).flatten) ∧ (eu r 4).length ≤ 4 ∧ (eu r 4).flatten.length ≤ 4 := by decide +kernel
theorem lE (r k : Nat) : eu r (k + 1) = eu r k ++ (if vp r k = true then [[bh.getD k 0]] else []) := by
 unfold eu; rw [List.range_succ, List.filter_append, List.map_append]
 congr 1
 by_cases h : vp r k = true
 ·rw [if_pos h]; simp [h]
 ·rw [if_neg h]; simp [h]
theorem ui (r k : Nat) : (eu r k).length ≤ k := by
 unfold eu; rw [List.length_map]; exact Nat.le_trans (List.length_filter_le ..) (by simp)
theorem za {aa k : Nat} (h : k / aa < 8) (g : k % aa < 8) : fk aa k = [([97, 98, 99, 100, 101, 102, 103, 104] : List Nat).getD (k % aa) 0] ++ dig (k / aa + 1) := by
 rw [dg (Nat.lt_of_lt_of_le (Nat.succ_lt_succ h) (by decide))]
 show [97 + k % aa, 49 + k / aa] = _
 have a : ([97, 98, 99, 100, 101, 102, 103, 104] : List Nat).getD (k % aa) 0 = 97 + k % aa := (by decide +kernel : ∀ j, j < 8 → ([97, 98, 99, 100, 101, 102, 103, 104] : List Nat).getD j 0 = 97 + j) _ g
 rw [a, show 48 + (k / aa + 1) = 49 + k / aa by (exact lie [_] [] (.a (.n 48) (.a (.v 0) (.n 1))) (.a (.n 49) (.v 0)) [1] [1] rfl rfl)]; rfl
theorem oo {n c aa ab side rights half full : Nat} {ep : Int} {L : List Nat} {H Q} (hf : 77 < n) (m1 : (c, .list (aK L)) ∈ H) (hl : L.length = ab * aa) (h1 : 2 ≤ aa ∧ aa ≤ 8) (h2 : 3 ≤ ab ∧ ab ≤ 8) (hs : ab * aa ≤ 35) (hc : ∀ x ∈ L, x = 46 ∨ x ∈ letters)
  (hsd : side < 2) (hr : rights < 16) (he : -1 ≤ ep ∧ ep < (aa * ab : Nat)) (hh : half < 10 ^ 15) (hfu : full < 10 ^ 15)
  (h : Q (.str (dR ⟨aT L aa ab, side, rights, ep, half, full⟩ aa)) H) : (cf n).Sp 77 [.ref c, .int aa, .int side, .int rights, .int ep, .int half, .int full] H Q := by
 have vr : ∀ k, (dq L aa k).length ≤ 8 := fun k => by exact Nat.le_trans (List.length_take_le _ _) h1.2
 have wl : ∀ k, (fG (dq L aa k) 0).length ≤ 8 := fun k => by rw [← (fy _ (vr k)).1]; exact (fy _ (vr k)).2 8 (by exact ai rfl)
 have oq : (aT L aa ab).length = ab := by simp [aT]
 refine au hf rfl rfl fun m hm => ?_
 have f0 : 0 < aa := Nat.lt_of_lt_of_le (by decide) h1.1
 have r0 : 0 < ab := Nat.lt_of_lt_of_le (by decide) h2.1
 have r1 : aa ≤ L.length := hl ▸ Nat.le_mul_of_pos_left _ r0
 have l1 : L.length ≤ 10000 := hl ▸ az hs rfl
 have l2 : (aK L).length ≤ 10000 := jV l1
 have f1 : aa ≤ 10000 := az h1.2 rfl
 have r2 : ab ≤ 1000 := az h2.2 rfl
 refine aj (aY (bu (df .nil ⟨ai rfl, fun rw => ?_⟩)))
 refine u7 (n := ab) (f := fun k => (ab - 1 - k) * aa) (lo := ((L.length - aa : Nat) : Int)) (hi := -1) (st' := -(aa : Int)) (by walk_at "vs") ⟨Int.le_trans (by decide) (Int.natCast_nonneg _), Int.ofNat_le.mpr (Nat.le_trans (Nat.sub_le _ _) l1), by decide, by decide, Int.neg_le_neg (Int.ofNat_le.mpr f1), Int.neg_neg_of_pos (Int.ofNat_lt.mpr f0)⟩ (by rw [hl]; exact Bj ab aa f0 r0)
  (fun k af H' => af 0 = some (.ref c) ∧ af 1 = some (.int aa) ∧ af 2 = some (.int side) ∧ af 3 = some (.int rights) ∧ af 4 = some (.int ep) ∧ af 5 = some (.int half) ∧ af 6 = some (.int full) ∧ af 7 = some (.ref rw) ∧ H' = (rw, .list (((aT L aa ab).take k).map .str)) :: H) ((rw, .list []) :: H) .refl ⟨rfl, rfl, rfl, rfl, rfl, rfl, rfl, rfl, rfl⟩ ?_ ?_
 ·rintro k af H' Q' hkn ⟨e0, e1, e2, e3, e4, e5, e6, e7, rfl⟩ hq
  have ble : (ab - 1 - k) * aa + aa ≤ L.length := by
   have : (ab - 1 - k + 1) * aa ≤ ab * aa := Nat.mul_le_mul_right _ (by (exact ln [_,_,_] [.le (.v 0) (.v 2),.eq (.a (.v 2) (.n 1)) (.v 1)] (.le (.a (.v 0) (.n 1)) (.v 1)) [1,1,1] rfl vA (aM (ln [_] [.le (.n 3) (.v 0)] (.le (.n 1) (.v 0)) [1,1] rfl h2.1))))
   rw [hl]; rwa [Nat.succ_mul] at this
  have Cc := Nat.le_trans ble l1
  have tk : (((aT L aa ab).take k).map V.str).length ≤ 1000 := by rw [List.length_map, List.length_take]; exact Nat.le_trans (Nat.min_le_left _ _) (Nat.le_trans (Nat.le_of_lt hkn) r2)
  refine aj (aY (j0 (s := []) (gR rfl) (sy (a := c) (lo := (ab - 1 - k) * aa) (hi := (ab - 1 - k) * aa + aa) (by walk_at "v") (by walk_at "v") (by walk_at "v") (.tail _ m1) l2 (Nat.le_trans (Nat.le_add_right _ _) Cc) Cc fun b => ?_)))
  have esl : ((aK L).take ((ab - 1 - k) * aa + aa)).drop ((ab - 1 - k) * aa) = ((dq L aa (ab - 1 - k)).map fun c => [c]).map V.str := by
   rw [List.drop_take, ← n9]
   unfold aK dq
   rw [Nat.add_sub_cancel_left, List.map_take, List.map_drop]
  rw [esl]
  refine j2 ((dq L aa (ab - 1 - k)).map fun c => [c]) (.head _) (by decide) (by rw [List.length_map]; exact az (vr _) rfl) (fun t ht => ?_) ?_
  ·obtain ⟨y, _, rfl⟩ := List.mem_map.mp ht
   exact ai rfl
  rw [join_nil, ug]
  have rc := fy _ (vr (ab - 1 - k))
  have hrow := wl (ab - 1 - k)
  generalize hrr : dq L aa (ab - 1 - k) = row at *
  refine u7 (n := 8) (f := fun j => 8 - j) (lo := 8) (hi := 0) (st' := -1) (by walk_at "vs") (by decide) rfl
   (fun j dz aH => dz 0 = some (.ref c) ∧ dz 1 = some (.int aa) ∧ dz 2 = some (.int side) ∧ dz 3 = some (.int rights) ∧ dz 4 = some (.int ep) ∧ dz 5 = some (.int half) ∧ dz 6 = some (.int full) ∧ dz 7 = some (.ref rw) ∧ dz 11 = some (.str (gH row j)) ∧ aH = (rw, .list (((aT L aa ab).take k).map .str)) :: H) ((rw, .list (((aT L aa ab).take k).map .str)) :: H) (.skip .refl) ⟨e0, e1, e2, e3, e4, e5, e6, e7, rfl, rfl⟩ ?_ ?_
  ·rintro j dz aH y5 hjn ⟨f0, f1, f2, f3, f4, f5, f6, f7, f11, rfl⟩ hq2
   have lj := rc.2 j (Nat.le_of_lt hjn)
   refine aj (aR ⟨gH row j, ((8 - j : Nat) : Int), f11, rfl, ⟨by (exact ln [_,_] [.lt (.v 1) (.n 8),.eq (.a (.v 0) (.v 1)) (.n 8)] (.LE (.n 1) (.c (.v 0))) [1,1,-1] rfl hjn (aM (ln [_] [.lt (.v 0) (.n 8)] (.le (.v 0) (.n 8)) [1,1] rfl hjn))), by (exact ln [_,_] [.eq (.a (.v 0) (.v 1)) (.n 8)] (.LE (.c (.v 0)) (.n 9)) [1,1] rfl (aM (ln [_] [.lt (.v 0) (.n 8)] (.le (.v 0) (.n 8)) [1,1] rfl hjn))), by (exact bq lj rfl)⟩, ?_⟩)
   rw [y9, Int.toNat_natCast, ww _ (by (exact ln [_,_] [.lt (.v 1) (.n 8),.eq (.a (.v 0) (.v 1)) (.n 8)] (.le (.n 1) (.v 0)) [1,1,-1] rfl hjn (aM (ln [_] [.lt (.v 0) (.n 8)] (.le (.v 0) (.n 8)) [1,1] rfl hjn))))]
   refine an (hq2 _ _ _ .refl ?_).1
   exact ⟨f0, f1, f2, f3, f4, f5, f6, f7, rfl, rfl⟩
  ·rintro dz aH ⟨f0, f1, f2, f3, f4, f5, f6, f7, f11, rfl⟩
   rw [rc.1] at f11
   have e5' : (aT L aa ab).take (k + 1) = (aT L aa ab).take k ++ [fG row 0] := by
    refine il ?_
    unfold aT
    rw [List.getElem?_map, List.getElem?_range hkn, ← hrr]; rfl
   rw [e5', List.map_append] at hq
   walk_at "G"
   refine (hq _ _ _ .refl ?_).1
   exact ⟨f0, f1, f2, f3, f4, f5, f6, f7, rfl⟩
 ·rintro af H' ⟨e0, e1, e2, e3, e4, e5, e6, e7, rfl⟩
  rw [show (aT L aa ab).take ab = aT L aa ab from List.take_of_length_le (Nat.le_of_eq oq)]
  obtain ⟨w1, w2, w3⟩ := uh rights hr
  refine aj (aY (j0 (s := []) (gR rfl) (yF (n := 4) cU (by decide) (fun k => (eu rights k).map .str) rfl (fun k hk => by rw [List.length_map]; exact Nat.le_trans (ui _ _) (az hk rfl)) (fun k a o hk => ⟨vp rights k, by walk_at "t", fun hb => ⟨.str [bh.getD k 0], by walk_at "v", by rw [lE, if_pos hb, List.map_append]; rfl⟩, fun hb => by rw [lE, if_neg (by rw [hb]; exact Bool.false_ne_true), List.append_nil]⟩) fun rg o wa => ?_)))
  refine j2 (eu rights 4) (.head _) (by decide) (az w2 rfl) (fun t ht => ?_) ?_
  ·obtain ⟨y, _, rfl⟩ := List.mem_map.mp ht
   exact ai rfl
  rw [join_nil]
  generalize (eu rights 4).flatten = W at *
  have gl : (glue 47 (aT L aa ab)).length ≤ 88 := Nat.le_trans (cA 47 10 _ (fun p hp => by obtain ⟨j, _, rfl⟩ := List.mem_map.mp hp; exact az (wl _) rfl)) (by rw [oq]; exact Nat.mul_le_mul_right _ h2.2)
  have r4 := (iJ rights hr).2.1
  have d1 := fo 14 half hh
  have d2 := fo 14 full hfu
  have le : (fk aa ep).length ≤ 2 := by unfold fk; split <;> simp
  have pb : ∀ t ∈ bG ⟨aT L aa ab, side, rights, ep, half, full⟩ aa, t.length ≤ 100 := by
   intro t ht
   simp only [bG, List.mem_cons, List.not_mem_nil, or_false] at ht
   rcases ht with rfl | rfl | rfl | rfl | rfl | rfl
   ·exact az gl rfl
   ·exact ai rfl
   ·exact az r4 rfl
   ·exact az le rfl
   ·exact az d1 rfl
   ·exact az d2 rfl
  refine fg (v := .str (fk aa ep)) (jZ (c := decide (ep < 0)) (tO (wh (cT e4) (gR rfl) (tN rfl)) rfl rfl) (fun h => ?_) (fun h => ?_)) ?_
  ·unfold fk; rw [if_pos (of_decide_eq_true h)]; exact gR rfl
  ·obtain ⟨k, rfl⟩ := Int.eq_ofNat_of_zero_le (Int.not_lt.mp (of_decide_eq_false h))
   have hk : k < aa * ab := Int.ofNat_lt.mp he.2
   have g1 : k % aa < 8 := Nat.lt_of_lt_of_le (Nat.mod_lt _ f0) h1.2
   have g2 : k / aa < 8 := Nat.lt_of_lt_of_le (Nat.div_lt_of_lt_mul hk) h2.2
   rw [za g2 g1]
   have f6 : aa ≤ 1000000 := az h1.2 rfl
   exact f9 (e_i (gR rfl) (by walk_at "v") (CS ⟨g1⟩ ⟨ai rfl⟩)) (js (by walk_at "v") (Nat.lt_of_lt_of_le (Nat.succ_lt_succ g2) (by decide))) (nP ⟨by rw [dg (Nat.lt_of_lt_of_le (Nat.succ_lt_succ g2) (by decide))]; exact ai rfl⟩)
  ·refine aj (gq (j0 (s := [32]) (gR rfl) (bu (lU (j0 (s := [47]) (gR rfl) (kM (v := .ref rw) (by walk_at "v") (j2 (aT L aa ab) (.tail _ (.tail _ (.head _))) (by decide) (by rw [oq]; exact r2) (fun t ht => by obtain ⟨j, _, rfl⟩ := List.mem_map.mp ht; exact az (wl _) rfl) ?_)))))))
   rw [join_one]
   refine jo (v := .str [if side = 0 then 119 else 98]) ?_ (jo (v := .str (iY rights)) ?_ (df (vs := [.str (fk aa ep), .str (dig half), .str (dig full)]) (.cons (by walk_at "v") (.cons (js (by walk_at "v") (Nat.lt_of_lt_of_le hh (by decide))) (.cons (js (by walk_at "v") (Nat.lt_of_lt_of_le hfu (by decide))) .nil))) ⟨ai rfl, fun d => ?_⟩))
   ·have s2 : side < [119, 98].length := hsd
    rw [show (if side = 0 then 119 else 98) = [119, 98].getD side 0 by rcases fZ hsd with rfl | rfl <;> rfl]
    walk_at "v"
   ·refine jZ (c := decide (W ≠ [])) ⟨fun T g => ⟨_, rfl, az w3 rfl, g⟩⟩ (fun h => ?_) (fun h => ?_)
    ·rw [w1, if_neg (of_decide_eq_true h)]; exact cT rfl
    ·rw [w1, if_pos (Decidable.not_not.mp (of_decide_eq_false h))]; exact gR rfl
   ·refine j2 (bG ⟨aT L aa ab, side, rights, ep, half, full⟩ aa) (.head _) (by decide) (ai rfl) pb ?_
    rw [join_one]
    exact ⟨_, .skip (.skip (.skip (.skip .refl))), h⟩
structure GX where
 (g d fm rm ra kg kn pw p0 p1 cs rl : Nat)
structure GS where
 (aa ab : Nat) (hd hc : Bool) (fm rm kg kn p0 p1 rl : List Nat) (rays cs : List V)
noncomputable def bn (aa ab : Nat) : Nat := 1 <<< (aa * ab) - 1
noncomputable def uj (A : GX) (S : GS) : List (Nat × V) :=
 [(0, .int S.aa), (1, .int S.ab), (2, .int (S.aa * S.ab : Nat)), (3, .int (bn S.aa S.ab)), (4, .bool S.hd), (5, .bool S.hc), (6, .ref A.fm), (7, .ref A.rm), (8, .ref A.ra), (9, .ref A.kg), (10, .ref A.kn), (11, .ref A.pw), (12, .ref A.cs), (13, .ref A.rl)]
noncomputable abbrev be (A : GX) (S : GS) (T : Hp) : Hp :=
 (A.g, .inst ig A.d) :: (A.d, .dict (uj A S)) :: (A.fm, .list (ak S.fm)) :: (A.rm, .list (ak S.rm)) :: (A.ra, .list S.rays) :: (A.kg, .list (ak S.kg)) :: (A.kn, .list (ak S.kn)) :: (A.pw, .list [.ref A.p0, .ref A.p1]) :: (A.p0, .list (ak S.p0)) :: (A.p1, .list (ak S.p1)) :: (A.cs, .list S.cs) :: (A.rl, .list (ak S.rl)) :: T
noncomputable def wD (aa ab : Nat) (hd hc : Bool) : GS := ⟨aa, ab, hd && decide (5 ≤ ab), hc, [], [], [], [], [], [], [], [], []⟩
theorem Bk {n aa ab : Nat} {hd hc : Bool} {H Q} (hf : 8 < n) (h1 : 2 ≤ aa ∧ aa ≤ 8) (h2 : 3 ≤ ab ∧ ab ≤ 8) (hs : aa * ab ≤ 35)
  (h : ∀ A : GX, Q (.ref A.g) (be A (wD aa ab hd hc) H)) : (cf n).Sp 8 [.int aa, .int ab, .bool hd, .bool hc] H Q := by
 have s1 : aa * ab ≤ 1000 := bq hs rfl
 have s2 := dc (aa * ab)
 have r8 := h2.2
 refine mf (i := 7) (c := ig) hf rfl fun m hm g d => au (aq hm rfl) rfl rfl fun m' hm' => ?_
 walk_at "G"
 refine bD (bu (bc.nil.s _ ⟨Nat.zero_le _, fun fm => bQ (by walk_at "v") (by walk_at "m") (by walk_at "u") rfl rfl ?_⟩))
 refine bD (bu (bc.nil.s _ ⟨Nat.zero_le _, fun rm => bQ (by walk_at "v") (by walk_at "m") (by walk_at "u") rfl rfl ?_⟩))
 refine bD (bu (bc.nil.s _ ⟨Nat.zero_le _, fun ra => bQ (by walk_at "v") (by walk_at "m") (by walk_at "u") rfl rfl ?_⟩))
 refine bD (bu (bc.nil.s _ ⟨Nat.zero_le _, fun kg => bQ (by walk_at "v") (by walk_at "m") (by walk_at "u") rfl rfl ?_⟩))
 refine bD (bu (bc.nil.s _ ⟨Nat.zero_le _, fun kn => bQ (by walk_at "v") (by walk_at "m") (by walk_at "u") rfl rfl ?_⟩))
 refine bD (bu (lU (bu (bc.nil.s _ ⟨Nat.zero_le _, fun p0 => lU (bu (bc.nil.s _ ⟨Nat.zero_le _, fun p1 => df .nil ⟨ai rfl, fun pw => bQ (by walk_at "v") (by walk_at "m") (by walk_at "u") rfl rfl ?_⟩⟩))⟩))))
 refine bD (bu (bc.nil.s _ ⟨Nat.zero_le _, fun cs => bQ (by walk_at "v") (by walk_at "m") (by walk_at "u") rfl rfl ?_⟩))
 refine bD (bu (bc.nil.s _ ⟨Nat.zero_le _, fun rl => bQ (by walk_at "v") (by walk_at "m") (by walk_at "u") rfl rfl ?_⟩))
 refine an ⟨be ⟨g, d, fm, rm, ra, kg, kn, pw, p0, p1, cs, rl⟩ (wD aa ab hd hc) H, ?_, rfl, h ⟨g, d, fm, rm, ra, kg, kn, pw, p0, p1, cs, rl⟩⟩
 exact .pick (.there (.there (.there (.there (.there (.there (.there (.there (.there (.there .here)))))))))) ( .pick (.there (.there (.there (.there (.there (.there (.there (.there (.there (.there .here)))))))))) ( .pick (.there (.there (.there (.there (.there (.there (.there (.there (.there .here))))))))) ( .pick (.there (.there (.there (.there (.there (.there (.there (.there .here)))))))) ( .pick (.there (.there (.there (.there (.there (.there (.there .here))))))) ( .pick (.there (.there (.there (.there (.there (.there .here)))))) ( .pick (.there (.there (.there (.there (.there .here))))) ( .pick (.there (.there .here)) ( .pick (.there (.there (.there .here))) ( .pick (.there (.there .here)) ( .pick (.there .here) (.pick .here .refl)))))))))))
noncomputable def gS (aa k : Nat) : List Nat := (List.range k).map fun r => (1 <<< aa - 1) <<< (r * aa)
noncomputable def lF (aa k : Nat) : Nat := dh (fun r => 1 <<< (r * aa)) k
noncomputable def o0 (aa ab k : Nat) : List Nat := (List.range k).map fun f => lF aa ab <<< f
theorem qW {a b : Nat} (h : a ≤ b) : 1 <<< a ≤ 1 <<< b := by
 simp only [Nat.shiftLeft_eq, Nat.one_mul]; exact Nat.pow_le_pow_right (by decide) h
theorem zb {f r : Nat} (h1 : f < 9) (h2 : r < 9) : lF f r < 2 ^ 64 := by
 have : ∀ f, f < 9 → ∀ r, r < 9 → lF f r < 2 ^ 64 := by decide +kernel
 exact this f h1 r h2
theorem wE (aa k : Nat) : gS aa (k + 1) = gS aa k ++ [(1 <<< aa - 1) <<< (k * aa)] := by unfold gS; rw [List.range_succ, List.map_append]; rfl
theorem wF (aa ab k : Nat) : o0 aa ab (k + 1) = o0 aa ab k ++ [lF aa ab <<< k] := by unfold o0; rw [List.range_succ, List.map_append]; rfl
theorem uk (aa k : Nat) : lF aa (k + 1) = lF aa k ||| 1 <<< (k * aa) := fi _ _
theorem zc {n : Nat} {A : GX} {S : GS} {T : Hp} {Q} (hf : 9 < n) (h1 : 2 ≤ S.aa ∧ S.aa ≤ 8) (h2 : 3 ≤ S.ab ∧ S.ab ≤ 8) (hs : S.aa * S.ab ≤ 35) (e1 : S.fm = []) (e2 : S.rm = [])
  (h : Q .none (be A { S with fm := o0 S.aa S.ab S.aa, rm := gS S.aa S.ab } T)) : (cf n).Sp 9 [.ref A.g] (be A S T) Q := by
 obtain ⟨h1, h8⟩ := h1
 obtain ⟨h3, r8⟩ := h2
 have p1 : 1 ≤ 1 <<< S.aa := dc _
 have f1 : S.aa ≤ 1000000 := az h8 rfl
 have row : 1 <<< S.aa - 1 < 2 ^ 64 := Nat.lt_of_le_of_lt (Nat.sub_le _ _) (Nat.lt_of_le_of_lt (qW h8) (by decide))
 have col := zb (Nat.lt_succ_of_le h8) (Nat.lt_succ_of_le r8)
 refine au hf rfl rfl fun m hm => ?_
 walk_at "S"
 walk_at "S"
 refine ch (n := S.ab) (by walk_at "v") (fun k af H' => af 0 = some (.ref A.g) ∧ af 1 = some (.int (1 <<< S.aa - 1 : Nat)) ∧ af 2 = some (.int (lF S.aa k : Nat)) ∧ H' = be A { S with rm := gS S.aa k } T) ⟨az r8 rfl⟩ ⟨rfl, rfl, rfl, ?_⟩ ?_ ?_
 ·show be A S T = be A { S with rm := [] } T
  rw [← e2]
 ·rintro k af H' Q' hk ⟨f0, jv, f2, rfl⟩ hq
  have hkf : k * S.aa ≤ 1000 := Nat.le_trans (Nat.mul_le_mul (Nat.le_of_lt hk) (Nat.le_refl _)) (by rw [Nat.mul_comm]; exact az hs rfl)
  have hrl : (gS S.aa k).length ≤ 1000 := by rw [gS, List.length_map, List.length_range]; exact Nat.le_trans (Nat.le_of_lt hk) (az r8 rfl)
  rw [wE, uk] at hq
  walk_at "G"
  refine (hq _ _ _ .refl ?_).1
  exact ⟨f0, jv, rfl, rfl⟩
 ·rintro af H' ⟨f0, jv, f2, rfl⟩
  refine ch (n := S.aa) (by walk_at "v") (fun k af H' => af 0 = some (.ref A.g) ∧ af 2 = some (.int (lF S.aa S.ab : Nat)) ∧ H' = be A { S with fm := o0 S.aa S.ab k, rm := gS S.aa S.ab } T) ⟨az h8 rfl⟩ ⟨f0, f2, ?_⟩ ?_ ?_
  ·show be A { S with rm := gS S.aa S.ab } T = be A { S with fm := [], rm := gS S.aa S.ab } T
   rw [← e1]
  ·rintro k af H' Q' hk ⟨f0, f2, rfl⟩ hq
   have hk1 : k ≤ 1000 := Nat.le_trans (Nat.le_of_lt hk) (az h8 rfl)
   have hrl : (o0 S.aa S.ab k).length ≤ 1000 := by rw [o0, List.length_map, List.length_range]; exact hk1
   rw [wF] at hq
   walk_at "G"
   refine (hq _ _ _ .refl ?_).1
   exact ⟨f0, f2, rfl⟩
  ·rintro af H' ⟨f0, f2, rfl⟩
   walk_at "S"
   exact ⟨_, Sb.refl, h⟩
noncomputable def ul : List Int := [0, 1, 0, -1, 1, 1, -1, -1]
noncomputable def ot : List V := ul.map .int
noncomputable def ze (S : GS) (d : Nat) : Nat :=
 let e := 0
 let e := if 0 < ul.getD d 0 then e ||| S.fm.getD (S.aa - 1) 0 else e
 let e := if ul.getD d 0 < 0 then e ||| S.fm.getD 0 0 else e
 let e := if 0 < oZ.getD d 0 then e ||| S.rm.getD (S.ab - 1) 0 else e
 if oZ.getD d 0 < 0 then e ||| S.rm.getD 0 0 else e
noncomputable def dU (S : GS) (d : Nat) : Nat := bn S.aa S.ab - (bn S.aa S.ab &&& ze S d)
theorem zf {n d : Nat} {A : GX} {S : GS} {T : Hp} {Q} (hf : 10 < n) (hd : d < 8) (h1 : 2 ≤ S.aa ∧ S.aa ≤ 8) (h2 : 3 ≤ S.ab ∧ S.ab ≤ 8) (e1 : S.fm.length = S.aa) (e2 : S.rm.length = S.ab) (hsf : (gQ, .tup ot) ∈ T) (hsr : (dX, .tup f') ∈ T)
  (h : Q (.int (dU S d)) (be A S T)) : (cf n).Sp 10 [.ref A.g, .int d] (be A S T) Q := by
 obtain ⟨h1, h8⟩ := h1
 obtain ⟨h3, r8⟩ := h2
 have a1 : 1 ≤ S.aa := Nat.le_of_succ_le h1
 have a2 : 1 ≤ S.ab := Nat.le_trans (by decide) h3
 have a3 : S.aa - 1 < S.fm.length := by rw [e1]; exact Nat.sub_lt a1 (by decide)
 have a4 : S.ab - 1 < S.rm.length := by rw [e2]; exact Nat.sub_lt a2 (by decide)
 have a5 : 0 < S.fm.length := Nat.lt_of_le_of_lt (Nat.zero_le _) a3
 have a6 : 0 < S.rm.length := Nat.lt_of_le_of_lt (Nat.zero_le _) a4
 have a7 : S.fm.length ≤ 10000 := e1 ▸ az h8 rfl
 have a8 : S.rm.length ≤ 10000 := e2 ▸ az r8 rfl
 have sf : ot[d]? = some (.int (ul.getD d 0)) := by rcases AC hd with rfl | rfl | rfl | rfl | rfl | rfl | rfl | rfl <;> rfl
 have sr : f'[d]? = some (.int (oZ.getD d 0)) := by rcases AC hd with rfl | rfl | rfl | rfl | rfl | rfl | rfl | rfl <;> rfl
 unfold dU ze at h
 dsimp only at h
 refine au hf rfl rfl fun m hm => ?_
 generalize ul.getD d 0 = sx at *
 generalize oZ.getD d 0 = rx at *
 have step : ∀ (c : Prop) [Decidable c] (e w : Nat) (t b : Ss) (ρ : ap) (R : SQ), ρ 2 = some (.int (e : Nat)) → (∀ bv : ap, (∀ i, i ≠ 2 → bv i = ρ i) → bv 2 = some (.int ((if c then e ||| w else e : Nat) : Nat)) → WB (cf m) b bv (be A S T) R) →
   (∀ K : SQ, (∀ bv : ap, bv = ρ.set 2 (.int (e ||| w : Nat)) → K .next bv (be A S T)) → WB (cf m) t ρ (be A S T) K) → br (decide c) (WB (cf m) t ρ (be A S T) (KB (cf m) b R)) (WB (cf m) .nil ρ (be A S T) (KB (cf m) b R)) := by
  intro c _ e w t b ρ R e2 g gt
  refine bF (fun q => ?_) (fun q => ?_)
  ·refine gt _ fun bv er => ?_
   subst er
   exact g _ (fun i hi => if_neg hi) (by rw [if_pos q]; rfl)
  ·exact an (g _ (fun _ _ => rfl) (by rw [if_neg q]; exact e2))
 walk_at "S"
 walk_at "S"
 refine step (0 < sx) 0 (S.fm.getD (S.aa - 1) 0) _ _ _ _ rfl (fun yd k1 v1 => ?_) fun K g => ?_
 rotate_left
 ·walk_at "G"
  exact g _ rfl
 have z0 : yd 0 = some (.ref A.g) := k1 0 (by decide)
 have z1 : yd 1 = some (.int d) := k1 1 (by decide)
 generalize (if 0 < sx then 0 ||| S.fm.getD (S.aa - 1) 0 else 0) = E1 at h v1
 clear k1
 walk_at "S"
 refine step (sx < 0) E1 (S.fm.getD 0 0) _ _ _ _ v1 (fun bv k1 v2 => ?_) fun K g => ?_
 rotate_left
 ·walk_at "G"
  exact g _ rfl
 have z2 : bv 0 = some (.ref A.g) := (k1 0 (by decide)).trans z0
 have z3 : bv 1 = some (.int d) := (k1 1 (by decide)).trans z1
 generalize (if sx < 0 then E1 ||| S.fm.getD 0 0 else E1) = E2 at h v2
 clear k1
 walk_at "S"
 refine step (0 < rx) E2 (S.rm.getD (S.ab - 1) 0) _ _ _ _ v2 (fun oQ k1 v3 => ?_) fun K g => ?_
 rotate_left
 ·walk_at "G"
  exact g _ rfl
 have z4 : oQ 0 = some (.ref A.g) := (k1 0 (by decide)).trans z2
 have z5 : oQ 1 = some (.int d) := (k1 1 (by decide)).trans z3
 generalize (if 0 < rx then E2 ||| S.rm.getD (S.ab - 1) 0 else E2) = E3 at h v3
 clear k1
 walk_at "S"
 refine step (rx < 0) E3 (S.rm.getD 0 0) _ _ _ _ v3 (fun Hf k1 v4 => ?_) fun K g => ?_
 rotate_left
 ·walk_at "G"
  exact g _ rfl
 have z6 : Hf 0 = some (.ref A.g) := (k1 0 (by decide)).trans z4
 walk_at "S"
 exact ⟨_, Sb.refl, h⟩
noncomputable def ou (aa d : Nat) : Int := oZ.getD d 0 * aa + ul.getD d 0
noncomputable def jd (size d : Nat) : List Nat := if grow d then (List.range size).map fun k => size - 1 - k else List.range size
noncomputable def fB (dl : Int) (inner : Nat) (x : List Nat × List Nat) (sq : Nat) : List Nat × List Nat :=
 if inner >>> sq &&& 1 ≠ 0 then (x.1.set sq (x.1.getD ((sq : Int) + dl).toNat 0 ||| 1 <<< ((sq : Int) + dl).toNat), x.2.set sq (x.2.getD sq 0 ||| 1 <<< ((sq : Int) + dl).toNat)) else x
noncomputable def je (S : GS) (d : Nat) (kg : List Nat) (k : Nat) : List Nat × List Nat :=
 ((jd (S.aa * S.ab) d).take k).foldl (fB (ou S.aa d) (dU S d)) (List.replicate (S.aa * S.ab) 0, kg)
noncomputable def cQ (S : GS) (d : Nat) (kg : List Nat) : List Nat × List Nat := je S d kg (S.aa * S.ab)
theorem um (S : GS) (d : Nat) (kg : List Nat) (k sq : Nat) (h : (jd (S.aa * S.ab) d)[k]? = some sq) : je S d kg (k + 1) = fB (ou S.aa d) (dU S d) (je S d kg k) sq := by
 unfold je; rw [il h, List.foldl_append]; rfl
theorem iN (S : GS) (d : Nat) (kg : List Nat) : ∀ k, (je S d kg k).1.length = S.aa * S.ab ∧ (je S d kg k).2.length = kg.length := by
 intro k
 unfold je
 generalize (jd (S.aa * S.ab) d).take k = l
 suffices g : ∀ (l : List Nat) (x : List Nat × List Nat), (l.foldl (fB (ou S.aa d) (dU S d)) x).1.length = x.1.length ∧ (l.foldl (fB (ou S.aa d) (dU S d)) x).2.length = x.2.length by
  have := g l (List.replicate (S.aa * S.ab) 0, kg)
  simpa using this
 intro l
 induction l with
 | nil => intro x; exact ⟨rfl, rfl⟩
 | cons a l ih =>
  intro x
  rw [List.foldl_cons]
  obtain ⟨p, q⟩ := ih (fB (ou S.aa d) (dU S d) x a)
  rw [p, q]
  unfold fB
  split <;> simp
noncomputable def fE (S : GS) (d : Nat) : Bool := (List.range (S.aa * S.ab)).all fun sq => decide (dU S d >>> sq &&& 1 = 0) || (decide (0 ≤ (sq : Int) + ou S.aa d) && decide ((sq : Int) + ou S.aa d < (S.aa * S.ab : Nat)))
noncomputable def aW (S : GS) (d : Nat) : List Nat := (List.range d).foldl (fun kg d => (cQ S d kg).2) (List.replicate (S.aa * S.ab) 0)
theorem gI (S : GS) (d : Nat) : aW S (d + 1) = (cQ S d (aW S d)).2 := by
 unfold aW; rw [List.range_succ, List.foldl_append]; rfl
theorem iO (S : GS) : ∀ d, (aW S d).length = S.aa * S.ab
 | 0 => by simp [aW]
 | d + 1 => by rw [gI, cQ, (iN S d (aW S d) _).2, iO S d]
theorem wG (size d : Nat) : (jd size d).length = size := by unfold jd; split <;> simp
theorem uo (n : Nat) (h : 0 < n) : (bN (((n - 1 : Nat) : Int)) (-1) (-1)).map V.int = ((List.range n).map fun k => n - 1 - k).map fun (x : Nat) => .int (x : Int) := by
 have e0 : (Builtin.Range.rangeSize (((n - 1 : Nat) : Int)) (-1) (-1)).toNat = n := by
  unfold Builtin.Range.rangeSize
  rw [if_neg (by (exact ln [] [] (.vz (.n 0) (.g (.n 1))) [1] rfl)), if_pos (by exact Int.natCast_nonneg _), show (-(-1 : Int)) = 1 from rfl, Int.ediv_one]
  (exact lie [_,_,_] [.EQ (.c (.v 0)) (.a (.s (.s (.c (.v 2)) (.g (.n 1))) (.n 1)) (.n 1)),.eq (.a (.v 2) (.n 1)) (.v 1)] (.v 0) (.v 1) [1,1,1] [1,-1,-1] rfl rfl (Int.toNat_of_nonneg (ln [_] [] (.LE (.n 0) (.a (.s (.s (.c (.v 0)) (.g (.n 1))) (.n 1)) (.n 1))) [1] rfl)) (aM h))
 unfold bN
 rw [e0, List.map_map, List.map_map]
 refine List.map_congr_left fun k hk => ?_
 have hk := List.mem_range.mp hk
 show V.int _ = V.int _
 congr 1
 show ((n - 1 : Nat) : Int) + -1 * (k : Int) = ((n - 1 - k : Nat) : Int)
 rw [Int.neg_one_mul]; exact (Int.ofNat_sub (Nat.le_sub_one_of_lt hk)).symm
theorem Bl {n : Nat} {A : GX} {S : GS} {T : Hp} {Q} (hf : 11 < n) (h1 : 2 ≤ S.aa ∧ S.aa ≤ 8) (h2 : 3 ≤ S.ab ∧ S.ab ≤ 8) (hs : S.aa * S.ab ≤ 35) (e1 : S.fm.length = S.aa) (e2 : S.rm.length = S.ab) (e3 : S.rays = []) (hsf : (gQ, .tup ot) ∈ T) (hsr : (dX, .tup f') ∈ T)
  (hg : ∀ d, d < 8 → fE S d = true)
  (h : ∀ (k' : Nat) (rr : Nat → Nat) (Td : Hp), (∀ j, j < 8 → (rr j, .list (ak (cQ S j (aW S j)).1)) ∈ Td ++ T) → Q .none (be { A with kg := k' } { S with kg := aW S 8, rays := (List.range 8).map fun j => .ref (rr j) } (Td ++ T))) : (cf n).Sp 11 [.ref A.g] (be A S T) Q := by
 have hsz : 0 < S.aa * S.ab := Nat.mul_pos (Nat.lt_of_lt_of_le (by decide) h1.1) (Nat.lt_of_lt_of_le (by decide) h2.1)
 have s1 : S.aa * S.ab ≤ 1000 := az hs rfl
 have s2 : S.aa * S.ab ≤ 10000 := az hs rfl
 have s3 : S.aa * S.ab - 1 ≤ 10000 := Nat.le_trans (Nat.sub_le _ _) s2
 have fb : (-1000000 : Int) ≤ (S.aa : Int) ∧ (S.aa : Int) ≤ 1000000 := ⟨Int.le_trans (by decide) (Int.natCast_nonneg _), Int.ofNat_le.mpr (az h1.2 rfl)⟩
 refine au hf rfl rfl fun m hm => ?_
 refine aj (nM (io (k := S.aa * S.ab) cU (fun t => by walk_at "v") ⟨s1⟩ fun t1 k' => (Ev.s (m := m) (v := .ref A.g) (by walk_at "v")) _ (pD (by walk_at "m") (by walk_at "u") (ai rfl) rfl ?_)))
 rw [show fset (uj A S) 9 (.ref k') = uj { A with kg := k' } { S with kg := aW S 0, rays := [] } from rfl, e3]
 refine jY (n := 8) cU (fun d af H' => ∃ (rr : Nat → Nat) (Td : Hp), (∀ j, j < d → (rr j, .list (ak (cQ S j (aW S j)).1)) ∈ Td ++ T) ∧ af 0 = some (.ref A.g) ∧ H' = be { A with kg := k' } { S with kg := aW S d, rays := (List.range d).map fun j => .ref (rr j) } (Td ++ T)) (be { A with kg := k' } { S with kg := aW S 0, rays := [] } T) ?_ ⟨by decide⟩
  ⟨fun _ => 0, [], fun j hj => absurd hj (Nat.not_lt_zero _), rfl, rfl⟩ ?_ ?_
 ·show Sb ((A.g, .inst ig A.d) :: (A.d, .dict (uj { A with kg := k' } { S with kg := aW S 0, rays := [] })) :: (A.fm, .list (ak S.fm)) :: (A.rm, .list (ak S.rm)) :: (A.ra, .list []) :: (k', .list (ak (List.replicate (S.aa * S.ab) 0))) :: (A.kn, .list (ak S.kn)) :: (A.pw, .list [.ref A.p0, .ref A.p1]) :: (A.p0, .list (ak S.p0)) :: (A.p1, .list (ak S.p1)) :: (A.cs, .list S.cs) :: (A.rl, .list (ak S.rl)) :: T) _
  walk_at "sb"
 ·rintro d af H' Q' hd ⟨rr, Td, hrr, f0, rfl⟩ hq
  have FE : (gQ, O.tup ot) ∈ Td ++ T := List.mem_append_right _ hsf
  have FF : (dX, O.tup f') ∈ Td ++ T := List.mem_append_right _ hsr
  have d1 : d ≤ 1000 := Nat.le_trans (Nat.le_of_lt hd) (by decide)
  walk_at "S"
  refine zf (n := m) (A := { A with kg := k' }) (S := { S with kg := aW S d, rays := (List.range d).map fun j => .ref (rr j) }) (aq hm rfl) hd h1 h2 e1 e2 FE FF ?_
  have sr : f'[d]? = some (.int (oZ.getD d 0)) := by rcases AC hd with rfl | rfl | rfl | rfl | rfl | rfl | rfl | rfl <;> rfl
  have sf : ot[d]? = some (.int (ul.getD d 0)) := by rcases AC hd with rfl | rfl | rfl | rfl | rfl | rfl | rfl | rfl <;> rfl
  apply bY
  walk_at "v"
  exact (rfl : _ = V.int (ou S.aa d))
  refine aj (aY (io (k := S.aa * S.ab) cU (fun t => by walk_at "v") ⟨s1⟩ fun t2 ry => ?_))
  refine aj (aY (qQ (n := S.aa * S.ab) (by walk_at "v") ⟨s2⟩ fun rg => ?_))
  refine aj (cG (eY (bc.s (vs := [.int d]) (by walk_at "vs")) (vg (n := m) (aq hm rfl) hd (by walk_at "m") ?_)))
  have loop : ∀ (bv : ap) (ao : Nat) (lo hi st' : Int) (H2 : Hp), bv 0 = some (.ref A.g) → bv 2 = some (.int (dU S d)) → bv 3 = some (.int (ou S.aa d)) → bv 4 = some (.ref ry) → bv 5 = some (.ref ao) →
    (ao, .range lo hi st') ∈ H2 → (-10000 ≤ lo ∧ lo ≤ 10000 ∧ -10000 ≤ hi ∧ hi ≤ 10000 ∧ -10000 ≤ st' ∧ st' ≤ 10000 ∧ st' ≠ 0) → (bN lo hi st').map V.int = (jd (S.aa * S.ab) d).map (fun (x : Nat) => .int (x : Int)) →
    Sb ((ry, .list (ak (List.replicate (S.aa * S.ab) 0))) :: be { A with kg := k' } { S with kg := aW S d, rays := (List.range d).map fun j => .ref (rr j) } (Td ++ T)) H2 →
    WB (cf m) ((lw.body.drop 1).fb.drop 5) bv H2 Q' := by
   intro bv ao lo hi st' H2 g0 g2 g3 g4 g5 mo ho hit hsb
   refine aj (eF ((Ev.s (m := m) (cT g5)) _ ⟨none, _, .rng mo ho, _, hsb, ?_⟩))
   rw [hit]
   refine cZ (fun k af H' => af 0 = some (.ref A.g) ∧ af 2 = some (.int (dU S d)) ∧ af 3 = some (.int (ou S.aa d)) ∧ af 4 = some (.ref ry) ∧ H' = (ry, .list (ak (je S d (aW S d) k).1)) :: be { A with kg := k' } { S with kg := (je S d (aW S d) k).2, rays := (List.range d).map fun j => .ref (rr j) } (Td ++ T))
    ⟨g0, g2, g3, g4, rfl⟩ (fun _ _ _ _ => trivial) ?_ ?_
   ·rintro k x af H' Q2 hx ⟨f0, f2, f3, f4, rfl⟩ hq2
    obtain ⟨sq, dL, rfl⟩ : ∃ sq, (jd (S.aa * S.ab) d)[k]? = some sq ∧ V.int (sq : Nat) = x := by
     rw [List.getElem?_map] at hx
     exact Option.map_eq_some_iff.mp hx
    have zg : sq < S.aa * S.ab := by
     have := List.mem_of_getElem? dL
     unfold jd at this
     split at this
     ·obtain ⟨j, hj, rfl⟩ := List.mem_map.mp this
      exact Nat.lt_of_le_of_lt (Nat.sub_le _ _) (Nat.sub_lt hsz (by decide))
     ·exact List.mem_range.mp this
    obtain ⟨l1, l2⟩ := iN S d (aW S d) k
    rw [iO] at l2
    rw [um _ _ _ _ _ dL] at hq2
    unfold fB at hq2
    have gk := hg d hd
    unfold fE at gk
    have gk := ik gk zg
    generalize je S d (aW S d) k = RK at *
    walk_at "S"
    refine bF (fun c => ?_) (fun c => ?_)
    ·rw [if_pos c] at hq2
     have gk := (mU gk).resolve_left fun q => c (of_decide_eq_true q)
     have Hg := of_decide_eq_true (ag gk).1
     have zh := of_decide_eq_true (ag gk).2
     obtain ⟨gl, zi⟩ := Int.eq_ofNat_of_zero_le Hg
     have zi : (sq : Int) + ou S.aa d = ((gl : Nat) : Int) := zi
     rw [zi] at zh
     have zh := Int.ofNat_lt.mp zh
     have b1 : gl < RK.1.length := l1 ▸ zh
     have b2 : sq < RK.1.length := l1 ▸ zg
     have b3 : sq < RK.2.length := l2 ▸ zg
     have b4 : RK.1.length ≤ 10000 := l1 ▸ s2
     have b5 : RK.2.length ≤ 10000 := l2 ▸ s2
     have b6 : gl ≤ 1000 := Nat.le_trans (Nat.le_of_lt zh) s1
     rw [zi, Int.toNat_natCast] at hq2
     apply bY
     walk_at "v"
     exact congrArg V.int zi
     walk_at "G"
     refine (hq2 _ _ _ .refl ?_).1
     exact ⟨f0, f2, f3, f4, rfl⟩
    ·rw [if_neg c] at hq2
     walk_at "G"
     refine (hq2 _ _ _ .refl ?_).1
     exact ⟨f0, f2, f3, f4, rfl⟩
   ·rintro af H' ⟨f0, f2, f3, f4, rfl⟩
    rw [List.length_map, wG]
    have dl : ((List.range d).map fun j => V.ref (rr j)).length ≤ 1000 := by rw [List.length_map, List.length_range]; exact d1
    walk_at "G"
    refine (hq _ _ (be { A with kg := k' } { S with kg := aW S (d + 1), rays := (List.range (d + 1)).map fun j => .ref (if j = d then ry else rr j) } (((ry, .list (ak (cQ S d (aW S d)).1)) :: Td) ++ T)) ?_ ?_).1
    ·have er : ((List.range (d + 1)).map fun j => V.ref (if j = d then ry else rr j)) = ((List.range d).map fun j => V.ref (rr j)) ++ [.ref ry] := by
      rw [List.range_succ, List.map_append]
      congr 1
      ·refine List.map_congr_left fun j hj => ?_
       rw [if_neg (Nat.ne_of_lt (List.mem_range.mp hj))]
      ·simp
     rw [er, gI]
     show Sb (be { A with kg := k' } { S with kg := (cQ S d (aW S d)).2, rays := ((List.range d).map fun j => V.ref (rr j)) ++ [.ref ry] } ((ry, .list (ak (cQ S d (aW S d)).1)) :: (Td ++ T))) ((ry, .list (ak (cQ S d (aW S d)).1)) :: be { A with kg := k' } { S with kg := (cQ S d (aW S d)).2, rays := ((List.range d).map fun j => V.ref (rr j)) ++ [.ref ry] } (Td ++ T))
     walk_at "sb"
    ·refine ⟨fun j => if j = d then ry else rr j, (ry, .list (ak (cQ S d (aW S d)).1)) :: Td, fun j hj => ?_, f0, rfl⟩
     dsimp only
     by_cases c : j = d
     ·subst c; rw [if_pos rfl]; exact .head _
     ·rw [if_neg c]; exact List.mem_cons_of_mem _ (hrr j (Nat.lt_of_le_of_ne (Nat.le_of_lt_succ hj) c))
  have rb : ∀ k : Nat, k ≤ 10000 → (-10000 : Int) ≤ (k : Int) ∧ (k : Int) ≤ 10000 := fun k hk => ⟨Int.le_trans (by decide) (Int.natCast_nonneg _), Int.ofNat_le.mpr hk⟩
  cases hgr : grow d with
  | false =>
   refine an (loop _ rg 0 (S.aa * S.ab : Nat) 1 _ f0 rfl rfl rfl rfl (by walk_at "m") ⟨by decide, by decide, (rb _ s2).1, (rb _ s2).2, by decide, by decide, by decide⟩ ?_ (by walk_at "sb"))
   rw [jW]; unfold jd; rw [hgr]; simp
  | true =>
   refine aj (aY (AH (n := S.aa * S.ab - 1) (by walk_at "v") ⟨s3⟩ fun ao => an ?_))
   refine loop _ ao ((S.aa * S.ab - 1 : Nat) : Int) (-1) (-1) _ f0 rfl rfl rfl rfl (by walk_at "m") ⟨(rb _ s3).1, (rb _ s3).2, by decide, by decide, by decide, by decide, by decide⟩ ?_ (by walk_at "sb")
   rw [uo _ hsz]; unfold jd; rw [hgr]; rfl
 ·rintro af H' ⟨rr, Td, hrr, f0, rfl⟩
  walk_at "S"
  exact ⟨_, Sb.refl, h k' rr Td hrr⟩
noncomputable def gJ (K : List Nat) (Ra Rb : List Nat) (k : Nat) : List Nat := (List.range k).map fun sq => K.getD sq 0 &&& (Ra.getD sq 0 ||| Rb.getD sq 0)
theorem pU (K Ra Rb : List Nat) (k : Nat) : gJ K Ra Rb (k + 1) = gJ K Ra Rb k ++ [K.getD k 0 &&& (Ra.getD k 0 ||| Rb.getD k 0)] := by
 rw [gJ, List.range_succ, List.map_append]; rfl
theorem Di (S : GS) (e0 : S.kn = []) : S = { S with kn := [] } := by cases S; subst e0; rfl
theorem zj {n : Nat} {A : GX} {S : GS} {R : Nat → List Nat} {rr : Nat → Nat} {T : Hp} {Q} (hf : 12 < n) (hs : S.aa * S.ab ≤ 35) (e0 : S.p0 = []) (e1 : S.p1 = []) (hk : S.kg.length = S.aa * S.ab) (er : S.rays = (List.range 8).map fun j => .ref (rr j))
  (hrr : ∀ j, j < 8 → (rr j, .list (ak (R j))) ∈ T) (hR : ∀ j, j < 8 → (R j).length = S.aa * S.ab)
  (h : Q .none (be A { S with p0 := gJ S.kg (R 4) (R 7) (S.aa * S.ab), p1 := gJ S.kg (R 5) (R 6) (S.aa * S.ab) } T)) : (cf n).Sp 12 [.ref A.g] (be A S T) Q := by
 refine au hf rfl rfl fun m hm => ?_
 obtain ⟨aa, ab, hd, hc, fm, rm, kg, kn, p0, p1, rl, rays, cs⟩ := S
 dsimp only at hs e0 e1 hk er hR h
 subst e0; subst e1; subst er
 have s1 : aa * ab ≤ 10000 := az hs rfl
 have s2 : kg.length ≤ 10000 := hk ▸ s1
 have m4 := hrr 4 (by decide); have m5 := hrr 5 (by decide); have m6 := hrr 6 (by decide); have m7 := hrr 7 (by decide)
 have l4 := hR 4 (by decide); have l5 := hR 5 (by decide); have l6 := hR 6 (by decide); have l7 := hR 7 (by decide)
 refine ch (n := aa * ab) (by walk_at "v") (fun k af H' => af 0 = some (.ref A.g) ∧ H' = be A ⟨aa, ab, hd, hc, fm, rm, kg, kn, gJ kg (R 4) (R 7) k, gJ kg (R 5) (R 6) k, rl, (List.range 8).map fun j => .ref (rr j), cs⟩ T) ⟨s1⟩ ⟨rfl, rfl⟩ ?_ ?_
 ·rintro k af H' Q' hk2 ⟨f0, rfl⟩ hq
  have k1 : k ≤ 1000 := Nat.le_trans (Nat.le_of_lt hk2) (az hs rfl)
  have q0 : (gJ kg (R 4) (R 7) k).length ≤ 1000 := by rw [gJ, List.length_map, List.length_range]; exact k1
  have q1 : (gJ kg (R 5) (R 6) k).length ≤ 1000 := by rw [gJ, List.length_map, List.length_range]; exact k1
  have b0 : k < kg.length := hk ▸ hk2
  have b4 : k < (R 4).length := l4 ▸ hk2
  have b5 : k < (R 5).length := l5 ▸ hk2
  have b6 : k < (R 6).length := l6 ▸ hk2
  have b7 : k < (R 7).length := l7 ▸ hk2
  have c4 : (R 4).length ≤ 10000 := l4 ▸ s1
  have c5 : (R 5).length ≤ 10000 := l5 ▸ s1
  have c6 : (R 6).length ≤ 10000 := l6 ▸ s1
  have c7 : (R 7).length ≤ 10000 := l7 ▸ s1
  rw [pU, pU] at hq
  walk_at "G"
  refine (hq _ _ _ .refl ?_).1
  exact ⟨f0, rfl⟩
 ·rintro af H' ⟨f0, rfl⟩
  walk_at "S"
  exact ⟨_, Sb.refl, h⟩
noncomputable def qX (S : GS) (sq : Nat) : Nat :=
 let nf := bn S.aa S.ab - (bn S.aa S.ab &&& S.fm.getD 0 0)
 let nl := bn S.aa S.ab - (bn S.aa S.ab &&& S.fm.getD (S.aa - 1) 0)
 1 <<< sq <<< 1 &&& nf ||| (1 <<< sq) >>> 1 &&& nl
noncomputable def uq (S : GS) (sq : Nat) : Nat :=
 let nf := bn S.aa S.ab - (bn S.aa S.ab &&& S.fm.getD 0 0)
 let nl := bn S.aa S.ab - (bn S.aa S.ab &&& S.fm.getD (S.aa - 1) 0)
 1 <<< sq <<< 2 &&& (nf - (nf &&& S.fm.getD 1 0)) ||| (1 <<< sq) >>> 2 &&& (nl - (nl &&& S.fm.getD (S.aa - 2) 0))
noncomputable def ur (S : GS) (sq : Nat) : Nat :=
 (qX S sq <<< (2 * S.aa) ||| qX S sq >>> (2 * S.aa) ||| uq S sq <<< S.aa ||| uq S sq >>> S.aa) &&& bn S.aa S.ab
noncomputable def ox (S : GS) (k : Nat) : List Nat := (List.range k).map (ur S)
theorem wH (S : GS) (k : Nat) : ox S (k + 1) = ox S k ++ [ur S k] := by
 rw [ox, List.range_succ, List.map_append]; rfl
theorem vt {x y a b : Nat} (ha : a < 2 ^ 64) (hb : b < 2 ^ 64) : x &&& a ||| y &&& b < 2 ^ 64 := Nat.or_lt_two_pow (Nat.lt_of_le_of_lt Nat.and_le_right ha) (Nat.lt_of_le_of_lt Nat.and_le_right hb)
theorem uu {n : Nat} {A : GX} {S : GS} {T : Hp} {Q} (hf : 13 < n) (h1 : 2 ≤ S.aa ∧ S.aa ≤ 8) (hs : S.aa * S.ab ≤ 35) (e0 : S.kn = []) (e1 : S.fm.length = S.aa)
  (h : Q .none (be A { S with kn := ox S (S.aa * S.ab) } T)) : (cf n).Sp 13 [.ref A.g] (be A S T) Q := by
 obtain ⟨h1, h8⟩ := h1
 have a1 : 1 ≤ S.aa := Nat.le_of_succ_le h1
 have a2 : S.aa - 1 < S.fm.length := by rw [e1]; exact Nat.sub_lt a1 (by decide)
 have a3 : S.aa - 2 < S.fm.length := by rw [e1]; exact Nat.sub_lt a1 (by decide)
 have a4 : 1 < S.fm.length := e1 ▸ h1
 have a5 : 0 < S.fm.length := e1 ▸ a1
 have a6 : S.fm.length ≤ 10000 := e1 ▸ az h8 rfl
 have f1 : S.aa ≤ 1000000 := az h8 rfl
 have f2 : 2 * S.aa ≤ 1000 := az (Nat.mul_le_mul_left 2 h8) rfl
 have fl : bn S.aa S.ab < 2 ^ 64 := Nat.lt_of_le_of_lt (Nat.sub_le _ _) (Nat.lt_of_le_of_lt (qW hs) (by decide))
 refine au hf rfl rfl fun m hm => ?_
 walk_at "S"
 walk_at "S"
 walk_at "S"
 walk_at "S"
 walk_at "S"
 refine ch (n := S.aa * S.ab) (by walk_at "v") (fun k af H' => af 0 = some (.ref A.g) ∧ af 1 = some (.int S.aa) ∧ af 2 = some (.int (bn S.aa S.ab - (bn S.aa S.ab &&& S.fm.getD 0 0) : Nat)) ∧ af 3 = some (.int (bn S.aa S.ab - (bn S.aa S.ab &&& S.fm.getD (S.aa - 1) 0) : Nat)) ∧
   af 4 = some (.int ((bn S.aa S.ab - (bn S.aa S.ab &&& S.fm.getD 0 0)) - ((bn S.aa S.ab - (bn S.aa S.ab &&& S.fm.getD 0 0)) &&& S.fm.getD 1 0) : Nat)) ∧ af 5 = some (.int ((bn S.aa S.ab - (bn S.aa S.ab &&& S.fm.getD (S.aa - 1) 0)) - ((bn S.aa S.ab - (bn S.aa S.ab &&& S.fm.getD (S.aa - 1) 0)) &&& S.fm.getD (S.aa - 2) 0) : Nat)) ∧ H' = be A { S with kn := ox S k } T) ⟨az hs rfl⟩ ⟨rfl, rfl, rfl, rfl, rfl, rfl, congrArg (fun s => be A s T) (Di S e0)⟩ ?_ ?_
 ·rintro k af H' Q' hk2 ⟨g0, g1, g2, g3, g4, g5, rfl⟩ hq
  have k1 : k ≤ 1000 := Nat.le_trans (Nat.le_of_lt hk2) (az hs rfl)
  have hkl : (ox S k).length ≤ 1000 := by rw [ox, List.length_map, List.length_range]; exact k1
  have hb : 1 <<< k < 2 ^ 64 := Nat.lt_of_le_of_lt (qW (Nat.le_trans (Nat.le_of_lt hk2) hs)) (by decide)
  rw [wH] at hq
  unfold ur qX uq at hq
  dsimp only at hq
  generalize hnf : bn S.aa S.ab - (bn S.aa S.ab &&& S.fm.getD 0 0) = nf at *
  generalize hnl : bn S.aa S.ab - (bn S.aa S.ab &&& S.fm.getD (S.aa - 1) 0) = nl at *
  have FG : nf < 2 ^ 64 := hnf ▸ Nat.lt_of_le_of_lt (Nat.sub_le _ _) fl
  have FH : nl < 2 ^ 64 := hnl ▸ Nat.lt_of_le_of_lt (Nat.sub_le _ _) fl
  have Hh : 1 <<< k <<< 1 &&& nf ||| (1 <<< k) >>> 1 &&& nl < 2 ^ 64 := vt FG FH
  have HM : 1 <<< k <<< 2 &&& (nf - (nf &&& S.fm.getD 1 0)) ||| (1 <<< k) >>> 2 &&& (nl - (nl &&& S.fm.getD (S.aa - 2) 0)) < 2 ^ 64 := vt (Nat.lt_of_le_of_lt (Nat.sub_le _ _) FG) (Nat.lt_of_le_of_lt (Nat.sub_le _ _) FH)
  walk_at "S"
  walk_at "S"
  walk_at "S"
  generalize 1 <<< k <<< 1 &&& nf ||| (1 <<< k) >>> 1 &&& nl = near at *
  generalize 1 <<< k <<< 2 &&& (nf - (nf &&& S.fm.getD 1 0)) ||| (1 <<< k) >>> 2 &&& (nl - (nl &&& S.fm.getD (S.aa - 2) 0)) = far at *
  walk_at "G"
  refine (hq _ _ _ .refl ?_).1
  exact ⟨g0, g1, g2, g3, g4, g5, rfl⟩
 ·rintro af H' ⟨g0, g1, g2, g3, g4, g5, rfl⟩
  walk_at "S"
  exact ⟨_, Sb.refl, h⟩
noncomputable def sP (S : GS) (i : Nat) : Option (Nat × Nat × Nat × Nat) :=
 if (S.hc && jn S.aa i) = true then some (i / 2 * (S.ab - 1) * S.aa + S.aa / 2, i / 2 * (S.ab - 1) * S.aa + (if i % 2 = 0 then S.aa / 2 + 2 else S.aa / 2 - 2), i / 2 * (S.ab - 1) * S.aa + (if i % 2 = 0 then S.aa - 1 else 0), i / 2 * (S.ab - 1) * S.aa + (if i % 2 = 0 then S.aa / 2 + 1 else S.aa / 2 - 1)) else none
noncomputable def dM (S : GS) (ca : Nat → Nat) (i : Nat) : V := match sP S i with | some _ => .ref (ca i) | none => .none
noncomputable def zk (aa i : Nat) : Nat := if i % 2 = 0 then aa / 2 + 2 else aa / 2 - 2
noncomputable def sQ (aa i : Nat) : Nat := if i % 2 = 0 then aa - 1 else 0
noncomputable def Bm (aa i : Nat) : Nat := if i % 2 = 0 then aa / 2 + 1 else aa / 2 - 1
theorem wI : ((List.range 9).all fun f => (List.range 4).all fun k => !(Nat.ble 2 f) || (decide (decide ((0 : Int) < ((sQ f k : Nat) - ((f / 2 : Nat) + 2 * (if k % 2 = 0 then 1 else -1) : Int)) * (if k % 2 = 0 then 1 else -1)) = jn f k) &&
  (!(jn f k) || (decide (((f / 2 : Nat) + 2 * (if k % 2 = 0 then 1 else -1) : Int) = (zk f k : Nat)) && (decide (((zk f k : Nat) : Int) - (if k % 2 = 0 then 1 else -1) = (Bm f k : Nat)) && (decide (sQ f k < f) && decide (f / 2 < f))))))) = true := by decide +kernel
theorem uv {n : Nat} {A : GX} {S : GS} {T : Hp} {Q} (hf : 14 < n) (h1 : 2 ≤ S.aa ∧ S.aa ≤ 8) (h2 : 3 ≤ S.ab ∧ S.ab ≤ 8) (hs : S.aa * S.ab ≤ 35) (e0 : S.cs = [])
  (h : ∀ (r' : Nat) (rl : List Nat) (ca : Nat → Nat) (Td : Hp), (∀ i a b c d, i < 4 → sP S i = some (a, b, c, d) → (ca i, .tup [.int (a : Nat), .int (b : Nat), .int (c : Nat), .int (d : Nat)]) ∈ Td ++ T) → Q .none (be { A with rl := r' } { S with rl := rl, cs := (List.range 4).map (dM S ca) } (Td ++ T))) : (cf n).Sp 14 [.ref A.g] (be A S T) Q := by
 obtain ⟨h1, h8⟩ := h1
 obtain ⟨h3, r8⟩ := h2
 have f1 : S.aa ≤ 1000000 := az h8 rfl
 have s1 : S.aa * S.ab ≤ 1000 := az hs rfl
 refine au hf rfl rfl fun m hm => ?_
 refine aj (nM (io (k := S.aa * S.ab) cU (fun t => by walk_at "v") ⟨s1⟩ fun t1 r' => (Ev.s (m := m) (v := .ref A.g) (by walk_at "v")) _ (pD (by walk_at "m") (by walk_at "u") (ai rfl) rfl ?_)))
 rw [show fset (uj A S) 13 (.ref r') = uj { A with rl := r' } { S with rl := List.replicate (S.aa * S.ab) 0, cs := [] } from rfl, e0]
 walk_at "S"
 refine jY cU (fun k af H' => ∃ (rl : List Nat) (ca : Nat → Nat) (Td : Hp), rl.length = S.aa * S.ab ∧ (∀ i a b c d, i < k → sP S i = some (a, b, c, d) → (ca i, .tup [.int (a : Nat), .int (b : Nat), .int (c : Nat), .int (d : Nat)]) ∈ Td ++ T) ∧ af 0 = some (.ref A.g) ∧ af 1 = some (.int (S.aa / 2 : Nat)) ∧ H' = be { A with rl := r' } { S with rl := rl, cs := (List.range k).map (dM S ca) } (Td ++ T))
  (be { A with rl := r' } { S with rl := List.replicate (S.aa * S.ab) 0, cs := [] } T) ?_ ⟨by decide⟩ ⟨List.replicate (S.aa * S.ab) 0, fun _ => 0, [], by simp, fun i _ _ _ _ hi => absurd hi (Nat.not_lt_zero _), rfl, rfl, rfl⟩ ?_ ?_
 ·show Sb ((A.g, .inst ig A.d) :: (A.d, .dict (uj { A with rl := r' } { S with rl := List.replicate (S.aa * S.ab) 0, cs := [] })) :: (A.fm, .list (ak S.fm)) :: (A.rm, .list (ak S.rm)) :: (A.ra, .list S.rays) :: (A.kg, .list (ak S.kg)) :: (A.kn, .list (ak S.kn)) :: (A.pw, .list [.ref A.p0, .ref A.p1]) :: (A.p0, .list (ak S.p0)) :: (A.p1, .list (ak S.p1)) :: (A.cs, .list []) :: (r', .list (ak (List.replicate (S.aa * S.ab) 0))) :: T) _
  walk_at "sb"
 ·rintro k af H' Q' hk ⟨rl, ca, Td, hrl, hca, f0, jv, rfl⟩ hq
  have w := ik (ik wI (Nat.lt_succ_of_le h8)) hk
  rw [Nat.ble_eq_true_of_le h1] at w
  obtain ⟨w1, w2⟩ := ag w
  have w1 := of_decide_eq_true w1
  have csl : ((List.range k).map (dM S ca)).length ≤ 1000 := by rw [List.length_map, List.length_range]; exact Nat.le_trans (Nat.le_of_lt hk) (by decide)
  have kk : k >>> 1 = k / 2 := rfl
  have k2 : k / 2 ≤ 1 := by (exact ln [_,_,_] [.lt (.v 1) (.n 4),.eq (.a (.k 2 (.v 0)) (.v 2)) (.v 1)] (.le (.v 0) (.n 1)) [2,1,1] rfl hk dm)
  have bb : k / 2 * (S.ab - 1) * S.aa + S.aa ≤ S.aa * S.ab := by
   have a1 : k / 2 * (S.ab - 1) ≤ 1 * (S.ab - 1) := Nat.mul_le_mul_right _ k2
   have a2 := Nat.mul_le_mul_right S.aa a1
   have a3 : (S.ab - 1) * S.aa + S.aa = S.aa * S.ab := by rw [← Nat.succ_mul, Nat.mul_comm S.aa]; congr 1; (exact lie [_,_] [.eq (.a (.v 0) (.n 1)) (.v 1)] (.a (.v 0) (.n 1)) (.v 1) [1,1] [1,-1] rfl rfl (aM (ln [_] [.le (.n 3) (.v 0)] (.le (.n 1) (.v 0)) [1,1] rfl h3)))
   rw [Nat.one_mul] at a2
   exact a3 ▸ Nat.add_le_add_right a2 _
  have r1 : 1 ≤ S.ab := Nat.le_trans (by decide) h3
  have r2 : S.ab - 1 ≤ 1000000 := Nat.le_trans (Nat.sub_le _ _) (az r8 rfl)
  have f2 : 1 ≤ S.aa := Nat.le_of_succ_le h1
  have rest : ∀ (way : Int) (bv : ap), way = (if k % 2 = 0 then 1 else -1) → bv 0 = some (.ref A.g) → bv 1 = some (.int (S.aa / 2 : Nat)) → bv 2 = some (.int k) → bv 3 = some (.int (k / 2 * (S.ab - 1) * S.aa : Nat)) → bv 4 = some (.int (sQ S.aa k : Nat)) → bv 5 = some (.int way) →
    WB (cf m) ((ic.body.drop 2).fb.drop 4) bv (be { A with rl := r' } { S with rl := rl, cs := (List.range k).map (dM S ca) } (Td ++ T)) Q' := by
   intro way bv hw g0 g1 g2 g3 g4 g5
   rw [← hw] at w1 w2
   have wb : -1000000 ≤ way ∧ way ≤ 1000000 := by rw [hw]; split <;> decide
   apply bY
   walk_at "v"
   exact (rfl : _ = V.int ((S.aa / 2 : Nat) + 2 * way))
   refine kL (c := S.hc && jn S.aa k) (E' (by walk_at "t") (B2 (w1 ▸ by walk_at "t"))) ?_
   refine gO (fun hT => ?_) (fun hF => ?_)
   ·rw [(ag hT).2] at w2
    obtain ⟨w3, w2⟩ := ag w2
    obtain ⟨w4, w2⟩ := ag w2
    obtain ⟨w5, w6⟩ := ag w2
    have w3 := of_decide_eq_true w3
    have w4 := of_decide_eq_true w4
    have w5 := of_decide_eq_true w5
    have w6 := of_decide_eq_true w6
    have hcs : sP S k = some (k / 2 * (S.ab - 1) * S.aa + S.aa / 2, k / 2 * (S.ab - 1) * S.aa + zk S.aa k, k / 2 * (S.ab - 1) * S.aa + sQ S.aa k, k / 2 * (S.ab - 1) * S.aa + Bm S.aa k) := if_pos hT
    rw [w3]
    generalize k / 2 * (S.ab - 1) * S.aa = base at *
    have b1 : base + S.aa / 2 < rl.length := hrl ▸ Nat.lt_of_lt_of_le (Nat.add_lt_add_left w6 _) bb
    have b2 : base + sQ S.aa k < (rl.set (base + S.aa / 2) (rl.getD (base + S.aa / 2) 0 ||| 1 <<< k)).length := by rw [List.length_set, hrl]; exact Nat.lt_of_lt_of_le (Nat.add_lt_add_left w5 _) bb
    have l1 : rl.length ≤ 10000 := hrl ▸ az hs rfl
    have l2 : (rl.set (base + S.aa / 2) (rl.getD (base + S.aa / 2) 0 ||| 1 <<< k)).length ≤ 10000 := by rw [List.length_set]; exact l1
    have k1 : k ≤ 1000 := Nat.le_trans (Nat.le_of_lt hk) (by decide)
    have gw : ((base + zk S.aa k : Nat) : Int) - way = ((base + Bm S.aa k : Nat) : Int) := by rw [Int.natCast_add, Int.natCast_add, Int.add_sub_assoc, w4]
    generalize zk S.aa k = goal at *
    generalize sQ S.aa k = corner at *
    generalize Bm S.aa k = Dj at *
    refine wi (vs := [.int (base + S.aa / 2 : Nat), .int (base + goal : Nat), .int (base + corner : Nat), .int (base + Dj : Nat)]) (by walk_at "v") (.cons (by walk_at "v") (.cons (by walk_at "v") (.cons (by walk_at "v") (.cons (gw ▸ by walk_at "v") .nil)))) (ai rfl) (by walk_at "m") (fun t => by walk_at "u") ⟨csl⟩ fun t => ?_
    walk_at "G"
    refine (hq _ _ (be { A with rl := r' } { S with rl := (rl.set (base + S.aa / 2) (rl.getD (base + S.aa / 2) 0 ||| 1 <<< k)).set (base + corner) ((rl.set (base + S.aa / 2) (rl.getD (base + S.aa / 2) 0 ||| 1 <<< k)).getD (base + corner) 0 ||| 1 <<< k), cs := (List.range (k + 1)).map (dM S fun j => if j = k then t else ca j) } (((t, .tup [.int (base + S.aa / 2 : Nat), .int (base + goal : Nat), .int (base + corner : Nat), .int (base + Dj : Nat)]) :: Td) ++ T)) ?_ ?_).1
    rotate_left
    ·refine ⟨_, fun j => if j = k then t else ca j, (t, .tup [.int (base + S.aa / 2 : Nat), .int (base + goal : Nat), .int (base + corner : Nat), .int (base + Dj : Nat)]) :: Td, by simp [hrl], fun i a b' c d hi hc => ?_, g0, g1, rfl⟩
     dsimp only
     by_cases c2 : i = k
     ·subst c2; rw [if_pos rfl]; rw [hcs] at hc; cases hc; exact .head _
     ·rw [if_neg c2]; exact List.mem_cons_of_mem _ (hca i a b' c d (Nat.lt_of_le_of_ne (Nat.le_of_lt_succ hi) c2) hc)
    ·have er : (List.range (k + 1)).map (dM S fun j => if j = k then t else ca j) = ((List.range k).map (dM S ca)) ++ [.ref t] := by
      rw [List.range_succ, List.map_append]
      congr 1
      ·refine List.map_congr_left fun j hj => ?_
       unfold dM; dsimp only; rw [if_neg (Nat.ne_of_lt (List.mem_range.mp hj))]
      ·unfold dM; simp [hcs]
     rw [er]
     have key : ∀ (S2 : GS) (o : O), Sb (be { A with rl := r' } S2 ((t, o) :: (Td ++ T))) ((t, o) :: be { A with rl := r' } S2 (Td ++ T)) := by
      intro S2 o
      walk_at "sb"
     exact key _ _
   ·have hn : sP S k = none := if_neg fun q => Bool.false_ne_true (hF.symm.trans q)
    walk_at "G"
    refine (hq _ _ (be { A with rl := r' } { S with rl := rl, cs := (List.range (k + 1)).map (dM S ca) } (Td ++ T)) ?_ ?_).1
    ·rw [List.range_succ, List.map_append, List.map_singleton, show dM S ca k = .none by unfold dM; rw [hn]]; exact .refl
    ·refine ⟨rl, ca, Td, hrl, fun i a b' c d hi hc => ?_, g0, g1, rfl⟩
     by_cases c2 : i = k
     ·subst c2; rw [hn] at hc; cases hc
     ·exact hca i a b' c d (Nat.lt_of_le_of_ne (Nat.le_of_lt_succ hi) c2) hc
  walk_at "S"
  rw [kk]
  walk_at "S"
  walk_at "S"
  walk_at "S"
  rw [Nat.and_one_is_mod]
  refine bF (fun c => ?_) (fun c => ?_)
  ·have c' : ¬ k % 2 = 0 := c
   have ec : (0 : Nat) = sQ S.aa k := (if_neg c').symm
   walk_at "S"
   walk_at "S"
   refine an (rest _ _ (by rw [if_neg c']; rfl) f0 jv rfl rfl (by rw [← ec]; rfl) rfl)
  ·have c' : k % 2 = 0 := Decidable.not_not.mp c
   have ec : S.aa - 1 = sQ S.aa k := (if_pos c').symm
   refine an (rest _ _ (by rw [if_pos c']; rfl) f0 jv rfl rfl (by rw [← ec]; rfl) rfl)
 ·rintro af H' ⟨rl, ca, Td, hrl, hca, f0, jv, rfl⟩
  walk_at "S"
  exact ⟨_, Sb.refl, h r' rl ca Td hca⟩
noncomputable def b9 (aa ab : Nat) (hd hc : Bool) : GS := { wD aa ab hd hc with fm := o0 aa ab aa, rm := gS aa ab }
noncomputable def aO (aa ab : Nat) (hd hc : Bool) : GD :=
 let S := b9 aa ab hd hc
 let R := fun d => (cQ S d (aW S d)).1
 ⟨aa, ab, hd && decide (5 ≤ ab), gS aa ab, aW S 8, ox S (aa * ab), gJ (aW S 8) (R 4) (R 7) (aa * ab), gJ (aW S 8) (R 5) (R 6) (aa * ab), R, sP S⟩
theorem FI (aa ab : Nat) (hd hc : Bool) (h1 : 2 ≤ aa ∧ aa ≤ 8) (h2 : 3 ≤ ab ∧ ab ≤ 8) (hs : aa * ab ≤ 35) : eo (aO aa ab hd hc) :=
 ⟨h1, h2, hs, by simp [aO, gS], iO _ _, by simp [aO, ox], by simp [aO, gJ], by simp [aO, gJ], fun d _ => (iN (b9 aa ab hd hc) d (aW (b9 aa ab hd hc) d) _).1⟩
theorem Dk {n aa ab : Nat} {hd hc : Bool} {H Q} (hf : 15 < n) (h1 : 2 ≤ aa ∧ aa ≤ 8) (h2 : 3 ≤ ab ∧ ab ≤ 8) (hs : aa * ab ≤ 35) (hsf : (gQ, .tup ot) ∈ H) (hsr : (dX, .tup f') ∈ H)
  (hg : ∀ d, d < 8 → fE (b9 aa ab hd hc) d = true)
  (h : ∀ (B : GA) (H' : Hp), aS B (aO aa ab hd hc) (H' ++ H) → Q (.ref B.g) (H' ++ H)) : (cf n).Sp 15 [.int aa, .int ab, .bool hd, .bool hc] H Q := by
 refine au hf rfl rfl fun m hm => ?_
 have hc0 : (decide (aa < 2) || (decide (8 < aa) || (decide (ab < 3) || decide (8 < ab)))) = false := by
  rw [decide_eq_false (Nat.not_lt.mpr h1.1), decide_eq_false (Nat.not_lt.mpr h1.2), decide_eq_false (Nat.not_lt.mpr h2.1), decide_eq_false (Nat.not_lt.mpr h2.2)]; rfl
 walk_at "S"
 refine im hc0 (an ?_)
 walk_at "S"
 refine Bk (n := m) (aq hm rfl) h1 h2 hs (fun A => ?_)
 walk_at "S"
 refine zc (n := m) (aq hm rfl) h1 h2 hs rfl rfl ?_
 walk_at "S"
 refine Bl (n := m) (S := b9 aa ab hd hc) (aq hm rfl) h1 h2 hs (by simp [b9, o0, wD]) (by simp [b9, gS, wD]) rfl hsf hsr hg (fun k' rr Td hrr => ?_)
 walk_at "S"
 refine zj (n := m) (A := { A with kg := k' }) (R := fun j => (cQ (b9 aa ab hd hc) j (aW (b9 aa ab hd hc) j)).1) (rr := rr) (aq hm rfl) hs rfl rfl (iO _ _) rfl hrr (fun j _ => (iN _ _ _ _).1) ?_
 walk_at "S"
 refine uu (n := m) (A := { A with kg := k' }) (aq hm rfl) h1 hs rfl (by simp [b9, o0, wD]) ?_
 walk_at "S"
 refine uv (n := m) (A := { A with kg := k' }) (aq hm rfl) h1 h2 hs rfl (fun r' rl ca Te hca => ?_)
 walk_at "S"
 have as : ∀ c : Nat × O, c ∈ Td ++ H → c ∈ (Te ++ Td) ++ H := fun c hc => by
  rw [List.append_assoc]; exact List.mem_append_right _ hc
 have as2 : ∀ c : Nat × O, c ∈ Te ++ (Td ++ H) → c ∈ (Te ++ Td) ++ H := fun c hc => by
  rw [List.append_assoc]; exact hc
 rw [← List.append_assoc]
 refine ⟨_, Sb.refl, ?_⟩
 refine h ⟨A.g, A.d, A.rm, A.ra, k', A.kn, A.pw, A.p0, A.p1, A.cs, rr, ca, _⟩ (be { A with kg := k', rl := r' } { b9 aa ab hd hc with kg := aW (b9 aa ab hd hc) 8, kn := ox (b9 aa ab hd hc) (aa * ab), p0 := (aO aa ab hd hc).p0, p1 := (aO aa ab hd hc).p1, rays := (List.range 8).map fun j => .ref (rr j), rl := rl, cs := (List.range 4).map (dM (b9 aa ab hd hc) ca) } (Te ++ Td)) ⟨.head _, .tail _ (.head _), rfl, rfl, rfl, rfl, rfl, rfl, rfl, rfl, rfl, rfl, .tail _ (.tail _ (.tail _ (.head _))), .tail _ (.tail _ (.tail _ (.tail _ (.head _)))), fun d hd => .tail _ (.tail _ (.tail _ (.tail _ (.tail _ (.tail _ (.tail _ (.tail _ (.tail _ (.tail _ (.tail _ (.tail _ (as _ (hrr d hd))))))))))))), .tail _ (.tail _ (.tail _ (.tail _ (.tail _ (.head _))))), .tail _ (.tail _ (.tail _ (.tail _ (.tail _ (.tail _ (.head _)))))), .tail _ (.tail _ (.tail _ (.tail _ (.tail _ (.tail _ (.tail _ (.head _))))))), .tail _ (.tail _ (.tail _ (.tail _ (.tail _ (.tail _ (.tail _ (.tail _ (.head _)))))))), .tail _ (.tail _ (.tail _ (.tail _ (.tail _ (.tail _ (.tail _ (.tail _ (.tail _ (.head _))))))))), .tail _ (.tail _ (.tail _ (.tail _ (.tail _ (.tail _ (.tail _ (.tail _ (.tail _ (.tail _ (.head _)))))))))), fun i a b c d hi hc => .tail _ (.tail _ (.tail _ (.tail _ (.tail _ (.tail _ (.tail _ (.tail _ (.tail _ (.tail _ (.tail _ (.tail _ (as2 _ (hca i a b c d hi hc)))))))))))))⟩
theorem qY : ∀ (r : List Nat) (g : Nat), g + r.length ≤ 9 → (wr r g).length ≤ r.length + (if 0 < g then 1 else 0)
 | [], g, h => by
  show (if 0 < g then dig g else []).length ≤ _
  by_cases c : 0 < g
  ·rw [if_pos c, if_pos c, dg (by simp at h; (exact Nat.lt_succ_of_le h))]; simp
  ·rw [if_neg c, if_neg c]; simp
 | p :: r, g, h => by
  simp at h
  have i1 := qY r (g + 1) (by (exact ln [_,_] [.le (.a (.v 0) (.a (.v 1) (.n 1))) (.n 9)] (.le (.a (.a (.v 0) (.n 1)) (.v 1)) (.n 9)) [1,1] rfl h))
  have i0 := qY r 0 (by (exact ln [_,_] [.le (.a (.v 1) (.a (.v 0) (.n 1))) (.n 9)] (.le (.a (.n 0) (.v 0)) (.n 9)) [1,1] rfl h))
  rw [if_pos (by exact ai rfl)] at i1
  rw [if_neg (by exact Nat.not_le_of_lt (ai rfl))] at i0
  unfold wr
  by_cases c : p = 0
  ·rw [if_pos c]; simp; (exact Nat.le_trans i1 (Nat.le_add_right _ _))
  ·rw [if_neg c]
   by_cases c2 : 0 < g
   ·rw [if_pos c2, if_pos c2, dg (by (exact ln [_,_] [.le (.a (.v 0) (.a (.v 1) (.n 1))) (.n 9)] (.lt (.v 0) (.n 10)) [1,1] rfl h))]; simp; (exact i0)
   ·rw [if_neg c2, if_neg c2]; simp; (exact i0)
theorem oy (bl : List Nat) (aa k : Nat) (h : aa ≤ 8) : (wr (ft bl aa k) 0).length ≤ 10 := by
 have hl : (ft bl aa k).length ≤ 8 := Nat.le_trans (List.length_take_le _ _) h
 have := qY (ft bl aa k) 0 (by (exact ln [_] [.le (.v 0) (.n 8)] (.le (.a (.n 0) (.v 0)) (.n 9)) [1,1] rfl hl))
 rw [if_neg (by exact Nat.not_le_of_lt (ai rfl))] at this
 (exact ln [_,_] [.le (.v 1) (.n 8),.le (.v 0) (.a (.v 1) (.n 0))] (.le (.v 0) (.n 10)) [1,1,1] rfl hl this)
noncomputable def qZ (aa f : Nat) : Nat := if f = aa / 2 then 75 else if f = 0 ∨ f = aa - 1 then 82 else 46
noncomputable def dt (aa k : Nat) : List Nat := (List.range k).map (qZ aa)
theorem sR (aa k : Nat) : dt aa (k + 1) = dt aa k ++ [qZ aa k] := by unfold dt; rw [List.range_succ, List.map_append]; rfl
theorem Bn {n : Nat} {B : GA} {G : GD} {H Q} (hf : 68 < n) (hg : aS B G H) (go : eo G) (h : Q (.str (dt G.aa G.aa)) H) : (cf n).Sp 68 [.ref B.g] H Q := by
 have g1 := hg.i; have g2 := hg.f; have g3 := hg.l0
 have q0 := go.f
 obtain ⟨q1, q8⟩ := q0
 have f1 : 1 ≤ G.aa := Nat.le_of_succ_le q1
 refine au hf rfl rfl fun m hm => ?_
 walk_at "S"
 walk_at "S"
 refine ch (n := G.aa) (by walk_at "v") (fun k af H' => af 0 = some (.ref B.g) ∧ af 1 = some (.int (G.aa / 2 : Nat)) ∧ af 2 = some (.str (dt G.aa k)) ∧ H' = H) ⟨az q8 rfl⟩ ⟨rfl, rfl, rfl, rfl⟩ ?_ ?_
 ·rintro k af H' Q' hk ⟨f0, jv, f2, rfl⟩ hq
  have ll : (dt G.aa k).length + 1 ≤ 10000 := by rw [dt, List.length_map, List.length_range]; exact Nat.le_trans hk (az q8 rfl)
  rw [sR] at hq
  unfold qZ at hq
  walk_at "S"
  refine bF (fun c => ?_) (fun c => ?_)
  ·rw [if_pos c] at hq
   walk_at "G"
   refine (hq _ _ _ .refl ?_).1
   exact ⟨f0, jv, rfl, rfl⟩
  ·rw [if_neg c] at hq
   walk_at "S"
   refine yz (fun c => ?_) (fun c => ?_)
   ·rw [if_pos c] at hq
    walk_at "G"
    refine (hq _ _ _ .refl ?_).1
    exact ⟨f0, jv, rfl, rfl⟩
   ·rw [if_neg c] at hq
    walk_at "G"
    refine (hq _ _ _ .refl ?_).1
    exact ⟨f0, jv, rfl, rfl⟩
 ·rintro af H' ⟨f0, jv, f2, rfl⟩
  walk_at "S"
  exact ⟨_, Sb.refl, h⟩
noncomputable def b8 (aa : Nat) : List Nat := (dt aa aa).map cd
noncomputable def mu (aa ab : Nat) (L : List Nat) (f : Nat) : List Nat :=
 let L := if (b8 aa).getD f 0 ≠ 0 then L.set (aa * ab - aa + f) ((b8 aa).getD f 0 + 8) else L
 if 4 ≤ ab then (L.set (aa + f) 1).set (aa * ab - 2 * aa + f) 9 else L
noncomputable def fV (aa ab k : Nat) : List Nat := (List.range k).foldl (mu aa ab) (b8 aa ++ List.replicate (aa * ab - aa) 0)
theorem oz (aa ab k : Nat) : fV aa ab (k + 1) = mu aa ab (fV aa ab k) k := by unfold fV; rw [List.range_succ, List.foldl_append]; rfl
theorem kR (aa ab : Nat) (h : aa ≤ aa * ab) : ∀ k, (fV aa ab k).length = aa * ab
 | 0 => by simp [fV, b8, dt]; (exact lie [_,_,_] [.eq (.a (.v 1) (.v 0)) (.v 2)] (.a (.v 0) (.v 1)) (.v 2) [1,1] [1,-1] rfl rfl (aM h))
 | k + 1 => by
  rw [oz]; unfold mu; dsimp only
  have := kR aa ab h k
  split <;> split <;> simp [this]
noncomputable def cF (G : GD) (k : Nat) : Nat := dh (fun i => if (G.cs i).isSome then 1 <<< i else 0) k
noncomputable def oE (G : GD) : List Nat := glue 47 (aP (fV G.aa G.ab G.aa) G.aa G.ab) ++ [32, 119, 32] ++ iY (cF G 4) ++ [32, 45, 32, 48, 32, 49]
theorem wJ {x : Nat} {s : List Nat} {C : Cfg} {elt : ap → Hp → (V → Hp → Prop) → Prop} {ρ : ap} {H : Hp} {Q : List V → Hp → Prop} (g : Nat → V) (hl : s.length ≤ 1000) (hc : ∀ c ∈ s, c < 128)
  (hb : ∀ c Q', c ∈ s → Q' (g c) H → elt (ρ.set x (.str [c])) H Q')
  (hq : Q (s.map g) H) :
  ∃ src items, Src (.str s) H src items ∧ eg (ce C (.aZ true)) elt src items x ρ items [] H Q := by
 refine ⟨none, _, .str (by exact bq hl rfl) hc, ?_⟩
 refine iH (fun k acc H' => acc = (s.take k).map g ∧ H' = H) ⟨rfl, rfl⟩ (fun _ _ _ _ => trivial) (fun k acc H' h => by rw [h.1]; simp; omega) ?_ ?_
 ·rintro k x' acc H' Q' hx ⟨rfl, rfl⟩ hh
  rw [List.getElem?_map] at hx
  cases q : s[k]? with
  | none => rw [q] at hx; cases hx
  | some c =>
   rw [q] at hx
   cases Option.some.inj hx
   refine hh true _ (fun _ y5 y6 => hb c y5 (List.mem_of_getElem? q) (y6 _ _ ⟨?_, rfl⟩)) (fun e => by cases e)
   rw [take_snoc q, List.map_append]; rfl
 ·rintro acc H' ⟨rfl, rfl⟩
  rw [List.length_map, List.take_length]
  exact hq
theorem wK {n : Nat} {B : GA} {G : GD} {H Q} (hf : 69 < n) (hg : aS B G H) (go : eo G) (hok : ∀ p ∈ fV G.aa G.ab G.aa, p = 0 ∨ bM p) (h : Q (.str (glue 47 (aP (fV G.aa G.ab G.aa) G.aa G.ab))) H) : (cf n).Sp 69 [.ref B.g] H Q := by
 have g1 := hg.i; have g2 := hg.f; have g3 := hg.l0; have g4 := hg.l1; have g5 := hg.l2
 have q0 := go.f; have q1 := go.r; have q3 := go.s
 have Cd : ∀ c ∈ dt G.aa G.aa, c = 46 ∨ c ∈ letters := by
  intro c hc
  obtain ⟨j, _, rfl⟩ := List.mem_map.mp hc
  unfold qZ; split
  ·right; decide
  ·split
   ·right; decide
   ·left; rfl
 have FJ : ∀ c ∈ dt G.aa G.aa, c < 128 := fun c hc => by
  rcases Cd c hc with e | e
  ·(exact ln [_] [.eq (.v 0) (.n 46)] (.lt (.v 0) (.n 128)) [1,1] rfl e)
  ·exact (cC c e).1
 have sl : (dt G.aa G.aa).length = G.aa := by simp [dt]
 obtain ⟨Hi, q8⟩ := q0
 obtain ⟨q2, q9⟩ := q1
 have f1 : 1 ≤ G.aa := Nat.le_of_succ_le Hi
 have gT : 3 * G.aa ≤ G.aa * G.ab := by rw [Nat.mul_comm 3]; exact Nat.mul_le_mul_left _ q2
 have Dl : G.aa ≤ G.aa * G.ab := Nat.le_trans (Nat.le_mul_of_pos_left _ (by decide)) gT
 have Hj : 2 * G.aa ≤ G.aa * G.ab := Nat.le_trans (Nat.mul_le_mul_right _ (by decide)) gT
 have s1 : G.aa * G.ab - G.aa ≤ 1000 := Nat.le_trans (Nat.sub_le _ _) (az q3 rfl)
 have s2 : G.aa * G.ab ≤ 10000 := az q3 rfl
 have fm : G.aa ≤ 1000000 := az q8 rfl
 have fl : (b8 G.aa).length = G.aa := by rw [b8, List.length_map, sl]
 have HS : (b8 G.aa).length ≤ 10000 := by rw [fl]; exact az q8 rfl
 refine au hf rfl rfl fun m hm => ?_
 have tail : WB (cf m) (eV.body.drop 1) (gp [.ref B.g]) H (bT Q) := by
  refine aj (aY ((bc.s (m := m) (vs := [.ref B.g]) (by walk_at "vs")) _ (Bn (n := m) (aq hm rfl) hg go ?_)))
  refine wJ (fun c => .int (cd c : Nat)) (by rw [sl]; exact az q8 rfl) FJ ?_ ?_
  ·intro c Q' hc hq
   refine (Tv.s (m := m) (c := decide (c ≠ 46)) (by walk_at "t")) _ ?_
   by_cases e : c = 46
   ·rw [decide_eq_false (fun q => q e)]
    rw [show cd c = 0 from if_pos e] at hq
    exact (Ev.s (m := m) (v := .int (0 : Nat)) (by walk_at "v")) _ hq
   ·rw [decide_eq_true e]
    refine (bc.s (m := m) (vs := [.str [c]]) (by walk_at "vs")) _ (lA (n := m) (aq hm rfl) ((Cd c hc).resolve_left e) ?_)
    rw [show cd c = code c from if_neg e] at hq
    exact hq
  intro fa
  rw [show (dt G.aa G.aa).map (fun c => V.int (cd c : Nat)) = ak (b8 G.aa) by simp [b8, ak]]
  refine aj (aY (bX ((Ev.s (m := m) (v := .ref fa) (by walk_at "v")) _ (io (k := G.aa * G.ab - G.aa) (by walk_at "v") (fun t => by walk_at "v") ⟨s1⟩ fun t ca => ?_))))
  refine ⟨_, _, .tail _ (.tail _ (.head _)), .head _, by rw [cO, cO, fl, List.length_replicate, Nat.add_comm, Nat.sub_add_cancel Dl]; exact s2, fun ba => ?_⟩
  rw [pK]
  refine jY (n := G.aa) (by walk_at "v") (fun k af H' => af 0 = some (.ref B.g) ∧ af 1 = some (.ref fa) ∧ af 2 = some (.ref ba) ∧ H' = (ba, .list (ak (fV G.aa G.ab k))) :: (fa, .list (ak (b8 G.aa))) :: H) ((ba, .list (ak (b8 G.aa ++ List.replicate (G.aa * G.ab - G.aa) 0))) :: (fa, .list (ak (b8 G.aa))) :: H) (by walk_at "sb") ⟨az q8 rfl⟩ ⟨rfl, rfl, rfl, rfl⟩ ?_ ?_
  ·rintro k af H' Q' hk ⟨f0, jv, f2, rfl⟩ hq
   have bl := kR G.aa G.ab Dl k
   rw [oz] at hq
   unfold mu at hq
   generalize fV G.aa G.ab k = L at *
   have k1 : k < (b8 G.aa).length := by rw [fl]; exact hk
   have second : ∀ (L2 : List Nat) (bv : ap), L2.length = G.aa * G.ab → bv 0 = some (.ref B.g) → bv 1 = some (.ref fa) → bv 2 = some (.ref ba) → bv 3 = some (.int k) →
     (∀ oQ : ap, oQ 0 = some (.ref B.g) → oQ 1 = some (.ref fa) → oQ 2 = some (.ref ba) → Q' .next oQ ((ba, .list (ak (if 4 ≤ G.ab then (L2.set (G.aa + k) 1).set (G.aa * G.ab - 2 * G.aa + k) 9 else L2))) :: (fa, .list (ak (b8 G.aa))) :: H)) →
     WB (cf m) ((eV.body.drop 3).fb.drop 1) bv ((ba, .list (ak L2)) :: (fa, .list (ak (b8 G.aa))) :: H) Q' := by
    intro L2 bv hl2 e0 e1 e2 e3 hq2
    have l1 : L2.length ≤ 10000 := hl2 ▸ s2
    have l2 : G.aa + k < L2.length := by rw [hl2]; exact Nat.lt_of_lt_of_le (by (exact ln [_,_] [.lt (.v 1) (.v 0)] (.lt (.a (.v 0) (.v 1)) (.k 2 (.v 0))) [1,1] rfl hk)) Hj
    have l3 : G.aa * G.ab - 2 * G.aa + k < (L2.set (G.aa + k) 1).length := by rw [List.length_set, hl2]; (exact ln [_,_,_,_] [.lt (.v 1) (.v 3),.eq (.a (.v 0) (.k 2 (.v 3))) (.v 2)] (.lt (.a (.v 0) (.v 1)) (.v 2)) [1,2,1] rfl hk (aM (ln [_,_] [.le (.k 3 (.v 0)) (.v 1)] (.le (.k 2 (.v 0)) (.v 1)) [3,2] rfl gT)))
    have l4 : (L2.set (G.aa + k) 1).length ≤ 10000 := by rw [List.length_set]; exact l1
    walk_at "S"
    refine bF (fun c => ?_) (fun c => ?_)
    ·rw [if_pos c] at hq2
     walk_at "S"
     refine aj (kI ((bc.s (m := m) (vs := [.int (1 : Nat), .int (1 : Nat)]) (by walk_at "vs")) _ (dQ (n := m) (s := 1) (k := 1) (aq hm rfl) ((Ev.s (m := m) (v := .ref ba) (by walk_at "v")) _ ((Ev.s (m := m) (v := .int (G.aa * G.ab - 2 * G.aa + k : Nat)) (by walk_at "v")) _ (jX.s (s_i ⟨l3⟩ ⟨l4⟩) .here ?_))))))
     exact an (an (hq2 _ e0 e1 e2))
    ·rw [if_neg c] at hq2
     exact an (an (hq2 _ e0 e1 e2))
   have l1 : L.length ≤ 10000 := bl ▸ s2
   have l2 : G.aa * G.ab - G.aa + k < L.length := by rw [bl]; (exact ln [_,_,_,_] [.lt (.v 1) (.v 3),.eq (.a (.v 0) (.v 3)) (.v 2)] (.lt (.a (.v 0) (.v 1)) (.v 2)) [1,1,1] rfl hk (aM (ln [_,_] [.le (.k 3 (.v 0)) (.v 1)] (.le (.v 0) (.v 1)) [3,1] rfl gT)))
   walk_at "S"
   refine bF (fun c => ?_) (fun c => ?_)
   ·simp only [if_pos c] at hq
    walk_at "S"
    refine an (second _ _ (by rw [List.length_set]; exact bl) f0 jv f2 rfl (fun oQ g0 g1 g2 => ?_))
    exact (hq _ _ _ .refl ⟨g0, g1, g2, rfl⟩).1
   ·simp only [if_neg c] at hq
    refine an (second L _ bl f0 jv f2 rfl (fun oQ g0 g1 g2 => ?_))
    exact (hq _ _ _ .refl ⟨g0, g1, g2, rfl⟩).1
  ·rintro af H' ⟨f0, jv, f2, rfl⟩
   have bl := kR G.aa G.ab Dl G.aa
   walk_at "S"
   refine pQ (n := m) (ab := G.ab) (aq hm rfl) (by walk_at "m") (by rw [bl, Nat.mul_comm]) f1 (bl ▸ az q3 rfl) hok (az q9 rfl) (fun k => Nat.le_trans (oy _ _ k q8) (by decide)) ?_
   refine ⟨_, ?_, h⟩
   walk_at "sb"
 walk_at "S"
 refine CP (fun c => ?_) (fun c => an tail)
 exfalso
 rw [c.1, c.2] at q3
 exact absurd q3 (by decide)
theorem Bo {n : Nat} {B : GA} {G : GD} {H Q} (hf : 70 < n) (hg : aS B G H) (go : eo G) (hok : ∀ p ∈ fV G.aa G.ab G.aa, p = 0 ∨ bM p) (hr : cF G 4 < 16) (h : Q (.str (oE G)) H) : (cf n).Sp 70 [.ref B.g] H Q := by
 have g1 := hg.i; have g2 := hg.f; have g3 := hg.Fj; have g4 := hg.cs
 have q0 := go.f; have q1 := go.r; have q3 := go.s
 refine au hf rfl rfl fun m hm => ?_
 walk_at "S"
 refine ch (n := 4) cU (fun k af H' => af 0 = some (.ref B.g) ∧ af 1 = some (.int (cF G k : Nat)) ∧ H' = H) ⟨by decide⟩ ⟨rfl, rfl, rfl⟩ ?_ ?_
 ·rintro k af H' Q' hk ⟨f0, f1, rfl⟩ hq
  rw [show cF G (k + 1) = cF G k ||| (if (G.cs k).isSome then 1 <<< k else 0) from fi _ _] at hq
  have k1 : k ≤ 1000 := Nat.le_trans (Nat.le_of_lt hk) (by decide)
  have ev : Ev m (af.set 2 (.int k)) H' (.idx (.attr (.var 0) 12) (.var 2)) (yJ B G k) := by walk_at "v"
  have e : yJ B G k = (match G.cs k with | some _ => .ref (B.ca k) | none => .none) := rfl
  rw [e] at ev
  cases hc : G.cs k with
  | none =>
   rw [hc] at hq ev
   refine kL (tO (wh ev (gR rfl) (tN rfl)) rfl rfl) (im rfl ?_)
   walk_at "G"
   refine (hq _ _ _ .refl ?_).1
   refine ⟨f0, ?_, rfl⟩
   rw [show (if (none : Option (Nat × Nat × Nat × Nat)).isSome = true then 1 <<< k else 0) = 0 from rfl, Nat.or_zero]
   exact f1
  | some x =>
   rw [hc] at hq ev
   refine kL (tO (wh ev (gR rfl) (tN rfl)) rfl rfl) (B1 rfl ?_)
   walk_at "G"
   refine (hq _ _ _ .refl ?_).1
   exact ⟨f0, rfl, rfl⟩
 ·rintro af H' ⟨f0, f1, rfl⟩
  have hb : (glue 47 (aP (fV G.aa G.ab G.aa) G.aa G.ab)).length ≤ 88 := Nat.le_trans (cA 47 10 _ (fun p hp => by obtain ⟨j, _, rfl⟩ := List.mem_map.mp hp; exact oy _ _ _ q0.2)) (by rw [aP, List.length_map, List.length_range]; exact Nat.mul_le_mul_right _ q1.2)
  have FK := (iJ _ hr).2.1
  refine aj (gq (bX (bX (bX ((bc.s (m := m) (vs := [.ref B.g]) (by walk_at "vs")) _ (wK (n := m) (aq hm rfl) hg go hok ?_))))))
  refine (Ev.s (m := m) (gR rfl)) _ (nP ⟨by show _ + 3 ≤ 10000; (exact ln [_] [.le (.v 0) (.n 88)] (.le (.a (.v 0) (.n 3)) (.n 10000)) [1,1] rfl hb)⟩ _ _ ((bc.s (m := m) (vs := [.int (cF G 4 : Nat)]) (by walk_at "vs")) _ (nY (n := m) (aq hm rfl) hr ?_)))
  refine nP ⟨by rw [List.length_append]; show _ + 3 + _ ≤ 10000; (exact ln [_,_] [.le (.v 0) (.n 88),.le (.v 1) (.n 4)] (.le (.a (.a (.v 0) (.n 3)) (.v 1)) (.n 10000)) [1,1,1] rfl hb FK)⟩ _ _ ((Ev.s (m := m) (gR rfl)) _ (nP ⟨by rw [List.length_append, List.length_append]; show _ + 3 + _ + 6 ≤ 10000; (exact ln [_,_] [.le (.v 0) (.n 88),.le (.v 1) (.n 4)] (.le (.a (.a (.a (.v 0) (.n 3)) (.v 1)) (.n 6)) (.n 10000)) [1,1,1] rfl hb FK)⟩ _ _ ?_))
  exact ⟨_, Sb.refl, h⟩
theorem sS {xa x j : Nat} {i : Int} {L : List Nat} {H H' : Hp} {Q : Hp → Prop} (u : Upd xa (.list (aK L)) (.list (aK (L.set j x))) H H') (e : i + (L.length : Int) = j) (hj : j < L.length) (h0 : i < 0) (hl : L.length ≤ 10000) (hq : Q H') : eI (.ref xa) (.int i) (.str [x]) H Q :=
 ⟨_, _, _, _, rfl, rfl, jV hl, .inr ⟨h0, by rw [cP]; (exact lin [_,_] [_] [.EQ (.a (.v 0) (.c (.v 0))) (.c (.v 1))] (.LE (.g (.c (.v 0))) (.v 0)) [1,-1] rfl e), by rw [cP, e, Int.toNat_natCast, pG]; exact u⟩, hq⟩
noncomputable def sU (aa f : Nat) : Nat := if f = aa / 2 then 0 else if f = 0 ∨ f = aa - 1 then 1 else 2
noncomputable def mw (aa ab : Nat) (L : List Nat) (f : Nat) : List Nat :=
 let L := (L.set f (([75, 82, 46] : List Nat).getD (sU aa f) 0)).set (aa * ab - aa + f) (([107, 114, 46] : List Nat).getD (sU aa f) 0)
 if 3 < ab then (L.set (aa + f) 80).set (aa * ab - 2 * aa + f) 112 else L
noncomputable def fF (aa ab k : Nat) : List Nat := (List.range k).foldl (mw aa ab) (List.replicate (aa * ab) 46)
theorem oG (aa ab k : Nat) : fF aa ab (k + 1) = mw aa ab (fF aa ab k) k := by unfold fF; rw [List.range_succ, List.foldl_append]; rfl
theorem kS (aa ab : Nat) : ∀ k, (fF aa ab k).length = aa * ab
 | 0 => by simp [fF]
 | k + 1 => by
  rw [oG]; unfold mw; dsimp only
  have := kS aa ab k
  split <;> simp [this]
noncomputable def gy (aa ab : Nat) (hw : Bool) : Nat := if hw then fA (fF aa ab aa) aa (fun i => decide (Builtin.bitAnd ((0 : Int).fdiv ((2 : Int) ^ i)) 1 = 0)) 4 else 0
noncomputable def q7 (aa ab : Nat) (hw : Bool) : List Nat := dR ⟨aT (fF aa ab aa) aa ab, 0, gy aa ab hw, -1, 0, 1⟩ aa
theorem zl (aa k : Nat) : sU aa k < 3 := by unfold sU; split; decide; split <;> decide
theorem wL {n aa ab : Nat} {hw : Bool} {H Q} (hf : 78 < n) (h1 : 2 ≤ aa ∧ aa ≤ 8) (h2 : 3 ≤ ab ∧ ab ≤ 8) (hs : aa * ab ≤ 35) (hok : ∀ c ∈ fF aa ab aa, c = 46 ∨ c ∈ letters) (hr : gy aa ab hw < 16) (h : Q (.str (q7 aa ab hw)) H) : (cf n).Sp 78 [.int aa, .int ab, .bool hw] H Q := by
 have gT : 3 * aa ≤ aa * ab := by rw [Nat.mul_comm 3]; exact Nat.mul_le_mul_left _ h2.1
 have s1 : aa * ab ≤ 1000 := az hs rfl
 have r6 : ab ≤ 1000000 := az h2.2 rfl
 refine au hf rfl rfl fun m hm => ?_
 refine aj (aY (qP (k := aa * ab) (by walk_at "v") (fun t => by walk_at "v") ⟨s1⟩ fun t1 c => ?_))
 refine jY (n := aa) (by walk_at "v") (fun k af H' => af 0 = some (.int aa) ∧ af 1 = some (.int ab) ∧ af 2 = some (.bool hw) ∧ af 3 = some (.ref c) ∧ H' = (c, .list (aK (fF aa ab k))) :: H) ((c, .list (aK (List.replicate (aa * ab) 46))) :: H) (by walk_at "sb") ⟨az h1.2 rfl⟩ ⟨rfl, rfl, rfl, rfl, rfl⟩ ?_ ?_
 ·rintro k af H' Q' hk ⟨f0, f1, f2, f3, rfl⟩ hq
  have bl := kS aa ab k
  rw [oG] at hq
  unfold mw at hq
  dsimp only at hq
  generalize fF aa ab k = L at *
  have l1 : L.length ≤ 10000 := bl ▸ az hs rfl
  have body : ∀ (kk : Nat) (bv : ap) (G : List Nat → Hp), sU aa k = kk → (∀ X Y, Upd c (.list (aK X)) (.list (aK Y)) (G X) (G Y)) → (∀ X, Sb ((c, .list (aK X)) :: H) (G X)) → bv 0 = some (.int aa) → bv 1 = some (.int ab) → bv 2 = some (.bool hw) → bv 3 = some (.ref c) → bv 4 = some (.int k) → bv 5 = some (.int kk) →
    WB (cf m) ((ja.body.drop 1).fb.drop 1) bv (G L) Q' := by
   intro kk bv G ekk gu gs g0 g1 g2 g3 g4 g5
   have kb : kk < 3 := ekk ▸ zl aa k
   rw [ekk] at hq
   have b0 : k < L.length := by rw [bl]; (exact ln [_,_,_] [.le (.k 3 (.v 2)) (.v 1),.lt (.v 0) (.v 2)] (.lt (.v 0) (.v 1)) [1,1,3] rfl gT hk)
   refine qO (by walk_at "v") (by walk_at "v") (by walk_at "v") (gu L _) (by walk_at "sl") ?_
   refine aj (kI ((Ev.s (m := m) (v := .str [[107, 114, 46].getD kk 0]) (by walk_at "v")) _ ((Ev.s (m := m) (v := .ref c) (by walk_at "v")) _ ((Ev.s (m := m) (v := .int ((k : Int) - (aa : Int))) (f9 (cT g4) (cT g0) Op.sub)) _ (sS (j := aa * ab - aa + k) (gu _ _) ?_ ?_ ?_ ?_ ?_)))))
   ·rw [List.length_set, bl]; (exact kv [_,_,_,_] [] [.eq (.a (.v 3) (.v 1)) (.v 2)] (.a (.s (.c (.v 0)) (.c (.v 1))) (.c (.v 2))) (.c (.a (.v 3) (.v 0))) [1,-1] [1,1] rfl rfl (aM (ln [_,_] [.le (.k 3 (.v 0)) (.v 1)] (.le (.v 0) (.v 1)) [1,1] rfl gT)))
   ·rw [List.length_set, bl]; (exact ln [_,_,_,_] [.lt (.v 1) (.v 3),.eq (.a (.v 0) (.v 3)) (.v 2)] (.lt (.a (.v 0) (.v 1)) (.v 2)) [1,1,1] rfl hk (aM (ln [_,_] [.le (.k 3 (.v 0)) (.v 1)] (.le (.v 0) (.v 1)) [3,1] rfl gT)))
   ·(exact ln [_,_] [.lt (.v 0) (.v 1)] (.LT (.s (.c (.v 0)) (.c (.v 1))) (.n 0)) [1,1] rfl hk)
   ·rw [List.length_set]; exact l1
   generalize [107, 114, 46].getD kk 0 = z2 at *
   generalize [75, 82, 46].getD kk 0 = z1 at *
   have Bp : ((L.set k z1).set (aa * ab - aa + k) z2).length = aa * ab := by rw [List.length_set, List.length_set]; exact bl
   generalize (L.set k z1).set (aa * ab - aa + k) z2 = L4 at *
   have l4 : L4.length ≤ 10000 := Bp ▸ az hs rfl
   walk_at "S"
   refine bF (fun c3 => ?_) (fun c3 => ?_)
   ·rw [if_pos c3] at hq
    have b1 : aa + k < L4.length := by rw [Bp]; (exact ln [_,_,_] [.le (.k 3 (.v 0)) (.v 2),.lt (.v 1) (.v 0)] (.lt (.a (.v 0) (.v 1)) (.v 2)) [1,1,1] rfl gT hk)
    refine qO (by walk_at "v") (by walk_at "v") (by walk_at "v") (gu L4 _) (by walk_at "sl") ?_
    refine aj (kI ((Ev.s (m := m) (v := .str [112]) (by walk_at "v")) _ ((Ev.s (m := m) (v := .ref c) (by walk_at "v")) _ ((Ev.s (m := m) (v := .int ((k : Int) - ((2 * aa : Nat) : Int))) (f9 (cT g4) (by walk_at "v") Op.sub)) _ (sS (j := aa * ab - 2 * aa + k) (gu _ _) ?_ ?_ ?_ ?_ ?_)))))
    ·rw [List.length_set, Bp]; (exact kv [_,_,_,_] [] [.eq (.a (.v 3) (.k 2 (.v 1))) (.v 2)] (.a (.s (.c (.v 0)) (.c (.k 2 (.v 1)))) (.c (.v 2))) (.c (.a (.v 3) (.v 0))) [1,-1] [1,1] rfl rfl (aM (ln [_,_] [.le (.k 3 (.v 0)) (.v 1)] (.le (.k 2 (.v 0)) (.v 1)) [1,1] rfl gT)))
    ·rw [List.length_set, Bp]; (exact ln [_,_,_,_] [.lt (.v 1) (.v 3),.eq (.a (.v 0) (.k 2 (.v 3))) (.v 2)] (.lt (.a (.v 0) (.v 1)) (.v 2)) [1,2,1] rfl hk (aM (ln [_,_] [.le (.k 3 (.v 0)) (.v 1)] (.le (.k 2 (.v 0)) (.v 1)) [3,2] rfl gT)))
    ·(exact ln [_,_] [.lt (.v 0) (.v 1)] (.LT (.s (.c (.v 0)) (.c (.k 2 (.v 1)))) (.n 0)) [1,2] rfl hk)
    ·rw [List.length_set]; exact l4
    exact an (an (hq _ _ _ (gs _) ⟨g0, g1, g2, g3, rfl⟩).1)
   ·rw [if_neg c3] at hq
    exact an (an (hq _ _ _ (gs _) ⟨g0, g1, g2, g3, rfl⟩).1)
  refine aj (aY (tP (by walk_at "t") (bF (fun c1 => ?_) (fun c1 => ?_))))
  ·exact kM (v := .int (0 : Nat)) (by walk_at "v") (body 0 _ (fun X => (c, .list (aK X)) :: H) (by unfold sU; rw [if_pos c1]) (fun _ _ => .here) (fun _ => .refl) f0 f1 f2 f3 rfl rfl)
  ·refine AI (j := 0) (by walk_at "v") (by walk_at "vs") (fun a => bF (fun c2 => ?_) (fun c2 => ?_))
   ·exact kM (v := .int (1 : Nat)) (by walk_at "v") (body 1 _ (fun X => (a, _) :: (c, .list (aK X)) :: H) (by unfold sU; rw [if_neg c1, if_pos c2]) (fun _ _ => .there .here) (fun _ => .skip .refl) f0 f1 f2 f3 rfl rfl)
   ·exact kM (v := .int (2 : Nat)) (by walk_at "v") (body 2 _ (fun X => (a, _) :: (c, .list (aK X)) :: H) (by unfold sU; rw [if_neg c1, if_neg c2]) (fun _ _ => .there .here) (fun _ => .skip .refl) f0 f1 f2 f3 rfl rfl)
 ·rintro af H' ⟨f0, f1, f2, f3, rfl⟩
  have bl := kS aa ab aa
  have l1 : (fF aa ab aa).length ≤ 100 := bl ▸ az hs rfl
  have fin : ∀ r : Nat, gy aa ab hw = r → cN (cf m) (.cons (.neg (.ae 1)) (.cons (.ae 0) (.cons (.ae 1) .nil))) af ((c, .list (aK (fF aa ab aa))) :: H) fun vs H₁ => (cf m).Sp 77 (.ref c :: .int aa :: .int (0 : Nat) :: .int r :: vs) H₁ fun v H₂ => bT Q (.ret v) af H₂ := by
   intro r er
   refine df (vs := [.int (-1), .int (0 : Nat), .int (1 : Nat)]) (by walk_at "vs") ?_
   refine oo (n := m) (ab := ab) (aq hm rfl) (.head _) (by rw [bl, Nat.mul_comm]) h1 h2 (by rw [Nat.mul_comm]; exact hs) hok (by decide) (er ▸ hr) ⟨by decide, Int.lt_of_lt_of_le (by decide) (Int.natCast_nonneg _)⟩ (by decide) (by decide) ?_
   exact ⟨H, .skip .refl, er ▸ h⟩
  refine aj (gq (w_call (jo (v := .ref c) (by walk_at "v") (jo (v := .int aa) (by walk_at "v") (jo (v := .int (0 : Nat)) (by walk_at "v") (lU (tP (c := hw) (by walk_at "t") ?_)))))))
  cases hw with
  | true => exact w_call (df (vs := [.ref c, .int aa, .int (0 : Nat)]) (by walk_at "vs") (oa (n := m) (L := fF aa ab aa) (aq hm rfl) (.head _) l1 h1.1 h1.2 (by (exact ln [_,_,_] [.le (.k 3 (.v 0)) (.v 2),.eq (.v 1) (.v 2)] (.le (.k 2 (.v 0)) (.v 1)) [1,1,-1] rfl gT bl)) (fin _ rfl)))
  | false => exact kM (v := .int (0 : Nat)) (by walk_at "v") (fin 0 rfl)
noncomputable def Hl : List Nat := [80, 78, 66, 82, 81, 75, 45, 45, 112, 110, 98, 114, 113, 107]
theorem Bq : ∀ c, c < 128 → (c = 46 ∨ c ∈ letters) → Txt.find (st Hl) (st [c]) + 1 = (cd c : Int) := by decide +kernel
theorem pV (Z : ZD) (bl : List Nat) (size : Nat) : ∀ k, (∀ x ∈ (av Z bl k (P0 size)).k, x < 2 ^ k) ∧ (∀ x ∈ (av Z bl k (P0 size)).s, x < 2 ^ k)
 | 0 => ⟨fun x hx => by simp [av, P0] at hx; (exact ln [_] [.eq (.v 0) (.n 0)] (.lt (.v 0) (.n 1)) [1,1] rfl hx), fun x hx => by simp [av, P0] at hx; (exact ln [_] [.eq (.v 0) (.n 0)] (.lt (.v 0) (.n 1)) [1,1] rfl hx)⟩
 | k + 1 => by
  obtain ⟨h1, h2⟩ := pV Z bl size k
  rw [bU]
  have e : 2 ^ k < 2 ^ (k + 1) := Nat.pow_lt_pow_right (by decide) (by exact Nat.le_refl _)
  have sh : 1 <<< k < 2 ^ (k + 1) := by rw [Nat.shiftLeft_eq, Nat.one_mul]; exact e
  have kT : ∀ (l : List Nat) (i : Nat), (∀ x ∈ l, x < 2 ^ k) → l.getD i 0 < 2 ^ (k + 1) := by
   intro l i hl
   rw [List.getD_eq_getElem?_getD]
   cases q : l[i]? with
   | none => simp [Nat.two_pow_pos]
   | some y => exact Nat.lt_trans (hl y (List.mem_of_getElem? q)) e
  unfold putK
  split
  ·exact ⟨fun x hx => Nat.lt_trans (h1 x hx) e, fun x hx => Nat.lt_trans (h2 x hx) e⟩
  ·unfold putD
   constructor
   ·intro x hx
    rcases List.mem_or_eq_of_mem_set hx with q | q
    ·exact Nat.lt_trans (h1 x q) e
    ·rw [q]; exact Nat.or_lt_two_pow (kT _ _ h1) sh
   ·intro x hx
    rcases List.mem_or_eq_of_mem_set hx with q | q
    ·exact Nat.lt_trans (h2 x q) e
    ·rw [q]; exact Nat.or_lt_two_pow (kT _ _ h2) sh
theorem re {x k : Nat} (h : x < 2 ^ k) : x + 1 <<< k = x ||| 1 <<< k := by
 have e := Nat.two_pow_add_eq_or_of_lt h 1
 rw [Nat.mul_one] at e
 rw [Nat.shiftLeft_eq, Nat.one_mul, Nat.add_comm, e, Nat.or_comm]
noncomputable def mx (Z : ZD) (aa mv rights : Nat) (kept : Int) : Nat := Z.rt.getD rights 0 ^^^ (if mv = 0 then 0 else Z.sd) ^^^ (if 0 ≤ kept then Z.ep.getD (kept.toNat % aa) 0 else 0)
theorem uw (Z : ZD) (P : PD) (aa : Nat) (hs : P.side < 2) : mx Z aa P.side P.rights P.ep = j' Z P aa := by
 unfold mx j'
 rw [Nat.xor_assoc, Nat.xor_assoc, Nat.xor_comm (if P.side = 0 then 0 else Z.sd)]
 congr 2
 obtain e | e : P.side = 0 ∨ P.side = 1 := by exact fZ hs
 ·rw [e]; rfl
 ·rw [e]; rfl
theorem zm {m aa size mv rights : Nat} {kept : Int} {ρ : ap} {H : Hp} {D : ZA} {Z : ZD} (hz : dK D Z aa size H) (hf : 2 ≤ aa ∧ aa ≤ 8) (hr : rights < 16) (e6 : ρ 6 = some (.int mv)) (pd : ρ 12 = some (.int kept)) (Dm : ρ 14 = some (.int rights)) (FL : ρ 18 = some (.ref D.z)) (gc : ρ 27 = some (.int aa)) :
  Ev m ρ H (.bin .BitXor (.bin .BitXor (.idx (.attr (.var 18) 17) (.var 14)) (.du (.var 6) (.attr (.var 18) 18) (.ae 0))) (.du (.cmp .GtE (.var 12) (.ae 0)) (.idx (.attr (.var 18) 16) (.bin .Mod (.var 12) (.var 27))) (.ae 0))) (.int (mx Z aa mv rights kept)) := by
 obtain ⟨z1, z2, z3, z4, z5, z6, z7, z8, z9, Fk, AN, Fm, AO⟩ := hz
 have rl : rights < Z.rt.length := AO.symm ▸ hr
 have HT : Z.rt.length ≤ 10000 := AO ▸ ai rfl
 have el2 : Z.ep.length ≤ 10000 := AN ▸ az hf.2 rfl
 have f0 : 0 < aa := Nat.lt_of_lt_of_le (by decide) hf.1
 refine f9 (f9 (by walk_at "v") (jZ (v := .int ((if mv = 0 then 0 else Z.sd : Nat) : Int)) (tO (cT e6) rfl rfl) (fun h => ?_) (fun h => ?_)) (wf rfl ⟨trivial⟩)) (jZ (v := .int ((if 0 ≤ kept then Z.ep.getD (kept.toNat % aa) 0 else 0 : Nat) : Int)) (tO (wh (cT pd) (gR rfl) (tN rfl)) rfl rfl) (fun h => ?_) (fun h => ?_)) (wf rfl ⟨trivial⟩)
 ·rw [if_neg (of_decide_eq_true h)]; walk_at "v"
 ·rw [if_pos (Decidable.not_not.mp (of_decide_eq_false h))]; exact cU
 ·have h := of_decide_eq_true h
  rw [if_pos h]
  obtain ⟨k, rfl⟩ := Int.eq_ofNat_of_zero_le h
  have kl : k % aa < Z.ep.length := AN.symm ▸ Nat.mod_lt _ f0
  walk_at "v"
 ·rw [if_neg (of_decide_eq_false h)]; exact cU
theorem wM {m : Nat} {ρ : ap} {ka sa ba size mv aa : Nat} {D : ZA} {Z : ZD} {bl : List Nat} {key0 : Nat} {H H0 : Hp} {Q : SQ} (hsb : Sb ((ka, .list (ak (List.replicate 7 0))) :: (sa, .list (ak [0, 0])) :: H) H0) (hz : dK D Z aa size H) (hb : (ba, .list (ak bl)) ∈ H) (yV : bl.length = size) (hsz : size ≤ 35) (hok : ∀ s, s < bl.length → bl.getD s 0 = 0 ∨ bM (bl.getD s 0))
  (e3 : ρ 3 = some (.int size)) (FL : ρ 18 = some (.ref D.z)) (Hm : ρ 20 = some (.ref ba)) (Hn : ρ 21 = some (.ref ka)) (Ho : ρ 22 = some (.ref sa)) (Hq : ρ 23 = some (.int key0)) (J : ap → Prop) (hJ : J ρ) (FM : ∀ ρ v, J ρ → J ((ρ.set 24 v))) (Hr : ∀ ρ v, J ρ → J (ρ.set 23 v))
  (hq : ∀ af, J af → af 20 = some (.ref ba) → af 21 = some (.ref ka) → af 22 = some (.ref sa) → af 23 = some (.int (fj (gb Z bl) size key0 : Nat)) → WB (cf m) (eX.body.drop 28) af ((ka, .list (ak (av Z bl size (P0 size)).k)) :: (sa, .list (ak (av Z bl size (P0 size)).s)) :: H) Q) :
  WB (cf m) (eX.body.drop 27) ρ H0 Q := by
 obtain ⟨z1, z2, z3, z4, z5, z6, z7, z8, z9, Fk, AN, Fm, AO⟩ := hz
 have FN : size ≤ 10000 := az hsz rfl
 refine jY (n := size) (by walk_at "v") (fun k af H' => J af ∧ af 3 = some (.int size) ∧ af 18 = some (.ref D.z) ∧ af 20 = some (.ref ba) ∧ af 21 = some (.ref ka) ∧ af 22 = some (.ref sa) ∧ af 23 = some (.int (fj (gb Z bl) k key0 : Nat)) ∧ H' = (ka, .list (ak (av Z bl k (P0 size)).k)) :: (sa, .list (ak (av Z bl k (P0 size)).s)) :: H) _ hsb ⟨FN⟩ ⟨hJ, e3, FL, Hm, Hn, Ho, Hq, rfl⟩ ?_ ?_
 ·rintro k af H' Q' hk ⟨hJ', f3, Dn, Br, Bs, Bt, Do, rfl⟩ hq2
  obtain ⟨l1, l2, l3⟩ := cx Z bl (P0 size) k
  have Hs : (av Z bl k (P0 size)).k.length = 7 := l2.trans (List.length_replicate ..)
  have Ht : (av Z bl k (P0 size)).s.length = 2 := l3
  obtain ⟨b1, b2⟩ := pV Z bl size k
  have k1 : k ≤ 1000 := Nat.le_trans (Nat.le_of_lt hk) (az hsz rfl)
  have k2 : k < bl.length := yV ▸ hk
  have k3 : bl.length ≤ 10000 := yV ▸ FN
  rw [bU, lz] at hq2
  unfold putK gb at hq2
  walk_at "S"
  refine bF (fun e => ?_) (fun e => ?_)
  ·rw [if_neg e, if_neg e] at hq2
   unfold putD at hq2
   have hp := (hok k k2).resolve_left e
   obtain ⟨r1, r2, r3⟩ := z9 _ hp
   obtain ⟨h7, h2, hlt⟩ := vo hp
   have kT : ∀ (l : List Nat) (i : Nat), (∀ x ∈ l, x < 2 ^ k) → l.getD i 0 < 2 ^ k := by
    intro l i hl
    rw [List.getD_eq_getElem?_getD]
    cases q : l[i]? with
    | none => simp [Nat.two_pow_pos]
    | some y => exact hl y (List.mem_of_getElem? q)
   rw [show bl.getD k 0 &&& 7 = bl.getD k 0 % 8 from Nat.and_two_pow_sub_one_eq_mod _ 3, show bl.getD k 0 >>> 3 = bl.getD k 0 / 8 from Nat.shiftRight_eq_div_pow _ 3, ← re (kT _ (bl.getD k 0 % 8) b1), ← re (kT _ (bl.getD k 0 / 8) b2)] at hq2
   clear b1 b2 kT
   generalize (av Z bl k (P0 size)).k = KK at *
   generalize (av Z bl k (P0 size)).s = SS at *
   have m1 : bl.getD k 0 % 8 < KK.length := Hs.symm ▸ h7
   have m2 : bl.getD k 0 / 8 < SS.length := Ht.symm ▸ h2
   walk_at "G"
   refine (hq2 _ _ _ .refl ?_).1
   exact ⟨Hr _ _ (FM _ _ hJ'), f3, Dn, Br, Bs, Bt, rfl, rfl⟩
  ·have e : bl.getD k 0 = 0 := Decidable.not_not.mp e
   rw [if_pos e, if_pos e, Nat.xor_zero] at hq2
   walk_at "G"
   refine (hq2 _ _ _ .refl ?_).1
   exact ⟨FM _ _ hJ', f3, Dn, Br, Bs, Bt, Do, rfl⟩
 ·rintro af H' ⟨hJ', f3, Dn, Br, Bs, Bt, Do, rfl⟩
  exact hq _ hJ' Br Bs Bt Do
structure FO (aa ab : Nat) (hd hw : Bool) (L : List Nat) (mv rights : Nat) (ep kept : Int) (half full : Nat) : Prop where
 f : 2 ≤ aa ∧ aa ≤ 8
 r : 3 ≤ ab ∧ ab ≤ 8
 s : aa * ab ≤ 35
 l : L.length = ab * aa
 c : ∀ x ∈ L, x = 46 ∨ x ∈ letters
 m : mv < 2
 rt : rights < 16
 e : -1 ≤ ep ∧ ep < (aa * ab : Nat)
 k : -1 ≤ kept ∧ kept < (aa * ab : Nat)
 h : half < 10 ^ 15
 fu : 1 ≤ full ∧ full < 10 ^ 15
 g : ∀ d, d < 8 → fE (b9 aa ab hd hw) d = true
 bs : ∃ bs, bs.flatten = L.map cd ∧ AX ⟨aT L aa ab, mv, rights, ep, half, full⟩ aa ab bs
 b : ∃ k0 k1, ∀ Z, A0 (aO aa ab hd hw) Z (L.map cd) mv rights ep half full k0 k1
 ke : ∀ Z, dS (aO aa ab hd hw) Z (L.map cd) mv ep = kept
 s1 : oE (aO aa ab hd hw) = q7 aa ab hw
 s2 : ∀ p ∈ fV aa ab aa, p = 0 ∨ bM p
 s3 : cF (aO aa ab hd hw) 4 < 16
 s4 : ∀ c ∈ fF aa ab aa, c = 46 ∨ c ∈ letters
 s5 : gy aa ab hw < 16
 w : aP (L.map cd) aa ab = aT L aa ab
theorem kq : ∀ l : List Int, PyData.canLayAll0 (l.map .int) = true
 | [] => by simp [PyData.canLayAll0]
 | s :: l => by simp only [List.map_cons, PyData.canLayAll0, PyData.canLay0, kq l, Bool.and_self]
theorem depthAll_ints : ∀ l : List Int, PyData.depthAll (l.map .int) = 0
 | [] => by simp [PyData.depthAll]
 | s :: l => by simp [PyData.depthAll, PyData.depth, depthAll_ints l]
noncomputable def pW (X : List Nat) : List Int := X.map fun (x : Nat) => (x : Int)
theorem ux (X : List Nat) : ak X = (pW X).map V.int := by simp [ak, pW]
theorem eG {a : Nat} {X : List Nat} {H : Hp} (m : (a, O.list (ak X)) ∈ H) : Den H (.ref a) (.list ((pW X).map .int)) := .lints (by rw [← ux]; exact m)
noncomputable def iP (b k s : List Nat) (i1 i2 i3 i4 i5 i6 : Int) : List PyData := [.list ((pW b).map .int), .list ((pW k).map .int), .list ((pW s).map .int), .int i1, .int i2, .int i3, .int i4, .int i5, .int i6, .list (([] : List Int).map .int)]
theorem lG (b k s : List Nat) (i1 i2 i3 i4 i5 i6 : Int) : (PyData.tuple (iP b k s i1 i2 i3 i4 i5 i6)).canLay0 = true := by
 simp [iP, PyData.canLay0, PyData.canLayAll0, kq]
theorem iy (b k s : List Nat) (i1 i2 i3 i4 i5 i6 : Int) : SeqAt.shaped (.tuple (iP b k s i1 i2 i3 i4 i5 i6)) = true := by
 unfold SeqAt.shaped
 rw [lG]
 simp [iP, PyData.depth, PyData.depthAll, depthAll_ints]
theorem Bu {m c aa ab mv rights half full : Nat} {hd hw : Bool} {ep kept : Int} {L : List Nat} {ρ : ap} {H : Hp} {Q : V → Hp → Prop} (hm : 79 = m) (ok : FO aa ab hd hw L mv rights ep kept half full) (mc : (c, .list (aK L)) ∈ H) (hsf : (gQ, .tup ot) ∈ H) (hsr : (dX, .tup f') ∈ H)
  (e3 : ρ 3 = some (.int (aa * ab : Nat))) (e4 : ρ 4 = some (.bool hd)) (e5 : ρ 5 = some (.bool hw)) (e6 : ρ 6 = some (.int mv)) (e7 : ρ 7 = some (.ref c)) (rf : ρ 11 = some (.int ep)) (pd : ρ 12 = some (.int kept)) (Dm : ρ 14 = some (.int rights)) (Hu : ρ 15 = some (.int half)) (Hv : ρ 16 = some (.int full)) (gc : ρ 27 = some (.int aa)) (gK : ρ 28 = some (.int ab))
  (h : ∀ H', Q (.bool true) H') : WB (cf m) (eX.body.drop 20) ρ H (bT Q) := by
 obtain ⟨of, or', os, ol, oc, om, Bv, oe, ok', oh, Dp, og, ⟨bs, obs, Hw⟩, ⟨k0, k1, ob⟩, Hx, os1, os2, Hy, Hz, HA, ow⟩ := ok
 have go := FI aa ab hd hw of or' os
 have Ce : ∀ s, s < (L.map cd).length → (L.map cd).getD s 0 = 0 ∨ bM ((L.map cd).getD s 0) := (ob ⟨fun _ => [], [], [], 0⟩).ok
 have A2 : (L.map cd).length = aa * ab := (ob ⟨fun _ => [], [], [], 0⟩).l
 have hg0 : ∀ {G : GD} {B : GA} {H1 H2 : Hp}, aS B G H2 → aS B G (H1 ++ H2) := fun {G B H1 H2} hg => by
  induction H1 with
  | nil => exact hg
  | cons x H2 ih => exact ih.up
 walk_at "S"
 refine Dk (n := m) (aq hm rfl) of or' os hsf hsr og (fun B H1 hg => ?_)
 have mc := List.mem_append_right H1 mc
 have hsf := List.mem_append_right H1 hsf
 have hsr := List.mem_append_right H1 hsr
 generalize H1 ++ H = Ha at *
 walk_at "S"
 refine Bi (n := m) (aq hm rfl) hg go (fun D Z H2 hz => ?_)
 have hg : aS B (aO aa ab hd hw) (H2 ++ Ha) := hg0 hg
 have mc := List.mem_append_right H2 mc
 have hsr := List.mem_append_right H2 hsr
 generalize H2 ++ Ha = Hb at *
 clear hg0
 refine aj (aY (w_call (lU (w_call (df (vs := [.ref c, .int aa, .int mv, .int rights, .int ep, .int half, .int full]) (by walk_at "vs") (oo (n := m) (aq hm rfl) mc ol of or' (by rw [Nat.mul_comm]; exact os) oc om Bv oe oh Dp.2 ?_))))))
 refine df (vs := [.ref B.g, .ref D.z]) (by walk_at "vs") ?_
 refine A4 (n := m) (T := ⟨aT L aa ab, mv, rights, ep, half, full⟩) (bs := bs) (aq hm rfl) hg go hz hsr Hw (by rw [obs]; exact ob Z) (fun A => ?_)
 rw [obs, show dS (aO aa ab hd hw) Z (L.map cd) mv ep = kept from Hx Z]
 have hgf : (aO aa ab hd hw).aa = aa := rfl
 have hgr : (aO aa ab hd hw).ab = ab := rfl
 have bk := ob Z
 have same : (av Z (L.map cd) (aa * ab) (P0 (aa * ab))).b = L.map cd := bk.same
 generalize hP : vk Z (L.map cd) (aO aa ab hd hw).aa ((aO aa ab hd hw).aa * (aO aa ab hd hw).ab) mv rights half full kept = P at *
 have FP : (c, O.list (aK L)) ∈ dy A B.g D.z P Hb := .tail _ (.tail _ (.tail _ (.tail _ (.tail _ (.tail _ mc)))))
 have ll : L.length ≤ 100 := by rw [ol, Nat.mul_comm]; exact az os rfl
 have FQ : dK D Z aa (aa * ab) (dy A B.g D.z P Hb) := hz.up.up.up.up.up.up
 have hgP : aS B (aO aa ab hd hw) (dy A B.g D.z P Hb) := hg.up.up.up.up.up.up
 have hp0 : bB A B.g D.z P (dy A B.g D.z P Hb) := bB.here
 generalize dy A B.g D.z P Hb = Hc at *
 refine aj (aY (AJ (v := .ref c) (by walk_at "v") ⟨some c, aK L, .list FP (by rw [cP]; exact az ll rfl), ?_⟩))
 refine iH (fun k acc H' => acc = ak ((L.take k).map cd) ∧ H' = Hc) ⟨rfl, rfl⟩ (fun _ _ _ e => by rw [e.2]; exact FP) (fun k acc H' e => by rw [e.1, cO, List.length_map, List.length_take]; exact Nat.le_trans (Nat.min_le_right _ _) (az ll rfl)) ?_ ?_
 ·rintro k x acc H' Q' hx ⟨rfl, rfl⟩ hh
  have hkl : k < L.length := by have := (List.getElem?_eq_some_iff.mp hx).1; rwa [cP] at this
  rw [pF hkl] at hx
  cases Option.some.inj hx
  have hck : L[k]? = some (L.getD k 0) := by rw [List.getD_eq_getElem?_getD, List.getElem?_eq_getElem hkl]; rfl
  have hcm : L.getD k 0 ∈ L := List.mem_of_getElem? hck
  have Dq : L.getD k 0 < 128 := by
   rcases oc _ hcm with e | e
   ·rw [e]; decide
   ·exact (cC _ e).1
  refine hh true _ (fun _ Q2 hq2 => ?_) (fun e => by cases e)
  refine kM (v := .int (cd (L.getD k 0) : Nat)) ?_ (hq2 _ _ ⟨?_, rfl⟩)
  ·rw [← Bq _ Dq (oc _ hcm)]
   exact f9 (u5 (gR rfl) (cT rfl) ⟨by decide⟩ ⟨ai rfl⟩) (gR rfl) Op.add
  ·rw [take_snoc hck, List.map_append, ← pK]; rfl
 ·rintro acc H' ⟨rfl, rfl⟩ ba
  rw [cP, List.take_length]
  have m7 : (7 : Nat) ≤ 1000 := by decide
  refine aj (aY (io (k := 7) (x := 0) (by walk_at "v") (fun t => by walk_at "v") ⟨m7⟩ fun t1 ka => ?_))
  refine aj (aY (bu (df (vs := [.int (0 : Nat), .int (0 : Nat)]) (by walk_at "vs") ⟨ai rfl, fun sa => ?_⟩)))
  refine fg (zm FQ.up.up.up.up of Bv e6 pd Dm rfl gc) ?_
  refine wM (ka := ka) (sa := sa) (H := (ba, .list (ak (L.map cd))) :: H') (mv := mv) (.pick (.there .here) (.pick .here (.skip .refl))) FQ.up (.head _) A2 os Ce e3 rfl rfl rfl rfl rfl
    (fun bv => bv 5 = some (.bool hw) ∧ bv 6 = some (.int mv) ∧ bv 7 = some (.ref c) ∧ bv 12 = some (.int kept) ∧ bv 14 = some (.int rights) ∧ bv 15 = some (.int half) ∧ bv 16 = some (.int full) ∧ bv 17 = some (.ref B.g) ∧ bv 19 = some (.ref A.x) ∧ bv 27 = some (.int aa) ∧ bv 28 = some (.int ab))
    ⟨e5, e6, e7, pd, Dm, Hu, Hv, rfl, rfl, gc, gK⟩ (fun _ _ h => h) (fun _ _ h => h) (fun af hJ' HU HV HW HB => ?_)
  obtain ⟨j5, j6, j7, HX, HY, HZ, H7, H8, H9, Ia, Ib⟩ := hJ'
  have pb : P.b = L.map cd := by rw [← hP]; exact same
  have pk : P.k = (av Z (L.map cd) (aa * ab) (P0 (aa * ab))).k := by rw [← hP]; rfl
  have ps : P.s = (av Z (L.map cd) (aa * ab) (P0 (aa * ab))).s := by rw [← hP]; rfl
  have p1 : P.side = mv ∧ P.rights = rights ∧ P.ep = kept ∧ P.half = half ∧ P.full = full := by rw [← hP]; exact ⟨rfl, rfl, rfl, rfl, rfl⟩
  have Cg : P.key = fj (gb Z (L.map cd)) (aa * ab) (mx Z aa mv rights kept) := by
   rw [← hP]
   show fj (gb Z (av Z (L.map cd) (aa * ab) (P0 (aa * ab))).b) (aa * ab) (j' Z (aV Z (L.map cd) (aa * ab) mv rights half full kept) aa) = _
   rw [same, ← uw Z (aV Z (L.map cd) (aa * ab) mv rights half full kept) aa om]; rfl
  obtain ⟨p1, p2, p3, p4, p5⟩ := p1
  rw [← pk, ← ps, ← pb]
  rw [← Cg] at HB
  clear pk ps Cg same bk hP
  have hp1 := hp0
  obtain ⟨q1, q2, q3, q4, q5, q6⟩ := hp0
  subst p1 p2 p3 p4 p5
  refine aj (aY (qR (df (vs := [.ref A.bd, .ref A.kd, .ref A.sd, .int P.side, .int P.rights, .int P.ep, .int P.half, .int P.full, .int P.key, .ref A.hd]) (by walk_at "vs") ⟨ai rfl, fun gt => ?_⟩)))
  refine aj (aY (qR ?_))
  iterate 9 (apply jo; walk_at "v")
  refine lU (bu (df .nil ⟨ai rfl, fun hh => df .nil ⟨ai rfl, fun wt => ?_⟩⟩))
  refine C0 (w_call (df (vs := [.ref B.g]) (by walk_at "vs") (Bo (n := m) (aq hm rfl) hgP.up.up.up.up.up.up go os2 Hy ?_)))
  refine w_call (df (vs := [.int aa, .int ab, .bool hw]) (by walk_at "vs") (wL (n := m) (aq hm rfl) of or' os Hz HA ?_))
  rw [os1]
  refine (tN rfl) _ _ ?_
  rw [decide_eq_false (fun q => q rfl)]
  refine an (aj (gq (yE (i := gt) (j := wt) (da := .tuple (iP P.b P.k P.s P.side P.rights P.ep P.half P.full P.key)) (db := .tuple (iP P.b P.k P.s P.side P.rights P.ep P.half P.full P.key)) (by walk_at "v") (by walk_at "v") ?_ ?_ (iy ..) (iy ..) (SeqAt.eqv_refl _ (lG ..)) (uZ (nT (w_call (df (vs := [.ref A.x]) (by walk_at "vs") ?_)))))))
  ·refine .tup (vs := [V.ref A.bd, V.ref A.kd, V.ref A.sd, V.int P.side, V.int P.rights, V.int P.ep, V.int P.half, V.int P.full, V.int P.key, V.ref A.hd]) (by walk_at "m") (.cons (eG ?_) (.cons (eG ?_) (.cons (eG ?_) (.cons (.int _) (.cons (.int _) (.cons (.int _) (.cons (.int _) (.cons (.int _) (.cons (.int _) (.cons (.lints (is := []) ?_) .nil))))))))))
   all_goals walk_at "m"
  ·refine .tup (vs := [V.ref ba, V.ref ka, V.ref sa, V.int P.side, V.int P.rights, V.int P.ep, V.int P.half, V.int P.full, V.int P.key, V.ref hh]) (by walk_at "m") (.cons (eG ?_) (.cons (eG ?_) (.cons (eG ?_) (.cons (.int _) (.cons (.int _) (.cons (.int _) (.cons (.int _) (.cons (.int _) (.cons (.int _) (.cons (.lints (is := []) ?_) .nil))))))))))
   all_goals walk_at "m"
  have HC : Dc (aO aa ab hd hw) P := ⟨by rw [pb, A2, Nat.mul_comm]; rfl, by rw [pb, A2]; exact az os rfl, fun p hp => by
   rw [pb] at hp
   obtain ⟨j, hj⟩ := List.mem_iff_getElem?.mp hp
   have jl := (List.getElem?_eq_some_iff.mp hj).1
   have := Ce j jl
   rwa [List.getD_eq_getElem?_getD, hj] at this, fun k => oy _ _ k of.2, Bv, om, ok', oh, Dp.2⟩
  refine A6 (n := m) (z := D.z) (P := P) (aq hm rfl) hp1.up.up.up.up.up.up hgP.up.up.up.up.up.up go HC ?_
  refine w_call (df (vs := [.ref c, .int aa, .int P.side, .int P.rights, .int P.ep, .int P.half, .int P.full]) (by walk_at "vs") (oo (n := m) (ab := ab) (aq hm rfl) (by walk_at "m") ol of or' (by rw [Nat.mul_comm]; exact os) oc om Bv ok' oh Dp.2 ?_))
  rw [pb, show aP (L.map cd) (aO aa ab hd hw).aa (aO aa ab hd hw).ab = aT L aa ab from ow]
  refine (tN rfl) _ _ ⟨_, Sb.refl, ?_⟩
  rw [decide_eq_true (by rfl)]
  exact h _
noncomputable def my : List Nat := [80, 78, 66, 82, 81, 75]
noncomputable def own (mv c : Nat) : Prop := c ≠ 46 ∧ (c ∈ my ↔ mv = 0)
structure Good (aa ab mv k0 k1 prey : Nat) (L : List Nat) : Prop where
 l : L.length = aa * ab
 c : ∀ x ∈ L, x = 46 ∨ x ∈ letters
 i0 : k0 < aa * ab
 i1 : k1 < aa * ab
 b0 : L.getD k0 0 = 75
 b1 : L.getD k1 0 = 107
 u0 : ∀ a, a < aa * ab → L.getD a 0 = 75 → a = k0
 u1 : ∀ a, a < aa * ab → L.getD a 0 = 107 → a = k1
 p : ∀ a, a < aa * ab → L.getD a 0 ∈ [80, 112] → aa ≤ a ∧ a < aa * ab - aa
 h : ∀ a, a < aa * ab → own mv (L.getD a 0) → hits L aa a prey = false
theorem bz {L : List Nat} {i v : Nat} (h : i < L.length) : (L.set i v).getD i 0 = v := by
 rw [List.getD_eq_getElem?_getD, List.getElem?_set_self h]; rfl
theorem aJ {L : List Nat} {i j v : Nat} (h : i ≠ j) : (L.set i v).getD j 0 = L.getD j 0 := by
 rw [List.getD_eq_getElem?_getD, List.getElem?_set_ne h, ← List.getD_eq_getElem?_getD]
theorem uy {L : List Nat} {aa a b sq v : Nat} (hv : v ≠ 46) (ha : a ≠ sq) (h : hits (L.set sq v) aa a b = true) : hits L aa a b = true := by
 have hl : iu (L.set sq v) aa a b = true → iu L aa a b = true := by
  unfold iu
  rw [List.all_eq_true, List.all_eq_true]
  intro q k hk
  have := q k hk
  rw [beq_iff_eq] at this ⊢
  generalize ((a : Int) + hW aa a b * ((1 + k : Nat) : Int)).toNat = x at *
  by_cases e : sq = x
  ·subst e
   by_cases hs : sq < L.length
   ·rw [bz hs] at this; exact absurd this hv
   ·rw [List.getD_eq_getElem?_getD, List.getElem?_eq_none (by simp; (exact Nat.le_of_not_lt hs))] at this; cases this
  ·rwa [aJ e] at this
 unfold hits at h ⊢
 rw [aJ (Ne.symm ha)] at h
 dsimp only at h ⊢
 split at h
 ·rename_i c; rw [if_pos c]; exact h
 ·rename_i c; rw [if_neg c]
  split at h
  ·rename_i c; rw [if_pos c]; exact h
  ·rename_i c; rw [if_neg c]
   split at h
   ·rename_i c; rw [if_pos c]; exact h
   ·rename_i c; rw [if_neg c]
    split at h
    ·rename_i c; rw [if_pos c]
     split at h
     ·cases h
     ·rename_i c; rw [if_neg c]; exact hl h
    ·rename_i c; rw [if_neg c]
     split at h
     ·cases h
     ·rename_i c; rw [if_neg c]; exact hl h
noncomputable def sW : List Nat := [80, 78, 66, 82, 81, 112, 110, 98, 114, 113]
theorem vu : ∀ c, c ∈ sW → c ∈ letters ∧ c ≠ 46 ∧ c ≠ 75 ∧ c ≠ 107 ∧ (c ∈ my ↔ c ∈ [80, 78, 66, 82, 81]) := by decide
theorem Good.set {aa ab mv k0 k1 prey : Nat} {L : List Nat} (g : Good aa ab mv k0 k1 prey L) {sq v : Nat} (dL : sq < aa * ab) (e : L.getD sq 0 = 46) (hv : v ∈ sW) (hp : v ∈ [80, 112] → aa ≤ sq ∧ sq < aa * ab - aa) (hh : own mv v → hits (L.set sq v) aa sq prey = false) : Good aa ab mv k0 k1 prey (L.set sq v) := by
 obtain ⟨m1, m2, m3, m4, m5⟩ := vu v hv
 have n0 : sq ≠ k0 := fun q => by rw [q, g.b0] at e; cases e
 have n1 : sq ≠ k1 := fun q => by rw [q, g.b1] at e; cases e
 have hl : sq < L.length := by rw [g.l]; exact dL
 refine ⟨by rw [List.length_set]; exact g.l, fun x hx => ?_, g.i0, g.i1, by rw [aJ n0]; exact g.b0, by rw [aJ n1]; exact g.b1, fun a ha q => ?_, fun a ha q => ?_, fun a ha q => ?_, fun a ha q => ?_⟩
 ·rcases List.mem_or_eq_of_mem_set hx with q | q
  ·exact g.c x q
  ·exact .inr (q ▸ m1)
 ·by_cases c : sq = a
  ·subst c; rw [bz hl] at q; exact absurd q m3
  ·rw [aJ c] at q; exact g.u0 a ha q
 ·by_cases c : sq = a
  ·subst c; rw [bz hl] at q; exact absurd q m4
  ·rw [aJ c] at q; exact g.u1 a ha q
 ·by_cases c : sq = a
  ·subst c; rw [bz hl] at q; exact hp q
  ·rw [aJ c] at q; exact g.p a ha q
 ·by_cases c : sq = a
  ·subst c; rw [bz hl] at q; exact hh q
  ·rw [aJ c] at q
   cases hx : hits (L.set sq v) aa a prey with
   | false => rfl
    | true =>
    have := uy m2 (Ne.symm c) hx
    rw [g.h a ha q] at this; cases this
theorem wN {L : List Nat} {aa man sq : Nat} (h : man ∈ sW) : fz L aa man sq ∈ sW := by
 unfold fz; split
 ·split <;> decide
 ·exact h
theorem uz {L : List Nat} {aa man sq : Nat} (hf : aa ≤ L.length) (h : fz L aa man sq ∈ [80, 112]) : aa ≤ sq ∧ sq < L.length - aa := by
 unfold fz at h
 split at h
 ·split at h <;> exact absurd h (by decide)
 ·rename_i c
  have := not_and.mp c h
  omega
theorem Good.put {aa ab mv k0 k1 prey : Nat} {L : List Nat} (g : Good aa ab mv k0 k1 prey L) {sq man : Nat} (hf : aa ≤ aa * ab) (di : mv < 2) (dL : sq < aa * ab) (hm : man ∈ sW) : Good aa ab mv k0 k1 prey (iw L aa man sq mv prey) := by
 unfold iw
 have hm' := wN (L := L) (aa := aa) (sq := sq) hm
 have hp := uz (L := L) (aa := aa) (man := man) (sq := sq) (by rw [g.l]; exact hf)
 generalize fz L aa man sq = v at *
 have hl : sq < L.length := by rw [g.l]; exact dL
 split
 ·rename_i e
  split
  ·rename_i c
   have : (L.set sq v).set sq 46 = L := by
    rw [List.set_set]
    have : L[sq]? = some 46 := by
     rw [List.getD_eq_getElem?_getD, List.getElem?_eq_getElem hl] at e
     rw [List.getElem?_eq_getElem hl]; exact congrArg some e
    exact List.ext_getElem? fun i => by
     by_cases q : sq = i
     ·subst q; rw [List.getElem?_set_self hl, this]
     ·rw [List.getElem?_set_ne q]
   rw [this]; exact g
  ·rename_i c
   refine g.set dL e hm' (fun q => by rw [← g.l]; exact hp q) (fun o => ?_)
   cases hx : hits (L.set sq v) aa sq prey with
   | false => rfl
   | true =>
    exfalso
    refine c ⟨?_, hx⟩
    have o2 := o.2
    rw [(vu v hm').2.2.2.2] at o2
    exact decide_eq_decide.mpr o2
 ·exact g
theorem oH {aa ab mv f j : Nat} (h1 : 2 ≤ aa) (h5 : 5 ≤ ab) (hff : f < aa) (j1 : 1 ≤ j) (j3 : j ≤ 3) : aB aa ab mv f j < aa * ab - aa ∧ aa ≤ aB aa ab mv f j := by
 unfold aB
 split
 ·have e1 : (ab - (j + 1)) * aa + aa + aa ≤ aa * ab := by
   have : (ab - (j + 1)) * aa + aa + aa = (ab - (j + 1) + 2) * aa := by rw [Nat.add_mul]; (exact lie [_,_] [] (.a (.a (.v 0) (.v 1)) (.v 1)) (.a (.v 0) (.k 2 (.v 1))) [1] [1] rfl rfl)
   have : (ab - (j + 1) + 2) * aa ≤ ab * aa := Nat.mul_le_mul_right _ (by (exact ln [_,_,_] [.le (.n 1) (.v 2),.eq (.a (.v 0) (.a (.v 2) (.n 1))) (.v 1)] (.le (.a (.v 0) (.n 2)) (.v 1)) [1,1,1] rfl j1 (aM (ln [_,_] [.le (.n 5) (.v 1),.le (.v 0) (.n 3)] (.le (.a (.v 0) (.n 1)) (.v 1)) [1,1,1] rfl h5 j3))))
   rw [Nat.mul_comm aa ab]; omega
  have e2 : 1 * aa ≤ (ab - (j + 1)) * aa := Nat.mul_le_mul_right _ (by (exact ln [_,_,_] [.le (.n 5) (.v 1),.le (.v 2) (.n 3),.eq (.a (.v 0) (.a (.v 2) (.n 1))) (.v 1)] (.le (.n 1) (.v 0)) [1,1,1,-1] rfl h5 j3 (aM (ln [_,_] [.le (.n 5) (.v 1),.le (.v 0) (.n 3)] (.le (.a (.v 0) (.n 1)) (.v 1)) [1,1,1] rfl h5 j3))))
  (exact ⟨ln [_,_,_,_,_] [.lt (.v 1) (.v 3),.le (.a (.a (.v 0) (.v 3)) (.v 3)) (.v 4),.eq (.a (.v 2) (.v 3)) (.v 4)] (.lt (.a (.v 0) (.v 1)) (.v 2)) [1,1,1,-1] rfl hff e1 (aM (ln [_,_,_] [.le (.a (.a (.v 2) (.v 0)) (.v 0)) (.v 1)] (.le (.v 0) (.v 1)) [1,1] rfl e1)), ln [_,_,_] [.le (.k 1 (.v 0)) (.v 1)] (.le (.v 0) (.a (.v 1) (.v 2))) [1,1] rfl e2⟩)
 ·have e1 : (j + 2) * aa ≤ ab * aa := Nat.mul_le_mul_right _ (by (exact ln [_,_] [.le (.n 5) (.v 1),.le (.v 0) (.n 3)] (.le (.a (.v 0) (.n 2)) (.v 1)) [1,1,1] rfl h5 j3))
  have e2 : 1 * aa ≤ j * aa := Nat.mul_le_mul_right _ j1
  rw [Nat.mul_comm aa ab]
  rw [Nat.add_mul] at e1
  (exact ⟨ln [_,_,_,_,_] [.lt (.v 1) (.v 3),.le (.a (.v 0) (.k 2 (.v 3))) (.v 4),.eq (.a (.v 2) (.v 3)) (.v 4)] (.lt (.a (.v 0) (.v 1)) (.v 2)) [1,1,1,-1] rfl hff e1 (aM (ln [_,_,_] [.le (.a (.v 2) (.k 2 (.v 0))) (.v 1)] (.le (.v 0) (.v 1)) [1,1] rfl e1)), ln [_,_,_] [.le (.k 1 (.v 0)) (.v 1)] (.le (.v 0) (.a (.v 1) (.v 2))) [1,1] rfl e2⟩)
theorem pX {mv : Nat} (h : mv < 2) : cj mv ∈ sW ∧ ¬ own mv (cj mv) := by
 obtain rfl | rfl : mv = 0 ∨ mv = 1 := by exact fZ h
 ·exact ⟨by decide, fun o => absurd (o.2.mpr rfl) (by decide)⟩
 ·exact ⟨by decide, fun o => absurd (o.2.mp (by decide)) (by decide)⟩
theorem Good.dn {aa ab mv k0 k1 prey f : Nat} {x1 x2 : Int} {L : List Nat} (g : Good aa ab mv k0 k1 prey L) (h1 : 2 ≤ aa) (h5 : 5 ≤ ab) (hff : f < aa) (di : mv < 2) : Good aa ab mv k0 k1 prey (dn L aa ab mv f x1 x2 prey).1 := by
 have hfs : aa ≤ aa * ab := by
  have : aa * 1 ≤ aa * ab := Nat.mul_le_mul_left _ (by exact cY h5 rfl)
  (exact ln [_,_] [.le (.r (.v 0) 1) (.v 1)] (.le (.v 0) (.v 1)) [1,1] rfl this)
 obtain ⟨b1, b2⟩ := oH (mv := mv) (j := 3) h1 h5 hff (by exact ai rfl) (by exact ai rfl)
 have om : dj mv ∈ sW := by unfold dj; split <;> decide
 have g1 : Good aa ab mv k0 k1 prey (od L aa ab mv f) := by
  unfold od
  split
  ·rename_i e
   exact g.set (by exact ln [_,_,_,_] [.lt (.v 0) (.v 2),.eq (.a (.v 2) (.v 3)) (.v 1)] (.lt (.v 0) (.v 1)) [1,1,1] rfl b1 (aM hfs)) e (pX di).1 (fun _ => ⟨b2, b1⟩) (fun o => absurd o (pX di).2)
  ·exact g
 have g2 : Good aa ab mv k0 k1 prey (oi L aa ab mv f x1 prey) := by
  unfold oi
  split
  ·exact g1.put hfs di (by split <;> (first | exact ln [_,_,_,_] [.le (.n 2) (.v 2),.lt (.v 0) (.v 3),.eq (.a (.v 3) (.v 2)) (.v 1)] (.lt (.a (.v 0) (.n 1)) (.v 1)) [1,1,1,1] rfl h1 b1 (aM hfs) | exact ln [_,_,_,_,_] [.lt (.v 2) (.v 3),.eq (.a (.v 0) (.n 1)) (.v 2),.eq (.a (.v 3) (.v 4)) (.v 1)] (.lt (.v 0) (.v 1)) [1,1,1,1] rfl b1 (aM (ln [_,_] [.le (.n 2) (.v 1),.le (.v 1) (.v 0)] (.le (.n 1) (.v 0)) [1,1,1] rfl h1 b2)) (aM hfs))) om
  ·exact g1
 unfold Nt.dn
 split
 ·exact g
 ·exact g2
theorem kU {s k : Nat} (h : ¬ s = k) : s < k ↔ s < k + 1 := ⟨fun q => Nat.lt_succ_of_lt q, fun q => Nat.lt_of_le_of_ne (Nat.le_of_lt_succ q) h⟩
theorem sX {L : List Nat} {aa man sq mv prey j : Nat} (h : sq ≠ j) : (iw L aa man sq mv prey).getD j 0 = L.getD j 0 := by
 unfold iw
 split
 ·split
  ·rw [aJ h, aJ h]
  ·rw [aJ h]
 ·rfl
theorem wO {L : List Nat} {aa ab mv f prey : Nat} {x1 x2 : Int} (h1 : 2 ≤ aa) (h5 : 5 ≤ ab) (hff : f < aa) (hl : L.length = aa * ab) :
  (dn L aa ab mv f x1 x2 prey).2 = -1 ∨ ((dn L aa ab mv f x1 x2 prey).2 = (aB aa ab mv f 2 : Nat) ∧ (dn L aa ab mv f x1 x2 prey).1.getD (aB aa ab mv f 1) 0 = 46 ∧
   (dn L aa ab mv f x1 x2 prey).1.getD (aB aa ab mv f 2) 0 = 46 ∧ (dn L aa ab mv f x1 x2 prey).1.getD (aB aa ab mv f 3) 0 = cj mv) := by
 unfold dn
 split
 ·exact .inl rfl
 ·rename_i c
  obtain ⟨c1, c2⟩ := not_or.mp c
  have c1 : L.getD (aB aa ab mv f 1) 0 = 46 := by simpa using c1
  have c2 : L.getD (aB aa ab mv f 2) 0 = 46 := by simpa using c2
  dsimp only
  split
  ·exact .inl rfl
  ·rename_i d
   obtain ⟨d1, d2⟩ := not_or.mp d
   have d1 : (oi L aa ab mv f x1 prey).getD (aB aa ab mv f 3) 0 = cj mv := by simpa using d1
   refine .inr ⟨rfl, ?_, ?_, d1⟩
   all_goals
    have n12 : aB aa ab mv f 3 ≠ aB aa ab mv f 1 ∧ aB aa ab mv f 3 ≠ aB aa ab mv f 2 ∧ (∀ sq, sq = (if f = 0 then aB aa ab mv f 3 + 1 else aB aa ab mv f 3 - 1) → sq ≠ aB aa ab mv f 1 ∧ sq ≠ aB aa ab mv f 2) := by
     unfold aB
     split
     ·have a1 : (ab - (1 + 1)) * aa = (ab - (3 + 1)) * aa + 2 * aa := by rw [← Nat.add_mul]; congr 1; (exact lie [_,_,_] [.eq (.a (.v 0) (.a (.n 1) (.n 1))) (.v 2),.eq (.a (.v 1) (.a (.n 3) (.n 1))) (.v 2)] (.v 0) (.a (.v 1) (.n 2)) [1,1,-1] [1,-1,1] rfl rfl (aM (ln [_] [.le (.n 5) (.v 0)] (.le (.a (.n 1) (.n 1)) (.v 0)) [1,1] rfl h5)) (aM (ln [_] [.le (.n 5) (.v 0)] (.le (.a (.n 3) (.n 1)) (.v 0)) [1,1] rfl h5)))
      have a2 : (ab - (2 + 1)) * aa = (ab - (3 + 1)) * aa + 1 * aa := by rw [← Nat.add_mul]; congr 1; (exact lie [_,_,_] [.eq (.a (.v 0) (.a (.n 2) (.n 1))) (.v 2),.eq (.a (.v 1) (.a (.n 3) (.n 1))) (.v 2)] (.v 0) (.a (.v 1) (.n 1)) [1,1,-1] [1,-1,1] rfl rfl (aM (ln [_] [.le (.n 5) (.v 0)] (.le (.a (.n 2) (.n 1)) (.v 0)) [1,1] rfl h5)) (aM (ln [_] [.le (.n 5) (.v 0)] (.le (.a (.n 3) (.n 1)) (.v 0)) [1,1] rfl h5)))
      rw [a1, a2]
      refine ⟨by (exact ln [_,_,_] [.le (.n 2) (.v 2)] (.ne (.a (.v 0) (.v 1)) (.a (.a (.v 0) (.k 2 (.v 2))) (.v 1))) [-1,2] rfl h1), by (exact ln [_,_,_] [.le (.n 2) (.v 2)] (.ne (.a (.v 0) (.v 1)) (.a (.a (.v 0) (.k 1 (.v 2))) (.v 1))) [-1,1] rfl h1), fun sq dL => ?_⟩
      split at dL <;> (first | exact ⟨ln [_,_,_,_] [.le (.n 2) (.v 2),.eq (.v 0) (.a (.a (.v 1) (.v 3)) (.n 1))] (.ne (.v 0) (.a (.a (.v 1) (.k 2 (.v 2))) (.v 3))) [-1,2,1] rfl h1 dL, ln [_,_,_,_] [.le (.n 2) (.v 2),.eq (.v 0) (.a (.a (.v 1) (.v 3)) (.n 1))] (.ne (.v 0) (.a (.a (.v 1) (.k 1 (.v 2))) (.v 3))) [-1,1,1] rfl h1 dL⟩ | exact ⟨ln [_,_,_,_,_] [.le (.n 2) (.v 2),.eq (.v 0) (.v 4),.le (.v 4) (.a (.v 1) (.v 3))] (.ne (.v 0) (.a (.a (.v 1) (.k 2 (.v 2))) (.v 3))) [-1,2,1,1] rfl h1 dL vA, ln [_,_,_,_,_] [.le (.n 2) (.v 2),.eq (.v 0) (.v 4),.le (.v 4) (.a (.v 1) (.v 3))] (.ne (.v 0) (.a (.a (.v 1) (.k 1 (.v 2))) (.v 3))) [-1,1,1,1] rfl h1 dL vA⟩)
     ·refine ⟨by (exact ln [_,_] [.le (.n 2) (.v 0)] (.ne (.a (.k 3 (.v 0)) (.v 1)) (.a (.k 1 (.v 0)) (.v 1))) [1,2] rfl h1), by (exact ln [_,_] [.le (.n 2) (.v 0)] (.ne (.a (.k 3 (.v 0)) (.v 1)) (.a (.k 2 (.v 0)) (.v 1))) [1,1] rfl h1), fun sq dL => ?_⟩
      split at dL <;> (first | exact ⟨ln [_,_,_] [.eq (.v 0) (.a (.a (.k 3 (.v 1)) (.v 2)) (.n 1))] (.ne (.v 0) (.a (.k 1 (.v 1)) (.v 2))) [1,-1] rfl dL, ln [_,_,_] [.eq (.v 0) (.a (.a (.k 3 (.v 1)) (.v 2)) (.n 1))] (.ne (.v 0) (.a (.k 2 (.v 1)) (.v 2))) [1,-1] rfl dL⟩ | exact ⟨ln [_,_,_,_] [.le (.n 2) (.v 1),.eq (.v 0) (.v 3),.eq (.a (.v 3) (.n 1)) (.a (.k 3 (.v 1)) (.v 2))] (.ne (.v 0) (.a (.k 1 (.v 1)) (.v 2))) [1,2,-1,-1] rfl h1 dL (aM (ln [_,_] [.le (.n 2) (.v 0)] (.le (.n 1) (.a (.k 3 (.v 0)) (.v 1))) [1,3] rfl h1)), ln [_,_,_,_] [.le (.n 2) (.v 1),.eq (.v 0) (.v 3),.eq (.a (.v 3) (.n 1)) (.a (.k 3 (.v 1)) (.v 2))] (.ne (.v 0) (.a (.k 2 (.v 1)) (.v 2))) [1,1,-1,-1] rfl h1 dL (aM (ln [_,_] [.le (.n 2) (.v 0)] (.le (.n 1) (.a (.k 3 (.v 0)) (.v 1))) [1,3] rfl h1))⟩)
    obtain ⟨n1, n2, n3⟩ := n12
    have e1 : ∀ j, aB aa ab mv f 3 ≠ j → (od L aa ab mv f).getD j 0 = L.getD j 0 := fun j hj => by
     unfold od; split
     ·rw [aJ hj]
     ·rfl
    unfold oi
    split
    ·first
     | (rw [sX (n3 _ rfl).1, e1 _ n1]; exact c1)
     | (rw [sX (n3 _ rfl).2, e1 _ n2]; exact c2)
    ·first
     | (rw [e1 _ n1]; exact c1)
     | (rw [e1 _ n2]; exact c2)
theorem iQ (k i : Nat) : (1 <<< k).testBit i = decide (k = i) := by
 rw [Nat.shiftLeft_eq, Nat.one_mul, Nat.testBit_two_pow]
theorem sY (Z : ZD) (bl : List Nat) (size : Nat) (hl : bl.length = size) : ∀ k, k ≤ size → ∀ s, s < size → (av Z bl k (P0 size)).b.getD s 0 = if s < k then bl.getD s 0 else 0
 | 0, _, s, hs => by
  rw [if_neg (by exact Nat.not_le_of_lt (ai rfl))]
  show (List.replicate size 0).getD s 0 = 0
  rw [List.getD_eq_getElem?_getD, List.getElem?_replicate_of_lt hs]; rfl
 | k + 1, hk, s, hs => by
  have ih := sY Z bl size hl k (by exact Nat.le_of_lt hk) s hs
  rw [bU]
  unfold putK
  split
  ·rename_i e
   rw [ih]
   by_cases c : s < k
   ·rw [if_pos c, if_pos (by exact Nat.le_trans c (Nat.le_add_right _ _))]
   ·rw [if_neg c]
    by_cases c2 : s = k
    ·subst c2; rw [if_pos (by exact Nat.le_refl _), e]
    ·rw [if_neg (by (exact (Nat.lt_or_gt_of_ne c2).elim (fun qz => ln [_,_] [.gP (.v 0) (.v 1),.lt (.v 0) (.v 1)] (.gP (.v 0) (.a (.v 1) (.n 1))) [0,1,1] rfl c qz) (fun qz => ln [_,_] [.lt (.v 1) (.v 0)] (.gP (.v 0) (.a (.v 1) (.n 1))) [1,1] rfl qz)))]
  ·unfold putD
   dsimp only
   by_cases c2 : k = s
   ·subst c2
    rw [bz (by rw [(cx Z bl (P0 size) k).1]; simp [P0]; (exact hk)), if_pos (by exact Nat.le_refl _)]
   ·rw [aJ c2, ih]
    by_cases c : s < k
    ·rw [if_pos c, if_pos (by exact Nat.le_trans c (Nat.le_add_right _ _))]
    ·rw [if_neg c, if_neg (by (exact (Nat.lt_or_gt_of_ne c2).elim (fun qz => ln [_,_] [.lt (.v 1) (.v 0)] (.gP (.v 0) (.a (.v 1) (.n 1))) [1,1] rfl qz) (fun qz => ln [_,_] [.gP (.v 0) (.v 1),.lt (.v 0) (.v 1)] (.gP (.v 0) (.a (.v 1) (.n 1))) [0,1,1] rfl c qz)))]
theorem lH (Z : ZD) (bl : List Nat) (size : Nat) (hl : bl.length = size) : (av Z bl size (P0 size)).b = bl := by
 have hlen : (av Z bl size (P0 size)).b.length = size := by rw [(cx Z bl (P0 size) size).1]; simp [P0]
 refine List.ext_getElem (by exact lie [_,_,_] [.eq (.v 1) (.v 2),.eq (.v 0) (.v 2)] (.v 0) (.v 1) [1,-1,1] [1,1,-1] rfl rfl hl hlen) fun i h1 h2 => ?_
 have := sY Z bl size hl size (Nat.le_refl _) i (by exact ln [_,_,_] [.eq (.v 2) (.v 1),.lt (.v 0) (.v 2)] (.lt (.v 0) (.v 1)) [1,1,1] rfl hlen h1)
 rw [if_pos (by exact ln [_,_,_] [.eq (.v 2) (.v 1),.lt (.v 0) (.v 2)] (.lt (.v 0) (.v 1)) [1,1,1] rfl hlen h1), List.getD_eq_getElem?_getD, List.getD_eq_getElem?_getD, List.getElem?_eq_getElem h1, List.getElem?_eq_getElem h2] at this
 exact this
theorem ks (Z : ZD) (bl : List Nat) (size : Nat) (hok : ∀ s, s < size → bl.getD s 0 = 0 ∨ bM (bl.getD s 0)) (i : Nat) (hi : i < 7) : ∀ k, k ≤ size → ∀ s, ((av Z bl k (P0 size)).k.getD i 0).testBit s = (decide (s < k) && decide (bl.getD s 0 ≠ 0) && decide (bl.getD s 0 &&& 7 = i))
 | 0, _, s => by
  show ((List.replicate 7 0).getD i 0).testBit s = _
  rw [List.getD_eq_getElem?_getD, List.getElem?_replicate_of_lt hi]; simp
 | k + 1, hk, s => by
  have ih := ks Z bl size hok i hi k (by exact Nat.le_of_lt hk) s
  have l2 : (av Z bl k (P0 size)).k.length = 7 := by rw [(cx Z bl (P0 size) k).2.1]; simp [P0]
  rw [bU]
  unfold putK
  split
  ·rename_i e
   rw [ih]
   by_cases c2 : s = k
   ·subst c2; rw [e]; simp
   ·congr 2; exact decide_eq_decide.mpr (kU c2)
  ·rename_i e
   have hq := (j9 ((hok k hk).resolve_left e)).1
   unfold putD
   dsimp only
   by_cases c : bl.getD k 0 &&& 7 = i
   ·subst c
    rw [bz (by exact ln [_,_] [.eq (.v 1) (.n 7),.lt (.v 0) (.n 7)] (.lt (.v 0) (.v 1)) [1,-1,1] rfl l2 hq), Nat.testBit_or, ih, iQ]
    by_cases c2 : k = s
    ·subst c2
     generalize bl.getD k 0 = p at e ⊢
     simp [e]
    ·rw [decide_eq_false c2, Bool.or_false]; congr 2; exact decide_eq_decide.mpr (kU fun q => c2 q.symm)
   ·rw [aJ c, ih]
    by_cases c2 : s = k
    ·subst c2
     generalize bl.getD s 0 = p at e c ⊢
     simp [e, c]
    ·congr 2; exact decide_eq_decide.mpr (kU c2)
theorem oI (Z : ZD) (bl : List Nat) (size : Nat) (hok : ∀ s, s < size → bl.getD s 0 = 0 ∨ bM (bl.getD s 0)) (i : Nat) (hi : i < 2) : ∀ k, k ≤ size → ∀ s, ((av Z bl k (P0 size)).s.getD i 0).testBit s = (decide (s < k) && decide (bl.getD s 0 ≠ 0) && decide (bl.getD s 0 >>> 3 = i))
 | 0, _, s => by
  show (([0, 0] : List Nat).getD i 0).testBit s = _
  obtain rfl | rfl : i = 0 ∨ i = 1 := by exact fZ hi
  all_goals simp
 | k + 1, hk, s => by
  have ih := oI Z bl size hok i hi k (by exact Nat.le_of_lt hk) s
  have l2 : (av Z bl k (P0 size)).s.length = 2 := by rw [(cx Z bl (P0 size) k).2.2]; simp [P0]
  rw [bU]
  unfold putK
  split
  ·rename_i e
   rw [ih]
   by_cases c2 : s = k
   ·subst c2; rw [e]; simp
   ·congr 2; exact decide_eq_decide.mpr (kU c2)
  ·rename_i e
   have hq := (j9 ((hok k hk).resolve_left e)).2
   unfold putD
   dsimp only
   by_cases c : bl.getD k 0 >>> 3 = i
   ·subst c
    rw [bz (by exact ln [_,_] [.eq (.v 1) (.n 2),.lt (.v 0) (.n 2)] (.lt (.v 0) (.v 1)) [1,-1,1] rfl l2 hq), Nat.testBit_or, ih, iQ]
    by_cases c2 : k = s
    ·subst c2
     generalize bl.getD k 0 = p at e ⊢
     simp [e]
    ·rw [decide_eq_false c2, Bool.or_false]; congr 2; exact decide_eq_decide.mpr (kU fun q => c2 q.symm)
   ·rw [aJ c, ih]
    by_cases c2 : s = k
    ·subst c2
     generalize bl.getD s 0 = p at e c ⊢
     simp [e, c]
    ·congr 2; exact decide_eq_decide.mpr (kU c2)
theorem uA : ∀ (r : List Nat) (g : Nat) (acc : List Nat), g + r.length ≤ 9 → (∀ c ∈ r, c = 46 ∨ c ∈ letters) → bZ (fG r g) acc false = some (acc ++ List.replicate g 0 ++ r.map cd)
 | [], g, acc, hg, _ => by
  show bZ (if 0 < g then [48 + g] else []) acc false = _
  by_cases c : 0 < g
  ·rw [if_pos c]
   simp at hg
   unfold bZ
   rw [if_pos (show 48 ≤ 48 + g ∧ 48 + g ≤ 57 by (exact ⟨ln [_] [] (.le (.n 48) (.a (.n 48) (.v 0))) [1] rfl, ln [_] [.le (.v 0) (.n 9)] (.le (.a (.n 48) (.v 0)) (.n 57)) [1,1] rfl hg⟩)), if_neg (show ¬ (48 + g = 48 ∨ false = true) from fun q => by rcases q with q | q; (exact ln [_] [.lt (.n 0) (.v 0),.eq (.a (.n 48) (.v 0)) (.n 48)] .ff [0,1,1] rfl c q); cases q), Nat.add_sub_cancel_left]
   simp [bZ]
  ·rw [if_neg c]
   have : g = 0 := by exact lie [_] [.gP (.n 0) (.v 0)] (.v 0) (.n 0) [1,1] [1,0] rfl rfl c
   subst this
   simp [bZ]
 | x :: r, g, acc, hg, hc => by
  simp at hg
  have hc' : ∀ c ∈ r, c = 46 ∨ c ∈ letters := fun c h => hc c (by simp [h])
  unfold fG
  rcases hc x (by simp) with e | e
  ·rw [if_pos e, uA r (g + 1) acc (by (exact ln [_,_] [.le (.a (.v 0) (.a (.v 1) (.n 1))) (.n 9)] (.le (.a (.a (.v 0) (.n 1)) (.v 1)) (.n 9)) [1,1] rfl hg)) hc', List.map_cons, show cd x = 0 by unfold cd; rw [if_pos e]]
   rw [List.replicate_succ', List.append_assoc, List.append_assoc, List.append_assoc]; rfl
  ·obtain ⟨a1, a2, a3, a4, a5, a6, a7, a8, a9, a10, a11, a12⟩ := cC x e
   have ih := uA r 0
   rw [if_neg a9]
   have let' : ∀ (acc : List Nat) (wd : Bool), bZ (x :: fG r 0) acc wd = some (acc ++ (x :: r).map cd) := by
    intro acc wd
    rw [bZ, if_neg a12, if_pos e, ih (acc ++ [code x]) (by (exact ln [_,_] [.le (.a (.v 1) (.a (.v 0) (.n 1))) (.n 9)] (.le (.a (.n 0) (.v 0)) (.n 9)) [1,1] rfl hg)) hc', List.map_cons, show cd x = code x by unfold cd; rw [if_neg a9]]
    simp
   by_cases c : 0 < g
   ·rw [if_pos c]
    show bZ ((48 + g) :: (x :: fG r 0)) acc false = _
    rw [bZ, if_pos (show 48 ≤ 48 + g ∧ 48 + g ≤ 57 by (exact ⟨ln [_] [] (.le (.n 48) (.a (.n 48) (.v 0))) [1] rfl, ln [_,_] [.le (.a (.v 0) (.a (.v 1) (.n 1))) (.n 9)] (.le (.a (.n 48) (.v 0)) (.n 57)) [1,1] rfl hg⟩)), if_neg (show ¬ (48 + g = 48 ∨ false = true) from fun q => by rcases q with q | q; (exact ln [_] [.lt (.n 0) (.v 0),.eq (.a (.n 48) (.v 0)) (.n 48)] .ff [0,1,1] rfl c q); cases q), Nat.add_sub_cancel_left, let']
   ·rw [if_neg c]
    have : g = 0 := by exact lie [_] [.gP (.n 0) (.v 0)] (.v 0) (.n 0) [1,1] [1,0] rfl rfl c
    subst this
    show bZ (x :: fG r 0) acc false = _
    rw [let']; simp
theorem rh : ∀ (r : List Nat) (g : Nat), g + r.length ≤ 9 → (∀ c ∈ r, c = 46 ∨ c ∈ letters) → wr (r.map cd) g = fG r g
 | [], g, hg, _ => by
  show (if 0 < g then dig g else []) = (if 0 < g then [48 + g] else [])
  simp at hg
  rw [dg (by exact Nat.lt_succ_of_le hg)]
 | x :: r, g, hg, hc => by
  simp at hg
  have hc' : ∀ c ∈ r, c = 46 ∨ c ∈ letters := fun c h => hc c (by simp [h])
  show wr (cd x :: r.map cd) g = _
  unfold wr fG
  rcases hc x (by simp) with e | e
  ·rw [if_pos e, if_pos (by unfold cd; rw [if_pos e]), rh r (g + 1) (by (exact ln [_,_] [.le (.a (.v 0) (.a (.v 1) (.n 1))) (.n 9)] (.le (.a (.a (.v 0) (.n 1)) (.v 1)) (.n 9)) [1,1] rfl hg)) hc']
  ·obtain ⟨a1, a2, a3, a4, a5, a6, a7, a8, a9, _⟩ := cC x e
   rw [if_neg a9, show cd x = code x by unfold cd; rw [if_neg a9], if_neg (by exact Nat.ne_of_gt a3), a7, dg (by (exact ln [_,_] [.le (.a (.v 0) (.a (.v 1) (.n 1))) (.n 9)] (.lt (.v 0) (.n 10)) [1,1] rfl hg)), rh r 0 (by (exact ln [_,_] [.le (.a (.v 1) (.a (.v 0) (.n 1))) (.n 9)] (.le (.a (.n 0) (.v 0)) (.n 9)) [1,1] rfl hg)) hc']
theorem chunks (L : List Nat) (f : Nat) : ∀ n, ((List.range n).map fun k => (L.drop (k * f)).take f).flatten = L.take (n * f)
 | 0 => by simp
 | n + 1 => by
  rw [List.range_succ, List.map_append, List.flatten_append, chunks L f n]
  rw [Nat.succ_mul, List.take_add]
  simp
theorem oJ {L : List Nat} {aa : Nat} (hc : ∀ x ∈ L, x = 46 ∨ x ∈ letters) (k : Nat) : ∀ x ∈ dq L aa k, x = 46 ∨ x ∈ letters := fun x hx => hc x (List.mem_of_mem_drop (List.mem_of_mem_take hx))
theorem pY {L : List Nat} {aa ab k : Nat} (hl : L.length = ab * aa) (hk : k < ab) : (dq L aa k).length = aa := by
 unfold dq
 rw [List.length_take, List.length_drop, hl]
 have : (k + 1) * aa ≤ ab * aa := Nat.mul_le_mul_right _ hk
 rw [Nat.succ_mul] at this
 exact Nat.min_eq_left (Nat.le_sub_of_add_le (by rw [Nat.add_comm]; exact this))
theorem Dr {L : List Nat} {aa ab : Nat} (h8 : aa ≤ 8) (hc : ∀ x ∈ L, x = 46 ∨ x ∈ letters) : aP (L.map cd) aa ab = aT L aa ab := by
 unfold aP aT
 refine List.map_congr_left fun j _ => ?_
 have : ft (L.map cd) aa (ab - 1 - j) = (dq L aa (ab - 1 - j)).map cd := by
  unfold ft dq; rw [List.map_take, List.map_drop]
 rw [this]
 exact rh _ 0 (by rw [Nat.zero_add]; exact Nat.le_trans (List.length_take_le _ _) (bq h8 rfl)) (oJ hc _)
theorem oK : ∀ (r : List Nat) (g : Nat), g + r.length ≤ 9 → (∀ c ∈ r, c = 46 ∨ c ∈ letters) → ∀ x ∈ fG r g, x < 128 ∧ x ≠ 47 ∧ x ≠ 32
 | [], g, hg, _, x, hx => by
  have hx : x ∈ (if 0 < g then [48 + g] else []) := hx
  simp at hg
  split at hx
  ·have := List.mem_singleton.mp hx; (exact ⟨ln [_,_] [.le (.v 1) (.n 9),.eq (.v 0) (.a (.n 48) (.v 1))] (.lt (.v 0) (.n 128)) [1,1,1] rfl hg this, ⟨ln [_,_] [.eq (.v 0) (.a (.n 48) (.v 1))] (.ne (.v 0) (.n 47)) [1,-1] rfl this, ln [_,_] [.eq (.v 0) (.a (.n 48) (.v 1))] (.ne (.v 0) (.n 32)) [1,-1] rfl this⟩⟩)
  ·cases hx
 | y :: r, g, hg, hc, x, hx => by
  simp at hg
  have hc' : ∀ c ∈ r, c = 46 ∨ c ∈ letters := fun c h => hc c (by simp [h])
  unfold fG at hx
  split at hx
  ·exact oK r (g + 1) (by (exact ln [_,_] [.le (.a (.v 0) (.a (.v 1) (.n 1))) (.n 9)] (.le (.a (.a (.v 0) (.n 1)) (.v 1)) (.n 9)) [1,1] rfl hg)) hc' x hx
  ·rename_i e
   have hy := (hc y (by simp)).resolve_left e
   obtain ⟨a1, a2, a3, a4, a5, a6, a7, a8, a9, a10, a11, a12⟩ := cC y hy
   rcases List.mem_append.mp hx with q | q
   ·split at q
    ·have := List.mem_singleton.mp q; (exact ⟨ln [_,_,_] [.le (.a (.v 1) (.a (.v 2) (.n 1))) (.n 9),.eq (.v 0) (.a (.n 48) (.v 1))] (.lt (.v 0) (.n 128)) [1,1,1] rfl hg this, ⟨ln [_,_] [.eq (.v 0) (.a (.n 48) (.v 1))] (.ne (.v 0) (.n 47)) [1,-1] rfl this, ln [_,_] [.eq (.v 0) (.a (.n 48) (.v 1))] (.ne (.v 0) (.n 32)) [1,-1] rfl this⟩⟩)
    ·cases q
   ·rcases List.mem_cons.mp q with q | q
    ·subst q; exact ⟨a1, a10, a11⟩
    ·exact oK r 0 (by (exact ln [_,_] [.le (.a (.v 1) (.a (.v 0) (.n 1))) (.n 9)] (.le (.a (.n 0) (.v 0)) (.n 9)) [1,1] rfl hg)) hc' x q
theorem tok {L : List Nat} {aa ab mv rights half full : Nat} {ep : Int} (h1 : 2 ≤ aa ∧ aa ≤ 8) (hl : L.length = ab * aa) (hc : ∀ x ∈ L, x = 46 ∨ x ∈ letters) (hm : mv < 2) (hr : rights < 16) (he : -1 ≤ ep ∧ ep < (aa * ab : Nat)) (hh : half < 10 ^ 15) (hf : 1 ≤ full ∧ full < 10 ^ 15) :
  ∃ bs, bs.flatten = L.map cd ∧ AX ⟨aT L aa ab, mv, rights, ep, half, full⟩ aa ab bs := by
 refine ⟨(List.range ab).map fun k => (dq L aa k).map cd, ?_, ⟨by simp [aT], by simp, fun k r hk hr => ?_, fun r hr c HD => ?_, hm, hr, he, hh, hf⟩⟩
 ·have := chunks L aa ab
  rw [← hl, List.take_length] at this
  conv => rhs; rw [← this]
  rw [List.map_flatten, List.map_map]
  rfl
 ·have e : (aT L aa ab)[ab - 1 - k]? = some (fG (dq L aa k) 0) := by
   unfold aT
   rw [List.getElem?_map, List.getElem?_range (by (exact ln [_,_,_] [.le (.v 0) (.v 2),.eq (.a (.v 2) (.n 1)) (.v 1)] (.lt (.v 0) (.v 1)) [1,1,1] rfl vA (aM (ln [_,_] [.lt (.v 1) (.v 0)] (.le (.n 1) (.v 0)) [1,1] rfl hk))))]
   show some (fG (dq L aa (ab - 1 - (ab - 1 - k))) 0) = _
   rw [Nat.sub_sub_self (Nat.le_sub_one_of_lt hk)]
  rw [e] at hr
  cases Option.some.inj hr
  have rl := pY hl hk
  refine ⟨(dq L aa k).map cd, ?_, ?_, by rw [List.length_map, rl], ?_⟩
  ·rw [List.getElem?_map, List.getElem?_range hk]; rfl
  ·have := uA (dq L aa k) 0 [] (by (exact ln [_,_] [.le (.v 1) (.n 8),.eq (.v 0) (.v 1)] (.le (.a (.n 0) (.v 0)) (.n 9)) [1,1,1] rfl h1.2 rl)) (oJ hc k)
   simpa using this
  ·rw [← (fy _ (show (dq L aa k).length ≤ 8 by exact yr rl h1.2)).1]
   have := (fy _ (show (dq L aa k).length ≤ 8 by exact yr rl h1.2)).2 8 (by exact ai rfl)
   (exact bq this rfl)
 ·have hr : r ∈ aT L aa ab := hr
  obtain ⟨j, hj, rfl⟩ := List.mem_map.mp hr
  have hj := List.mem_range.mp hj
  exact oK _ 0 (by rw [pY hl (by (exact ln [_,_,_] [.le (.v 0) (.v 2),.eq (.a (.v 2) (.n 1)) (.v 1)] (.lt (.v 0) (.v 1)) [1,1,1] rfl vA (aM (ln [_,_] [.lt (.v 1) (.v 0)] (.le (.n 1) (.v 0)) [1,1] rfl hj))))]; (exact ln [_] [.le (.v 0) (.n 8)] (.le (.a (.n 0) (.v 0)) (.n 9)) [1,1] rfl h1.2)) (oJ hc _) c HD
theorem dA : ∀ c, c ∈ letters → bM (code c) ∧ ((code c &&& 7 = 6 ∧ code c >>> 3 = 0) ↔ c = 75) ∧ ((code c &&& 7 = 6 ∧ code c >>> 3 = 1) ↔ c = 107) ∧ (code c &&& 7 = 1 ↔ c ∈ [80, 112]) ∧ (code c >>> 3 = 0 ↔ c ∈ my) ∧ (code c >>> 3 = 1 ↔ ¬ c ∈ my) := by unfold bM; decide +kernel
theorem gL {c : Nat} (h : c ∈ letters) : cd c = code c := by unfold cd; rw [if_neg (cC c h).2.2.2.2.2.2.2.2.1]
theorem cI {L : List Nat} {s : Nat} (h : s < L.length) : (L.map cd).getD s 0 = cd (L.getD s 0) := by
 simp [List.getD_eq_getElem?_getD, List.getElem?_map, List.getElem?_eq_getElem h]
theorem get_mem {L : List Nat} {s : Nat} (h : s < L.length) : L.getD s 0 ∈ L := by
 rw [List.getD_eq_getElem?_getD, List.getElem?_eq_getElem h]; exact List.getElem_mem h
section
variable {aa ab mv k0 k1 prey : Nat} {L : List Nat}
theorem Good.ok (g : Good aa ab mv k0 k1 prey L) : ∀ s, s < aa * ab → (L.map cd).getD s 0 = 0 ∨ bM ((L.map cd).getD s 0) := by
 intro s hs
 have hl : s < L.length := by rw [g.l]; exact hs
 rw [cI hl]
 rcases g.c _ (get_mem hl) with e | e
 ·left; unfold cd; rw [if_pos e]
 ·right; rw [gL e]; exact (dA _ e).1
theorem Good.bit (g : Good aa ab mv k0 k1 prey L) (Z : ZD) {i j : Nat} (hi : i < 7) (hj : j < 2) (s : Nat) :
  ((av Z (L.map cd) (aa * ab) (P0 (aa * ab))).s.getD j 0 &&& (av Z (L.map cd) (aa * ab) (P0 (aa * ab))).k.getD i 0).testBit s = true ↔ s < aa * ab ∧ L.getD s 0 ∈ letters ∧ code (L.getD s 0) &&& 7 = i ∧ code (L.getD s 0) >>> 3 = j := by
 rw [Nat.testBit_and, oI Z _ _ g.ok j hj _ (Nat.le_refl _), ks Z _ _ g.ok i hi _ (Nat.le_refl _)]
 simp only [Bool.and_eq_true, decide_eq_true_eq]
 constructor
 ·rintro ⟨⟨⟨a, b⟩, c⟩, ⟨⟨_, _⟩, d⟩⟩
  have hl : s < L.length := by rw [g.l]; exact a
  rw [cI hl] at b c d
  rcases g.c _ (get_mem hl) with e | e
  ·exfalso; apply b; unfold cd; rw [if_pos e]
  ·rw [gL e] at c d; exact ⟨a, e, d, c⟩
 ·rintro ⟨a, e, d, c⟩
  have hl : s < L.length := by rw [g.l]; exact a
  rw [cI hl, gL e]
  have := (dA _ e).1
  have hne : code (L.getD s 0) ≠ 0 := by unfold bM at this; (exact this.elim (fun qz => ln [_] [.le (.n 1) (.v 0)] (.ne (.v 0) (.n 0)) [1,1] rfl qz.1) (fun qz => ln [_] [.le (.n 9) (.v 0)] (.ne (.v 0) (.n 0)) [1,1] rfl qz.1))
  exact ⟨⟨⟨a, hne⟩, c⟩, ⟨⟨a, hne⟩, d⟩⟩
theorem Good.Ds (g : Good aa ab mv k0 k1 prey L) (Z : ZD) : (av Z (L.map cd) (aa * ab) (P0 (aa * ab))).s.getD 0 0 &&& (av Z (L.map cd) (aa * ab) (P0 (aa * ab))).k.getD 6 0 = 1 <<< k0 := by
 apply Nat.eq_of_testBit_eq
 intro s
 rw [iQ, Bool.eq_iff_iff, g.bit Z (by exact ai rfl) (by exact ai rfl), decide_eq_true_eq]
 constructor
 ·rintro ⟨a, b, c, d⟩
  exact (g.u0 s a (((dA _ b).2.1).mp ⟨c, d⟩)).symm
 ·rintro rfl
  have : L.getD k0 0 ∈ letters := by rw [g.b0]; decide
  have e := ((dA _ this).2.1).mpr g.b0
  exact ⟨g.i0, this, e.1, e.2⟩
theorem Good.Dt (g : Good aa ab mv k0 k1 prey L) (Z : ZD) : (av Z (L.map cd) (aa * ab) (P0 (aa * ab))).s.getD 1 0 &&& (av Z (L.map cd) (aa * ab) (P0 (aa * ab))).k.getD 6 0 = 1 <<< k1 := by
 apply Nat.eq_of_testBit_eq
 intro s
 rw [iQ, Bool.eq_iff_iff, g.bit Z (by exact ai rfl) (by exact ai rfl), decide_eq_true_eq]
 constructor
 ·rintro ⟨a, b, c, d⟩
  exact (g.u1 s a (((dA _ b).2.2.1).mp ⟨c, d⟩)).symm
 ·rintro rfl
  have : L.getD k1 0 ∈ letters := by rw [g.b1]; decide
  have e := ((dA _ this).2.2.1).mpr g.b1
  exact ⟨g.i1, this, e.1, e.2⟩
theorem vv (aa r s : Nat) : ((1 <<< aa - 1) <<< (r * aa)).testBit s = (decide (r * aa ≤ s) && decide (s - r * aa < aa)) := by
 rw [Nat.testBit_shiftLeft, Nat.shiftLeft_eq, Nat.one_mul, Nat.testBit_two_pow_sub_one]
theorem Good.Du (g : Good aa ab mv k0 k1 prey L) (Z : ZD) (h2 : 1 ≤ ab) : (av Z (L.map cd) (aa * ab) (P0 (aa * ab))).k.getD 1 0 &&& ((gS aa ab).getD 0 0 ||| (gS aa ab).getD (ab - 1) 0) = 0 := by
 apply Nat.eq_of_testBit_eq
 intro s
 rw [Nat.testBit_and, Nat.zero_testBit, Nat.testBit_or, ks Z _ _ g.ok 1 (by exact ai rfl) _ (Nat.le_refl _)]
 have e1 : ∀ r, r < ab → (gS aa ab).getD r 0 = (1 <<< aa - 1) <<< (r * aa) := fun r hr => by
  simp [gS, List.getD_eq_getElem?_getD, List.getElem?_range hr]
 rw [e1 0 h2, e1 (ab - 1) (by exact ln [_,_] [.eq (.a (.v 0) (.n 1)) (.v 1)] (.lt (.v 0) (.v 1)) [1,1] rfl (aM h2)), vv, vv]
 have hm : (ab - 1) * aa + aa = aa * ab := by
  rw [← Nat.succ_mul, show (ab - 1).succ = ab by (exact Nat.sub_add_cancel h2), Nat.mul_comm]
 cases hx : (decide (s < aa * ab) && decide ((L.map cd).getD s 0 ≠ 0) && decide ((L.map cd).getD s 0 &&& 7 = 1)) with
 | false => rfl
 | true =>
  simp only [Bool.and_eq_true, decide_eq_true_eq] at hx
  obtain ⟨⟨a, b⟩, c⟩ := hx
  have hl : s < L.length := by rw [g.l]; exact a
  rw [cI hl] at b c
  rcases g.c _ (get_mem hl) with e | e
  ·exfalso; apply b; unfold cd; rw [if_pos e]
  ·rw [gL e] at c
   have := g.p s a ((dA _ e).2.2.2.1.mp c)
   rw [Bool.true_and, Bool.or_eq_false_iff, Bool.and_eq_false_iff, Bool.and_eq_false_iff]
   exact ⟨.inr (decide_eq_false (by (exact ln [_,_,_] [.le (.v 1) (.v 2),.eq (.a (.v 0) (.k 0 (.v 1))) (.v 2)] (.gP (.v 0) (.v 1)) [1,1,-1] rfl this.1 (aM (ln [_,_] [] (.le (.k 0 (.v 0)) (.v 1)) [1] rfl))))), .inl (decide_eq_false (by (exact ln [_,_,_,_,_] [.eq (.a (.v 0) (.v 2)) (.v 3),.lt (.v 1) (.v 4),.eq (.a (.v 4) (.v 2)) (.v 3)] (.zz (.v 0) (.v 1)) [1,-1,1,1] rfl hm this.2 (aM (ln [_,_,_] [.lt (.v 2) (.v 1),.le (.v 0) (.v 2)] (.le (.v 0) (.v 1)) [1,1,1] rfl a this.1)))))⟩
end
theorem kt (L : List Nat) (aa : Nat) (nb : Nat → Bool) : ∀ k, fA L aa nb k < 2 ^ k
 | 0 => by simp [fA]
 | k + 1 => by
  have ih := kt L aa nb k
  rw [ju]
  split
  ·rw [Nat.shiftLeft_eq, Nat.one_mul, Nat.pow_succ]; (exact ln [_,_] [.lt (.v 0) (.v 1)] (.lt (.a (.v 0) (.v 1)) (.r (.v 1) 2)) [1,1] rfl ih)
  ·rw [Nat.pow_succ]; (exact ln [_,_] [.lt (.v 0) (.v 1)] (.lt (.v 0) (.r (.v 1) 2)) [1,2] rfl ih)
theorem p6 (L : List Nat) (aa : Nat) (nb : Nat → Bool) (i : Nat) : ∀ k, (fA L aa nb k).testBit i = true → i < k ∧ wy L aa i = true
 | 0, h => by simp [fA] at h
 | k + 1, h => by
  have ih := p6 L aa nb i k
  rw [ju] at h
  split at h
  ·rename_i c
   rw [re (kt L aa nb k), Nat.testBit_or, iQ, Bool.or_eq_true, decide_eq_true_eq] at h
   rcases h with h | h
   ·have := ih h; exact ⟨by (exact Nat.le_trans this.1 (Nat.le_add_right _ _)), this.2⟩
   ·subst h; exact ⟨by (exact Nat.le_refl _), c.1⟩
  ·have := ih h; exact ⟨by (exact Nat.le_trans this.1 (Nat.le_add_right _ _)), this.2⟩
theorem Good.wing {aa ab mv k0 k1 prey rights side half full : Nat} {L : List Nat} {hd hw : Bool} {nb : Nat → Bool} (g : Good aa ab mv k0 k1 prey L) (Z : ZD) (h1 : 2 ≤ aa) (h2 : 3 ≤ ab) (hr : rights = if hw then fA L aa nb 4 else 0) :
  ∀ i, i < 4 → mq (aO aa ab hd hw) (aV Z (L.map cd) (aa * ab) side rights half full (-1)) i := by
 intro i hi
 by_cases hb : rights.testBit i = true
 ·right
  cases hw with
  | false => rw [hr] at hb; simp at hb
  | true =>
   rw [if_pos rfl] at hr
   rw [hr] at hb
   have hc := (p6 L aa nb i 4 hb).2
   unfold wy at hc
   simp only [Bool.and_eq_true, decide_eq_true_eq] at hc
   obtain ⟨⟨c1, c2⟩, c3⟩ := hc
   have hmul : (ab - 1) * aa + aa = aa * ab := by
    rw [← Nat.succ_mul, show (ab - 1).succ = ab by (exact lie [_,_] [.eq (.a (.v 0) (.n 1)) (.v 1)] (.a (.v 0) (.n 1)) (.v 1) [1,1] [1,-1] rfl rfl (aM (ln [_] [.le (.n 3) (.v 0)] (.le (.n 1) (.v 0)) [1,1] rfl h2))), Nat.mul_comm]
   have el : L.length - aa = (ab - 1) * aa := by rw [g.l]; (exact lie [_,_,_,_] [.eq (.a (.v 1) (.v 2)) (.v 3),.eq (.a (.v 0) (.v 2)) (.v 3)] (.v 0) (.v 1) [1,-1,1] [1,1,-1] rfl rfl hmul (aM (ln [_,_,_] [.eq (.a (.v 2) (.v 0)) (.v 1)] (.le (.v 0) (.v 1)) [1,1] rfl hmul)))
   rw [el] at c2 c3
   have bb : i / 2 * ((ab - 1) * aa) ≤ (ab - 1) * aa := by
    have : i / 2 ≤ 1 := by (exact ln [_,_,_] [.lt (.v 1) (.n 4),.eq (.a (.k 2 (.v 0)) (.v 2)) (.v 1)] (.le (.v 0) (.n 1)) [2,1,1] rfl hi dm)
    have := Nat.mul_le_mul_right ((ab - 1) * aa) this
    (exact ln [_,_] [.le (.v 0) (.k 1 (.v 1))] (.le (.v 0) (.v 1)) [1,1] rfl this)
   have pb : (aV Z (L.map cd) (aa * ab) side rights half full (-1)).b = L.map cd := lH Z (L.map cd) (aa * ab) (by rw [List.length_map, g.l])
   have la : i / 2 * (ab - 1) * aa + aa / 2 < aa * ab := by rw [Nat.mul_assoc]; (exact ln [_,_,_,_,_,_] [.le (.n 2) (.v 3),.eq (.a (.v 4) (.v 3)) (.v 2),.le (.v 0) (.v 4),.eq (.a (.k 2 (.v 1)) (.v 5)) (.v 3)] (.lt (.a (.v 0) (.v 1)) (.v 2)) [2,1,2,2,1] rfl h1 hmul bb dm)
   have lc : i / 2 * (ab - 1) * aa + (if i % 2 = 0 then aa - 1 else 0) < aa * ab := by rw [Nat.mul_assoc]; split <;> (first | exact ln [_,_,_,_,_] [.eq (.a (.v 3) (.v 4)) (.v 2),.le (.v 0) (.v 3),.eq (.a (.v 1) (.n 1)) (.v 4)] (.lt (.a (.v 0) (.v 1)) (.v 2)) [1,1,1,1] rfl hmul bb (aM (ln [_] [.le (.n 2) (.v 0)] (.le (.n 1) (.v 0)) [1,1] rfl h1)) | exact ln [_,_,_,_] [.le (.n 2) (.v 2),.eq (.a (.v 3) (.v 2)) (.v 1),.le (.v 0) (.v 3)] (.lt (.a (.v 0) (.n 0)) (.v 1)) [1,1,1,1] rfl h1 hmul bb)
   rw [← Nat.mul_assoc] at c2 c3
   refine ⟨i / 2 * (ab - 1) * aa + aa / 2, i / 2 * (ab - 1) * aa + (if i % 2 = 0 then aa / 2 + 2 else aa / 2 - 2), i / 2 * (ab - 1) * aa + (if i % 2 = 0 then aa - 1 else 0), i / 2 * (ab - 1) * aa + (if i % 2 = 0 then aa / 2 + 1 else aa / 2 - 1), ?_, ?_, ?_, ?_, ?_⟩
   ·show sP (b9 aa ab hd true) i = _
    unfold sP
    rw [if_pos (by show (true && jn aa i) = true; rw [c1]; rfl)]
    rfl
   ·rw [pb, List.length_map, g.l]; exact la
   ·rw [pb, List.length_map, g.l]; exact lc
   ·rw [pb, cI (by rw [g.l]; exact la), c2]
    obtain rfl | rfl | rfl | rfl : i = 0 ∨ i = 1 ∨ i = 2 ∨ i = 3 := by exact CN hi
    all_goals decide +kernel
   ·rw [pb, cI (by rw [g.l]; exact lc), c3]
    obtain rfl | rfl | rfl | rfl : i = 0 ∨ i = 1 ∨ i = 2 ∨ i = 3 := by exact CN hi
    all_goals decide +kernel
 ·left
  show rights &&& 1 <<< i = 0
  apply Nat.eq_of_testBit_eq
  intro s
  rw [Nat.testBit_and, iQ, Nat.zero_testBit]
  by_cases e : i = s
  ·subst e; simp [hb]
  ·rw [decide_eq_false e, Bool.and_false]
structure TB where
 (kn kg p0 p1 : List Nat) (ry : List (List Nat))
noncomputable def oL (aa ab : Nat) : TB :=
 let S := b9 aa ab false false
 ⟨ox S (aa * ab), aW S 8, (aO aa ab false false).p0, (aO aa ab false false).p1, (List.range 8).map fun d => (cQ S d (aW S d)).1⟩
noncomputable def uB (aa a b d r : Nat) : Bool :=
 !(r.testBit a) || (decide (0 < hF aa a b) && (if d < 4 then decide (hR aa a b = 0 ∨ hU aa a b = 0) else decide ((hR aa a b).natAbs = (hU aa a b).natAbs ∧ hR aa a b ≠ 0)) &&
  (List.range (hF aa a b - 1)).all fun k => let c := (a : Int) + hW aa a b * ((1 + k : Nat) : Int); decide (0 ≤ c) && r.testBit c.toNat && (if grow d then decide (c < a) else decide ((a : Int) < c)))
noncomputable def ri (aa : Nat) (t : TB) (a b : Nat) : Bool :=
 (!((t.kn.getD b 0).testBit a) || decide ((hR aa a b).natAbs * (hU aa a b).natAbs = 2)) && (!((t.kg.getD b 0).testBit a) || decide (hF aa a b = 1)) &&
 ((t.p0.getD b 0).testBit a == (decide ((hR aa a b).natAbs = 1) && decide (hU aa a b = -1))) && ((t.p1.getD b 0).testBit a == (decide ((hR aa a b).natAbs = 1) && decide (hU aa a b = 1))) &&
 ((List.range 8).all fun d => uB aa a b d ((t.ry.getD d []).getD b 0))
noncomputable def bR (aa ab : Nat) : Bool := (List.range (aa * ab)).all fun b => (List.range (aa * ab)).all fun a => ri aa (oL aa ab) a b
noncomputable def shapes : List (Nat × Nat) := [(4, 3), (2, 6), (5, 5), (8, 3), (7, 5), (3, 7), (6, 5), (4, 8), (5, 4)]
theorem Dv : bR 4 3 = true := by decide +kernel
theorem Dw : bR 2 6 = true := by decide +kernel
theorem Dx : bR 5 5 = true := by decide +kernel
theorem Dy : bR 8 3 = true := by decide +kernel
theorem Dz : bR 7 5 = true := by decide +kernel
theorem DA : bR 3 7 = true := by decide +kernel
theorem DB : bR 6 5 = true := by decide +kernel
theorem DC : bR 4 8 = true := by decide +kernel
theorem DD : bR 5 4 = true := by decide +kernel
theorem wP : ∀ p ∈ shapes, ∀ d, d < 8 → fE (b9 p.1 p.2 false false) d = true := by decide +kernel
theorem wQ : ∀ p ∈ shapes, ∀ hw : Bool, oE (aO p.1 p.2 false hw) = q7 p.1 p.2 hw ∧ (∀ x ∈ fV p.1 p.2 p.1, x = 0 ∨ (1 ≤ x ∧ x ≤ 6) ∨ (9 ≤ x ∧ x ≤ 14)) ∧ cF (aO p.1 p.2 false hw) 4 < 16 ∧ (∀ c ∈ fF p.1 p.2 p.1, c = 46 ∨ c ∈ letters) ∧ gy p.1 p.2 hw < 16 := by decide +kernel
theorem rj (x y a : Nat) : (x - (x &&& y)).testBit a = (x.testBit a && !y.testBit a) := by
 have h := fe x (x &&& y)
 have e1 : x ||| (x &&& y) = x := by
  apply Nat.eq_of_testBit_eq; intro i; rw [Nat.testBit_or, Nat.testBit_and]; cases x.testBit i <;> cases y.testBit i <;> rfl
 have e2 : x &&& (x &&& y) = x &&& y := by
  apply Nat.eq_of_testBit_eq; intro i; rw [Nat.testBit_and, Nat.testBit_and]; cases x.testBit i <;> cases y.testBit i <;> rfl
 rw [e1, e2] at h
 have : x - (x &&& y) = x ^^^ (x &&& y) := by (exact lie [_,_,_,_] [.eq (.v 2) (.a (.v 1) (.v 3)),.eq (.a (.v 0) (.v 3)) (.v 2)] (.v 0) (.v 1) [1,1,1] [1,-1,-1] rfl rfl h (aM (ln [_,_,_] [.eq (.v 1) (.a (.v 2) (.v 0))] (.le (.v 0) (.v 1)) [1,-1] rfl h)))
 rw [this, Nat.testBit_xor, Nat.testBit_and]
 cases x.testBit a <;> cases y.testBit a <;> rfl
theorem cR {b0 b n : Nat} (h : ∀ a i, i < n → b0.testBit (a + i) = true → b.testBit a = true) : ∀ a i, i < 2 * n → b0.testBit (a + i) = true → (b ||| b >>> n).testBit a = true := by
 intro a i hi hb
 rw [Nat.testBit_or, Nat.testBit_shiftRight]
 by_cases c : i < n
 ·rw [h a i c hb]; rfl
 ·have := h (n + a) (i - n) (by (exact ln [_,_,_] [.lt (.v 2) (.k 2 (.v 1)),.eq (.a (.v 0) (.v 1)) (.v 2)] (.lt (.v 0) (.v 1)) [1,1,1] rfl hi (aM (ln [_,_] [.gP (.v 1) (.v 0)] (.le (.v 0) (.v 1)) [1,1] rfl c)))) (by rw [show n + a + (i - n) = a + i by (exact lie [_,_,_,_] [.eq (.a (.v 2) (.v 0)) (.v 3)] (.a (.a (.v 0) (.v 1)) (.v 2)) (.a (.v 1) (.v 3)) [1,1] [1,-1] rfl rfl (aM (ln [_,_] [.gP (.v 1) (.v 0)] (.le (.v 0) (.v 1)) [1,1] rfl c)))]; exact hb)
  rw [this, Bool.or_true]
theorem uC {x a c : Nat} (h1 : a < c) (h2 : c ≤ a + 64) (hb : x.testBit c = true) : (tT x).testBit a = true := by
 unfold tT
 dsimp only
 have s0 : ∀ a i, i < 1 → (x >>> 1).testBit (a + i) = true → (x >>> 1).testBit a = true := fun a i hi hb => by
  have : i = 0 := by exact lie [_] [.lt (.v 0) (.n 1)] (.v 0) (.n 0) [1,1] [1,0] rfl rfl hi
  subst this; exact hb
 have s1 := cR s0
 have s2 := cR s1
 have s3 := cR s2
 have s4 := cR s3
 have s5 := cR s4
 have s6 := cR s5
 refine s6 a (c - a - 1) (by omega) ?_
 rw [Nat.testBit_shiftRight, show 1 + (a + (c - a - 1)) = c by omega]; exact hb
theorem zn {x a c : Nat} (h : c < a) (hb : x.testBit c = true) : (x ^^^ (x - 1)).testBit a = false := by
 have lo : 1 ≤ x % 2 ^ (c + 1) := by
  rcases Nat.eq_zero_or_pos (x % 2 ^ (c + 1)) with e | e
  ·have := Nat.testBit_mod_two_pow x (c + 1) c
   rw [e, hb, Nat.zero_testBit, decide_eq_true (by exact Nat.le_refl _)] at this
   cases this
  ·exact e
 have hd : (x - 1) / 2 ^ (c + 1) = x / 2 ^ (c + 1) := by
  have e := Nat.div_add_mod x (2 ^ (c + 1))
  have p := Nat.two_pow_pos (c + 1)
  have m := Nat.mod_lt x p
  generalize 2 ^ (c + 1) = w at *
  generalize x / w = q at *
  generalize x % w = r at *
  have : x - 1 = w * q + (r - 1) := by (exact lie [_,_,_,_,_] [.eq (.a (.v 1) (.v 3)) (.v 4),.eq (.a (.v 0) (.n 1)) (.v 4),.eq (.a (.v 2) (.n 1)) (.v 3)] (.v 0) (.a (.v 1) (.v 2)) [1,-1,1,-1] [1,1,-1,1] rfl rfl e (aM (ln [_,_,_] [.le (.n 1) (.v 1),.eq (.a (.v 2) (.v 1)) (.v 0)] (.le (.n 1) (.v 0)) [1,1,1] rfl lo e)) (aM lo))
  rw [this, Nat.mul_add_div p, Nat.div_eq_of_lt (by exact Nat.lt_of_le_of_lt (Nat.sub_le _ _) m), Nat.add_zero]
 have e1 : x.testBit a = (x / 2 ^ (c + 1)).testBit (a - (c + 1)) := by rw [Nat.testBit_div_two_pow, show a - (c + 1) + (c + 1) = a by (exact Nat.sub_add_cancel h)]
 have e2 : (x - 1).testBit a = ((x - 1) / 2 ^ (c + 1)).testBit (a - (c + 1)) := by rw [Nat.testBit_div_two_pow, show a - (c + 1) + (c + 1) = a by (exact Nat.sub_add_cancel h)]
 rw [Nat.testBit_xor, e1, e2, hd, Bool.xor_self]
theorem wR {ray ck a : Nat} {gw : Bool} (h : (ed ray ck gw).testBit a = true) : ray.testBit a = true ∧ ∀ c, c ≤ a + 64 → ray.testBit c = true → ck.testBit c = true → if gw then a ≤ c else c ≤ a := by
 unfold ed at h
 by_cases z : ray &&& ck = 0
 ·rw [if_pos z] at h
  refine ⟨h, fun c _ hc ho => ?_⟩
  have := congrArg (fun x => x.testBit c) z
  simp [hc, ho] at this
 ·rw [if_neg z] at h
  cases gw with
  | true =>
   rw [if_pos rfl, Nat.testBit_and, Bool.and_eq_true] at h
   refine ⟨h.1, fun c _ hc ho => ?_⟩
   show a ≤ c
   rcases Nat.lt_or_ge c a with q | q
   ·have := zn (x := ray &&& ck) q (by rw [Nat.testBit_and, hc, ho]; rfl)
    rw [this] at h; cases h.2
   ·exact q
  | false =>
   rw [if_neg Bool.false_ne_true, rj, Bool.and_eq_true, Bool.not_eq_true'] at h
   refine ⟨h.1, fun c hcl hc ho => ?_⟩
   show c ≤ a
   rcases Nat.lt_or_ge a c with q | q
   ·have := uC (x := ray &&& ck) q hcl (by rw [Nat.testBit_and, hc, ho]; rfl)
    rw [this] at h; cases h.2
   ·exact q
theorem kW (f : Nat → Nat) (a : Nat) : ∀ k, (dh f k).testBit a = true → ∃ d, d < k ∧ (f d).testBit a = true
 | 0, h => by simp [dh] at h
 | k + 1, h => by
  rw [fi, Nat.testBit_or, Bool.or_eq_true] at h
  rcases h with h | h
  ·obtain ⟨d, hd, e⟩ := kW f a k h
   exact ⟨d, by (exact Nat.le_trans hd (Nat.le_add_right _ _)), e⟩
  ·exact ⟨k, by (exact Nat.le_refl _), h⟩
theorem DE (f r : Nat) (hd hw : Bool) : (aO f r hd hw).kn = (oL f r).kn := rfl
theorem iz (f r : Nat) (hd hw : Bool) : ∀ d, aW (b9 f r hd hw) d = aW (b9 f r false false) d
 | 0 => rfl
 | d + 1 => by rw [gI, gI, iz f r hd hw d]; rfl
theorem zo (f r : Nat) (hd hw : Bool) (d : Nat) : (aO f r hd hw).ry d = (cQ (b9 f r false false) d (aW (b9 f r false false) d)).1 := by
 show (cQ (b9 f r hd hw) d (aW (b9 f r hd hw) d)).1 = _
 rw [iz]; rfl
theorem DF (f r : Nat) (hd hw : Bool) : (aO f r hd hw).kg = (oL f r).kg := iz f r hd hw 8
theorem zq (f r : Nat) (hd hw : Bool) : (aO f r hd hw).p0 = (oL f r).p0 ∧ (aO f r hd hw).p1 = (oL f r).p1 := by
 have e : ∀ d, (cQ (b9 f r hd hw) d (aW (b9 f r hd hw) d)).1 = (cQ (b9 f r false false) d (aW (b9 f r false false) d)).1 := zo f r hd hw
 constructor
 ·show gJ (aW (b9 f r hd hw) 8) _ _ _ = gJ (aW (b9 f r false false) 8) _ _ _
  rw [iz]; dsimp only; rw [e 4, e 7]
 ·show gJ (aW (b9 f r hd hw) 8) _ _ _ = gJ (aW (b9 f r false false) 8) _ _ _
  rw [iz]; dsimp only; rw [e 5, e 6]
theorem wS {f r a b : Nat} (h : bR f r = true) (ha : a < f * r) (hb : b < f * r) : ri f (oL f r) a b = true := by
 unfold bR at h
 rw [List.all_eq_true] at h
 have h := h b (List.mem_range.mpr hb)
 rw [List.all_eq_true] at h
 exact h a (List.mem_range.mpr ha)
theorem vw {p : Bool} {q : Prop} [Decidable q] (h : (!p || decide q) = true) (hp : p = true) : q := by
 rw [hp] at h; simpa using h
structure DG (f r a b : Nat) (hd hw : Bool) : Prop where
 kn : ((aO f r hd hw).kn.getD b 0).testBit a = true → (hR f a b).natAbs * (hU f a b).natAbs = 2
 kg : ((aO f r hd hw).kg.getD b 0).testBit a = true → hF f a b = 1
 p0 : ((aO f r hd hw).p0.getD b 0).testBit a = (decide ((hR f a b).natAbs = 1) && decide (hU f a b = -1))
 p1 : ((aO f r hd hw).p1.getD b 0).testBit a = (decide ((hR f a b).natAbs = 1) && decide (hU f a b = 1))
 ry : ∀ d, d < 8 → uB f a b d (((aO f r hd hw).ry d).getD b 0) = true
theorem ku {f r a b : Nat} (hd hw : Bool) (h : bR f r = true) (ha : a < f * r) (hb : b < f * r) : DG f r a b hd hw := by
 have p := wS h ha hb
 unfold ri at p
 simp only [Bool.and_eq_true] at p
 obtain ⟨⟨⟨⟨q1, q2⟩, q3⟩, q4⟩, q5⟩ := p
 refine ⟨fun e => ?_, fun e => ?_, ?_, ?_, fun d hd' => ?_⟩
 ·rw [DE] at e; exact vw q1 e
 ·rw [DF] at e; exact vw q2 e
 ·rw [(zq f r hd hw).1]; exact beq_iff_eq.mp q3
 ·rw [(zq f r hd hw).2]; exact beq_iff_eq.mp q4
 ·rw [List.all_eq_true] at q5
  have := q5 d (List.mem_range.mpr hd')
  rw [zo]
  have e : (oL f r).ry.getD d [] = (cQ (b9 f r false false) d (aW (b9 f r false false) d)).1 := by
   show ((List.range 8).map fun d => (cQ (b9 f r false false) d (aW (b9 f r false false) d)).1).getD d [] = _
   rw [List.getD_eq_getElem?_getD, List.getElem?_map, List.getElem?_range hd']; rfl
  rw [e] at this
  exact this
section
variable {aa ab mv k0 k1 prey : Nat} {L : List Nat} {hd hw : Bool}
theorem jf : ∀ c, c ∈ letters → (code c &&& 7 = 2 ↔ c ∈ [78, 110]) ∧ (code c &&& 7 = 3 ↔ c ∈ [66, 98]) ∧ (code c &&& 7 = 4 ↔ c ∈ [82, 114]) ∧ (code c &&& 7 = 5 ↔ c ∈ [81, 113]) ∧ (code c &&& 7 = 6 ↔ c ∈ [75, 107]) ∧ c ≠ 46 := by decide +kernel
theorem Bw {mv c : Nat} (hm : mv < 2) (hc : c ∈ letters) (h : code c >>> 3 = mv) : own mv c := by
 refine ⟨(jf c hc).2.2.2.2.2, ?_⟩
 obtain rfl | rfl : mv = 0 ∨ mv = 1 := by exact fZ hm
 ·have := (dA c hc).2.2.2.2.1.mp h
  exact ⟨fun _ => rfl, fun _ => this⟩
 ·have := (dA c hc).2.2.2.2.2.mp h
  exact ⟨fun q => absurd q this, fun q => by cases q⟩
theorem Good.rk (g : Good aa ab mv k0 k1 prey L) (hm : mv < 2) {a : Nat} (ha : a < aa * ab) (hc : L.getD a 0 ∈ letters) (hs : code (L.getD a 0) >>> 3 = mv) : hits L aa a prey = false := g.h a ha (Bw hm hc hs)
theorem Good.p7 (g : Good aa ab mv k0 k1 prey L) (Z : ZD) {j : Nat} (hj : j < 2) (s : Nat) :
  ((av Z (L.map cd) (aa * ab) (P0 (aa * ab))).s.getD j 0).testBit s = true ↔ s < aa * ab ∧ L.getD s 0 ∈ letters ∧ code (L.getD s 0) >>> 3 = j := by
 rw [oI Z _ _ g.ok j hj _ (Nat.le_refl _)]
 simp only [Bool.and_eq_true, decide_eq_true_eq]
 constructor
 ·rintro ⟨⟨a, b⟩, c⟩
  have hl : s < L.length := by rw [g.l]; exact a
  rw [cI hl] at b c
  rcases g.c _ (get_mem hl) with e | e
  ·exfalso; apply b; unfold cd; rw [if_pos e]
  ·rw [gL e] at c; exact ⟨a, e, c⟩
 ·rintro ⟨a, e, c⟩
  have hl : s < L.length := by rw [g.l]; exact a
  rw [cI hl, gL e]
  have := (dA _ e).1
  have hne : code (L.getD s 0) ≠ 0 := by unfold bM at this; (exact this.elim (fun qz => ln [_] [.le (.n 1) (.v 0)] (.ne (.v 0) (.n 0)) [1,1] rfl qz.1) (fun qz => ln [_] [.le (.n 9) (.v 0)] (.ne (.v 0) (.n 0)) [1,1] rfl qz.1))
  exact ⟨⟨a, hne⟩, c⟩
theorem Good.oM (g : Good aa ab mv k0 k1 prey L) (Z : ZD) {i : Nat} (hi : i < 7) (s : Nat) :
  ((av Z (L.map cd) (aa * ab) (P0 (aa * ab))).k.getD i 0).testBit s = true → s < aa * ab ∧ L.getD s 0 ∈ letters ∧ code (L.getD s 0) &&& 7 = i := by
 rw [ks Z _ _ g.ok i hi _ (Nat.le_refl _)]
 simp only [Bool.and_eq_true, decide_eq_true_eq]
 rintro ⟨⟨a, b⟩, c⟩
 have hl : s < L.length := by rw [g.l]; exact a
 rw [cI hl] at b c
 rcases g.c _ (get_mem hl) with e | e
 ·exfalso; apply b; unfold cd; rw [if_pos e]
 ·rw [gL e] at c; exact ⟨a, e, c⟩
theorem oN {x : Nat} (h : ∀ a, x.testBit a = true → False) : x = 0 := by
 apply Nat.eq_of_testBit_eq
 intro i
 rw [Nat.zero_testBit]
 cases hx : x.testBit i with
 | false => rfl
 | true => exact (h i hx).elim
theorem Good.step0 (g : Good aa ab mv k0 k1 prey L) (Z : ZD) (hm : mv < 2) (hp : prey < aa * ab) (hT : bR aa ab = true) (rights half full : Nat) (ep' : Int) :
  kN (aO aa ab hd hw) (aV Z (L.map cd) (aa * ab) mv rights half full ep') prey mv = 0 := by
 refine oN fun a h => ?_
 have hk : ∀ i, (aV Z (L.map cd) (aa * ab) mv rights half full ep').k.getD i 0 = (av Z (L.map cd) (aa * ab) (P0 (aa * ab))).k.getD i 0 := fun _ => rfl
 have hs : (aV Z (L.map cd) (aa * ab) mv rights half full ep').s.getD mv 0 = (av Z (L.map cd) (aa * ab) (P0 (aa * ab))).s.getD mv 0 := rfl
 unfold kN tV at h
 simp only [hk, hs, Nat.testBit_or, Nat.testBit_and, Bool.or_eq_true, Bool.and_eq_true] at h
 rcases h with ⟨⟨h1, h2⟩, h3⟩ | ⟨h12, h3⟩
 ·obtain ⟨ha, hl, hi⟩ := g.oM Z (by exact ai rfl) a h2
  obtain ⟨_, _, hj⟩ := (g.p7 Z hm a).mp h3
  have P := ku (a := a) (b := prey) hd hw hT ha hp
  have hit := g.rk hm ha hl hj
  have hc := (dA _ hl).2.2.2.1.mp hi
  unfold hits at hit
  dsimp only at hit
  rw [if_pos hc] at hit
  unfold pw at h1
  obtain rfl | rfl : mv = 0 ∨ mv = 1 := by exact fZ hm
  ·rw [if_neg (by decide), P.p1] at h1
   have : L.getD a 0 = 80 := by
    have w := (dA _ hl).2.2.2.2.1.mp hj
    rcases List.mem_cons.mp hc with e | e
    ·exact e
    ·rw [List.mem_singleton.mp e] at w; exact absurd w (by decide)
   rw [if_pos this, h1] at hit; cases hit
  ·rw [if_pos (by decide), P.p0] at h1
   have : L.getD a 0 ≠ 80 := fun e => by
    have w := (dA _ hl).2.2.2.2.2.mp hj
    rw [e] at w; exact w (by decide)
   rw [if_neg this, h1] at hit; cases hit
 ·obtain ⟨ha, hl, hj⟩ := (g.p7 Z hm a).mp h3
  have P := ku (a := a) (b := prey) hd hw hT ha hp
  have hit := g.rk hm ha hl hj
  unfold hits at hit
  dsimp only at hit
  rcases h12 with ⟨h1, h2⟩ | ⟨h1, h2⟩
  ·obtain ⟨_, _, hi⟩ := g.oM Z (by exact ai rfl) a h2
   have hc := (jf _ hl).1.mp hi
   rw [if_neg (fun q => by
    have := (dA _ hl).2.2.2.1.mpr q
    (exact ln [_] [.eq (.v 0) (.n 2),.eq (.v 0) (.n 1)] .ff [0,-1,1] rfl hi this)), if_pos hc, decide_eq_true (P.kn h1)] at hit
   cases hit
  ·obtain ⟨_, _, hi⟩ := g.oM Z (by exact ai rfl) a h2
   have hc := (jf _ hl).2.2.2.2.1.mp hi
   rw [if_neg (fun q => by
    have := (dA _ hl).2.2.2.1.mpr q
    (exact ln [_] [.eq (.v 0) (.n 6),.eq (.v 0) (.n 1)] .ff [0,-1,1] rfl hi this)), if_neg (fun q => by
    have := (jf _ hl).1.mpr q
    (exact ln [_] [.eq (.v 0) (.n 6),.eq (.v 0) (.n 2)] .ff [0,-1,1] rfl hi this)), if_pos hc, decide_eq_true (P.kg h1)] at hit
   cases hit
end
section
variable {aa ab mv k0 k1 prey : Nat} {L : List Nat} {hd hw : Bool}
theorem Good.line (g : Good aa ab mv k0 k1 prey L) (Z : ZD) (h1 : 2 ≤ aa) (lI : aa * ab ≤ 35) (hp : prey < aa * ab) (hT : bR aa ab = true) {a d ck : Nat} (ha : a < aa * ab) (DH : d < 8)
  (yL : ck = ((av Z (L.map cd) (aa * ab) (P0 (aa * ab))).s.getD 0 0 ||| (av Z (L.map cd) (aa * ab) (P0 (aa * ab))).s.getD 1 0))
  (hb : (ed (((aO aa ab hd hw).ry d).getD prey 0) ck (grow d)).testBit a = true) :
  0 < hF aa a prey ∧ (if d < 4 then hR aa a prey = 0 ∨ hU aa a prey = 0 else ((hR aa a prey).natAbs = (hU aa a prey).natAbs ∧ hR aa a prey ≠ 0)) ∧ iu L aa a prey = true := by
 obtain ⟨r1, r2⟩ := wR hb
 have P := (ku (a := a) (b := prey) hd hw hT ha hp).ry d DH
 unfold uB at P
 rw [r1, Bool.not_true, Bool.false_or, Bool.and_eq_true, Bool.and_eq_true, decide_eq_true_eq, List.all_eq_true] at P
 obtain ⟨⟨p1, p2⟩, p3⟩ := P
 have p2' : (if d < 4 then hR aa a prey = 0 ∨ hU aa a prey = 0 else ((hR aa a prey).natAbs = (hU aa a prey).natAbs ∧ hR aa a prey ≠ 0)) := by
  split
  ·rename_i c; rw [if_pos c, decide_eq_true_eq] at p2; exact p2
  ·rename_i c; rw [if_neg c, decide_eq_true_eq] at p2; exact p2
 refine ⟨p1, p2', ?_⟩
 have cond : hR aa a prey = 0 ∨ hU aa a prey = 0 ∨ (hR aa a prey).natAbs = (hU aa a prey).natAbs := by
  split at p2'
  ·rcases p2' with q | q
   ·exact .inl q
   ·exact .inr (.inl q)
  ·exact .inr (.inr p2'.1)
 unfold iu
 rw [List.all_eq_true]
 intro k hk
 have hk' := List.mem_range.mp hk
 have b := Fy (k := 1 + k) h1 ha hp ⟨ab, rfl⟩ ⟨by (exact Nat.le_add_right _ _), by (exact ln [_,_,_] [.lt (.v 0) (.v 2),.eq (.a (.v 2) (.n 1)) (.v 1)] (.lt (.a (.n 1) (.v 0)) (.v 1)) [1,1,1] rfl hk' (aM p1))⟩ cond
 have q := p3 k hk
 dsimp only at q
 generalize (a : Int) + hW aa a prey * ((1 + k : Nat) : Int) = c at *
 obtain ⟨c, rfl⟩ := Int.eq_ofNat_of_zero_le b.1
 rw [Int.toNat_natCast] at q ⊢
 rw [Bool.and_eq_true, Bool.and_eq_true] at q
 obtain ⟨⟨_, q2⟩, q3⟩ := q
 have hcs : c < aa * ab := by exact Int.ofNat_lt.mp b.2
 have hl : c < L.length := by rw [g.l]; exact hcs
 rw [beq_iff_eq]
 rcases g.c _ (get_mem hl) with e | e
 ·exact e
 ·exfalso
  have ho : ck.testBit c = true := by
   rw [yL, Nat.testBit_or, Bool.or_eq_true]
   have h2 := j9 (dA _ e).1
   obtain z | z : code (L.getD c 0) >>> 3 = 0 ∨ code (L.getD c 0) >>> 3 = 1 := by exact fZ h2.2
   ·left; exact (g.p7 Z (by exact ai rfl) c).mpr ⟨hcs, e, z⟩
   ·right; exact (g.p7 Z (by exact ai rfl) c).mpr ⟨hcs, e, z⟩
  have o := r2 c (by exact CI hcs lI rfl) q2 ho
  split at o
  ·rename_i gg; rw [if_pos gg, decide_eq_true_eq] at q3; (exact ln [_,_] [.LT (.c (.v 0)) (.c (.v 1)),.le (.v 1) (.v 0)] .ff [0,1,1] rfl q3 o)
  ·rename_i gg; rw [if_neg gg, decide_eq_true_eq] at q3; (exact ln [_,_] [.LT (.c (.v 0)) (.c (.v 1)),.le (.v 1) (.v 0)] .ff [0,1,1] rfl q3 o)
theorem Good.Bx (g : Good aa ab mv k0 k1 prey L) (Z : ZD) (h1 : 2 ≤ aa) (lI : aa * ab ≤ 35) (hm : mv < 2) (hp : prey < aa * ab) (hT : bR aa ab = true) (rights half full : Nat) (ep' : Int) :
  dh (fun d => ed (((aO aa ab hd hw).ry d).getD prey 0) ((aV Z (L.map cd) (aa * ab) mv rights half full ep').s.getD 0 0 ||| (aV Z (L.map cd) (aa * ab) mv rights half full ep').s.getD 1 0) (grow d)) 4 &&& (((aV Z (L.map cd) (aa * ab) mv rights half full ep').k.getD 4 0 ||| (aV Z (L.map cd) (aa * ab) mv rights half full ep').k.getD 5 0) &&& (aV Z (L.map cd) (aa * ab) mv rights half full ep').s.getD mv 0) = 0 := by
 refine oN fun a h => ?_
 rw [Nat.testBit_and, Nat.testBit_and, Nat.testBit_or, Bool.and_eq_true, Bool.and_eq_true, Bool.or_eq_true] at h
 obtain ⟨h0, DI, h3⟩ := h
 obtain ⟨d, By, hb⟩ := kW _ _ _ h0
 obtain ⟨ha, hl, hj⟩ := (g.p7 Z hm a).mp h3
 obtain ⟨_, l2, l3⟩ := g.line Z h1 lI hp hT ha (show d < 8 by exact bq By rfl) rfl hb
 rw [if_pos By] at l2
 have hit := g.rk hm ha hl hj
 have nk : code (L.getD a 0) &&& 7 = 4 ∨ code (L.getD a 0) &&& 7 = 5 := by
  rcases DI with q | q
  ·exact .inl (g.oM Z (by exact ai rfl) a q).2.2
  ·exact .inr (g.oM Z (by exact ai rfl) a q).2.2
 unfold hits at hit
 dsimp only at hit
 rw [if_neg (fun q => by have := (dA _ hl).2.2.2.1.mpr q; (exact nk.elim (fun qz => ln [_] [.eq (.v 0) (.n 1),.eq (.v 0) (.n 4)] .ff [0,1,-1] rfl this qz) (fun qz => ln [_] [.eq (.v 0) (.n 1),.eq (.v 0) (.n 5)] .ff [0,1,-1] rfl this qz))), if_neg (fun q => by have := (jf _ hl).1.mpr q; (exact nk.elim (fun qz => ln [_] [.eq (.v 0) (.n 2),.eq (.v 0) (.n 4)] .ff [0,1,-1] rfl this qz) (fun qz => ln [_] [.eq (.v 0) (.n 2),.eq (.v 0) (.n 5)] .ff [0,1,-1] rfl this qz))), if_neg (fun q => by have := (jf _ hl).2.2.2.2.1.mpr q; (exact nk.elim (fun qz => ln [_] [.eq (.v 0) (.n 6),.eq (.v 0) (.n 4)] .ff [0,-1,1] rfl this qz) (fun qz => ln [_] [.eq (.v 0) (.n 6),.eq (.v 0) (.n 5)] .ff [0,-1,1] rfl this qz))), if_pos l2, if_neg (fun q => by have := (jf _ hl).2.1.mpr q; (exact nk.elim (fun qz => ln [_] [.eq (.v 0) (.n 3),.eq (.v 0) (.n 4)] .ff [0,1,-1] rfl this qz) (fun qz => ln [_] [.eq (.v 0) (.n 3),.eq (.v 0) (.n 5)] .ff [0,1,-1] rfl this qz))), l3] at hit
 cases hit
theorem Good.Bz (g : Good aa ab mv k0 k1 prey L) (Z : ZD) (h1 : 2 ≤ aa) (lI : aa * ab ≤ 35) (hm : mv < 2) (hp : prey < aa * ab) (hT : bR aa ab = true) (rights half full : Nat) (ep' : Int) :
  dh (fun d => ed (((aO aa ab hd hw).ry (4 + d)).getD prey 0) ((aV Z (L.map cd) (aa * ab) mv rights half full ep').s.getD 0 0 ||| (aV Z (L.map cd) (aa * ab) mv rights half full ep').s.getD 1 0) (grow (4 + d))) 4 &&& (((aV Z (L.map cd) (aa * ab) mv rights half full ep').k.getD 3 0 ||| (aV Z (L.map cd) (aa * ab) mv rights half full ep').k.getD 5 0) &&& (aV Z (L.map cd) (aa * ab) mv rights half full ep').s.getD mv 0) = 0 := by
 refine oN fun a h => ?_
 rw [Nat.testBit_and, Nat.testBit_and, Nat.testBit_or, Bool.and_eq_true, Bool.and_eq_true, Bool.or_eq_true] at h
 obtain ⟨h0, DI, h3⟩ := h
 obtain ⟨d, By, hb⟩ := kW _ _ _ h0
 obtain ⟨ha, hl, hj⟩ := (g.p7 Z hm a).mp h3
 obtain ⟨_, l2, l3⟩ := g.line Z h1 lI hp hT ha (show 4 + d < 8 by (exact ln [_] [.lt (.v 0) (.n 4)] (.lt (.a (.n 4) (.v 0)) (.n 8)) [1,1] rfl By)) rfl hb
 rw [if_neg (by exact Nat.not_lt_of_le (Nat.le_add_right _ _))] at l2
 have hit := g.rk hm ha hl hj
 have nk : code (L.getD a 0) &&& 7 = 3 ∨ code (L.getD a 0) &&& 7 = 5 := by
  rcases DI with q | q
  ·exact .inl (g.oM Z (by exact ai rfl) a q).2.2
  ·exact .inr (g.oM Z (by exact ai rfl) a q).2.2
 unfold hits at hit
 dsimp only at hit
 rw [if_neg (fun q => by have := (dA _ hl).2.2.2.1.mpr q; (exact nk.elim (fun qz => ln [_] [.eq (.v 0) (.n 1),.eq (.v 0) (.n 3)] .ff [0,1,-1] rfl this qz) (fun qz => ln [_] [.eq (.v 0) (.n 1),.eq (.v 0) (.n 5)] .ff [0,1,-1] rfl this qz))), if_neg (fun q => by have := (jf _ hl).1.mpr q; (exact nk.elim (fun qz => ln [_] [.eq (.v 0) (.n 2),.eq (.v 0) (.n 3)] .ff [0,1,-1] rfl this qz) (fun qz => ln [_] [.eq (.v 0) (.n 2),.eq (.v 0) (.n 5)] .ff [0,1,-1] rfl this qz))), if_neg (fun q => by have := (jf _ hl).2.2.2.2.1.mpr q; (exact nk.elim (fun qz => ln [_] [.eq (.v 0) (.n 6),.eq (.v 0) (.n 3)] .ff [0,-1,1] rfl this qz) (fun qz => ln [_] [.eq (.v 0) (.n 6),.eq (.v 0) (.n 5)] .ff [0,-1,1] rfl this qz))), if_neg (by omega), if_neg (by
  rintro (q | q)
  ·have := (jf _ hl).2.2.1.mpr q; (exact nk.elim (fun qz => ln [_] [.eq (.v 0) (.n 4),.eq (.v 0) (.n 3)] .ff [0,-1,1] rfl this qz) (fun qz => ln [_] [.eq (.v 0) (.n 4),.eq (.v 0) (.n 5)] .ff [0,1,-1] rfl this qz))
  ·exact q l2.1), l3] at hit
 cases hit
end
noncomputable def kX (L : List Nat) (aa size mv e : Nat) : Bool := (List.range size).any fun a => decide (L.getD a 0 = dj mv) && hits L aa a e
section
variable {aa ab mv k0 k1 prey : Nat} {L : List Nat} {hd hw : Bool}
theorem p8 {a e : Nat} (hm : mv < 2) (hT : bR aa ab = true) (ha : a < aa * ab) (he : e < aa * ab) (hc : L.getD a 0 = dj mv) : hits L aa a e = ((pw (aO aa ab hd hw) (1 - mv)).getD e 0).testBit a := by
 have P := ku (a := a) (b := e) hd hw hT ha he
 unfold hits
 dsimp only
 unfold pw
 obtain rfl | rfl : mv = 0 ∨ mv = 1 := by exact fZ hm
 ·have hc : L.getD a 0 = 80 := hc
  rw [hc, if_pos (by decide), if_pos rfl, if_neg (by decide), P.p1]
 ·have hc : L.getD a 0 = 112 := hc
  rw [hc, if_pos (by decide), if_neg (by decide), if_pos (by decide), P.p0]
theorem Good.kept (g : Good aa ab mv k0 k1 prey L) (Z : ZD) (hm : mv < 2) (hT : bR aa ab = true) {ep : Int} (he : ep < (aa * ab : Nat)) :
  dS (aO aa ab hd hw) Z (L.map cd) mv ep = if 0 ≤ ep ∧ kX L aa (aa * ab) mv ep.toNat = true then ep else -1 := by
 unfold dS
 by_cases h0 : 0 ≤ ep
 ·have hen : ep.toNat < aa * ab := by exact lin [_,_] [_] [.LT (.v 0) (.c (.v 1)),.EQ (.c (.v 0)) (.v 0)] (.lt (.v 0) (.v 1)) [1,1,1] rfl he (Int.toNat_of_nonneg h0)
  have key : ((pw (aO aa ab hd hw) (1 - mv)).getD ep.toNat 0 &&& ((av Z (L.map cd) (aa * ab) (P0 (aa * ab))).s.getD mv 0 &&& (av Z (L.map cd) (aa * ab) (P0 (aa * ab))).k.getD 1 0) ≠ 0) ↔ kX L aa (aa * ab) mv ep.toNat = true := by
   have Ch : ∀ a, L.getD a 0 ∈ letters → ((code (L.getD a 0) &&& 7 = 1 ∧ code (L.getD a 0) >>> 3 = mv) ↔ L.getD a 0 = dj mv) := by
    intro a ha
    have : ∀ c, c ∈ letters → ((code c &&& 7 = 1 ∧ code c >>> 3 = 0) ↔ c = 80) ∧ ((code c &&& 7 = 1 ∧ code c >>> 3 = 1) ↔ c = 112) := by decide +kernel
    obtain rfl | rfl : mv = 0 ∨ mv = 1 := by exact fZ hm
    ·exact (this _ ha).1
    ·exact (this _ ha).2
   unfold kX
   rw [List.any_eq_true]
   constructor
   ·intro hne
    have : ∃ a, ((pw (aO aa ab hd hw) (1 - mv)).getD ep.toNat 0 &&& ((av Z (L.map cd) (aa * ab) (P0 (aa * ab))).s.getD mv 0 &&& (av Z (L.map cd) (aa * ab) (P0 (aa * ab))).k.getD 1 0)).testBit a = true := Nat.exists_testBit_of_ne_zero hne
    obtain ⟨a, hb⟩ := this
    rw [Nat.testBit_and, Bool.and_eq_true, g.bit Z (by exact ai rfl) hm] at hb
    obtain ⟨b1, b2, b3, b4, b5⟩ := hb
    have po := (Ch a b3).mp ⟨b4, b5⟩
    refine ⟨a, List.mem_range.mpr b2, ?_⟩
    rw [decide_eq_true po, Bool.true_and, p8 (hd := hd) (hw := hw) hm hT b2 hen po]; exact b1
   ·rintro ⟨a, har, hb⟩ hz
    have ha := List.mem_range.mp har
    rw [Bool.and_eq_true, decide_eq_true_eq] at hb
    obtain ⟨po, ht⟩ := hb
    rw [p8 (hd := hd) (hw := hw) hm hT ha hen po] at ht
    have hl : L.getD a 0 ∈ letters := by rw [po]; unfold dj; split <;> decide
    have hp := (Ch a hl).mpr po
    have := (g.bit Z (i := 1) (j := mv) (by exact ai rfl) hm a).mpr ⟨ha, hl, hp.1, hp.2⟩
    have z := congrArg (fun x => x.testBit a) hz
    rw [Nat.testBit_and, ht, this, Nat.zero_testBit] at z
    cases z
  by_cases c : kX L aa (aa * ab) mv ep.toNat = true
  ·exact (if_pos ⟨h0, key.mpr c⟩).trans (if_pos ⟨h0, c⟩).symm
  ·exact (if_neg (fun q => c (key.mp q.2))).trans (if_neg (fun q => c q.2)).symm
 ·rw [if_neg (fun q => h0 q.1), if_neg (fun q => h0 q.1)]
theorem Good.HE (g : Good aa ab mv k0 k1 (if mv = 0 then k1 else k0) L) (Z : ZD) (h1 : 2 ≤ aa ∧ aa ≤ 8) (h2 : 3 ≤ ab ∧ ab ≤ 8) (lI : aa * ab ≤ 35) (hm : mv < 2) (hT : bR aa ab = true) {rights half full : Nat} {ep : Int} {nb : Nat → Bool} (hr : rights = if hw then fA L aa nb 4 else 0)
  (he : -1 ≤ ep ∧ ep < (aa * ab : Nat)) (ub : 0 ≤ ep → hd = true ∧ 5 ≤ ab ∧ ∃ f, f < aa ∧ ep = (aB aa ab mv f 2 : Nat) ∧ L.getD (aB aa ab mv f 1) 0 = 46 ∧ L.getD (aB aa ab mv f 2) 0 = 46 ∧ L.getD (aB aa ab mv f 3) 0 = cj mv) :
  A0 (aO aa ab hd hw) Z (L.map cd) mv rights ep half full k0 k1 := by
 have hll : (L.map cd).length = aa * ab := by rw [List.length_map, g.l]
 have r16 : rights < 16 := by
  rw [hr]; split
  ·exact kt L aa nb 4
  ·(exact ai rfl)
 refine ⟨hll, fun s hs => g.ok s (by exact ln [_,_,_] [.eq (.v 2) (.v 1),.lt (.v 0) (.v 2)] (.lt (.v 0) (.v 1)) [1,1,1] rfl hll hs), hm, r16, he, lH Z _ _ hll, g.i0, g.i1, g.Ds Z, g.Dt Z, g.Du Z (by exact cY h2.1 rfl), g.wing Z h1.1 h2.1 hr, fun h0 => ?_, fun sq dL ep' => ?_⟩
 ·obtain ⟨a1, a2, f, hf, rfl, c1, c2, c3⟩ := ub h0
  have hmul : ∀ j, 1 ≤ j → j ≤ 3 → aB aa ab mv f j < aa * ab - aa ∧ aa ≤ aB aa ab mv f j := fun j x y => oH h1.1 a2 hf x y
  obtain ⟨u1, v1⟩ := hmul 1 (by exact ai rfl) (by exact ai rfl)
  obtain ⟨u2, v2⟩ := hmul 2 (by exact ai rfl) (by exact ai rfl)
  obtain ⟨u3, v3⟩ := hmul 3 (by exact ai rfl) (by exact ai rfl)
  rw [Int.toNat_natCast]
  refine ⟨by show (hd && decide (5 ≤ ab)) = true; rw [a1, decide_eq_true a2]; rfl, a2, ?_, ?_, ?_, ?_⟩
  ·show aB aa ab mv f 2 / aa = if mv = 0 then ab - 3 else 2
   unfold aB
   split
   ·rw [Nat.mul_comm, Nat.mul_add_div (by exact cY h1.1 rfl), Nat.div_eq_of_lt hf]; (exact lie [_] [] (.a (.v 0) (.n 0)) (.v 0) [1] [1] rfl rfl)
   ·rw [Nat.mul_comm, Nat.mul_add_div (by exact cY h1.1 rfl), Nat.div_eq_of_lt hf]
  ·rw [cI (by rw [g.l]; (exact Int.ofNat_lt.mp he.2)), c2]; rfl
  ·have e : (if mv = 0 then aB aa ab mv f 2 + aa else aB aa ab mv f 2 - aa) = aB aa ab mv f 1 := by
    unfold aB
    obtain rfl | rfl : mv = 0 ∨ mv = 1 := by exact fZ hm
    ·simp only [if_true]
     have : (ab - (1 + 1)) * aa = (ab - (2 + 1)) * aa + 1 * aa := by rw [← Nat.add_mul]; congr 1; (exact lie [_,_,_] [.eq (.a (.v 0) (.a (.n 1) (.n 1))) (.v 2),.eq (.a (.v 1) (.a (.n 2) (.n 1))) (.v 2)] (.v 0) (.a (.v 1) (.n 1)) [1,1,-1] [1,-1,1] rfl rfl (aM (ln [_] [.le (.n 3) (.v 0)] (.le (.a (.n 1) (.n 1)) (.v 0)) [1,1] rfl h2.1)) (aM h2.1))
     (exact lie [_,_,_,_] [.eq (.v 3) (.a (.v 0) (.k 1 (.v 2)))] (.a (.a (.v 0) (.v 1)) (.v 2)) (.a (.v 3) (.v 1)) [1,-1] [1,1] rfl rfl this)
    ·simp only [show ¬ ((1 : Nat) = 0) by decide, if_false]; (exact lie [_,_,_] [.eq (.a (.v 0) (.v 1)) (.a (.k 2 (.v 1)) (.v 2))] (.v 0) (.a (.k 1 (.v 1)) (.v 2)) [1,1] [1,-1] rfl rfl (aM (ln [_,_] [] (.le (.v 0) (.a (.k 2 (.v 0)) (.v 1))) [1] rfl)))
   show (L.map cd).getD (if mv = 0 then aB aa ab mv f 2 + aa else aB aa ab mv f 2 - aa) 0 = 0
   rw [e, cI (by rw [g.l]; (exact ln [_,_,_,_] [.lt (.v 0) (.v 2),.eq (.a (.v 2) (.v 3)) (.v 1)] (.lt (.v 0) (.v 1)) [1,1,1] rfl u1 (aM (ln [_,_,_] [.LT (.c (.v 2)) (.c (.v 1)),.le (.v 0) (.v 2)] (.le (.v 0) (.v 1)) [1,1,1] rfl he.2 v2)))), c1]; rfl
  ·have e : (if mv = 0 then aB aa ab mv f 2 - aa else aB aa ab mv f 2 + aa) = aB aa ab mv f 3 := by
    unfold aB
    obtain rfl | rfl : mv = 0 ∨ mv = 1 := by exact fZ hm
    ·simp only [if_true]
     have : (ab - (2 + 1)) * aa = (ab - (3 + 1)) * aa + 1 * aa := by rw [← Nat.add_mul]; congr 1; (exact lie [_,_,_] [.eq (.a (.v 0) (.a (.n 2) (.n 1))) (.v 2),.eq (.a (.v 1) (.a (.n 3) (.n 1))) (.v 2)] (.v 0) (.a (.v 1) (.n 1)) [1,1,-1] [1,-1,1] rfl rfl (aM h2.1) (aM (ln [_] [.le (.n 5) (.v 0)] (.le (.a (.n 3) (.n 1)) (.v 0)) [1,1] rfl a2)))
     (exact lie [_,_,_,_,_] [.eq (.v 3) (.a (.v 1) (.k 1 (.v 4))),.eq (.a (.v 0) (.v 4)) (.a (.v 3) (.v 2))] (.v 0) (.a (.v 1) (.v 2)) [1,1,1] [1,-1,-1] rfl rfl this (aM (ln [_,_,_,_] [.eq (.v 1) (.a (.v 3) (.k 1 (.v 0)))] (.le (.v 0) (.a (.v 1) (.v 2))) [1,-1] rfl this)))
    ·simp only [show ¬ ((1 : Nat) = 0) by decide, if_false]; (exact lie [_,_] [] (.a (.a (.k 2 (.v 0)) (.v 1)) (.v 0)) (.a (.k 3 (.v 0)) (.v 1)) [1] [1] rfl rfl)
   show (L.map cd).getD (if mv = 0 then aB aa ab mv f 2 - aa else aB aa ab mv f 2 + aa) 0 = _
   rw [e, cI (by rw [g.l]; (exact ln [_,_,_,_] [.lt (.v 0) (.v 2),.eq (.a (.v 2) (.v 3)) (.v 1)] (.lt (.v 0) (.v 1)) [1,1,1] rfl u3 (aM (ln [_,_,_] [.LT (.c (.v 2)) (.c (.v 1)),.le (.v 0) (.v 2)] (.le (.v 0) (.v 1)) [1,1,1] rfl he.2 v2)))), c3]
   obtain rfl | rfl : mv = 0 ∨ mv = 1 := by exact fZ hm
   all_goals decide +kernel
 ·have hp : sq < aa * ab := by rw [dL]; split; exact g.i1; exact g.i0
  subst dL
  exact ⟨g.step0 Z hm hp hT rights half full ep', g.Bx Z h1.1 lI hm hp hT rights half full ep', g.Bz Z h1.1 lI hm hp hT rights half full ep'⟩
end
noncomputable def kb (size k0 k1 : Nat) : List Nat := ((List.replicate size 46).set k0 75).set k1 107
theorem BA {size k0 k1 a : Nat} (h0 : k0 < size) (h1 : k1 < size) (ha : a < size) : (kb size k0 k1).getD a 0 = if a = k1 then 107 else if a = k0 then 75 else 46 := by
 unfold kb
 by_cases e1 : a = k1
 ·subst e1; rw [if_pos rfl, bz (by simp; exact h1)]
 ·rw [if_neg e1, aJ (Ne.symm e1)]
  by_cases e0 : a = k0
  ·subst e0; rw [if_pos rfl, bz (by simp; exact h0)]
  ·rw [if_neg e0, aJ (Ne.symm e0), List.getD_eq_getElem?_getD, List.getElem?_replicate_of_lt ha]; rfl
theorem Good.first {aa ab mv k0 k1 prey : Nat} (hm : mv < 2) (h0 : k0 < aa * ab) (h1 : k1 < aa * ab) (hne : k0 ≠ k1) (hp : prey = if mv = 0 then k1 else k0) (hf : hF aa (if mv = 0 then k0 else k1) prey ≠ 1) :
  Good aa ab mv k0 k1 prey (kb (aa * ab) k0 k1) := by
 have gt := fun a ha => BA (a := a) h0 h1 ha
 refine ⟨by simp [kb], fun x hx => ?_, h0, h1, ?_, ?_, fun a ha q => ?_, fun a ha q => ?_, fun a ha q => ?_, fun a ha q => ?_⟩
 ·unfold kb at hx
  rcases List.mem_or_eq_of_mem_set hx with q | q
  ·rcases List.mem_or_eq_of_mem_set q with q | q
   ·exact .inl (List.mem_replicate.mp q).2
   ·rw [q]; exact .inr (by decide)
  ·rw [q]; exact .inr (by decide)
 ·rw [gt _ h0, if_neg hne, if_pos rfl]
 ·rw [gt _ h1, if_pos rfl]
 ·rw [gt a ha] at q
  split at q
  ·cases q
  ·split at q
   ·assumption
   ·cases q
 ·rw [gt a ha] at q
  split at q
  ·assumption
  ·split at q <;> cases q
 ·rw [gt a ha] at q
  split at q
  ·exact absurd q (by decide)
  ·split at q <;> exact absurd q (by decide)
 ·have hk : a = (if mv = 0 then k0 else k1) := by
   rw [gt a ha] at q
   obtain rfl | rfl : mv = 0 ∨ mv = 1 := by exact fZ hm
   ·split at q
    ·exact absurd (q.2.mpr rfl) (by decide)
    ·split at q
     ·assumption
     ·exact absurd rfl q.1
   ·split at q
    ·assumption
    ·split at q
     ·exact absurd (q.2.mp (by decide)) (by decide)
     ·exact absurd rfl q.1
  have man : (kb (aa * ab) k0 k1).getD a 0 = 75 ∨ (kb (aa * ab) k0 k1).getD a 0 = 107 := by
   rw [gt a ha]
   split
   ·exact .inr rfl
   ·split
    ·exact .inl rfl
    ·rename_i c1 c2
     exfalso; rw [hk] at c1 c2; split at c1 <;> simp_all
  have mk : (kb (aa * ab) k0 k1).getD a 0 ∈ [75, 107] := by rcases man with e | e <;> rw [e] <;> decide
  unfold hits
  dsimp only
  rw [if_neg (fun q => by rcases man with e | e <;> rw [e] at q <;> exact absurd q (by decide)), if_neg (fun q => by rcases man with e | e <;> rw [e] at q <;> exact absurd q (by decide)), if_pos mk]
  rw [hk]
  exact decide_eq_false hf
theorem iR : ∀ p ∈ shapes, (2 ≤ p.1 ∧ p.1 ≤ 8) ∧ (3 ≤ p.2 ∧ p.2 ≤ 8) ∧ p.1 * p.2 ≤ 35 := by decide
theorem uD : ∀ p ∈ shapes, bR p.1 p.2 = true := by
 intro p hp
 simp only [shapes, List.mem_cons, List.not_mem_nil, or_false] at hp
 rcases hp with rfl | rfl | rfl | rfl | rfl | rfl | rfl | rfl | rfl
 ·exact Dv
 ·exact Dw
 ·exact Dx
 ·exact Dy
 ·exact Dz
 ·exact DA
 ·exact DB
 ·exact DC
 ·exact DD
theorem wT (f r : Nat) (hd hw : Bool) (d : Nat) : fE (b9 f r hd hw) d = fE (b9 f r false false) d := rfl
theorem wU (f r : Nat) (hd hw : Bool) : oE (aO f r hd hw) = oE (aO f r false hw) := rfl
theorem sZ (f r : Nat) (hd hw : Bool) : cF (aO f r hd hw) 4 = cF (aO f r false hw) 4 := rfl
theorem HF {aa ab mv k0 k1 rights half full : Nat} {hd hw : Bool} {L : List Nat} {ep kept : Int} {nb : Nat → Bool} (hsh : (aa, ab) ∈ shapes) (g : Good aa ab mv k0 k1 (if mv = 0 then k1 else k0) L) (hm : mv < 2) (hr : rights = if hw then fA L aa nb 4 else 0)
  (he : -1 ≤ ep ∧ ep < (aa * ab : Nat)) (ub : 0 ≤ ep → hd = true ∧ 5 ≤ ab ∧ ∃ f, f < aa ∧ ep = (aB aa ab mv f 2 : Nat) ∧ L.getD (aB aa ab mv f 1) 0 = 46 ∧ L.getD (aB aa ab mv f 2) 0 = 46 ∧ L.getD (aB aa ab mv f 3) 0 = cj mv)
  (hk : kept = if 0 ≤ ep ∧ kX L aa (aa * ab) mv ep.toNat = true then ep else -1) (hh : half < 10 ^ 15) (hfu : 1 ≤ full ∧ full < 10 ^ 15) : FO aa ab hd hw L mv rights ep kept half full := by
 obtain ⟨h1, h2, hs⟩ := iR _ hsh
 have hT := uD _ hsh
 have r16 : rights < 16 := by
  rw [hr]; split
  ·exact kt L aa nb 4
  ·(exact ai rfl)
 have hl : L.length = ab * aa := by rw [g.l, Nat.mul_comm]
 obtain ⟨s1, s2, s3, s4, s5⟩ := wQ _ hsh hw
 refine ⟨h1, h2, hs, hl, g.c, hm, r16, he, ?_, hh, hfu, fun d DH => ?_, tok h1 hl g.c hm r16 he hh hfu, ⟨k0, k1, fun Z => g.HE Z h1 h2 hs hm hT hr he ub⟩, fun Z => ?_, ?_, s2, ?_, s4, s5, Dr h1.2 g.c⟩
 ·rw [hk]; split
  ·exact he
  ·constructor <;> (exact Int.natCast_nonneg _)
 ·rw [wT]; exact wP _ hsh d DH
 ·rw [g.kept Z hm hT he.2, hk]
 ·rw [wU]; exact s1
 ·rw [sZ]; exact s3
noncomputable def iS (L : List Nat) (aa mv : Nat) (ep : Int) (k : Nat) : Int := if 0 ≤ ep ∧ ((List.range k).any fun a => decide (L.getD a 0 = dj mv) && hits L aa a ep.toNat) = true then ep else -1
theorem rn (L : List Nat) (aa mv : Nat) (ep : Int) (k : Nat) : iS L aa mv ep (k + 1) = if 0 ≤ ep ∧ (decide (L.getD k 0 = dj mv) && hits L aa k ep.toNat) = true then ep else iS L aa mv ep k := by
 unfold iS
 rw [List.range_succ, List.any_append]
 simp only [List.any_cons, List.any_nil, Bool.or_false, Bool.or_eq_true]
 by_cases h0 : 0 ≤ ep
 ·by_cases c : (decide (L.getD k 0 = dj mv) && hits L aa k ep.toNat) = true
  ·rw [if_pos ⟨h0, .inr c⟩, if_pos ⟨h0, c⟩]
  ·rw [if_neg (show ¬ (0 ≤ ep ∧ (decide (L.getD k 0 = dj mv) && hits L aa k ep.toNat) = true) from fun q => c q.2)]
   by_cases d : ((List.range k).any fun a => decide (L.getD a 0 = dj mv) && hits L aa a ep.toNat) = true
   ·rw [if_pos ⟨h0, .inl d⟩, if_pos ⟨h0, d⟩]
   ·rw [if_neg (fun q => q.2.elim d c), if_neg (fun q => d q.2)]
 ·rw [if_neg (fun q => h0 q.1), if_neg (fun q => h0 q.1), if_neg (fun q => h0 q.1)]
theorem s8 {m c ha aa ab mv k0 k1 : Nat} {hd hw : Bool} {ep h0 h1 h2 : Int} {L : List Nat} {ρ : ap} {H : Hp} {Q : V → Hp → Prop} (hm : 79 = m) (hsh : (aa, ab) ∈ shapes) (g : Good aa ab mv k0 k1 (if mv = 0 then k1 else k0) L) (di : mv < 2) (mc : (c, .list (aK L)) ∈ H) (mh : (ha, .list [.int h0, .int h1, .int h2]) ∈ H) (hsf : (gQ, .tup ot) ∈ H) (hsr : (dX, .tup f') ∈ H)
  (he : -1 ≤ ep ∧ ep < (aa * ab : Nat)) (ub : 0 ≤ ep → hd = true ∧ 5 ≤ ab ∧ ∃ f, f < aa ∧ ep = (aB aa ab mv f 2 : Nat) ∧ L.getD (aB aa ab mv f 1) 0 = 46 ∧ L.getD (aB aa ab mv f 2) 0 = 46 ∧ L.getD (aB aa ab mv f 3) 0 = cj mv)
  (e2 : ρ 2 = some (.ref ha)) (e3 : ρ 3 = some (.int (aa * ab : Nat))) (e4 : ρ 4 = some (.bool hd)) (e5 : ρ 5 = some (.bool hw)) (e6 : ρ 6 = some (.int mv)) (e7 : ρ 7 = some (.ref c)) (rf : ρ 11 = some (.int ep)) (gc : ρ 27 = some (.int aa)) (gK : ρ 28 = some (.int ab))
  (h : ∀ H', Q (.bool true) H') : WB (cf m) (eX.body.drop 15) ρ H (bT Q) := by
 obtain ⟨q1, q2, qs⟩ := iR _ hsh
 dsimp only at q1 q2 qs
 have own : [80, 112].getD mv 0 = dj mv := by rcases fZ di with rfl | rfl <;> rfl
 have gl := g.l
 have ls : L.length ≤ 100 := gl ▸ az qs rfl
 have s1 : aa * ab ≤ 10000 := az qs rfl
 have nX : ∀ x ∈ L, x < 128 := fun x hx => by
  rcases g.c x hx with e | e
  ·rw [e]; decide
  ·exact (cC x e).1
 walk_at "S"
 refine ch (n := aa * ab) (by walk_at "v") (fun k af H' => (af 2 = some (.ref ha) ∧ af 3 = some (.int (aa * ab : Nat)) ∧ af 4 = some (.bool hd) ∧ af 5 = some (.bool hw) ∧ af 6 = some (.int mv) ∧ af 7 = some (.ref c) ∧ af 11 = some (.int ep) ∧ af 27 = some (.int aa) ∧ af 28 = some (.int ab)) ∧ af 12 = some (.int (iS L aa mv ep k)) ∧ H' = H) ⟨s1⟩ ⟨⟨e2, e3, e4, e5, e6, e7, rf, gc, gK⟩, ?_, rfl⟩ ?_ ?_
 ·show some (V.int (-1)) = _
  unfold iS; rw [if_neg (fun q => by simp at q)]
 ·rintro k af H' Q' hk ⟨⟨e2, e3, e4, e5, e6, e7, rf, gc, gK⟩, pd, rfl⟩ hq
  rw [rn] at hq
  have k1 : k < L.length := gl ▸ hk
  by_cases c0 : 0 ≤ ep
  ·obtain ⟨e, rfl⟩ := Int.eq_ofNat_of_zero_le c0
   have HG : e < L.length := by have := he.2; rw [gl]; (exact Int.ofNat_lt.mp he.2)
   have m2 : mv < [80, 112].length := di
   refine aj (cG (jT ((by walk_at "t" : Tv m _ _ _ (decide (0 ≤ e))).s) ?_))
   rw [decide_eq_true (Nat.zero_le e)]
   refine jT ((by walk_at "t" : Tv m _ _ _ (decide (L.getD k 0 = [80, 112].getD mv 0))).s) ?_
   rw [own]
   by_cases c1 : L.getD k 0 = dj mv
   ·rw [decide_eq_true c1]
    have hp : L.getD k 0 ∈ [80, 112] := by rw [c1]; unfold dj; split <;> decide
    refine jU (eY ((by walk_at "vs" : bc m _ _ _ [.ref c, .int aa, .int k, .int e]).s) (vl (n := m) (aq hm rfl) mc ls q1.1 q1.2 k1 HG ⟨ab, gl⟩ (.inl hp) nX ?_))
    rw [decide_eq_true c1, Bool.true_and] at hq
    cases hh : hits L aa k e with
    | true =>
     rw [if_pos ⟨c0, hh⟩] at hq
     refine fg (by walk_at "v") (an (an (hq _ _ _ .refl ?_).1))
     exact ⟨⟨e2, e3, e4, e5, e6, e7, rf, gc, gK⟩, rfl, rfl⟩
    | false =>
     rw [if_neg (fun q => by have q := q.2; rw [Int.toNat_natCast, hh] at q; cases q)] at hq
     refine an (an (hq _ _ _ .refl ?_).1)
     exact ⟨⟨e2, e3, e4, e5, e6, e7, rf, gc, gK⟩, pd, rfl⟩
   ·rw [decide_eq_false c1]
    rw [decide_eq_false c1, Bool.false_and, if_neg (fun q => by cases q.2)] at hq
    refine an (an (hq _ _ _ .refl ?_).1)
    exact ⟨⟨e2, e3, e4, e5, e6, e7, rf, gc, gK⟩, pd, rfl⟩
  ·refine aj (cG (jT ((by walk_at "t" : Tv m _ _ _ (decide (((0 : Nat) : Int) ≤ ep))).s) ?_))
   rw [decide_eq_false (show ¬ ((0 : Nat) : Int) ≤ ep from c0)]
   rw [if_neg (fun q => c0 q.1)] at hq
   refine an (an (hq _ _ _ .refl ?_).1)
   exact ⟨⟨e2, e3, e4, e5, e6, e7, rf, gc, gK⟩, pd, rfl⟩
 ·rintro af H' ⟨⟨e2, e3, e4, e5, e6, e7, rf, gc, gK⟩, pd, rfl⟩
  have p2 := Int.fmod_nonneg_of_pos h2 (show (0 : Int) < 1000000000000 by decide)
  have n1 : V.int (h1.fmod ((130 : Nat) : Int)) = .int (h1.fmod 130).toNat := congrArg V.int (Int.toNat_of_nonneg (Int.fmod_nonneg_of_pos _ (by decide))).symm
  have n2 : V.int (((1 : Nat) : Int) + h2.fmod ((1000000000000 : Nat) : Int)) = .int (1 + (h2.fmod 1000000000000).toNat : Nat) := congrArg V.int (by show (1 : Int) + h2.fmod 1000000000000 = _; (exact kv [_] [_] [.EQ (.c (.v 0)) (.v 0)] (.a (.n 1) (.v 0)) (.c (.a (.n 1) (.v 0))) [1,-1] [1,1] rfl rfl (Int.toNat_of_nonneg p2)))
  have b1 : (h1.fmod 130).toNat < 10 ^ 15 := by have := Int.fmod_lt_of_pos h1 (show (0 : Int) < 130 by decide); omega
  have b2 : 1 + (h2.fmod 1000000000000).toNat < 10 ^ 15 := by have := Int.fmod_lt_of_pos h2 (show (0 : Int) < 1000000000000 by decide); (exact lin [_] [_] [.LT (.v 0) (.n 1000000000000),.EQ (.c (.v 0)) (.v 0)] (.lt (.a (.n 1) (.v 0)) (.n 1000000000000000)) [1,1,1] rfl this (Int.toNat_of_nonneg p2))
  have hk : iS L aa mv ep (aa * ab) = if 0 ≤ ep ∧ kX L aa (aa * ab) mv ep.toNat = true then ep else -1 := rfl
  have fin : ∀ (rights : Nat) (nb : Nat → Bool), rights = (if hw then fA L aa nb 4 else 0) → WB (cf m) (eX.body.drop 18) (af.set 14 (.int rights)) H' (bT Q) := by
   intro rights nb hr
   refine bY (by walk_at "v") n1 (bY (by walk_at "v") n2 ?_)
   exact Bu hm (HF (half := (h1.fmod 130).toNat) (full := 1 + (h2.fmod 1000000000000).toNat) hsh g di hr he ub hk b1 ⟨Nat.le_add_right _ _, b2⟩) mc hsf hsr e3 e4 e5 e6 e7 rf pd rfl rfl rfl gc gK h
  have hfl : 3 * aa ≤ aa * ab := by rw [Nat.mul_comm 3]; exact Nat.mul_le_mul_left _ q2.1
  refine aj (aY (tP (c := hw) (by walk_at "t") ?_))
  cases hw with
  | true => exact w_call (df (vs := [.ref c, .int aa, .int (h1.fdiv ((2 : Nat) : Int))]) (by walk_at "vs") (oa (n := m) (L := L) (aq hm rfl) mc ls q1.1 q1.2 (by (exact ln [_,_,_] [.eq (.v 1) (.v 2),.le (.k 3 (.v 0)) (.v 2)] (.le (.k 2 (.v 0)) (.v 1)) [1,-1,1] rfl gl hfl)) (fin _ _ rfl)))
  | false => exact kM (v := .int (0 : Nat)) (by walk_at "v") (fin 0 (fun _ => false) rfl)
noncomputable def vx : List Nat := [80, 78, 66, 82, 81, 80, 112, 110, 98, 114, 113, 112]
theorem zr : ∀ i, i < 12 → vx.getD i 0 ∈ sW ∧ vx.getD i 0 < 128 := by decide +kernel
theorem zs {m c sl ha aa ab mv k0 k1 : Nat} {hd hw : Bool} {h0 h1 h2 : Int} {L : List Nat} {W : List Int} {ρ : ap} {H H0 : Hp} {Q : V → Hp → Prop} (hm : 79 = m) (hsb : Sb ((c, .list (aK L)) :: H) H0) (hsh : (aa, ab) ∈ shapes) (g : Good aa ab mv k0 k1 (if mv = 0 then k1 else k0) L) (di : mv < 2) (vy : h2.fmod 2 = (mv : Int)) (ms : (sl, .list (W.map .int)) ∈ H) (hW : W.length ≤ 100) (mh : (ha, .list [.int h0, .int h1, .int h2]) ∈ H) (hsf : (gQ, .tup ot) ∈ H) (hsr : (dX, .tup f') ∈ H)
  (e1 : ρ 1 = some (.ref sl)) (e2 : ρ 2 = some (.ref ha)) (e3 : ρ 3 = some (.int (aa * ab : Nat))) (e4 : ρ 4 = some (.bool hd)) (e5 : ρ 5 = some (.bool hw)) (e6 : ρ 6 = some (.int mv)) (e7 : ρ 7 = some (.ref c)) (e9 : ρ 9 = some (.int (if mv = 0 then k1 else k0 : Nat))) (gc : ρ 27 = some (.int aa)) (gK : ρ 28 = some (.int ab))
  (h : ∀ H', Q (.bool true) H') : WB (cf m) (eX.body.drop 12) ρ H0 (bT Q) := by
 have HH : (sl, O.list (W.map .int)) ∈ H0 := hsb.subset _ (List.mem_cons_of_mem _ ms)
 obtain ⟨q1, q2, qs⟩ := iR _ hsh
 dsimp only at q1 q2 qs
 have gT : 3 * aa ≤ aa * ab := by rw [Nat.mul_comm 3]; exact Nat.mul_le_mul_left _ q2.1
 have use : ∀ L : List Nat, Good aa ab mv k0 k1 (if mv = 0 then k1 else k0) L → (∀ x ∈ L, x < 128) ∧ L.length = aa * ab ∧ (if mv = 0 then k1 else k0) < aa * ab ∧ L.getD (if mv = 0 then k1 else k0) 0 ≠ 46 := by
  intro L g
  refine ⟨fun x hx => ?_, g.l, ?_, ?_⟩
  ·rcases g.c x hx with e | e
   ·(exact ln [_] [.eq (.v 0) (.n 46)] (.lt (.v 0) (.n 128)) [1,1] rfl e)
   ·exact (cC x e).1
  ·split; exact g.i1; exact g.i0
  ·split
   ·rw [g.b1]; decide
   ·rw [g.b0]; decide
 have s1 : 0 < aa * ab := Nat.lt_of_lt_of_le (by (exact ln [_] [.le (.n 2) (.v 0)] (.lt (.n 0) (.k 3 (.v 0))) [1,3] rfl q1.1)) gT
 have sI : (0 : Int) < ((aa * ab : Nat) : Int) := Int.ofNat_lt.mpr s1
 have FR : aa * ab ≤ 100 := az qs rfl
 have FS : aa ≤ aa * ab := Nat.le_trans (Nat.le_mul_of_pos_left _ (by decide)) gT
 refine aj (eF (wj (k := 3) (vs := W.map .int) (by walk_at "v") HH (by rw [List.length_map]; exact az hW rfl) (by decide) fun x => ?_))
 rw [← List.map_drop]
 refine ⟨some x, (W.drop 3).map .int, .list List.mem_cons_self (by rw [List.length_map, List.length_drop]; exact Nat.le_trans (Nat.sub_le _ _) (az hW rfl)), _, .keep hsb, ?_⟩
 refine cZ (fun k af H' => (af 2 = some (.ref ha) ∧ af 3 = some (.int (aa * ab : Nat)) ∧ af 4 = some (.bool hd) ∧ af 5 = some (.bool hw) ∧ af 6 = some (.int mv) ∧ af 7 = some (.ref c) ∧ af 9 = some (.int (if mv = 0 then k1 else k0 : Nat)) ∧ af 27 = some (.int aa) ∧ af 28 = some (.int ab)) ∧ ∃ L', Good aa ab mv k0 k1 (if mv = 0 then k1 else k0) L' ∧ H' = (x, .list ((W.drop 3).map .int)) :: (c, .list (aK L')) :: H) ⟨⟨e2, e3, e4, e5, e6, e7, e9, gc, gK⟩, L, g, rfl⟩ (fun k af H' e => by obtain ⟨_, _, _, rfl⟩ := e; exact List.mem_cons_self) ?_ ?_
 ·rintro k v af H' Q' hx ⟨⟨e2, e3, e4, e5, e6, e7, e9, gc, gK⟩, L', g', rfl⟩ hq
  obtain ⟨n, rfl⟩ : ∃ n : Int, v = .int n := by
   rw [List.getElem?_map] at hx
   cases q : (W.drop 3)[k]? with
   | none => rw [q] at hx; cases hx
   | some y => rw [q] at hx; exact ⟨y, (Option.some.inj hx).symm⟩
  obtain ⟨u1, u2, u3, u4⟩ := use L' g'
  obtain ⟨i, hi, BB⟩ := gF n (show (0 : Int) < 12 by decide)
  obtain ⟨sq, dL, slt⟩ := gF (n.fdiv 12) sI
  have BB : i < 12 := Int.ofNat_lt.mp BB
  have slt : sq < aa * ab := Int.ofNat_lt.mp slt
  obtain ⟨ym, CB⟩ := zr i BB
  have vi : Ev m (af.set 10 (.int n)) ((x, .list ((W.drop 3).map .int)) :: (c, .list (aK L')) :: H) (.bin .Mod (.var 10) (.ae 12)) (.int i) := by
   rw [← hi]; exact f9 (cT rfl) cU (qN ⟨by decide⟩)
  have vq : Ev m (af.set 10 (.int n)) ((x, .list ((W.drop 3).map .int)) :: (c, .list (aK L')) :: H) (.bin .Mod (.bin .FloorDiv (.var 10) (.ae 12)) (.var 3)) (.int sq) := by
   rw [← dL]; exact f9 (f9 (cT rfl) cU (yy ⟨by decide⟩ ⟨by decide⟩)) (cT e3) (qN ⟨s1⟩)
  refine gr (vs := [.ref c, .int aa, .str [vx.getD i 0], .int sq, .int mv, .int (if mv = 0 then k1 else k0 : Nat)]) (.cons (by walk_at "v") (.cons (by walk_at "v") (.cons (e_i (gR rfl) vi (CS ⟨BB⟩ ⟨ai rfl⟩)) (.cons vq (by walk_at "vs"))))) ?_
  refine ii (n := m) (H' := (c, .list (aK L')) :: (x, .list ((W.drop 3).map .int)) :: H) (aq hm rfl) (.pick (.there .here) (.pick .here .refl)) ?_
  refine vm (n := m) (aq hm rfl) (u2 ▸ FR) q1.1 q1.2 ⟨ab, u2⟩ (u2 ▸ slt) (u2 ▸ u3) u4 CB u1 (u2 ▸ FS) di ?_
  refine an (hq _ _ ((x, .list ((W.drop 3).map .int)) :: (c, .list (aK (iw L' aa (vx.getD i 0) sq mv (if mv = 0 then k1 else k0)))) :: H) (.pick (.there .here) (.pick .here .refl)) ?_).1
  exact ⟨⟨e2, e3, e4, e5, e6, e7, e9, gc, gK⟩, _, g'.put FS di slt ym, rfl⟩
 ·rintro af H' ⟨⟨e2, e3, e4, e5, e6, e7, e9, gc, gK⟩, L', g', rfl⟩
  obtain ⟨u1, u2, u3, u4⟩ := use L' g'
  walk_at "S"
  walk_at "S"
  refine gO (fun hT => ?_) (fun _ => an ?_)
  ·obtain ⟨rfl, c5⟩ := ag hT
   have c5 := of_decide_eq_true c5
   have A7 : (0 : Int) < (aa : Int) := Int.ofNat_lt.mpr (Nat.lt_of_lt_of_le (by decide) q1.1)
   obtain ⟨f, hf, flt⟩ := gF (h2.fdiv 2) A7
   have flt : f < aa := Int.ofNat_lt.mp flt
   refine fh (vs := [.ref c, .int aa, .int ab, .int h2, .int (if mv = 0 then k1 else k0 : Nat)]) (by walk_at "vs") ?_
   refine ii (n := m) (H' := (c, .list (aK L')) :: (x, .list ((W.drop 3).map .int)) :: H) (aq hm rfl) (.pick (.there .here) (.pick .here .refl)) ?_
   refine y7 (n := m) (ab := ab) (mv := mv) (f := f) (x1 := (h2.fdiv (2 * (aa : Int))).fmod 2) (x2 := (h2.fdiv (4 * (aa : Int))).fmod 4) (aq hm rfl) (u2 ▸ FR) q1.1 q1.2 u2 c5 q2.2 (u2 ▸ u3) u4 u1 vy di hf flt rfl rfl ?_
   have g2 := g'.dn (x1 := (h2.fdiv (2 * (aa : Int))).fmod 2) (x2 := (h2.fdiv (4 * (aa : Int))).fmod 4) q1.1 c5 flt di
   have pe := wO (prey := if mv = 0 then k1 else k0) (mv := mv) (x1 := (h2.fdiv (2 * (aa : Int))).fmod 2) (x2 := (h2.fdiv (4 * (aa : Int))).fmod 4) q1.1 c5 flt u2
   have pb := oH (mv := mv) (j := 2) q1.1 c5 flt (by exact ai rfl) (by exact ai rfl)
   generalize dn L' aa ab mv f ((h2.fdiv (2 * (aa : Int))).fmod 2) ((h2.fdiv (4 * (aa : Int))).fmod 4) (if mv = 0 then k1 else k0) = PL at *
   refine an (s8 hm hsh g2 di (.head _) (.tail _ (.tail _ mh)) (.tail _ (.tail _ hsf)) (.tail _ (.tail _ hsr)) ?_ (fun q => ?_) e2 e3 e4 e5 e6 e7 rfl gc gK h)
   ·rcases pe with e | ⟨e, _⟩
    ·rw [e]; constructor <;> (exact Int.natCast_nonneg _)
    ·rw [e]; constructor <;> (first | exact Int.natCast_nonneg _ | exact ln [_,_,_,_] [.lt (.v 0) (.v 2),.eq (.a (.v 2) (.v 3)) (.v 1)] (.LT (.c (.v 0)) (.c (.v 1))) [1,1,1] rfl pb.1 (aM (ln [_,_] [.le (.k 3 (.v 0)) (.v 1)] (.le (.v 0) (.v 1)) [3,1] rfl gT)))
   ·rcases pe with e | ⟨e, a1, a2, a3⟩
    ·rw [e] at q; exact absurd q (by decide)
    ·exact ⟨rfl, c5, f, flt, e, a1, a2, a3⟩
  ·exact s8 hm hsh g' di (.tail _ (.head _)) (.tail _ (.tail _ mh)) (.tail _ (.tail _ hsf)) (.tail _ (.tail _ hsr)) ⟨by decide, Int.lt_of_lt_of_le (by decide) (Int.natCast_nonneg _)⟩ (fun q => absurd q (by decide)) e2 e3 e4 e5 e6 e7 rfl gc gK h
theorem wV : ∀ p ∈ shapes, ∀ one, one < p.1 * p.2 → bC p.1 one (p.1 * p.2) ≠ [] := by decide +kernel
theorem zt : ∀ p ∈ shapes, hF p.1 (p.1 / 2) (p.1 * p.2 - p.1 + p.1 / 2) ≠ 1 ∧ hF p.1 (p.1 * p.2 - p.1 + p.1 / 2) (p.1 / 2) ≠ 1 ∧ p.1 / 2 ≠ p.1 * p.2 - p.1 + p.1 / 2 ∧ p.1 / 2 < p.1 * p.2 ∧ p.1 * p.2 - p.1 + p.1 / 2 < p.1 * p.2 := by decide +kernel
theorem DJ {aa one two : Nat} (h : 1 < (((one % aa : Nat) : Int) - ((two % aa : Nat) : Int)).natAbs ∨ 1 < (((one / aa : Nat) : Int) - ((two / aa : Nat) : Int)).natAbs) : hF aa one two ≠ 1 ∧ hF aa two one ≠ 1 ∧ one ≠ two := by
 have a1 : (hR aa two one).natAbs = (hR aa one two).natAbs := by unfold hR; rw [← Int.natAbs_neg, Int.neg_sub]
 have a2 : (hU aa two one).natAbs = (hU aa one two).natAbs := by unfold hU; rw [← Int.natAbs_neg, Int.neg_sub]
 have w : 1 < hF aa two one := h.elim (fun q => Nat.lt_of_lt_of_le q (Nat.le_max_left ..)) (fun q => Nat.lt_of_lt_of_le q (Nat.le_max_right ..))
 have e : hF aa one two = hF aa two one := by unfold hF; rw [a1, a2]
 refine ⟨e ▸ Nat.ne_of_gt w, Nat.ne_of_gt w, fun q => ?_⟩
 subst q
 rw [Int.sub_self, Int.sub_self] at h
 exact h.elim (by decide) (by decide)
theorem wW {aa one two k : Nat} (h : two ∈ bC aa one k) : two < k ∧ hF aa one two ≠ 1 ∧ hF aa two one ≠ 1 ∧ one ≠ two := by
 unfold bC at h
 rw [List.mem_filter] at h
 obtain ⟨h1, h2⟩ := h
 unfold apart1 at h2
 rw [Bool.or_eq_true, decide_eq_true_eq, decide_eq_true_eq] at h2
 exact ⟨List.mem_range.mp h1, DJ h2⟩
theorem wX {aa ab one j : Nat} {N : Int} (hsh : (aa, ab) ∈ shapes) (hone : one < aa * ab) (hjl : j < (bC aa one (aa * ab)).length) :
  ∃ k0 k1, mr aa ab N one j = [k0, k1] ∧ k0 < aa * ab ∧ k1 < aa * ab ∧ k0 ≠ k1 ∧ hF aa k0 k1 ≠ 1 ∧ hF aa k1 k0 ≠ 1 := by
 unfold mr
 obtain ⟨a1, a2, a3, a4, a5⟩ := zt _ hsh
 dsimp only at a1 a2 a3 a4 a5
 split
 ·exact ⟨_, _, rfl, a4, a5, a3, a1, a2⟩
 ·have hm : (bC aa one (aa * ab)).getD j 0 ∈ bC aa one (aa * ab) := get_mem hjl
  obtain ⟨b1, b2, b3, b4⟩ := wW hm
  exact ⟨_, _, rfl, hone, b1, b4, b2, b3⟩
theorem zu {m sl ha aa ab : Nat} {h0 h1 h2 : Int} {W : List Int} {ρ : ap} {H : Hp} {Q : V → Hp → Prop} (hm : 79 = m) (hsh : (aa, ab) ∈ shapes) (ms : (sl, .list (W.map .int)) ∈ H) (hW : W.length ≤ 100) (mh : (ha, .list [.int h0, .int h1, .int h2]) ∈ H) (hsf : (gQ, .tup ot) ∈ H) (hsr : (dX, .tup f') ∈ H)
  (e1 : ρ 1 = some (.ref sl)) (e2 : ρ 2 = some (.ref ha)) (gc : ρ 27 = some (.int aa)) (gK : ρ 28 = some (.int ab))
  (h : ∀ H', Q (.bool true) H') : WB (cf m) (eX.body.drop 3) ρ H (bT Q) := by
 obtain ⟨q1, q2, qs⟩ := iR _ hsh
 dsimp only at q1 q2 qs
 have gT : 3 * aa ≤ aa * ab := by rw [Nat.mul_comm 3]; exact Nat.mul_le_mul_left _ q2.1
 have s1 : 0 < aa * ab := Nat.lt_of_lt_of_le (by (exact ln [_] [.le (.n 2) (.v 0)] (.lt (.n 0) (.k 3 (.v 0))) [1,3] rfl q1.1)) gT
 have sI : (0 : Int) < ((aa * ab : Nat) : Int) := Int.ofNat_lt.mpr s1
 obtain ⟨mv, vy, di⟩ := gF h2 (show (0 : Int) < 2 by decide)
 obtain ⟨one, hone, zv⟩ := gF (h1.fdiv 2) sI
 have di : mv < 2 := Int.ofNat_lt.mp di
 have zv : one < aa * ab := Int.ofNat_lt.mp zv
 obtain ⟨j, hj, BC⟩ := gF ((h1.fdiv 2).fdiv ((aa * ab : Nat) : Int)) (Int.ofNat_lt.mpr (List.length_pos_iff.mpr (wV _ hsh one zv)))
 have BC : j < (bC aa one (aa * ab)).length := Int.ofNat_lt.mp BC
 obtain ⟨k0, k1, ek, l0, l1, hne, Ic, Id⟩ := wX (N := h1) hsh zv BC
 have g := Good.first (aa := aa) (ab := ab) (mv := mv) (k0 := k0) (k1 := k1) (prey := if mv = 0 then k1 else k0) di l0 l1 hne rfl (by split <;> assumption)
 have r6 : ab ≤ 1000000 := az q2.2 rfl
 walk_at "S"
 walk_at "S"
 walk_at "S"
 refine bY (by walk_at "v") (congrArg V.int (show h2.fmod ((2 : Nat) : Int) = mv from vy)) ?_
 refine aj (aY (qP (k := aa * ab) (by walk_at "v") (fun t => by walk_at "v") ⟨az qs rfl⟩ fun t c => ?_))
 refine fh (vs := [.int aa, .int ab, .int h1]) (by walk_at "vs") (y8 (n := m) (one := one) (j := j) (aq hm rfl) q1 q2 qs hone zv hj BC (fun ka => ?_))
 rw [ek]
 have hrl : (List.replicate (aa * ab) 46).length = aa * ab := List.length_replicate
 have h1' : k0 < (List.replicate (aa * ab) 46).length := hrl.symm ▸ l0
 have h2' : k1 < ((List.replicate (aa * ab) 46).set k0 75).length := by rw [List.length_set, hrl]; exact l1
 have h3' : (List.replicate (aa * ab) 46).length ≤ 10000 := hrl.symm ▸ az qs rfl
 have h4' : ((List.replicate (aa * ab) 46).set k0 75).length ≤ 10000 := by rw [List.length_set]; exact h3'
 have m1 : mv ≤ 1 := Nat.le_of_lt_succ di
 have m2 : 1 - mv < [k0, k1].length := Nat.lt_of_le_of_lt (Nat.sub_le _ _) (by decide : 1 < 2)
 have eb : kb (aa * ab) k0 k1 = ((List.replicate (aa * ab) 46).set k0 75).set k1 107 := rfl
 generalize List.replicate (aa * ab) 46 = E at *
 walk_at "S"
 walk_at "S"
 refine bY (z := .int (if mv = 0 then k1 else k0 : Nat)) (by walk_at "v") (by rcases fZ di with rfl | rfl <;> rfl) ?_
 refine zs (c := c) (L := kb (aa * ab) k0 k1) (H := H) hm ?_ hsh g di vy ms hW mh hsf hsr e1 e2 rfl rfl rfl rfl rfl rfl gc gK h
 rw [eb]
 exact .pick (.there .here) (.skip (.skip .refl))
theorem uE {m a k : Nat} {ρ : ap} {H : Hp} {o : E} {vs : List V} {R : V → Hp → Prop} (p : Ev m ρ H o (.ref a)) (me : List.Mem (a, .ro vs) H) (l : vs.length ≤ 10000) (hk : k ≤ 10000) (g : ∀ d, R (.ref d) ((d, .list (vs.take k)) :: H)) : ay (cf m) (.slice o .bO (.ae k)) ρ H R :=
 p.s _ ⟨a, vs, 0, k, rfl, .inr me, l, .inl ⟨rfl, rfl⟩, .inr ⟨rfl, Int.natCast_nonneg _, Int.ofNat_le.mpr hk⟩, fun c => by rw [Int.toNat_natCast, Int.toNat_zero, List.drop_zero]; exact g c⟩
theorem zw {m n x : Nat} {ρ : ap} {H : Hp} {e it : E} {R : V → Hp → Prop} (p : Ev m ρ H it (.int n)) (hn : n ≤ 1000) (f : Nat → V) (hb : ∀ k a o, k < n → Ev m (ρ.set x (.int k)) ((a, o) :: H) e (f k)) (g : ∀ a o d, R (.ref d) ((d, .list ((List.range n).map f)) :: (a, o) :: H)) :
  ay (cf m) (.comp x e (.blt 1 (.cons it .nil)) (.aZ true)) ρ H R := by
 refine qQ p ⟨az hn rfl⟩ fun a => ?_
 have w := kp (lo := 0) (n := n) (x := x) (a := a) (C := cf m) (elt := ay (cf m) e) (ρ := ρ) (H := H) (Q := fun acc H₂ => ∀ d, R (.ref d) ((d, .list acc) :: H₂)) f (by (exact ln [_] [.le (.v 0) (.n 1000)] (.le (.a (.n 0) (.v 0)) (.n 1000)) [1,1] rfl hn)) (fun k Q' hk hq => by rw [Nat.zero_add]; exact (hb k a _ hk).s _ hq) (fun d => g a _ d)
 rw [Nat.zero_add] at w
 exact w
theorem s9 : ∀ r, r < 9 → shapes.getD r (0, 0) ∈ shapes := by decide +kernel
theorem wY {n : Nat} {H : Hp} {Q} (hf : 71 < n) (h : ∀ (a : Nat) (t : Nat → Nat) (H1 : Hp), (a, .list ((List.range 9).map fun i => .ref (t i))) ∈ H1 ++ H → (∀ i, i < 9 → (t i, .tup [.int (shapes.getD i (0, 0)).1, .int (shapes.getD i (0, 0)).2]) ∈ H1 ++ H) → Q (.ref a) (H1 ++ H)) : (cf n).Sp 71 [] H Q := by
 refine au hf rfl rfl fun m hm => ?_
 refine aj (gq (bu ?_))
 iterate 9 (refine lU (qR (jo cU (jo cU (df .nil ⟨ai rfl, fun t => ?_⟩)))))
 rename_i t0 t1 t2 t3 t4 t5 t6 t7
 refine df .nil ⟨ai rfl, fun a => ⟨_, Sb.refl, ?_⟩⟩
 refine h a (fun i => [t0, t1, t2, t3, t4, t5, t6, t7, t].getD i 0) [_, _, _, _, _, _, _, _, _, _] (.head _) (fun i hi => ?_)
 match i, hi with
 | 0, _ => walk_at "m"
 | 1, _ => walk_at "m"
 | 2, _ => walk_at "m"
 | 3, _ => walk_at "m"
 | 4, _ => walk_at "m"
 | 5, _ => walk_at "m"
 | 6, _ => walk_at "m"
 | 7, _ => walk_at "m"
 | 8, _ => walk_at "m"
theorem zx {m sc : Nat} {S : List Int} {H : Hp} {Q : V → Hp → Prop} (hm : 79 = m) (ms : (sc, .ro (S.map .int)) ∈ H) (hS : S.length ≤ 100) (hsf : (gQ, .tup ot) ∈ H) (hsr : (dX, .tup f') ∈ H)
  (h : ∀ H', Q (.bool true) H') : WB (cf m) eX.body (gp [.ref sc]) H (bT Q) := by
 refine aj (aY (uE (k := 20) (vs := S.map .int) (by walk_at "v") ms (by rw [List.length_map]; exact az hS rfl) (by decide) fun sl => ?_))
 rw [← List.map_take]
 generalize HI : S.take 20 = W
 have hW : W.length ≤ 100 := by rw [← HI, List.length_take]; exact Nat.le_trans (Nat.min_le_right _ _) hS
 have HJ : (W.map V.int).length ≤ 10000 := by rw [List.length_map]; exact az hW rfl
 refine aj (aY (zw (n := 3) cU (by decide) (fun k => .int (W.getD k 0)) (fun k a o hk => ?_) (fun a o ha => ?_)))
 ·refine jZ (c := decide (k < (W.map V.int).length)) (by walk_at "t") (fun hT => ?_) (fun hF => ?_)
  ·have hT := of_decide_eq_true hT
   refine e_i (cT rfl) (cT rfl) (wg (.tail _ (.head _)) ⟨HJ, ?_⟩)
   rw [List.length_map] at hT
   rw [List.getElem?_map, List.getElem?_eq_getElem hT, List.getD_eq_getElem?_getD, List.getElem?_eq_getElem hT]
   rfl
  ·have hF := of_decide_eq_false hF
   rw [List.length_map] at hF
   rw [show W.getD k 0 = 0 by rw [List.getD_eq_getElem?_getD, List.getElem?_eq_none (Nat.le_of_not_lt hF)]; rfl]
   exact gR rfl
 ·rw [show (List.range 3).map (fun k => V.int (W.getD k 0)) = [.int (W.getD 0 0), .int (W.getD 1 0), .int (W.getD 2 0)] from rfl]
  generalize W.getD 0 0 = h0
  generalize W.getD 1 0 = h1
  generalize W.getD 2 0 = h2
  obtain ⟨r, hr, zy⟩ := gF h0 (show (0 : Int) < 9 by decide)
  have zy : r < 9 := Int.ofNat_lt.mp zy
  refine aj (aR (Au (w_call (df .nil (wY (n := m) (aq hm rfl) (fun l t H1 ml mt => ?_))))))
  have mh : (ha, O.list [V.int h0, V.int h1, V.int h2]) ∈ H1 ++ (ha, O.list [V.int h0, V.int h1, V.int h2]) :: (a, o) :: (sl, O.list (W.map V.int)) :: H := List.mem_append_right H1 (.head _)
  refine kM (v := .int r) ?_ ((wg ml (EY ⟨zy⟩ ⟨by decide⟩)).s _ ⟨t r, _, rfl, .inl (mt r zy), ⟨rfl, ai rfl⟩, ?_⟩)
  ·rw [← hr]
   exact f9 (e_i (cT rfl) cU (wg mh (EZ rfl ⟨ai rfl⟩))) cU (qN ⟨by decide⟩)
  ·exact zu (sl := sl) (ha := ha) (W := W) hm (s9 r zy) (List.mem_append_right H1 (.tail _ (.tail _ (.head _)))) hW mh (List.mem_append_right H1 (.tail _ (.tail _ (.tail _ hsf)))) (List.mem_append_right H1 (.tail _ (.tail _ (.tail _ hsr)))) rfl rfl rfl rfl h
end Nt
set_option maxRecDepth 100000 in
set_option maxHeartbeats 8000000 in
theorem PySem.Challenge.cw_nt0460_01_holds : PySem.Challenge.rw_nt0460_01.Holds := by
 exact Nt.AA (fun sc S H Q a b c d e => Nt.WB.eq ▸ Nt.zx rfl a b c d e) Nt.CD Nt.CC
