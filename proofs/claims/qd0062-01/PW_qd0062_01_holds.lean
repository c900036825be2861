import PyProof.Rows.All
import Wide.All
import OpenK.AllK
import Wide.FinOn
import PySem.Challenge.RW_qd0062_01
open PySem PySem.W PyProof.Rows
set_option Elab.async false
set_option maxRecDepth 100000
set_option maxHeartbeats 4000000
namespace Mine
inductive Lm where
 | tV (i : Nat)
 | tN (k : Nat)
 | tA (s t : Lm)
 | tM (k : Nat) (t : Lm)
 | tR (t : Lm) (k : Nat)
inductive LF where
 | fL (k : Nat) (s t : Lm)
 | fE (k : Nat) (s t : Lm)
 | fG (k : Nat) (s t : Lm)
 | fX (k : Nat) (s t : Lm)
noncomputable def nth : List Nat → Nat → Nat
 | [], _ => 0
 | a :: _, 0 => a
 | _ :: l, n + 1 => nth l n
noncomputable def Lm.den (c : List Nat) : Lm → Nat
 | .tV i => nth c i
 | .tN k => k
 | .tA s t => s.den c + t.den c
 | .tM k t => k * t.den c
 | .tR t k => t.den c * k
noncomputable def LF.prop (c : List Nat) : LF → Prop → Prop
 | .fL _ s t, P => s.den c ≤ t.den c → P
 | .fE _ s t, P => s.den c = t.den c → P
 | .fG _ s t, P => s.den c = t.den c → P
 | .fX _ s t, P => ¬ s.den c ≤ t.den c → P
noncomputable def Den (c : List Nat) : List LF → Prop
 | [] => False
 | f :: r => f.prop c (Den c r)
noncomputable def ev : List Nat → List Nat → Nat
 | [], _ => 0
 | _ :: _, [] => 0
 | a :: c, k :: ks => k * a + ev c ks
noncomputable def addv : List Nat → List Nat → List Nat
 | [], y => y
 | x, [] => x
 | a :: x, b :: y => (a + b) :: addv x y
noncomputable def mulv (k : Nat) : List Nat → List Nat
 | [] => []
 | a :: x => (k * a) :: mulv k x
noncomputable def unit : Nat → List Nat
 | 0 => [1]
 | n + 1 => 0 :: unit n
noncomputable def lev : List Nat → List Nat → Bool
 | [], _ => true
 | a :: x, [] => a.beq 0 && lev x []
 | a :: x, b :: y => a.ble b && lev x y
theorem ev_nil (c : List Nat) : ev c [] = 0 := by cases c <;> rfl
theorem ev_add : ∀ (c x y : List Nat), ev c (addv x y) = ev c x + ev c y
 | c, [], y => by rw [addv, ev_nil, Nat.zero_add]
 | c, a :: x, [] => by rw [addv, ev_nil, Nat.add_zero]; intro h; cases h
 | [], a :: x, b :: y => rfl
 | d :: c, a :: x, b :: y => by
  rw [addv, ev, ev, ev, ev_add c x y, Nat.add_mul]; omega
theorem ev_mul (k : Nat) : ∀ (c x : List Nat), ev c (mulv k x) = k * ev c x
 | c, [] => by rw [mulv, ev_nil, Nat.mul_zero]
 | [], a :: x => by rw [mulv, ev, ev, Nat.mul_zero]
 | d :: c, a :: x => by rw [mulv, ev, ev, ev_mul k c x, Nat.mul_add, Nat.mul_assoc]
theorem ev_unit : ∀ (c : List Nat) (i : Nat), ev c (unit i) = nth c i
 | [], 0 => rfl
 | [], i + 1 => rfl
 | a :: c, 0 => by rw [unit, ev, ev_nil, nth, Nat.one_mul, Nat.add_zero]
 | a :: c, i + 1 => by rw [unit, ev, ev_unit c i, nth, Nat.zero_mul, Nat.zero_add]
theorem lev_le : ∀ (c x y : List Nat), lev x y = true → ev c x ≤ ev c y
 | c, [], y, _ => by rw [ev_nil]; exact Nat.zero_le _
 | [], a :: x, y, _ => Nat.zero_le _
 | d :: c, a :: x, [], h => by
  rw [lev, Bool.and_eq_true] at h
  have h1 := Nat.eq_of_beq_eq_true h.1
  have h2 := lev_le c x [] h.2
  rw [ev_nil] at h2
  rw [ev, ev, h1, Nat.zero_mul, Nat.zero_add]; exact h2
 | d :: c, a :: x, b :: y, h => by
  rw [lev, Bool.and_eq_true] at h
  rw [ev, ev]
  exact Nat.add_le_add (Nat.mul_le_mul_right d (Nat.le_of_ble_eq_true h.1)) (lev_le c x y h.2)
noncomputable def Lm.vec : Lm → Nat × List Nat
 | .tV i => (0, unit i)
 | .tN k => (k, [])
 | .tA s t => (s.vec.1 + t.vec.1, addv s.vec.2 t.vec.2)
 | .tM k t => (k * t.vec.1, mulv k t.vec.2)
 | .tR t k => (k * t.vec.1, mulv k t.vec.2)
theorem Lm.den_vec (c : List Nat) : ∀ t : Lm, t.den c = t.vec.1 + ev c t.vec.2
 | .tV i => by rw [den, vec, ev_unit, Nat.zero_add]
 | .tN k => by rw [den, vec, ev_nil, Nat.add_zero]
 | .tA s t => by rw [den, vec, den_vec c s, den_vec c t, ev_add]; omega
 | .tM k t => by rw [den, vec, den_vec c t, ev_mul, Nat.mul_add]
 | .tR t k => by rw [den, vec, den_vec c t, ev_mul, Nat.mul_comm, Nat.mul_add]
noncomputable def acc (k : Nat) (s : Lm) (S : Nat × List Nat) : Nat × List Nat := (S.1 + k * s.vec.1, addv S.2 (mulv k s.vec.2))
noncomputable def chk : List LF → Nat × List Nat → Nat × List Nat → Bool
 | [], S, T => (T.1 + 1).ble S.1 && lev T.2 S.2
 | .fL k s t :: r, S, T => chk r (acc k s S) (acc k t T)
 | .fE k s t :: r, S, T => chk r (acc k s S) (acc k t T)
 | .fG k s t :: r, S, T => chk r (acc k t S) (acc k s T)
 | .fX k s t :: r, S, T => chk r (acc k (.tA t (.tN 1)) S) (acc k s T)
theorem acc_le {c : List Nat} {k : Nat} {s t : Lm} {S T : Nat × List Nat} (h : S.1 + ev c S.2 ≤ T.1 + ev c T.2) (q : s.den c ≤ t.den c) : (acc k s S).1 + ev c (acc k s S).2 ≤ (acc k t T).1 + ev c (acc k t T).2 := by
 have e : ∀ (s : Lm) (S : Nat × List Nat), (acc k s S).1 + ev c (acc k s S).2 = S.1 + ev c S.2 + k * s.den c := fun s S => by
  rw [acc, ev_add, ev_mul, Lm.den_vec, Nat.mul_add]; dsimp only; omega
 rw [e, e]
 exact Nat.add_le_add h (Nat.mul_le_mul_left k q)
theorem lng (c : List Nat) : ∀ (l : List LF) (S T : Nat × List Nat), S.1 + ev c S.2 ≤ T.1 + ev c T.2 → chk l S T = true → Den c l
 | [], S, T, h, q => by
  rw [chk, Bool.and_eq_true] at q
  have h1 := Nat.le_of_ble_eq_true q.1
  have h2 := lev_le c _ _ q.2
  show False
  omega
 | .fL k s t :: r, S, T, h, q => fun x => lng c r _ _ (acc_le h x) q
 | .fE k s t :: r, S, T, h, q => fun x => lng c r _ _ (acc_le h (Nat.le_of_eq x)) q
 | .fG k s t :: r, S, T, h, q => fun x => lng c r _ _ (acc_le h (Nat.le_of_eq x.symm)) q
 | .fX k s t :: r, S, T, h, q => fun x => lng c r _ _ (acc_le (s := .tA t (.tN 1)) (t := s) h (Nat.lt_of_not_le x)) q
theorem lnq (c : List Nat) (l : List LF) (h : chk l (0, []) (0, []) = true) : Den c l := lng c l _ _ (by rw [ev_nil]; exact Nat.le_refl _) h
theorem lnl {a b : Nat} (h : b < a → False) : a ≤ b := Nat.le_of_not_lt h
theorem lnt {a b : Nat} (h : b ≤ a → False) : a < b := Nat.lt_of_not_le h
theorem lne {a b : Nat} (h : b < a → False) (q : a < b → False) : a = b := Nat.le_antisymm (lnl h) (lnl q)
theorem sbL (a b : Nat) : a ≤ a - b + b := by omega
theorem sbZ {a b : Nat} (h : b < a → False) : a - b = 0 := Nat.sub_eq_zero_of_le (lnl h)
theorem sbC {a b : Nat} (h : a < b → False) : a - b + b = a := Nat.sub_add_cancel (lnl h)
theorem ing {k : Int} {n : Nat} (h : k ≤ 0) : k ≤ (n : Int) := Int.le_trans h (Int.natCast_nonneg n)
open Lm LF
noncomputable abbrev Z0 : Lm := tV 0
noncomputable abbrev Z1 : Lm := tV 1
noncomputable abbrev Z2 : Lm := tV 2
noncomputable abbrev Z3 : Lm := tV 3
noncomputable abbrev Z4 : Lm := tV 4
noncomputable abbrev Z5 : Lm := tV 5
noncomputable abbrev Z6 : Lm := tV 6
noncomputable abbrev Z7 : Lm := tV 7
noncomputable abbrev Z8 : Lm := tV 8
noncomputable abbrev Z9 : Lm := tV 9
noncomputable abbrev tQ (t : Lm) : Lm := tA t (tN 1)
noncomputable abbrev aL (s t : Lm) : LF := fL 1 s t
noncomputable abbrev aE (s t : Lm) : LF := fE 1 s t
noncomputable abbrev aG (s t : Lm) : LF := fG 1 s t
noncomputable abbrev aX (s t : Lm) : LF := fX 1 s t

universe u1 u2 u3 u4 u5 u6 u7 u8 u9 u10 u11 u12
theorem hide {P : Prop} (h : ∀ Q : Prop, (P → Q) → Q) : P := h P id
structure A3 (a1 a2 a3 : Prop) : Prop where
 h1 : a1
 h2 : a2
 h3 : a3
structure A4 (a1 a2 a3 a4 : Prop) : Prop where
 h1 : a1
 h2 : a2
 h3 : a3
 h4 : a4
structure A5 (a1 a2 a3 a4 a5 : Prop) : Prop where
 h1 : a1
 h2 : a2
 h3 : a3
 h4 : a4
 h5 : a5
structure A6 (a1 a2 a3 a4 a5 a6 : Prop) : Prop where
 h1 : a1
 h2 : a2
 h3 : a3
 h4 : a4
 h5 : a5
 h6 : a6
structure A7 (a1 a2 a3 a4 a5 a6 a7 : Prop) : Prop where
 h1 : a1
 h2 : a2
 h3 : a3
 h4 : a4
 h5 : a5
 h6 : a6
 h7 : a7
structure A8 (a1 a2 a3 a4 a5 a6 a7 a8 : Prop) : Prop where
 h1 : a1
 h2 : a2
 h3 : a3
 h4 : a4
 h5 : a5
 h6 : a6
 h7 : a7
 h8 : a8
structure A9 (a1 a2 a3 a4 a5 a6 a7 a8 a9 : Prop) : Prop where
 h1 : a1
 h2 : a2
 h3 : a3
 h4 : a4
 h5 : a5
 h6 : a6
 h7 : a7
 h8 : a8
 h9 : a9
structure A10 (a1 a2 a3 a4 a5 a6 a7 a8 a9 a10 : Prop) : Prop where
 h1 : a1
 h2 : a2
 h3 : a3
 h4 : a4
 h5 : a5
 h6 : a6
 h7 : a7
 h8 : a8
 h9 : a9
 h10 : a10
structure A11 (a1 a2 a3 a4 a5 a6 a7 a8 a9 a10 a11 : Prop) : Prop where
 h1 : a1
 h2 : a2
 h3 : a3
 h4 : a4
 h5 : a5
 h6 : a6
 h7 : a7
 h8 : a8
 h9 : a9
 h10 : a10
 h11 : a11
structure A12 (a1 a2 a3 a4 a5 a6 a7 a8 a9 a10 a11 a12 : Prop) : Prop where
 h1 : a1
 h2 : a2
 h3 : a3
 h4 : a4
 h5 : a5
 h6 : a6
 h7 : a7
 h8 : a8
 h9 : a9
 h10 : a10
 h11 : a11
 h12 : a12
structure A13 (a1 a2 a3 a4 a5 a6 a7 a8 a9 a10 a11 a12 a13 : Prop) : Prop where
 h1 : a1
 h2 : a2
 h3 : a3
 h4 : a4
 h5 : a5
 h6 : a6
 h7 : a7
 h8 : a8
 h9 : a9
 h10 : a10
 h11 : a11
 h12 : a12
 h13 : a13
structure A14 (a1 a2 a3 a4 a5 a6 a7 a8 a9 a10 a11 a12 a13 a14 : Prop) : Prop where
 h1 : a1
 h2 : a2
 h3 : a3
 h4 : a4
 h5 : a5
 h6 : a6
 h7 : a7
 h8 : a8
 h9 : a9
 h10 : a10
 h11 : a11
 h12 : a12
 h13 : a13
 h14 : a14
structure A15 (a1 a2 a3 a4 a5 a6 a7 a8 a9 a10 a11 a12 a13 a14 a15 : Prop) : Prop where
 h1 : a1
 h2 : a2
 h3 : a3
 h4 : a4
 h5 : a5
 h6 : a6
 h7 : a7
 h8 : a8
 h9 : a9
 h10 : a10
 h11 : a11
 h12 : a12
 h13 : a13
 h14 : a14
 h15 : a15
structure A16 (a1 a2 a3 a4 a5 a6 a7 a8 a9 a10 a11 a12 a13 a14 a15 a16 : Prop) : Prop where
 h1 : a1
 h2 : a2
 h3 : a3
 h4 : a4
 h5 : a5
 h6 : a6
 h7 : a7
 h8 : a8
 h9 : a9
 h10 : a10
 h11 : a11
 h12 : a12
 h13 : a13
 h14 : a14
 h15 : a15
 h16 : a16
inductive X2 {α1 : Sort u1} {α2 : Sort u2} (P : α1 → α2 → Prop) : Prop
 | mk (x1 : α1) (x2 : α2) (h : P x1 x2) : X2 P
inductive X3 {α1 : Sort u1} {α2 : Sort u2} {α3 : Sort u3} (P : α1 → α2 → α3 → Prop) : Prop
 | mk (x1 : α1) (x2 : α2) (x3 : α3) (h : P x1 x2 x3) : X3 P
inductive X4 {α1 : Sort u1} {α2 : Sort u2} {α3 : Sort u3} {α4 : Sort u4} (P : α1 → α2 → α3 → α4 → Prop) : Prop
 | mk (x1 : α1) (x2 : α2) (x3 : α3) (x4 : α4) (h : P x1 x2 x3 x4) : X4 P
inductive X5 {α1 : Sort u1} {α2 : Sort u2} {α3 : Sort u3} {α4 : Sort u4} {α5 : Sort u5} (P : α1 → α2 → α3 → α4 → α5 → Prop) : Prop
 | mk (x1 : α1) (x2 : α2) (x3 : α3) (x4 : α4) (x5 : α5) (h : P x1 x2 x3 x4 x5) : X5 P
inductive X6 {α1 : Sort u1} {α2 : Sort u2} {α3 : Sort u3} {α4 : Sort u4} {α5 : Sort u5} {α6 : Sort u6} (P : α1 → α2 → α3 → α4 → α5 → α6 → Prop) : Prop
 | mk (x1 : α1) (x2 : α2) (x3 : α3) (x4 : α4) (x5 : α5) (x6 : α6) (h : P x1 x2 x3 x4 x5 x6) : X6 P
inductive X7 {α1 : Sort u1} {α2 : Sort u2} {α3 : Sort u3} {α4 : Sort u4} {α5 : Sort u5} {α6 : Sort u6} {α7 : Sort u7} (P : α1 → α2 → α3 → α4 → α5 → α6 → α7 → Prop) : Prop
 | mk (x1 : α1) (x2 : α2) (x3 : α3) (x4 : α4) (x5 : α5) (x6 : α6) (x7 : α7) (h : P x1 x2 x3 x4 x5 x6 x7) : X7 P
inductive X8 {α1 : Sort u1} {α2 : Sort u2} {α3 : Sort u3} {α4 : Sort u4} {α5 : Sort u5} {α6 : Sort u6} {α7 : Sort u7} {α8 : Sort u8} (P : α1 → α2 → α3 → α4 → α5 → α6 → α7 → α8 → Prop) : Prop
 | mk (x1 : α1) (x2 : α2) (x3 : α3) (x4 : α4) (x5 : α5) (x6 : α6) (x7 : α7) (x8 : α8) (h : P x1 x2 x3 x4 x5 x6 x7 x8) : X8 P
inductive X9 {α1 : Sort u1} {α2 : Sort u2} {α3 : Sort u3} {α4 : Sort u4} {α5 : Sort u5} {α6 : Sort u6} {α7 : Sort u7} {α8 : Sort u8} {α9 : Sort u9} (P : α1 → α2 → α3 → α4 → α5 → α6 → α7 → α8 → α9 → Prop) : Prop
 | mk (x1 : α1) (x2 : α2) (x3 : α3) (x4 : α4) (x5 : α5) (x6 : α6) (x7 : α7) (x8 : α8) (x9 : α9) (h : P x1 x2 x3 x4 x5 x6 x7 x8 x9) : X9 P
inductive X10 {α1 : Sort u1} {α2 : Sort u2} {α3 : Sort u3} {α4 : Sort u4} {α5 : Sort u5} {α6 : Sort u6} {α7 : Sort u7} {α8 : Sort u8} {α9 : Sort u9} {α10 : Sort u10} (P : α1 → α2 → α3 → α4 → α5 → α6 → α7 → α8 → α9 → α10 → Prop) : Prop
 | mk (x1 : α1) (x2 : α2) (x3 : α3) (x4 : α4) (x5 : α5) (x6 : α6) (x7 : α7) (x8 : α8) (x9 : α9) (x10 : α10) (h : P x1 x2 x3 x4 x5 x6 x7 x8 x9 x10) : X10 P
inductive X11 {α1 : Sort u1} {α2 : Sort u2} {α3 : Sort u3} {α4 : Sort u4} {α5 : Sort u5} {α6 : Sort u6} {α7 : Sort u7} {α8 : Sort u8} {α9 : Sort u9} {α10 : Sort u10} {α11 : Sort u11} (P : α1 → α2 → α3 → α4 → α5 → α6 → α7 → α8 → α9 → α10 → α11 → Prop) : Prop
 | mk (x1 : α1) (x2 : α2) (x3 : α3) (x4 : α4) (x5 : α5) (x6 : α6) (x7 : α7) (x8 : α8) (x9 : α9) (x10 : α10) (x11 : α11) (h : P x1 x2 x3 x4 x5 x6 x7 x8 x9 x10 x11) : X11 P
inductive X12 {α1 : Sort u1} {α2 : Sort u2} {α3 : Sort u3} {α4 : Sort u4} {α5 : Sort u5} {α6 : Sort u6} {α7 : Sort u7} {α8 : Sort u8} {α9 : Sort u9} {α10 : Sort u10} {α11 : Sort u11} {α12 : Sort u12} (P : α1 → α2 → α3 → α4 → α5 → α6 → α7 → α8 → α9 → α10 → α11 → α12 → Prop) : Prop
 | mk (x1 : α1) (x2 : α2) (x3 : α3) (x4 : α4) (x5 : α5) (x6 : α6) (x7 : α7) (x8 : α8) (x9 : α9) (x10 : α10) (x11 : α11) (x12 : α12) (h : P x1 x2 x3 x4 x5 x6 x7 x8 x9 x10 x11 x12) : X12 P
noncomputable def vw : Program := PySem.W.view PySem.Challenge.pw_qd0062_01 [0, 2, 4, 5, 6, 8, 9, 10, 11, 12, 13, 14, 15, 16, 17, 18, 20, 21, 22, 23, 24, 27, 28, 29, 30, 31, 32, 33]
structure FD where
 name : Str
 params : Arguments
 body : List Stmt
 scope : Scope
noncomputable def fdOf : Stmt → FD
 | .FunctionDef n a b _ _ _ s _ _ _ => ⟨n, a, b, s⟩
 | _ => ⟨Str.empty, ⟨[], [], none, [], [], none, []⟩, [], ⟨.function, [], false, false, []⟩⟩
noncomputable def stOf (i : Nat) : Stmt := (PySem.Challenge.pw_qd0062_01.main.body[i]?).getD (.Pass ⟨0, 0, 0, 0⟩)
noncomputable def clsBody : Stmt → List Stmt
 | .ClassDef _ _ _ b _ _ _ _ _ _ _ => b
 | _ => []
noncomputable def fnT (i : Nat) : FD := fdOf (stOf i)
noncomputable def fnM (i j : Nat) : FD := fdOf (((clsBody (stOf i))[j]?).getD (.Pass ⟨0, 0, 0, 0⟩))
noncomputable def fO (d : FD) (q : Str) (dV pm cdv : Value) : Obj := ⟨.type "function", none, .func (fnOf d.name q d.params d.body d.scope dV Value.none Value.none pm none cdv Value.none), #[]⟩
noncomputable def dO (P : Params) (c : Value) (d : Option Addr) (l : List (Str × Nat × Value)) (n : Nat) : Obj :=
 ⟨c, d, .dict (l.map fun x => (⟨PyData.keyHash P x.1, .str x.1 x.2.1, x.2.2⟩ : DictEntry)).toArray n, #[]⟩
noncomputable def nE (x : String) (t : Nat) (v : Value) : Str × Nat × Value := (Str.ofString x, t, v)
noncomputable def kE (a : Nat) (o : Obj) : Nat × Obj := (a, o)
noncomputable def KF (P : Params) : Frag :=
 [
 kE 3 (dO P (.type "dict") none [nE "__name__" 165 (.str "law_qd0062_01" 754), nE "__doc__" 166 (.none), nE "__package__" 167 (.none), nE "__loader__" 168 (.builtin "__main__.__loader__#opaque"), nE "__spec__" 169 (.none), nE "__annotations__" 170 (.ref 6), nE "__builtins__" 171 (.ref 4), nE "__file__" 173 (.str "/claim/cut.py" 172), nE "__cached__" 174 (.none), nE "_wall" 193 (.ref 21), nE "transitive" 205 (.ref 28), nE "ToolError" 245 (.ref 53), nE "GrammarError" 261 (.ref 66), nE "bits" 271 (.ref 75), nE "NONE" 276 (.int (-1) 275), nE "LrState" 328 (.ref 106), nE "Closer" 391 (.ref 148), nE "advanced" 399 (.ref 159), nE "kernels_behind" 411 (.ref 166), nE "complete_rules" 421 (.ref 173), nE "Automaton" 495 (.ref 225), nE "Builder" 554 (.ref 267), nE "build" 561 (.ref 278), nE "inadequate_states" 567 (.ref 283), nE "is_lr_zero" 574 (.ref 290), nE "END" 578 (.int (0) 577), nE "OWN_TERMINALS" 582 (.ref 291), nE "Rule" 627 (.ref 309), nE "Grammar" 737 (.ref 391), nE "last_terminal" 747 (.ref 402), nE "plain_grammar" 753 (.ref 408), nE "_law_tape" 765 (.ref 415), nE "_law_draw" 774 (.ref 422), nE "_law_pairs" 780 (.ref 427), nE "_law_words" 786 (.ref 432), nE "_law_needs" 792 (.ref 437), nE "_law_is_taken" 798 (.ref 442), nE "law" 804 (.ref 447)] 38),
 kE 20 (⟨.type "code", none, .fields #[.str "_wall" 187, .str "_wall" 188, .str "/claim/cut.py" 189, .int (1) 0, .int (1) 0, .int (0) 0, .int (0) 0, .int (3) 0, .ref 15, .bool true, .int (181) 0, .ref 16, .none, .ref 17, .ref 18, .ref 19, .int (191) 0, .int (1) 0, .str "/claim/cut.py" 192], #[]⟩),
 kE 21 (fO (fnT 0) "_wall" (.none) (.str "__main__" 164) (.ref 20)),
 kE 27 (⟨.type "code", none, .fields #[.str "transitive" 196, .str "transitive" 197, .str "/claim/cut.py" 198, .int (5) 0, .int (1) 0, .int (0) 0, .int (0) 0, .int (3) 0, .ref 22, .bool true, .int (181) 0, .ref 23, .none, .ref 24, .ref 25, .ref 26, .int (203) 0, .int (5) 0, .str "/claim/cut.py" 204], #[]⟩),
 kE 28 (fO (fnT 2) "transitive" (.none) (.str "grammarmill.analysis" 194) (.ref 27)),
 kE 36 (⟨.type "tuple", none, .seq #[.none] 0, #[]⟩),
 kE 42 (⟨.type "code", none, .fields #[.str "__init__" 220, .str "ToolError.__init__" 221, .str "/claim/cut.py" 222, .int (15) 0, .int (3) 0, .int (0) 0, .int (0) 0, .int (3) 0, .ref 37, .bool true, .int (181) 0, .ref 38, .none, .ref 39, .ref 40, .ref 41, .int (226) 0, .int (15) 0, .str "/claim/cut.py" 227], #[]⟩),
 kE 43 (fO (fnM 4 0) "ToolError.__init__" (.ref 36) (.str "grammarmill.source" 206) (.ref 42)),
 kE 49 (⟨.type "code", none, .fields #[.str "told" 229, .str "ToolError.told" 230, .str "/claim/cut.py" 231, .int (20) 0, .int (1) 0, .int (0) 0, .int (0) 0, .int (3) 0, .ref 44, .bool true, .int (181) 0, .ref 45, .none, .ref 46, .ref 47, .ref 48, .int (233) 0, .int (20) 0, .str "/claim/cut.py" 234], #[]⟩),
 kE 50 (fO (fnM 4 1) "ToolError.told" (.none) (.str "grammarmill.source" 206) (.ref 49)),
 kE 52 (dO P (.type "dict") none [nE "__module__" 215 (.str "grammarmill.source" 206), nE "__firstlineno__" 219 (.int (13) 218), nE "__init__" 228 (.ref 43), nE "told" 235 (.ref 50), nE "__static_attributes__" 238 (.ref 51), nE "__weakref__" 240 (.ref 54), nE "__doc__" 241 (.none)] 3),
 kE 53 (⟨.type "type", none, .cls { name := "ToolError", bases := [.type "Exception"], mro := [.ref 53, .type "Exception", .type "BaseException", .type "object"], ns := 52, qualname := "ToolError", hasDict := true, subclasses := [.ref 66], abstract := false, hasDel := false }, #[some (.ref 29), none, some (.str "ToolError" 208), some (.str "ToolError" 216), some (.builtin "Exception.__new__"), some (.bool true)]⟩),
 kE 65 (dO P (.type "dict") none [nE "__module__" 253 (.str "grammarmill.source" 206), nE "__firstlineno__" 257 (.int (24) 256), nE "__static_attributes__" 258 (.ref 64), nE "__doc__" 259 (.none)] 2),
 kE 66 (⟨.type "type", none, .cls { name := "GrammarError", bases := [.ref 53], mro := [.ref 66, .ref 53, .type "Exception", .type "BaseException", .type "object"], ns := 65, qualname := "GrammarError", hasDict := true, subclasses := [], abstract := false, hasDel := false }, #[some (.ref 57), none, some (.str "GrammarError" 246), some (.str "GrammarError" 254), some (.builtin "Exception.__new__"), some (.bool true)]⟩),
 kE 74 (⟨.type "code", none, .fields #[.str "bits" 262, .str "bits" 263, .str "/claim/cut.py" 264, .int (26) 0, .int (1) 0, .int (0) 0, .int (0) 0, .int (3) 0, .ref 69, .bool true, .int (181) 0, .ref 70, .none, .ref 71, .ref 72, .ref 73, .int (269) 0, .int (26) 0, .str "/claim/cut.py" 270], #[]⟩),
 kE 75 (fO (fnT 6) "bits" (.none) (.str "grammarmill.source" 206) (.ref 74)),
 kE 88 (⟨.type "code", none, .fields #[.str "__init__" 289, .str "LrState.__init__" 290, .str "/claim/cut.py" 291, .int (40) 0, .int (4) 0, .int (0) 0, .int (0) 0, .int (3) 0, .ref 83, .bool true, .int (181) 0, .ref 84, .none, .ref 85, .ref 86, .ref 87, .int (296) 0, .int (40) 0, .str "/claim/cut.py" 297], #[]⟩),
 kE 89 (fO (fnM 9 0) "LrState.__init__" (.none) (.str "grammarmill.lrzero" 272) (.ref 88)),
 kE 95 (⟨.type "code", none, .fields #[.str "goto" 299, .str "LrState.goto" 300, .str "/claim/cut.py" 301, .int (49) 0, .int (2) 0, .int (0) 0, .int (0) 0, .int (3) 0, .ref 90, .bool true, .int (181) 0, .ref 91, .none, .ref 92, .ref 93, .ref 94, .int (304) 0, .int (49) 0, .str "/claim/cut.py" 305], #[]⟩),
 kE 96 (fO (fnM 9 1) "LrState.goto" (.none) (.str "grammarmill.lrzero" 272) (.ref 95)),
 kE 102 (⟨.type "code", none, .fields #[.str "is_consistent" 307, .str "LrState.is_consistent" 308, .str "/claim/cut.py" 309, .int (52) 0, .int (1) 0, .int (0) 0, .int (0) 0, .int (3) 0, .ref 97, .bool true, .int (181) 0, .ref 98, .none, .ref 99, .ref 100, .ref 101, .int (311) 0, .int (52) 0, .str "/claim/cut.py" 312], #[]⟩),
 kE 103 (fO (fnM 9 2) "LrState.is_consistent" (.none) (.str "grammarmill.lrzero" 272) (.ref 102)),
 kE 105 (dO P (.type "dict") none [nE "__module__" 284 (.str "grammarmill.lrzero" 272), nE "__firstlineno__" 288 (.int (38) 287), nE "__init__" 298 (.ref 89), nE "goto" 306 (.ref 96), nE "is_consistent" 313 (.ref 103), nE "__static_attributes__" 321 (.ref 104), nE "__dict__" 323 (.ref 107), nE "__weakref__" 325 (.ref 108), nE "__doc__" 326 (.none)] 4),
 kE 106 (⟨.type "type", none, .cls { name := "LrState", bases := [.type "object"], mro := [.ref 106, .type "object"], ns := 105, qualname := "LrState", hasDict := true, subclasses := [], abstract := false, hasDel := false }, #[none, none, some (.str "LrState" 277), some (.str "LrState" 285), some (.builtin "object.__new__"), some (.bool true)]⟩),
 kE 123 (⟨.type "code", none, .fields #[.str "__init__" 341, .str "Closer.__init__" 342, .str "/claim/cut.py" 343, .int (58) 0, .int (2) 0, .int (0) 0, .int (0) 0, .int (3) 0, .ref 118, .bool true, .int (181) 0, .ref 119, .none, .ref 120, .ref 121, .ref 122, .int (348) 0, .int (58) 0, .str "/claim/cut.py" 349], #[]⟩),
 kE 124 (fO (fnM 10 0) "Closer.__init__" (.none) (.str "grammarmill.lrzero" 272) (.ref 123)),
 kE 130 (⟨.type "code", none, .fields #[.str "wanted" 351, .str "Closer.wanted" 352, .str "/claim/cut.py" 353, .int (66) 0, .int (2) 0, .int (0) 0, .int (0) 0, .int (3) 0, .ref 125, .bool true, .int (181) 0, .ref 126, .none, .ref 127, .ref 128, .ref 129, .int (359) 0, .int (66) 0, .str "/claim/cut.py" 360], #[]⟩),
 kE 131 (fO (fnM 10 1) "Closer.wanted" (.none) (.str "grammarmill.lrzero" 272) (.ref 130)),
 kE 137 (⟨.type "code", none, .fields #[.str "added" 362, .str "Closer.added" 363, .str "/claim/cut.py" 364, .int (74) 0, .int (2) 0, .int (0) 0, .int (0) 0, .int (3) 0, .ref 132, .bool true, .int (181) 0, .ref 133, .none, .ref 134, .ref 135, .ref 136, .int (371) 0, .int (74) 0, .str "/claim/cut.py" 372], #[]⟩),
 kE 138 (fO (fnM 10 2) "Closer.added" (.none) (.str "grammarmill.lrzero" 272) (.ref 137)),
 kE 144 (⟨.type "code", none, .fields #[.str "close" 374, .str "Closer.close" 375, .str "/claim/cut.py" 376, .int (83) 0, .int (2) 0, .int (0) 0, .int (0) 0, .int (3) 0, .ref 139, .bool true, .int (181) 0, .ref 140, .none, .ref 141, .ref 142, .ref 143, .int (379) 0, .int (83) 0, .str "/claim/cut.py" 380], #[]⟩),
 kE 145 (fO (fnM 10 3) "Closer.close" (.none) (.str "grammarmill.lrzero" 272) (.ref 144)),
 kE 147 (dO P (.type "dict") none [nE "__module__" 336 (.str "grammarmill.lrzero" 272), nE "__firstlineno__" 340 (.int (56) 339), nE "__init__" 350 (.ref 124), nE "wanted" 361 (.ref 131), nE "added" 373 (.ref 138), nE "close" 381 (.ref 145), nE "__static_attributes__" 384 (.ref 146), nE "__dict__" 386 (.ref 149), nE "__weakref__" 388 (.ref 150), nE "__doc__" 389 (.none)] 4),
 kE 148 (⟨.type "type", none, .cls { name := "Closer", bases := [.type "object"], mro := [.ref 148, .type "object"], ns := 147, qualname := "Closer", hasDict := true, subclasses := [], abstract := false, hasDel := false }, #[none, none, some (.str "Closer" 329), some (.str "Closer" 337), some (.builtin "object.__new__"), some (.bool true)]⟩),
 kE 158 (⟨.type "code", none, .fields #[.str "advanced" 392, .str "advanced" 393, .str "/claim/cut.py" 394, .int (85) 0, .int (2) 0, .int (0) 0, .int (0) 0, .int (3) 0, .ref 153, .bool true, .int (181) 0, .ref 154, .none, .ref 155, .ref 156, .ref 157, .int (397) 0, .int (85) 0, .str "/claim/cut.py" 398], #[]⟩),
 kE 159 (fO (fnT 11) "advanced" (.none) (.str "grammarmill.lrzero" 272) (.ref 158)),
 kE 165 (⟨.type "code", none, .fields #[.str "kernels_behind" 400, .str "kernels_behind" 401, .str "/claim/cut.py" 402, .int (87) 0, .int (2) 0, .int (0) 0, .int (0) 0, .int (3) 0, .ref 160, .bool true, .int (181) 0, .ref 161, .none, .ref 162, .ref 163, .ref 164, .int (409) 0, .int (87) 0, .str "/claim/cut.py" 410], #[]⟩),
 kE 166 (fO (fnT 12) "kernels_behind" (.none) (.str "grammarmill.lrzero" 272) (.ref 165)),
 kE 172 (⟨.type "code", none, .fields #[.str "complete_rules" 412, .str "complete_rules" 413, .str "/claim/cut.py" 414, .int (99) 0, .int (2) 0, .int (0) 0, .int (0) 0, .int (3) 0, .ref 167, .bool true, .int (181) 0, .ref 168, .none, .ref 169, .ref 170, .ref 171, .int (419) 0, .int (99) 0, .str "/claim/cut.py" 420], #[]⟩),
 kE 173 (fO (fnT 13) "complete_rules" (.none) (.str "grammarmill.lrzero" 272) (.ref 172)),
 kE 186 (⟨.type "code", none, .fields #[.str "__init__" 434, .str "Automaton.__init__" 435, .str "/claim/cut.py" 436, .int (107) 0, .int (3) 0, .int (0) 0, .int (0) 0, .int (3) 0, .ref 181, .bool true, .int (181) 0, .ref 182, .none, .ref 183, .ref 184, .ref 185, .int (440) 0, .int (107) 0, .str "/claim/cut.py" 441], #[]⟩),
 kE 187 (fO (fnM 14 0) "Automaton.__init__" (.none) (.str "grammarmill.lrzero" 272) (.ref 186)),
 kE 193 (⟨.type "code", none, .fields #[.str "goto" 443, .str "Automaton.goto" 444, .str "/claim/cut.py" 445, .int (111) 0, .int (3) 0, .int (0) 0, .int (0) 0, .int (3) 0, .ref 188, .bool true, .int (181) 0, .ref 189, .none, .ref 190, .ref 191, .ref 192, .int (449) 0, .int (111) 0, .str "/claim/cut.py" 450], #[]⟩),
 kE 194 (fO (fnM 14 1) "Automaton.goto" (.none) (.str "grammarmill.lrzero" 272) (.ref 193)),
 kE 200 (⟨.type "code", none, .fields #[.str "walk" 452, .str "Automaton.walk" 453, .str "/claim/cut.py" 454, .int (114) 0, .int (3) 0, .int (0) 0, .int (0) 0, .int (3) 0, .ref 195, .bool true, .int (181) 0, .ref 196, .none, .ref 197, .ref 198, .ref 199, .int (460) 0, .int (114) 0, .str "/claim/cut.py" 461], #[]⟩),
 kE 201 (fO (fnM 14 2) "Automaton.walk" (.none) (.str "grammarmill.lrzero" 272) (.ref 200)),
 kE 207 (⟨.type "code", none, .fields #[.str "path" 463, .str "Automaton.path" 464, .str "/claim/cut.py" 465, .int (122) 0, .int (3) 0, .int (0) 0, .int (0) 0, .int (3) 0, .ref 202, .bool true, .int (181) 0, .ref 203, .none, .ref 204, .ref 205, .ref 206, .int (469) 0, .int (122) 0, .str "/claim/cut.py" 470], #[]⟩),
 kE 208 (fO (fnM 14 3) "Automaton.path" (.none) (.str "grammarmill.lrzero" 272) (.ref 207)),
 kE 214 (⟨.type "code", none, .fields #[.str "final_state" 472, .str "Automaton.final_state" 473, .str "/claim/cut.py" 474, .int (125) 0, .int (1) 0, .int (0) 0, .int (0) 0, .int (3) 0, .ref 209, .bool true, .int (181) 0, .ref 210, .none, .ref 211, .ref 212, .ref 213, .int (476) 0, .int (125) 0, .str "/claim/cut.py" 477], #[]⟩),
 kE 215 (fO (fnM 14 4) "Automaton.final_state" (.none) (.str "grammarmill.lrzero" 272) (.ref 214)),
 kE 221 (⟨.type "code", none, .fields #[.str "transition_count" 479, .str "Automaton.transition_count" 480, .str "/claim/cut.py" 481, .int (128) 0, .int (1) 0, .int (0) 0, .int (0) 0, .int (3) 0, .ref 216, .bool true, .int (181) 0, .ref 217, .none, .ref 218, .ref 219, .ref 220, .int (483) 0, .int (128) 0, .str "/claim/cut.py" 484], #[]⟩),
 kE 222 (fO (fnM 14 5) "Automaton.transition_count" (.none) (.str "grammarmill.lrzero" 272) (.ref 221)),
 kE 224 (dO P (.type "dict") none [nE "__module__" 429 (.str "grammarmill.lrzero" 272), nE "__firstlineno__" 433 (.int (105) 432), nE "__init__" 442 (.ref 187), nE "goto" 451 (.ref 194), nE "walk" 462 (.ref 201), nE "path" 471 (.ref 208), nE "final_state" 478 (.ref 215), nE "transition_count" 485 (.ref 222), nE "__static_attributes__" 488 (.ref 223), nE "__dict__" 490 (.ref 226), nE "__weakref__" 492 (.ref 227), nE "__doc__" 493 (.none)] 4),
 kE 225 (⟨.type "type", none, .cls { name := "Automaton", bases := [.type "object"], mro := [.ref 225, .type "object"], ns := 224, qualname := "Automaton", hasDict := true, subclasses := [], abstract := false, hasDel := false }, #[none, none, some (.str "Automaton" 422), some (.str "Automaton" 430), some (.builtin "object.__new__"), some (.bool true)]⟩),
 kE 242 (⟨.type "code", none, .fields #[.str "__init__" 508, .str "Builder.__init__" 509, .str "/claim/cut.py" 510, .int (132) 0, .int (2) 0, .int (0) 0, .int (0) 0, .int (3) 0, .ref 237, .bool true, .int (181) 0, .ref 238, .none, .ref 239, .ref 240, .ref 241, .int (513) 0, .int (132) 0, .str "/claim/cut.py" 514], #[]⟩),
 kE 243 (fO (fnM 15 0) "Builder.__init__" (.none) (.str "grammarmill.lrzero" 272) (.ref 242)),
 kE 249 (⟨.type "code", none, .fields #[.str "number_of" 516, .str "Builder.number_of" 517, .str "/claim/cut.py" 518, .int (138) 0, .int (3) 0, .int (0) 0, .int (0) 0, .int (3) 0, .ref 244, .bool true, .int (181) 0, .ref 245, .none, .ref 246, .ref 247, .ref 248, .int (522) 0, .int (138) 0, .str "/claim/cut.py" 523], #[]⟩),
 kE 250 (fO (fnM 15 1) "Builder.number_of" (.none) (.str "grammarmill.lrzero" 272) (.ref 249)),
 kE 256 (⟨.type "code", none, .fields #[.str "expand" 525, .str "Builder.expand" 526, .str "/claim/cut.py" 527, .int (144) 0, .int (2) 0, .int (0) 0, .int (0) 0, .int (3) 0, .ref 251, .bool true, .int (181) 0, .ref 252, .none, .ref 253, .ref 254, .ref 255, .int (532) 0, .int (144) 0, .str "/claim/cut.py" 533], #[]⟩),
 kE 257 (fO (fnM 15 2) "Builder.expand" (.none) (.str "grammarmill.lrzero" 272) (.ref 256)),
 kE 263 (⟨.type "code", none, .fields #[.str "built" 535, .str "Builder.built" 536, .str "/claim/cut.py" 537, .int (152) 0, .int (1) 0, .int (0) 0, .int (0) 0, .int (3) 0, .ref 258, .bool true, .int (181) 0, .ref 259, .none, .ref 260, .ref 261, .ref 262, .int (540) 0, .int (152) 0, .str "/claim/cut.py" 541], #[]⟩),
 kE 264 (fO (fnM 15 3) "Builder.built" (.none) (.str "grammarmill.lrzero" 272) (.ref 263)),
 kE 266 (dO P (.type "dict") none [nE "__module__" 503 (.str "grammarmill.lrzero" 272), nE "__firstlineno__" 507 (.int (130) 506), nE "__init__" 515 (.ref 243), nE "number_of" 524 (.ref 250), nE "expand" 534 (.ref 257), nE "built" 542 (.ref 264), nE "__static_attributes__" 547 (.ref 265), nE "__dict__" 549 (.ref 268), nE "__weakref__" 551 (.ref 269), nE "__doc__" 552 (.none)] 4),
 kE 267 (⟨.type "type", none, .cls { name := "Builder", bases := [.type "object"], mro := [.ref 267, .type "object"], ns := 266, qualname := "Builder", hasDict := true, subclasses := [], abstract := false, hasDel := false }, #[none, none, some (.str "Builder" 496), some (.str "Builder" 504), some (.builtin "object.__new__"), some (.bool true)]⟩),
 kE 277 (⟨.type "code", none, .fields #[.str "build" 555, .str "build" 556, .str "/claim/cut.py" 557, .int (159) 0, .int (1) 0, .int (0) 0, .int (0) 0, .int (3) 0, .ref 272, .bool true, .int (181) 0, .ref 273, .none, .ref 274, .ref 275, .ref 276, .int (559) 0, .int (159) 0, .str "/claim/cut.py" 560], #[]⟩),
 kE 278 (fO (fnT 16) "build" (.none) (.str "grammarmill.lrzero" 272) (.ref 277)),
 kE 282 (⟨.type "code", none, .fields #[.str "inadequate_states" 562, .str "inadequate_states" 563, .str "/claim/cut.py" 564, .int (161) 0, .int (1) 0, .int (0) 0, .int (0) 0, .int (3) 0, .ref 279, .bool true, .int (181) 0, .ref 280, .none, .none, .none, .ref 281, .int (565) 0, .int (161) 0, .str "/claim/cut.py" 566], #[]⟩),
 kE 283 (fO (fnT 17) "inadequate_states" (.none) (.str "grammarmill.lrzero" 272) (.ref 282)),
 kE 289 (⟨.type "code", none, .fields #[.str "is_lr_zero" 568, .str "is_lr_zero" 569, .str "/claim/cut.py" 570, .int (163) 0, .int (1) 0, .int (0) 0, .int (0) 0, .int (3) 0, .ref 284, .bool true, .int (181) 0, .ref 285, .none, .ref 286, .ref 287, .ref 288, .int (572) 0, .int (163) 0, .str "/claim/cut.py" 573], #[]⟩),
 kE 290 (fO (fnT 18) "is_lr_zero" (.none) (.str "grammarmill.lrzero" 272) (.ref 289)),
 kE 291 (⟨.type "tuple", none, .seq #[.str "$end" 579, .str "error" 580, .str "$undefined" 581] 0, #[]⟩),
 kE 299 (⟨.type "tuple", none, .seq #[.int (-1) 596, .none, .int (0) 597, .int (0) 598] 0, #[]⟩),
 kE 305 (⟨.type "code", none, .fields #[.str "__init__" 599, .str "Rule.__init__" 600, .str "/claim/cut.py" 601, .int (170) 0, .int (8) 0, .int (0) 0, .int (0) 0, .int (3) 0, .ref 300, .bool true, .int (181) 0, .ref 301, .none, .ref 302, .ref 303, .ref 304, .int (610) 0, .int (170) 0, .str "/claim/cut.py" 611], #[]⟩),
 kE 306 (fO (fnM 22 0) "Rule.__init__" (.ref 299) (.str "grammarmill.grammar" 575) (.ref 305)),
 kE 308 (dO P (.type "dict") none [nE "__module__" 590 (.str "grammarmill.grammar" 575), nE "__firstlineno__" 594 (.int (168) 593), nE "__init__" 612 (.ref 306), nE "__static_attributes__" 620 (.ref 307), nE "__dict__" 622 (.ref 310), nE "__weakref__" 624 (.ref 311), nE "__doc__" 625 (.none)] 4),
 kE 309 (⟨.type "type", none, .cls { name := "Rule", bases := [.type "object"], mro := [.ref 309, .type "object"], ns := 308, qualname := "Rule", hasDict := true, subclasses := [], abstract := false, hasDel := false }, #[none, none, some (.str "Rule" 583), some (.str "Rule" 591), some (.builtin "object.__new__"), some (.bool true)]⟩),
 kE 324 (⟨.type "code", none, .fields #[.str "__init__" 640, .str "Grammar.__init__" 641, .str "/claim/cut.py" 642, .int (180) 0, .int (7) 0, .int (0) 0, .int (0) 0, .int (3) 0, .ref 321, .bool true, .int (181) 0, .ref 322, .none, .none, .none, .ref 323, .int (643) 0, .int (180) 0, .str "/claim/cut.py" 644], #[]⟩),
 kE 325 (fO (fnM 23 0) "Grammar.__init__" (.none) (.str "grammarmill.grammar" 575) (.ref 324)),
 kE 331 (⟨.type "code", none, .fields #[.str "symbol_count" 646, .str "Grammar.symbol_count" 647, .str "/claim/cut.py" 648, .int (196) 0, .int (1) 0, .int (0) 0, .int (0) 0, .int (3) 0, .ref 326, .bool true, .int (181) 0, .ref 327, .none, .ref 328, .ref 329, .ref 330, .int (650) 0, .int (196) 0, .str "/claim/cut.py" 651], #[]⟩),
 kE 332 (fO (fnM 23 1) "Grammar.symbol_count" (.none) (.str "grammarmill.grammar" 575) (.ref 331)),
 kE 338 (⟨.type "code", none, .fields #[.str "is_terminal" 653, .str "Grammar.is_terminal" 654, .str "/claim/cut.py" 655, .int (199) 0, .int (2) 0, .int (0) 0, .int (0) 0, .int (3) 0, .ref 333, .bool true, .int (181) 0, .ref 334, .none, .ref 335, .ref 336, .ref 337, .int (658) 0, .int (199) 0, .str "/claim/cut.py" 659], #[]⟩),
 kE 339 (fO (fnM 23 2) "Grammar.is_terminal" (.none) (.str "grammarmill.grammar" 575) (.ref 338)),
 kE 345 (⟨.type "code", none, .fields #[.str "is_middle" 661, .str "Grammar.is_middle" 662, .str "/claim/cut.py" 663, .int (202) 0, .int (2) 0, .int (0) 0, .int (0) 0, .int (3) 0, .ref 340, .bool true, .int (181) 0, .ref 341, .none, .ref 342, .ref 343, .ref 344, .int (666) 0, .int (202) 0, .str "/claim/cut.py" 667], #[]⟩),
 kE 346 (fO (fnM 23 3) "Grammar.is_middle" (.none) (.str "grammarmill.grammar" 575) (.ref 345)),
 kE 352 (⟨.type "code", none, .fields #[.str "number" 669, .str "Grammar.number" 670, .str "/claim/cut.py" 671, .int (205) 0, .int (2) 0, .int (0) 0, .int (0) 0, .int (3) 0, .ref 347, .bool true, .int (181) 0, .ref 348, .none, .ref 349, .ref 350, .ref 351, .int (674) 0, .int (205) 0, .str "/claim/cut.py" 675], #[]⟩),
 kE 353 (fO (fnM 23 4) "Grammar.number" (.none) (.str "grammarmill.grammar" 575) (.ref 352)),
 kE 359 (⟨.type "code", none, .fields #[.str "rules_of" 677, .str "Grammar.rules_of" 678, .str "/claim/cut.py" 679, .int (208) 0, .int (2) 0, .int (0) 0, .int (0) 0, .int (3) 0, .ref 354, .bool true, .int (181) 0, .ref 355, .none, .ref 356, .ref 357, .ref 358, .int (682) 0, .int (208) 0, .str "/claim/cut.py" 683], #[]⟩),
 kE 360 (fO (fnM 23 5) "Grammar.rules_of" (.none) (.str "grammarmill.grammar" 575) (.ref 359)),
 kE 366 (⟨.type "code", none, .fields #[.str "item" 685, .str "Grammar.item" 686, .str "/claim/cut.py" 687, .int (211) 0, .int (3) 0, .int (0) 0, .int (0) 0, .int (3) 0, .ref 361, .bool true, .int (181) 0, .ref 362, .none, .ref 363, .ref 364, .ref 365, .int (691) 0, .int (211) 0, .str "/claim/cut.py" 692], #[]⟩),
 kE 367 (fO (fnM 23 6) "Grammar.item" (.none) (.str "grammarmill.grammar" 575) (.ref 366)),
 kE 373 (⟨.type "code", none, .fields #[.str "rule_of" 694, .str "Grammar.rule_of" 695, .str "/claim/cut.py" 696, .int (214) 0, .int (2) 0, .int (0) 0, .int (0) 0, .int (3) 0, .ref 368, .bool true, .int (181) 0, .ref 369, .none, .ref 370, .ref 371, .ref 372, .int (699) 0, .int (214) 0, .str "/claim/cut.py" 700], #[]⟩),
 kE 374 (fO (fnM 23 7) "Grammar.rule_of" (.none) (.str "grammarmill.grammar" 575) (.ref 373)),
 kE 380 (⟨.type "code", none, .fields #[.str "dot_of" 702, .str "Grammar.dot_of" 703, .str "/claim/cut.py" 704, .int (217) 0, .int (2) 0, .int (0) 0, .int (0) 0, .int (3) 0, .ref 375, .bool true, .int (181) 0, .ref 376, .none, .ref 377, .ref 378, .ref 379, .int (707) 0, .int (217) 0, .str "/claim/cut.py" 708], #[]⟩),
 kE 381 (fO (fnM 23 8) "Grammar.dot_of" (.none) (.str "grammarmill.grammar" 575) (.ref 380)),
 kE 387 (⟨.type "code", none, .fields #[.str "after" 710, .str "Grammar.after" 711, .str "/claim/cut.py" 712, .int (220) 0, .int (2) 0, .int (0) 0, .int (0) 0, .int (3) 0, .ref 382, .bool true, .int (181) 0, .ref 383, .none, .ref 384, .ref 385, .ref 386, .int (717) 0, .int (220) 0, .str "/claim/cut.py" 718], #[]⟩),
 kE 388 (fO (fnM 23 9) "Grammar.after" (.none) (.str "grammarmill.grammar" 575) (.ref 387)),
 kE 390 (dO P (.type "dict") none [nE "__module__" 635 (.str "grammarmill.grammar" 575), nE "__firstlineno__" 639 (.int (178) 638), nE "__init__" 645 (.ref 325), nE "symbol_count" 652 (.ref 332), nE "is_terminal" 660 (.ref 339), nE "is_middle" 668 (.ref 346), nE "number" 676 (.ref 353), nE "rules_of" 684 (.ref 360), nE "item" 693 (.ref 367), nE "rule_of" 701 (.ref 374), nE "dot_of" 709 (.ref 381), nE "after" 719 (.ref 388), nE "__static_attributes__" 730 (.ref 389), nE "__dict__" 732 (.ref 392), nE "__weakref__" 734 (.ref 393), nE "__doc__" 735 (.none)] 4),
 kE 391 (⟨.type "type", none, .cls { name := "Grammar", bases := [.type "object"], mro := [.ref 391, .type "object"], ns := 390, qualname := "Grammar", hasDict := true, subclasses := [], abstract := false, hasDel := false }, #[none, none, some (.str "Grammar" 628), some (.str "Grammar" 636), some (.builtin "object.__new__"), some (.bool true)]⟩),
 kE 401 (⟨.type "code", none, .fields #[.str "last_terminal" 738, .str "last_terminal" 739, .str "/claim/cut.py" 740, .int (224) 0, .int (2) 0, .int (0) 0, .int (0) 0, .int (3) 0, .ref 396, .bool true, .int (181) 0, .ref 397, .none, .ref 398, .ref 399, .ref 400, .int (745) 0, .int (224) 0, .str "/claim/cut.py" 746], #[]⟩),
 kE 402 (fO (fnT 24) "last_terminal" (.none) (.str "grammarmill.grammar" 575) (.ref 401)),
 kE 403 (⟨.type "tuple", none, .seq #[.none] 0, #[]⟩),
 kE 407 (⟨.type "code", none, .fields #[.str "plain_grammar" 748, .str "plain_grammar" 749, .str "/claim/cut.py" 750, .int (230) 0, .int (2) 0, .int (0) 0, .int (0) 0, .int (3) 0, .ref 404, .bool true, .int (181) 0, .ref 405, .none, .none, .none, .ref 406, .int (751) 0, .int (230) 0, .str "/claim/cut.py" 752], #[]⟩),
 kE 408 (fO (fnT 25) "plain_grammar" (.ref 403) (.str "grammarmill.grammar" 575) (.ref 407)),
 kE 414 (⟨.type "code", none, .fields #[.str "_law_tape" 756, .str "_law_tape" 757, .str "/claim/cut.py" 758, .int (256) 0, .int (1) 0, .int (0) 0, .int (0) 0, .int (3) 0, .ref 409, .bool true, .int (181) 0, .ref 410, .none, .ref 411, .ref 412, .ref 413, .int (763) 0, .int (256) 0, .str "/claim/cut.py" 764], #[]⟩),
 kE 415 (fO (fnT 27) "_law_tape" (.none) (.str "law_qd0062_01" 754) (.ref 414)),
 kE 421 (⟨.type "code", none, .fields #[.str "_law_draw" 766, .str "_law_draw" 767, .str "/claim/cut.py" 768, .int (262) 0, .int (2) 0, .int (0) 0, .int (0) 0, .int (3) 0, .ref 416, .bool true, .int (181) 0, .ref 417, .none, .ref 418, .ref 419, .ref 420, .int (772) 0, .int (262) 0, .str "/claim/cut.py" 773], #[]⟩),
 kE 422 (fO (fnT 28) "_law_draw" (.none) (.str "law_qd0062_01" 754) (.ref 421)),
 kE 426 (⟨.type "code", none, .fields #[.str "_law_pairs" 775, .str "_law_pairs" 776, .str "/claim/cut.py" 777, .int (269) 0, .int (1) 0, .int (0) 0, .int (0) 0, .int (3) 0, .ref 423, .bool true, .int (181) 0, .ref 424, .none, .none, .none, .ref 425, .int (778) 0, .int (269) 0, .str "/claim/cut.py" 779], #[]⟩),
 kE 427 (fO (fnT 29) "_law_pairs" (.none) (.str "law_qd0062_01" 754) (.ref 426)),
 kE 431 (⟨.type "code", none, .fields #[.str "_law_words" 781, .str "_law_words" 782, .str "/claim/cut.py" 783, .int (275) 0, .int (2) 0, .int (0) 0, .int (0) 0, .int (3) 0, .ref 428, .bool true, .int (181) 0, .ref 429, .none, .none, .none, .ref 430, .int (784) 0, .int (275) 0, .str "/claim/cut.py" 785], #[]⟩),
 kE 432 (fO (fnT 30) "_law_words" (.none) (.str "law_qd0062_01" 754) (.ref 431)),
 kE 436 (⟨.type "code", none, .fields #[.str "_law_needs" 787, .str "_law_needs" 788, .str "/claim/cut.py" 789, .int (288) 0, .int (2) 0, .int (0) 0, .int (0) 0, .int (3) 0, .ref 433, .bool true, .int (181) 0, .ref 434, .none, .none, .none, .ref 435, .int (790) 0, .int (288) 0, .str "/claim/cut.py" 791], #[]⟩),
 kE 437 (fO (fnT 31) "_law_needs" (.none) (.str "law_qd0062_01" 754) (.ref 436)),
 kE 441 (⟨.type "code", none, .fields #[.str "_law_is_taken" 793, .str "_law_is_taken" 794, .str "/claim/cut.py" 795, .int (292) 0, .int (2) 0, .int (0) 0, .int (0) 0, .int (3) 0, .ref 438, .bool true, .int (181) 0, .ref 439, .none, .none, .none, .ref 440, .int (796) 0, .int (292) 0, .str "/claim/cut.py" 797], #[]⟩),
 kE 442 (fO (fnT 32) "_law_is_taken" (.none) (.str "law_qd0062_01" 754) (.ref 441)),
 kE 446 (⟨.type "code", none, .fields #[.str "law" 799, .str "law" 800, .str "/claim/cut.py" 801, .int (309) 0, .int (1) 0, .int (0) 0, .int (0) 0, .int (3) 0, .ref 443, .bool true, .int (181) 0, .ref 444, .none, .none, .none, .ref 445, .int (802) 0, .int (309) 0, .str "/claim/cut.py" 803], #[]⟩),
 kE 447 (fO (fnT 33) "law" (.none) (.str "law_qd0062_01" 754) (.ref 446))]

noncomputable def kAs : List Addr := [3, 20, 21, 27, 28, 36, 42, 43, 49, 50, 52, 53, 65, 66, 74, 75, 88, 89, 95, 96, 102, 103, 105, 106, 123, 124, 130, 131, 137, 138, 144, 145, 147, 148, 158, 159, 165, 166, 172, 173, 186, 187, 193, 194, 200, 201, 207, 208, 214, 215, 221, 222, 224, 225, 242, 243, 249, 250, 256, 257, 263, 264, 266, 267, 277, 278, 282, 283, 289, 290, 291, 299, 305, 306, 308, 309, 324, 325, 331, 332, 338, 339, 345, 346, 352, 353, 359, 360, 366, 367, 373, 374, 380, 381, 387, 388, 390, 391, 401, 402, 403, 407, 408, 414, 415, 421, 422, 426, 427, 431, 432, 436, 437, 441, 442, 446, 447]
theorem kAs_eq (P : Params) : kAs = (KF P).map (·.1) := by kernel_rfl
noncomputable abbrev HK : Hook := kHook KF kAs kAs_eq
noncomputable abbrev OR : OpenRow := PySem.Challenge.rw_qd0062_01.row
noncomputable abbrev XT : Shared → Bool := fun s => xlAt vw [] s && recOk (RowW.records OR.toRowW) s

noncomputable abbrev PR : Program := PySem.Challenge.pw_qd0062_01
noncomputable abbrev PH := Addr → Option Obj
noncomputable def Holds (p : PH) (h : Heap) : Prop := ∀ a o, p a = some o → h.get? a = some o
noncomputable def PSub (p q : PH) : Prop := ∀ a o, p a = some o → q a = some o
theorem PSub.refl (p : PH) : PSub p p := fun _ _ h => h
theorem PSub.trans {p q r : PH} (x : PSub p q) (y : PSub q r) : PSub p r := fun a o h => y a o (x a o h)
theorem Holds.of_sub {p q : PH} {h : Heap} (x : Holds q h) (y : PSub p q) : Holds p h := fun a o e => x a o (y a o e)
noncomputable def PH.add (p : PH) (a : Addr) (o : Obj) : PH := fun b => if b = a then some o else p b
theorem PH.add_self (p : PH) (a : Addr) (o : Obj) : p.add a o a = some o := if_pos rfl
theorem PH.add_sub {p : PH} {a : Addr} {o : Obj} (h : p a = none) : PSub p (p.add a o) := fun b o' e => by
 have : b ≠ a := fun q => by rw [q, h] at e; cases e
 exact (if_neg this).trans e
noncomputable abbrev AL := List (Str × Value)
noncomputable abbrev Led := List (Addr × Obj)

structure Grd (w : World) (p : PH) : Prop where
 k : ∀ a o, (KF w.params).lookup a = some o → p a = some o
 g : ∀ h, Holds p h → ∃ mg mb, h.Ns mainGlobals mg ∧ h.Ns builtinsNs mb ∧ (∀ x : Str, x ≠ "__name__" → mb x = bootBuiltins x) ∧ h.NoLimit
theorem Grd.mono {w : World} {p q : PH} (G : Grd w p) (s : PSub p q) : Grd w q := ⟨fun a o e => s a o (G.k a o e), fun h H => G.g h (H.of_sub s)⟩
theorem Grd.inn {w : World} {p : PH} {h : Heap} (G : Grd w p) (H : Holds p h) : (KF w.params).In h := fun a o e => H a o (G.k a o e)
theorem Grd.lim {w : World} {p : PH} {h : Heap} (G : Grd w p) (H : Holds p h) : h.NoLimit := let ⟨_, _, _, _, _, l⟩ := G.g h H; l

structure Rm (A : Around) (n : Nat) : Prop where
 d : A.depth + 2 * n ≤ 900
 u : A.units + 20 * n ≤ 9000
 hd : A.handled = none
theorem Rm.depth {A : Around} {n : Nat} (r : Rm A n) : A.depth < recursionLimit := by have := r.d; unfold recursionLimit; exact lnt fun q => lnq [_,_] [aL (tN 1000) Z0,aL (tA Z0 (tM 2 Z1)) (tN 900)] rfl q this
theorem Rm.units {A : Around} {n : Nat} (r : Rm A n) : A.units < cLine := by have := r.u; unfold cLine; exact lnt fun q => lnq [_,_] [aL (tN 9900) Z0,aL (tA Z0 (tM 20 Z1)) (tN 9000)] rfl q this
theorem Rm.deeper {A : Around} {n : Nat} {env : Env} (r : Rm A (n + 1)) : Rm (A.deeper env) n := ⟨by have := r.d; show A.depth + 1 + _ ≤ _; exact lnl fun q => lnq [_,_] [aL (tQ (tN 900)) (tA (tQ Z0) (tM 2 Z1)),aL (tA Z0 (tM 2 (tQ Z1))) (tN 900)] rfl q this, by have := r.u; show A.units + 3 + _ ≤ _; exact lnl fun q => lnq [_,_] [aL (tQ (tN 9000)) (tA (tA Z0 (tN 3)) (tM 20 Z1)),aL (tA Z0 (tM 20 (tQ Z1))) (tN 9000)] rfl q this, r.hd⟩
theorem Rm.in1 {A : Around} {n : Nat} (r : Rm A (n + 1)) : Rm A.in1 n := ⟨by have := r.d; show A.depth + _ ≤ _; exact lnl fun q => lnq [_,_] [aL (tQ (tN 900)) (tA Z0 (tM 2 Z1)),aL (tA Z0 (tM 2 (tQ Z1))) (tN 900)] rfl q this, by have := r.u; show A.units + 1 + _ ≤ _; exact lnl fun q => lnq [_,_] [aL (tQ (tN 9000)) (tA (tQ Z0) (tM 20 Z1)),aL (tA Z0 (tM 20 (tQ Z1))) (tN 9000)] rfl q this, r.hd⟩
theorem Rm.less {A : Around} {n m : Nat} (r : Rm A n) (h : m ≤ n) : Rm A m := ⟨by have := r.d; exact lnl fun q => lnq [_,_,_] [aL (tQ (tN 900)) (tA Z0 (tM 2 Z1)),aL (tA Z0 (tM 2 Z2)) (tN 900),fL 2 Z1 Z2] rfl q this h, by have := r.u; exact lnl fun q => lnq [_,_,_] [aL (tQ (tN 9000)) (tA Z0 (tM 20 Z1)),aL (tA Z0 (tM 20 Z2)) (tN 9000),fL 20 Z1 Z2] rfl q this h, r.hd⟩
theorem Rm.mark {A : Around} {n : Nat} (r : Rm A n) : A.mark none = A := by
 unfold Around.mark; cases A; rfl

structure W (p0 : PH) (h0 : Heap) (X : List Addr) (L : Addr) (p : PH) (h : Heap) (l : AL) (mu : Led) : Prop where
 fr : h.Ns L (fun x => l.lookup x)
 sub : PSub p0 p
 hold : Holds p h
 keep : ∀ b o, b ∉ X → h0.get? b = some o → h.get? b = some o
 alive : ∀ b o, h0.get? b = some o → ∃ o', h.get? b = some o'
 fresh : ∀ b o, p b = some o → p0 b = none → h0.get? b = none
 pL : p L = none
 hL : h0.get? L = none
 own : ∀ q ∈ mu, h.get? q.1 = some q.2 ∧ q.1 ≠ L ∧ p q.1 = none ∧ (q.1 ∈ X ∨ h0.get? q.1 = none)
 nodup : (mu.map (·.1)).Nodup

structure Gro (X : List Addr) (p0 : PH) (h0 : Heap) (p : PH) (h : Heap) : Prop where
 sub : PSub p0 p
 hold : Holds p h
 keep : ∀ b o, b ∉ X → h0.get? b = some o → h.get? b = some o
 alive : ∀ b o, h0.get? b = some o → ∃ o', h.get? b = some o'
 fresh : ∀ b o, p b = some o → p0 b = none → h0.get? b = none
theorem W.gro {p0 h0 X L p h l mu} (K : W p0 h0 X L p h l mu) : Gro X p0 h0 p h := ⟨K.sub, K.hold, K.keep, K.alive, K.fresh⟩

section
variable {w : World} {A : Around} {E : Value → Shared → Prop} {g : Array GenState} {d : Drawn} {t : Nat} {os : OsState}
variable {p0 p : PH} {h0 h : Heap} {X : List Addr} {L : Addr} {l : AL} {mu : Led}

theorem W.lt (K : W p0 h0 X L p h l mu) : L < h.objs.size := K.fr.lt

theorem lookup_cons_fn (x : Str) (v : Value) (l : AL) : (fun y => ((x, v) :: l).lookup y) = fun y => if y = x then some v else l.lookup y := by
 funext y
 rw [List.lookup_cons]
 by_cases e : y = x
 ·subst e; simp
 ·rw [if_neg e]
  have : (y == x) = false := beq_eq_false_iff_ne.mpr e
  rw [this]

theorem st {env : Env} {x : Str} {v : Value} {Q : Unit → Shared → Prop} (K : W p0 h0 X L p h l mu) (hl : env.kindOf x = some .local) (hk : env.scope.kind = .function) (he : env.locals = L)
  (H : ∀ h' t', W p0 h0 X L p h' ((x, v) :: l) mu → Q () ⟨h', g, d, t', os⟩) : wpAny (model PR w) A (storeName env x v) Q E ⟨h, g, d, t, os⟩ := by
 subst he
 refine wpAny_storeName_local hl K.fr (fun h' hn hs => H h' _ ?_) (by rw [hk]; rfl)
 rw [← lookup_cons_fn] at hn
 refine ⟨hn, K.sub, fun a o e => ?_, fun b o nb e => ?_, fun b o e => ?_, K.fresh, K.pL, K.hL, fun q hq => ?_, K.nodup⟩
 ·have : a ≠ env.locals := fun q => by rw [q, K.pL] at e; cases e
  exact (hs.2 a this).trans (K.hold a o e)
 ·have : b ≠ env.locals := fun q => by rw [q, K.hL] at e; cases e
  exact (hs.2 b this).trans (K.keep b o nb e)
 ·have : b ≠ env.locals := fun q => by rw [q, K.hL] at e; cases e
  obtain ⟨o', e'⟩ := K.alive b o e
  exact ⟨o', (hs.2 b this).trans e'⟩
 ·obtain ⟨a1, a2, a3, a4⟩ := K.own q hq
  exact ⟨(hs.2 q.1 a2).trans a1, a2, a3, a4⟩

theorem ldl {env : Env} {x : Str} {pos : Pos} {v : Value} {Q : Value → Shared → Prop} (K : W p0 h0 X L p h l mu) (hl : env.kindOf x = some .local) (hk : env.scope.kind = .function) (he : env.locals = L)
  (hd : (x == ("__debug__" : Str)) = false) (hv : l.lookup x = some v) (H : Q v ⟨h, g, d, t, os⟩) : wpAny (model PR w) A (eval (.Name x pos) env) Q E ⟨h, g, d, t, os⟩ := by
 subst he
 exact wpAny_Name (wpAny_loadName_local hk hl K.fr hv H) hd
theorem lk_here {x : Str} {v : Value} {l : AL} : List.lookup x ((x, v) :: l) = some v := List.lookup_cons_self
theorem lk_there {x y : Str} {v : Value} {l : AL} {r : Option Value} (hn : (x == y) = false) (h : List.lookup x l = r) : List.lookup x ((y, v) :: l) = r := by
 rw [List.lookup_cons, hn]; exact h

theorem ldg {env : Env} {x : Str} {pos : Pos} {v : Value} {Q : Value → Shared → Prop} (G : Grd w p) (H : Holds p h) (hl : env.kindOf x = some .globalImplicit) (hk : env.scope.kind = .function) (hg : env.globals = mainGlobals)
  (hd : (x == ("__debug__" : Str)) = false) (e : nsIn (KF w.params) mainGlobals x = some (some v)) (q : Q v ⟨h, g, d, t, os⟩) : wpAny (model PR w) A (eval (.Name x pos) env) Q E ⟨h, g, d, t, os⟩ := by
 obtain ⟨mg, mb, a, b, c, _⟩ := G.g h H
 exact Calls.Name_function_global hk hl (Calls.loadGlobal_global (env := env) (by rw [hg]; exact a) (mg_of (G.inn H) a e) q) hd
theorem ldb {env : Env} {x : Str} {pos : Pos} {v : Value} {Q : Value → Shared → Prop} (G : Grd w p) (H : Holds p h) (hl : env.kindOf x = some .globalImplicit) (hk : env.scope.kind = .function) (hg : env.globals = mainGlobals) (hb : env.builtins = builtinsNs)
  (hd : (x == ("__debug__" : Str)) = false) (e : nsIn (KF w.params) mainGlobals x = some none) (hv : bootBuiltins x = some v) (hn : x ≠ "__name__") (q : Q v ⟨h, g, d, t, os⟩) : wpAny (model PR w) A (eval (.Name x pos) env) Q E ⟨h, g, d, t, os⟩ := by
 obtain ⟨mg, mb, a, b, c, _⟩ := G.g h H
 exact Calls.Name_function_global hk hl (Calls.loadGlobal_builtin (env := env) (by rw [hg]; exact a) (mg_none_of (G.inn H) a e) (by rw [hb]; exact b) ((c x hn).trans hv) q) hd
end

section
variable {w : World} {A : Around} {g : Array GenState} {d : Drawn} {t : Nat} {os : OsState} {p : PH} {h : Heap} {mu : Led} {R : Result → Shared → Prop}
theorem call_fn {f : Addr} {fd : FD} {q : Str} {dV pm cdv : Value} {args : List Value} (l : List (Str × Value)) {n : Nat}
  (ho : (KF w.params).lookup f = some (fO fd q dV pm cdv)) (hcd : codeIn (KF w.params) cdv q = true)
  (G : Grd w p) (H : Holds p h) (r : Rm A (n + 1)) (hm : ∀ x ∈ mu, h.get? x.1 = some x.2 ∧ p x.1 = none) (hnd : (mu.map (·.1)).Nodup)
  (hbind : BindsTo ⟨h, g, d, t, os⟩ (fnOf fd.name q fd.params fd.body fd.scope dV .none .none pm none cdv .none) ⟨args, []⟩ l.reverse)
  (hcell : (fd.scope.names.all fun x => x.2 != .cell) = true) (hloc : (l.reverse.all fun x => fd.scope.names.lookup x.1 == some .local) = true)
  (hco : fd.scope.isCoroutine = false) (hgen : fd.scope.isGenerator = false) (hk : fd.scope.kind = .function)
  (B : ∀ L h₁ t', W p h (mu.map (·.1)) L p h₁ l mu →
   wpAny (model PR w) (A.deeper (callEnv (fnOf fd.name q fd.params fd.body fd.scope dV .none .none pm none cdv .none) L f)) (execs fd.body (callEnv (fnOf fd.name q fd.params fd.body fd.scope dV .none .none pm none cdv .none) L f))
    (fun fl s' => R (.ok (.ret (match fl with | .ret v => v | _ => .none))) s') (fun _ _ => False) ⟨h₁, g, d, t', os⟩) :
  codeAny (model PR w) A (.call (.ref f) ⟨args, []⟩) R ⟨h, g, d, t, os⟩ := by
 have KI := G.inn H
 refine codeAny_call_def (fd := fnOf fd.name q fd.params fd.body fd.scope dV .none .none pm none cdv .none) (body := fd.body) (binds := l.reverse) r.depth (KI _ _ ho) rfl (G.lim H) (codeRec_of KI hcd) rfl hbind
  (fun x hx => by have := List.all_eq_true.mp hcell x hx; simpa using this) (fun x hx => by have := List.all_eq_true.mp hloc x hx; simpa using this) (fun h₁ hns hk₁ => ?_) hco hgen hk
 have hL : ∀ b o, h.get? b = some o → b ≠ h.objs.size := fun b o e => Nat.ne_of_lt (Heap.lt_size e)
 refine wpAny_mono (B h.objs.size h₁ _ ⟨by rw [List.reverse_reverse] at hns; exact hns, PSub.refl _, fun a o e => hk₁ a o (H a o e), fun b o _ e => hk₁ b o e, fun b o e => ⟨o, hk₁ b o e⟩, (fun b o e e' => by rw [e] at e'; cases e'), ?_, ?_, fun x hx => ?_, hnd⟩) (fun _ _ x => x) (fun _ _ x => x.elim)
 ·cases e : p h.objs.size with
  | none => rfl
  | some o => exact absurd rfl (hL _ _ (H _ _ e))
 ·cases e : h.get? h.objs.size with
  | none => rfl
  | some o => exact absurd rfl (hL _ _ e)
 ·obtain ⟨a1, a2⟩ := hm x hx
  exact ⟨hk₁ _ _ a1, hL _ _ a1, a2, .inl (List.mem_map_of_mem hx)⟩

noncomputable def Fn (w : World) (n : Nat) (f : Value) (args : List Value) (p : PH) (h : Heap) (X : List Addr) (Post : Value → PH → Heap → Prop) : Prop :=
 ∀ (A : Around) (g : Array GenState) (d : Drawn) (t : Nat) (os : OsState) (R : Result → Shared → Prop), Rm A n →
  (∀ v p' h' t', Gro X p h p' h' → Post v p' h' → R (.ok (.ret v)) ⟨h', g, d, t', os⟩) → codeAny (model PR w) A (.call f ⟨args, []⟩) R ⟨h, g, d, t, os⟩
end
section
variable {p0 p p' : PH} {h0 h h' : Heap} {X : List Addr} {L : Addr} {l : AL} {mu : Led}
theorem Ns_keep {h h' : Heap} {L : Addr} {m} (n : h.Ns L m) (k : ∀ o, h.get? L = some o → h'.get? L = some o) : h'.Ns L m :=
 let ⟨o, es, ep, ho, r⟩ := n; ⟨o, es, ep, k o ho, r⟩
theorem W.atL (K : W p0 h0 X L p h l mu) : ∃ o, h.get? L = some o := let ⟨o, _, _, ho, _⟩ := K.fr; ⟨o, ho⟩
theorem W.fresh_of (K : W p0 h0 X L p h l mu) {Y : List Addr} (G : Gro Y p h p' h') : ∀ b o, p' b = some o → p0 b = none → h0.get? b = none := fun b o e e0 => by
 cases q : p b with
 | some o' => exact K.fresh b o' q e0
 | none =>
  have := G.fresh b o e q
  cases z : h0.get? b with
  | none => rfl
  | some o' => obtain ⟨o'', y⟩ := K.alive b o' z; rw [y] at this; cases this
theorem W.off_of (K : W p0 h0 X L p h l mu) {Y : List Addr} (G : Gro Y p h p' h') {a : Addr} {o : Obj} (ha : h.get? a = some o) (hp : p a = none) : p' a = none := by
 cases q : p' a with
 | none => rfl
 | some o' => have := G.fresh a o' q hp; rw [ha] at this; cases this
theorem W.call (K : W p0 h0 X L p h l mu) (G : Gro [] p h p' h') : W p0 h0 X L p' h' l mu := by
 obtain ⟨oL, hoL⟩ := K.atL
 have kp : ∀ b o, h.get? b = some o → h'.get? b = some o := fun b o e => G.keep b o (by simp) e
 refine ⟨Ns_keep K.fr fun o => kp L o, K.sub.trans G.sub, G.hold, fun b o nb e => kp b o (K.keep b o nb e), fun b o e => ?_, K.fresh_of G, K.off_of G hoL K.pL, K.hL, fun q hq => ?_, K.nodup⟩
 ·obtain ⟨o', e'⟩ := K.alive b o e; exact ⟨o', kp b o' e'⟩
 ·obtain ⟨a1, a2, a3, a4⟩ := K.own q hq
  exact ⟨kp _ _ a1, a2, K.off_of G a1 a3, a4⟩
theorem W.callX {m1 m1' m2 : Led} (K : W p0 h0 X L p h l (m1 ++ m2)) (G : Gro (m1.map (·.1)) p h p' h') (e1 : m1'.map (·.1) = m1.map (·.1)) (e2 : ∀ q ∈ m1', h'.get? q.1 = some q.2) : W p0 h0 X L p' h' l (m1' ++ m2) := by
 obtain ⟨oL, hoL⟩ := K.atL
 have nL : L ∉ m1.map (·.1) := fun q => by
  obtain ⟨x, hx, e⟩ := List.mem_map.mp q
  exact (K.own x (List.mem_append_left _ hx)).2.1 e
 have nd := K.nodup
 rw [List.map_append, List.nodup_append] at nd
 refine ⟨Ns_keep K.fr fun o => G.keep L o nL, K.sub.trans G.sub, G.hold, fun b o nb e => ?_, fun b o e => ?_, K.fresh_of G, K.off_of G hoL K.pL, K.hL, fun q hq => ?_, ?_⟩
 ·refine G.keep b o (fun q => ?_) (K.keep b o nb e)
  obtain ⟨x, hx, rfl⟩ := List.mem_map.mp q
  rcases (K.own x (List.mem_append_left _ hx)).2.2.2 with z | z
  ·exact nb z
  ·rw [z] at e; cases e
 ·obtain ⟨o', e'⟩ := K.alive b o e; exact G.alive b o' e'
 ·rcases List.mem_append.mp hq with hq | hq
  ·have : q.1 ∈ m1.map (·.1) := e1 ▸ List.mem_map_of_mem hq
   obtain ⟨x, hx, e⟩ := List.mem_map.mp this
   obtain ⟨a1, a2, a3, a4⟩ := K.own x (List.mem_append_left _ hx)
   rw [e] at a1 a2 a3 a4
   exact ⟨e2 q hq, a2, K.off_of G a1 a3, a4⟩
  ·obtain ⟨a1, a2, a3, a4⟩ := K.own q (List.mem_append_right _ hq)
   exact ⟨G.keep _ _ (fun z => nd.2.2 _ z _ (List.mem_map_of_mem hq) rfl) a1, a2, K.off_of G a1 a3, a4⟩
 ·rw [List.map_append, e1, ← List.map_append]; exact K.nodup
theorem W.push (K : W p0 h0 X L p h l mu) (o : Obj) (hf : o.isFreed = false) : W p0 h0 X L p (h.push o) l ((h.objs.size, o) :: mu) := by
 have kp : ∀ b o', h.get? b = some o' → (h.push o).get? b = some o' := fun b o' e => Heap.get?_push_of_some _ e
 have lt : ∀ b o', h.get? b = some o' → b ≠ h.objs.size := fun b o' e => Nat.ne_of_lt (Heap.lt_size e)
 obtain ⟨oL, hoL⟩ := K.atL
 have pn : p h.objs.size = none := by
  cases q : p h.objs.size with
  | none => rfl
  | some o' => exact absurd rfl (lt _ _ (K.hold _ _ q))
 have h0n : h0.get? h.objs.size = none := by
  cases q : h0.get? h.objs.size with
  | none => rfl
  | some o' => obtain ⟨o'', z⟩ := K.alive _ _ q; exact absurd rfl (lt _ _ z)
 refine ⟨Ns_keep K.fr fun o => kp L o, K.sub, fun a o e => kp a o (K.hold a o e), fun b o nb e => kp b o (K.keep b o nb e), fun b o e => ?_, K.fresh, K.pL, K.hL, fun q hq => ?_, ?_⟩
 ·obtain ⟨o', e'⟩ := K.alive b o e; exact ⟨o', kp b o' e'⟩
 ·rcases List.mem_cons.mp hq with rfl | hq
  ·exact ⟨Heap.get?_push_size _ hf, Ne.symm (lt _ _ hoL), pn, .inr h0n⟩
  ·obtain ⟨a1, a2, a3, a4⟩ := K.own q hq
   exact ⟨kp _ _ a1, a2, a3, a4⟩
 ·rw [List.map_cons, List.nodup_cons]
  refine ⟨fun q => ?_, K.nodup⟩
  obtain ⟨x, hx, e⟩ := List.mem_map.mp q
  exact lt _ _ (K.own x hx).1 e
theorem W.fix {a : Addr} {o : Obj} (K : W p0 h0 X L p h l ((a, o) :: mu)) (hX : h0.get? a = none) : W p0 h0 X L (p.add a o) h l mu ∧ PSub p (p.add a o) ∧ (p.add a o) a = some o := by
 obtain ⟨a1, a2, a3, a4⟩ := K.own (a, o) (List.mem_cons_self ..)
 have nd := K.nodup
 rw [List.map_cons, List.nodup_cons] at nd
 have ps := PH.add_sub (o := o) a3
 refine ⟨⟨K.fr, K.sub.trans ps, fun b o' e => ?_, K.keep, K.alive, fun b o' e e0 => ?_, ?_, K.hL, fun q hq => ?_, nd.2⟩, ps, PH.add_self ..⟩
 ·unfold PH.add at e; split at e
  ·rename_i q; cases e; rw [q]; exact a1
  ·exact K.hold b o' e
 ·unfold PH.add at e; split at e
  ·rename_i q; rw [q]; exact hX
  ·exact K.fresh b o' e e0
 ·unfold PH.add; rw [if_neg (Ne.symm a2)]; exact K.pL
 ·obtain ⟨b1, b2, b3, b4⟩ := K.own q (List.mem_cons_of_mem _ hq)
  refine ⟨b1, b2, ?_, b4⟩
  have : q.1 ≠ a := fun z => nd.1 (List.mem_map.mpr ⟨q, hq, z⟩)
  unfold PH.add; rw [if_neg this]; exact b3
theorem W.pushFix (K : W p0 h0 X L p h l mu) (o : Obj) (hf : o.isFreed = false) : W p0 h0 X L (p.add h.objs.size o) (h.push o) l mu ∧ PSub p (p.add h.objs.size o) ∧ (p.add h.objs.size o) h.objs.size = some o := by
 refine (K.push o hf).fix ?_
 cases q : h0.get? h.objs.size with
 | none => rfl
 | some o' => obtain ⟨o'', z⟩ := K.alive _ _ q; exact absurd (Heap.lt_size z) (Nat.lt_irrefl _)
theorem W.upd {m1 m2 : Led} {a : Addr} {o : Obj} (K : W p0 h0 X L p h l (m1 ++ (a, o) :: m2)) (f : Obj → Obj) (hf : (f o).isFreed = false) : W p0 h0 X L p (h.update a f) l (m1 ++ (a, f o) :: m2) := by
 obtain ⟨a1, a2, a3, a4⟩ := K.own (a, o) (by simp)
 have hs : Heap.SameBut a h (h.update a f) := Heap.SameBut.update ..
 have ge : (h.update a f).get? a = some (f o) := by first | exact Heap.get?_update_self f a1 hf | exact Heap.get?_update_self _ a1 hf
 have nd := K.nodup
 rw [List.map_append, List.map_cons, List.nodup_append, List.nodup_cons] at nd
 obtain ⟨n1, ⟨n2, n3⟩, n4⟩ := nd
 have g' : ∀ q ∈ m1 ++ (a, o) :: m2, q.1 ≠ a → (h.update a f).get? q.1 = some q.2 := fun q hq ne => (hs.2 _ ne).trans (K.own q hq).1
 refine ⟨Ns_keep K.fr fun o' e => (hs.2 L (Ne.symm a2)).trans e, K.sub, fun b o' e => ?_, fun b o' nb e => ?_, fun b o' e => ?_, K.fresh, K.pL, K.hL, fun q hq => ?_, ?_⟩
 ·have : b ≠ a := fun q => by rw [q, a3] at e; cases e
  exact (hs.2 b this).trans (K.hold b o' e)
 ·have : b ≠ a := fun q => by
   rw [q] at e nb
   rcases a4 with z | z
   ·exact nb z
   ·rw [z] at e; cases e
  exact (hs.2 b this).trans (K.keep b o' nb e)
 ·obtain ⟨o'', e'⟩ := K.alive b o' e
  by_cases q : b = a
  ·exact ⟨f o, by rw [q]; exact ge⟩
  ·exact ⟨o'', (hs.2 b q).trans e'⟩
 ·rcases List.mem_append.mp hq with hq | hq
  ·have ne : q.1 ≠ a := fun z => n4 _ (List.mem_map_of_mem hq) _ (List.mem_cons_self ..) z
   have := K.own q (List.mem_append_left _ hq)
   exact ⟨(hs.2 _ ne).trans this.1, this.2⟩
  ·rcases List.mem_cons.mp hq with rfl | hq
   ·exact ⟨ge, a2, a3, a4⟩
   ·have ne : q.1 ≠ a := fun z => n2 (List.mem_map.mpr ⟨q, hq, z⟩)
    have := K.own q (List.mem_append_right _ (List.mem_cons_of_mem _ hq))
    exact ⟨(hs.2 _ ne).trans this.1, this.2⟩
 ·have := K.nodup
  rw [List.map_append, List.map_cons] at this ⊢; exact this
theorem W.pull (K : W p0 h0 X L p h l mu) {x : Str} {v : Value} (e : l.lookup x = some v) : W p0 h0 X L p h ((x, v) :: l) mu := by
 refine ⟨?_, K.sub, K.hold, K.keep, K.alive, K.fresh, K.pL, K.hL, K.own, K.nodup⟩
 have : (fun y => ((x, v) :: l).lookup y) = fun y => l.lookup y := by
  rw [lookup_cons_fn]; funext y
  split
  ·rename_i q; rw [q, e]
  ·rfl
 rw [this]; exact K.fr
end

theorem lkN {x : Str} {v : Value} : ∀ {l : AL} (n : Nat) (_ : ((l.take n).all fun e => !(x == e.1)) = true) (_ : l[n]? = some (x, v)), List.lookup x l = some v
 | [], n, _, q => by simp at q
 | (y, u) :: l, 0, _, q => by
  have e : (y, u) = (x, v) := Option.some.inj q
  cases e
  exact List.lookup_cons_self
 | (y, u) :: l, n + 1, h, q => by
  rw [List.take_succ_cons, List.all_cons, Bool.and_eq_true] at h
  rw [List.lookup_cons]
  have : (x == y) = false := by simpa using h.1
  rw [this]
  exact lkN n h.2 q
section
variable {w : World} {A : Around} {E : Value → Shared → Prop} {g : Array GenState} {d : Drawn} {t : Nat} {os : OsState}
variable {p0 p : PH} {h0 h : Heap} {X : List Addr} {L : Addr} {l : AL} {mu : Led}
noncomputable def locOk (env : Env) (x : Str) (l : AL) (n : Nat) : Bool := env.kindOf x == some .local && (!(x == ("__debug__" : Str)) && (l.take n).all fun e => !(x == e.1))
theorem ldn {env : Env} {x : Str} {pos : Pos} {v : Value} {Q : Value → Shared → Prop} (n : Nat) (K : W p0 h0 X L p h l mu) (c : locOk env x l n = true) (hk : env.scope.kind = .function) (he : env.locals = L)
  (hv : l[n]? = some (x, v)) (H : Q v ⟨h, g, d, t, os⟩) : wpAny (model PR w) A (eval (.Name x pos) env) Q E ⟨h, g, d, t, os⟩ := by
 unfold locOk at c
 rw [Bool.and_eq_true, Bool.and_eq_true] at c
 exact ldl K (by simpa using c.1) hk he (by simpa using c.2.1) (lkN n c.2.2 hv) H
theorem stn {env : Env} {x : Str} {v : Value} {Q : Unit → Shared → Prop} (K : W p0 h0 X L p h l mu) (hl : env.kindOf x = some .local) (hk : env.scope.kind = .function) (he : env.locals = L)
  (H : ∀ h' t', W p0 h0 X L p h' ((x, v) :: l) mu → Q () ⟨h', g, d, t', os⟩) : wpAny (model PR w) A (storeName env x v) Q E ⟨h, g, d, t, os⟩ := st K hl hk he H
theorem n_ {env : Env} {x : Str} {pos : Pos} {v : Value} {Q : Value → Shared → Prop} (n : Nat) (K : W p0 h0 X L p h l mu) (hv : l[n]? = some (x, v)) (H : Q v ⟨h, g, d, t, os⟩)
  (c : locOk env x l n = true := by kernel_rfl) (hk : env.scope.kind = .function := by rfl) (he : env.locals = L := by rfl) : wpAny (model PR w) A (eval (.Name x pos) env) Q E ⟨h, g, d, t, os⟩ := ldn n K c hk he hv H
theorem s_ {env : Env} {x : Str} {v : Value} {Q : Unit → Shared → Prop} (K : W p0 h0 X L p h l mu) (H : ∀ h' t', W p0 h0 X L p h' ((x, v) :: l) mu → Q () ⟨h', g, d, t', os⟩)
  (hl : env.kindOf x = some .local := by kernel_rfl) (hk : env.scope.kind = .function := by rfl) (he : env.locals = L := by rfl) : wpAny (model PR w) A (storeName env x v) Q E ⟨h, g, d, t, os⟩ := st K hl hk he H
end

noncomputable abbrev tupOf (its : Array Value) (n : Nat) : Obj := { cls := .type "tuple", data := .seq its n }
noncomputable def Ob (p : PH) (x C : Addr) (fs : AL) : Prop := X3 fun dx es n => A3 (p x = some (instObj C dx)) (p dx = some (dictOf es n)) (∀ y, getL y es = some (fs.lookup y))
theorem Ob.mono {p q : PH} {x C fs} (o : Ob p x C fs) (s : PSub p q) : Ob q x C fs := let ⟨dx, es, n, a, b, c⟩ := o; ⟨dx, es, n, s _ _ a, s _ _ b, c⟩
noncomputable def attrOk (K : Frag) (C : Addr) (name : Str) : Bool := plainGet K C name && hasDictIn K C && match findIn K (.ref C) name with | some a => noGet K a | none => false
noncomputable def methOk (K : Frag) (C : Addr) (name : Str) (f : Addr) : Bool := plainGet K C name && findIn K (.ref C) name == some (some (.ref f)) && isFn K (.ref f)
section
variable {w : World} {A : Around} {E : Value → Shared → Prop} {g : Array GenState} {d : Drawn} {t : Nat} {os : OsState}
variable {p : PH} {h : Heap} {env : Env}
theorem ga {x C : Addr} {fs : AL} {name : Str} {v : Value} {ex : Bool} {Q : Value → Shared → Prop} (G : Grd w p) (H : Holds p h) (o : Ob h.get? x C fs) (hC : attrOk (KF w.params) C name = true) (hv : fs.lookup name = some v) (hh : handedIn v = true)
  (q : ∀ t', Q v ⟨h, g, d, t', os⟩) : wpAny (model PR w) A (getAttr (.ref x) name ex) Q E ⟨h, g, d, t, os⟩ := by
 obtain ⟨dx, es, n, a, b, c⟩ := o
 unfold attrOk at hC
 obtain ⟨hC, h3⟩ := Bool.and_eq_true_iff.mp hC
 obtain ⟨h1, h2⟩ := Bool.and_eq_true_iff.mp hC
 split at h3
 ·rename_i at_ ha
  have I : InstAt h x (instObj C dx) C (some (dictOf es n)) := ⟨a, rfl, rfl, b⟩
  exact get_value (s := ⟨h, g, d, t, os⟩) (G.inn H) I (plainGet_of h1).1 (findObj_own h2 ha h3 (by rw [lookIn_dict, c, hv])) hh (q _)
 ·cases h3
theorem gm {x C f : Addr} {fs : AL} {name : Str} {pl : Sem Bool} {Q : Value × List Value → Shared → Prop} (G : Grd w p) (H : Holds p h) (o : Ob h.get? x C fs) (hC : methOk (KF w.params) C name f = true) (hv : fs.lookup name = none)
  (q : Q (.ref f, [.ref x]) ⟨h, g, d, t, os⟩) : wpAny (model PR w) A (getMethod (.ref x) name pl) Q E ⟨h, g, d, t, os⟩ := by
 obtain ⟨dx, es, n, a, b, c⟩ := o
 unfold methOk at hC
 obtain ⟨hC, h3⟩ := Bool.and_eq_true_iff.mp hC
 obtain ⟨h1, h2⟩ := Bool.and_eq_true_iff.mp hC
 have I : InstAt h x (instObj C dx) C (some (dictOf es n)) := ⟨a, rfl, rfl, b⟩
 exact method_fn (s := ⟨h, g, d, t, os⟩) (G.inn H) I (plainGet_of h1).1 (plainGet_of h1).2 (beq_iff_eq.mp h2) (beq_iff_eq.mp h3) (by show (lookIn name (dictOf es n)).map _ = _; rw [lookIn_dict, c, hv]; rfl) q
theorem attr_ {value : Expr} {attr : Str} {pos : Pos} {s : Shared} {Q : Value → Shared → Prop}
  (h : wpAny (model PR w) A (eval value env) (fun o s₁ => wpAny (model PR w) A (getAttr o attr true) Q E s₁) E s)
  (he : attributeBase value attr env (eval value env) = eval value env) : wpAny (model PR w) A (eval (.Attribute value attr pos) env) Q E s := by
 refine Attribute_any_ h ?_
 show (do let o ← attributeBase value attr env (eval value env); standAt pos.atName; let r ← holding [o] (getAttr o attr true); letTemporaryGo value o r; pure r) = _
 rw [he]
theorem cwf {f : Value} {first : List Value} {pos : Pos} {s : Shared} {args : List (Bool × Sem Value)} {Q : Value → Shared → Prop} (hk : keepIn (KF w.params) f = true) (hplain : args.any (·.1) = false)
  (h : wpAny (model PR w) A (evalArgs f true args []) (fun a s₁ => (∃ p, Grd w p ∧ Holds p s₁.heap) ∧ wpAny (model PR w) A (call f (first ++ a.pos) a.kw) Q E s₁) E s) : wpAny (model PR w) A (callWith pos f first args []) Q E s :=
 callWith_of (P := fun h => ∃ p, Grd w p ∧ Holds p h) (by rw [hplain]; rfl) (fun h ⟨_, G, H⟩ => keeps_K hk h (G.inn H)) h
theorem args0 {f : Value} {pos : Pos} {s : Shared} {Q : Args → Shared → Prop} (h : Q ⟨[], []⟩ s) : wpAny (model PR w) A (evalArgs f true (backTo pos (starEach [] env)) []) Q E s :=
 PySem.evalArgs_kw_nil rfl (PySem.wpAny_evalAll_nil h)
theorem args1 {f : Value} {e : Expr} {rest : List Expr} {pos : Pos} {s : Shared} {Q : Args → Shared → Prop} (he : starEach (e :: rest) env = (false, eval e env) :: starEach rest env)
  (h : wpAny (model PR w) A (spliced (backTo pos (starEach (e :: rest) env))) (fun vs s' => Q ⟨vs, []⟩ s') E s) : wpAny (model PR w) A (evalArgs f true (backTo pos (starEach (e :: rest) env)) []) Q E s := by
 rw [he] at h ⊢
 exact Calls.evalArgs_plain h
theorem use_fn {n : Nat} {f : Value} {args : List Value} {X : List Addr} {Post : Value → PH → Heap → Prop} {Q : Value → Shared → Prop} (F : Fn w n f args p h X Post) (r : Rm A n)
  (k : ∀ v p' h' t', Gro X p h p' h' → Post v p' h' → Q v ⟨h', g, d, t', os⟩) : wpAny (model PR w) A (call f args []) Q E ⟨h, g, d, t, os⟩ := wpAny_call (F A g d t os _ r k)
theorem sub_list {value slice : Expr} {a : Addr} {vs : Array Value} {n : Nat} {k : Int} {u : Tok} {v : Value} {Q : Value → Shared → Prop} (hl : h.get? a = some (listOf vs n)) (h0 : 0 ≤ k) (hk : k < 2 ^ 63) (hx : vs[k.toNat]? = some v)
  (hs : subscripted slice false (.ref a) (.int k u) = operate [.ref a, .int k u] (getItem (.ref a) (.int k u))) (q : Q v ⟨h, g, d, t, os⟩) :
  wpAny (model PR w) A (subscriptTail value slice (.ref a) (.int k u)) Q E ⟨h, g, d, t, os⟩ := by
 have hl' : h.IsList a vs := ⟨_, hl, rfl, _, rfl⟩
 exact tail_any (s := ⟨h, g, d, t, os⟩) hl'.typeIs slot_list_getitem.lookup (wpAny_getItem_list (s := ⟨h, g, d, t, os⟩) hl' h0 hk hx q) hs
theorem c_int {i : Int} {k : Nat} {pos : Pos} {Q : Value → Shared → Prop} (q : ∀ u t', Q (.int i u) ⟨h, g, d, t', os⟩) : wpAny (model PR w) A (eval (.Constant (.int i) k pos) env) Q E ⟨h, g, d, t, os⟩ := wpAny_Constant_int (q _ _)
theorem c_str {x : Str} {k : Nat} {pos : Pos} {Q : Value → Shared → Prop} (q : ∀ u t', Q (.str x u) ⟨h, g, d, t', os⟩) : wpAny (model PR w) A (eval (.Constant (.str x) k pos) env) Q E ⟨h, g, d, t, os⟩ := wpAny_Constant_str (q _ _)
theorem i_add {a b : Int} {u v : Tok} {Q : Value → Shared → Prop} (q : ∀ u t', Q (.int (a + b) u) ⟨h, g, d, t', os⟩) : wpAny (model PR w) A (binaryOp .Add (.int a u) (.int b v)) Q E ⟨h, g, d, t, os⟩ := PyProof.Rows.add_int (q _ _)
theorem i_sub {a b : Int} {u v : Tok} {Q : Value → Shared → Prop} (q : ∀ u t', Q (.int (a - b) u) ⟨h, g, d, t', os⟩) : wpAny (model PR w) A (binaryOp .Sub (.int a u) (.int b v)) Q E ⟨h, g, d, t, os⟩ := PyProof.Rows.sub_int (q _ _)
theorem i_neg {a : Int} {u : Tok} {Q : Value → Shared → Prop} (q : ∀ u t', Q (.int (-a) u) ⟨h, g, d, t', os⟩) : wpAny (model PR w) A (unaryOp .USub (.int a u)) Q E ⟨h, g, d, t, os⟩ := PySem.P.neg_int (q _ _)
theorem i_lt {a b : Int} {u v : Tok} {Q : Value → Shared → Prop} (q : Q (.bool (decide (a < b))) ⟨h, g, d, t, os⟩) : wpAny (model PR w) A (compareOp .Lt (.int a u) (.int b v)) Q E ⟨h, g, d, t, os⟩ := PySem.P.lt_int q
theorem i_le {a b : Int} {u v : Tok} {Q : Value → Shared → Prop} (q : Q (.bool (decide (a ≤ b))) ⟨h, g, d, t, os⟩) : wpAny (model PR w) A (compareOp .LtE (.int a u) (.int b v)) Q E ⟨h, g, d, t, os⟩ := PySem.P.le_int q
theorem i_gt {a b : Int} {u v : Tok} {Q : Value → Shared → Prop} (q : Q (.bool (decide (a > b))) ⟨h, g, d, t, os⟩) : wpAny (model PR w) A (compareOp .Gt (.int a u) (.int b v)) Q E ⟨h, g, d, t, os⟩ := PySem.P.gt_int q
theorem i_ge {a b : Int} {u v : Tok} {Q : Value → Shared → Prop} (q : Q (.bool (decide (a ≥ b))) ⟨h, g, d, t, os⟩) : wpAny (model PR w) A (compareOp .GtE (.int a u) (.int b v)) Q E ⟨h, g, d, t, os⟩ := PySem.P.ge_int q
theorem i_eq {a b : Int} {u v : Tok} {Q : Value → Shared → Prop} (q : Q (.bool (a == b)) ⟨h, g, d, t, os⟩) : wpAny (model PR w) A (compareOp .Eq (.int a u) (.int b v)) Q E ⟨h, g, d, t, os⟩ := PySem.P.eq_int q
theorem i_ne {a b : Int} {u v : Tok} {Q : Value → Shared → Prop} (q : Q (.bool (a != b)) ⟨h, g, d, t, os⟩) : wpAny (model PR w) A (compareOp .NotEq (.int a u) (.int b v)) Q E ⟨h, g, d, t, os⟩ := PySem.P.ne_int q
theorem len_l {a : Addr} {vs : Array Value} {n : Nat} {Q : Value → Shared → Prop} (e : h.get? a = some (listOf vs n)) (hs : (vs.size : Int) < 2 ^ 63) (q : ∀ u t', Q (.int vs.size u) ⟨h, g, d, t', os⟩) : wpAny (model PR w) A (call (.builtin "len") [.ref a]) Q E ⟨h, g, d, t, os⟩ :=
 PyProof.Rows.len_list ⟨_, e, rfl, _, rfl⟩ hs (q _ _)
theorem len_t {a : Addr} {vs : Array Value} {n : Nat} {Q : Value → Shared → Prop} (e : h.get? a = some (tupOf vs n)) (hs : (vs.size : Int) < 2 ^ 63) (q : ∀ u t', Q (.int vs.size u) ⟨h, g, d, t', os⟩) : wpAny (model PR w) A (call (.builtin "len") [.ref a]) Q E ⟨h, g, d, t, os⟩ :=
 PyProof.Rows.len_tuple ⟨_, e, rfl, _, rfl⟩ hs (q _ _)
theorem sub_tup {value slice : Expr} {a : Addr} {vs : Array Value} {n : Nat} {k : Int} {u : Tok} {v : Value} {Q : Value → Shared → Prop} (hl : h.get? a = some (tupOf vs n)) (h0 : 0 ≤ k) (hk : k < 2 ^ 63) (hx : vs[k.toNat]? = some v)
  (hs : subscripted slice false (.ref a) (.int k u) = operate [.ref a, .int k u] (getItem (.ref a) (.int k u))) (hg : ∀ r, letTemporaryGo value (.ref a) r = pure ()) (q : Q v ⟨h, g, d, t, os⟩) :
  wpAny (model PR w) A (subscriptTail value slice (.ref a) (.int k u)) Q E ⟨h, g, d, t, os⟩ := by
 refine item_tuple (j := k.toNat) ⟨_, hl, rfl, _, rfl⟩ (by omega) hk ?_ hx q hs hg
 have := (Array.getElem?_eq_some_iff.mp hx).1
 have hk0 : ¬ k < 0 := by omega
 have hk1 : k < (vs.size : Int) := by omega
 simp [seqIndex?, hk0, h0, hk1]
noncomputable def GlB (P : Params) (x : Str) (v : Value) : Prop := nsIn (KF P) mainGlobals x = some none ∧ bootBuiltins x = some v ∧ (x != Str.ofString "__name__") = true ∧ (x == Str.ofString "__debug__") = false
noncomputable def GlG (P : Params) (x : Str) (v : Value) : Prop := nsIn (KF P) mainGlobals x = some (some v) ∧ (x == Str.ofString "__debug__") = false
theorem ldB {env : Env} {x : Str} {pos : Pos} {v : Value} {Q : Value → Shared → Prop} (c : GlB w.params x v) (G : Grd w p) (H : Holds p h) (hl : env.kindOf x = some .globalImplicit) (hk : env.scope.kind = .function) (hg : env.globals = mainGlobals) (hb : env.builtins = builtinsNs)
  (q : Q v ⟨h, g, d, t, os⟩) : wpAny (model PR w) A (eval (.Name x pos) env) Q E ⟨h, g, d, t, os⟩ :=
 ldb G H hl hk hg hb c.2.2.2 c.1 c.2.1 (by have := c.2.2.1; simpa using this) q
theorem ldG {env : Env} {x : Str} {pos : Pos} {v : Value} {Q : Value → Shared → Prop} (c : GlG w.params x v) (G : Grd w p) (H : Holds p h) (hl : env.kindOf x = some .globalImplicit) (hk : env.scope.kind = .function) (hg : env.globals = mainGlobals)
  (q : Q v ⟨h, g, d, t, os⟩) : wpAny (model PR w) A (eval (.Name x pos) env) Q E ⟨h, g, d, t, os⟩ := ldg G H hl hk hg c.2 c.1 q
theorem cwb {id : String} {first : List Value} {pos : Pos} {s : Shared} {args : List (Bool × Sem Value)} {Q : Value → Shared → Prop} (hplain : args.any (·.1) = false)
  (h : wpAny (model PR w) A (evalArgs (.builtin id) true args []) (fun a s₁ => wpAny (model PR w) A (call (.builtin id) (first ++ a.pos) a.kw) Q E s₁) E s) : wpAny (model PR w) A (callWith pos (.builtin id) first args []) Q E s :=
 Calls.callWith_builtin hplain h
end
section
variable (P : Params)
theorem gB_len : GlB P "len" (.builtin "len") := ⟨by kernel_rfl, by kernel_rfl, by kernel_rfl, by kernel_rfl⟩
theorem gB_range : GlB P "range" (.type "range") := ⟨by kernel_rfl, by kernel_rfl, by kernel_rfl, by kernel_rfl⟩
theorem gB_list : GlB P "list" (.type "list") := ⟨by kernel_rfl, by kernel_rfl, by kernel_rfl, by kernel_rfl⟩
theorem gB_sorted : GlB P "sorted" (.builtin "sorted") := ⟨by kernel_rfl, by kernel_rfl, by kernel_rfl, by kernel_rfl⟩
theorem gB_tuple : GlB P "tuple" (.type "tuple") := ⟨by kernel_rfl, by kernel_rfl, by kernel_rfl, by kernel_rfl⟩
theorem gB_dict : GlB P "dict" (.type "dict") := ⟨by kernel_rfl, by kernel_rfl, by kernel_rfl, by kernel_rfl⟩
theorem gB_int : GlB P "int" (.type "int") := ⟨by kernel_rfl, by kernel_rfl, by kernel_rfl, by kernel_rfl⟩
theorem gB_abs : GlB P "abs" (.builtin "abs") := ⟨by kernel_rfl, by kernel_rfl, by kernel_rfl, by kernel_rfl⟩
theorem gG_transitive : GlG P "transitive" (.ref 28) := ⟨by kernel_rfl, by kernel_rfl⟩
theorem gG_bits : GlG P "bits" (.ref 75) := ⟨by kernel_rfl, by kernel_rfl⟩
theorem gG_NONE : GlG P "NONE" (.int (-1) 275) := ⟨by kernel_rfl, by kernel_rfl⟩
theorem gG_LrState : GlG P "LrState" (.ref 106) := ⟨by kernel_rfl, by kernel_rfl⟩
theorem gG_Closer : GlG P "Closer" (.ref 148) := ⟨by kernel_rfl, by kernel_rfl⟩
theorem gG_advanced : GlG P "advanced" (.ref 159) := ⟨by kernel_rfl, by kernel_rfl⟩
theorem gG_kernels_behind : GlG P "kernels_behind" (.ref 166) := ⟨by kernel_rfl, by kernel_rfl⟩
theorem gG_complete_rules : GlG P "complete_rules" (.ref 173) := ⟨by kernel_rfl, by kernel_rfl⟩
theorem gG_Automaton : GlG P "Automaton" (.ref 225) := ⟨by kernel_rfl, by kernel_rfl⟩
theorem gG_Builder : GlG P "Builder" (.ref 267) := ⟨by kernel_rfl, by kernel_rfl⟩
theorem gG_build : GlG P "build" (.ref 278) := ⟨by kernel_rfl, by kernel_rfl⟩
theorem gG_inadequate_states : GlG P "inadequate_states" (.ref 283) := ⟨by kernel_rfl, by kernel_rfl⟩
theorem gG_is_lr_zero : GlG P "is_lr_zero" (.ref 290) := ⟨by kernel_rfl, by kernel_rfl⟩
theorem gG_END : GlG P "END" (.int 0 577) := ⟨by kernel_rfl, by kernel_rfl⟩
theorem gG_OWN_TERMINALS : GlG P "OWN_TERMINALS" (.ref 291) := ⟨by kernel_rfl, by kernel_rfl⟩
theorem gG_Rule : GlG P "Rule" (.ref 309) := ⟨by kernel_rfl, by kernel_rfl⟩
theorem gG_Grammar : GlG P "Grammar" (.ref 391) := ⟨by kernel_rfl, by kernel_rfl⟩
theorem gG_last_terminal : GlG P "last_terminal" (.ref 402) := ⟨by kernel_rfl, by kernel_rfl⟩
theorem gG_plain_grammar : GlG P "plain_grammar" (.ref 408) := ⟨by kernel_rfl, by kernel_rfl⟩
theorem gG_law_tape : GlG P "_law_tape" (.ref 415) := ⟨by kernel_rfl, by kernel_rfl⟩
theorem gG_law_draw : GlG P "_law_draw" (.ref 422) := ⟨by kernel_rfl, by kernel_rfl⟩
theorem gG_law_pairs : GlG P "_law_pairs" (.ref 427) := ⟨by kernel_rfl, by kernel_rfl⟩
theorem gG_law_words : GlG P "_law_words" (.ref 432) := ⟨by kernel_rfl, by kernel_rfl⟩
theorem gG_law_needs : GlG P "_law_needs" (.ref 437) := ⟨by kernel_rfl, by kernel_rfl⟩
theorem gG_law_is_taken : GlG P "_law_is_taken" (.ref 442) := ⟨by kernel_rfl, by kernel_rfl⟩
end
noncomputable def Imp (P Q : Flow → Shared → Prop) : Prop := ∀ f s, P f s → Q f s
noncomputable def ImS (P Q : Shared → Prop) : Prop := ∀ s, P s → Q s
theorem ImS.use {P Q : Shared → Prop} {s : Shared} (h : ImS P Q) (x : P s) : Q s := h s x
theorem Imp.use {P Q : Flow → Shared → Prop} {f : Flow} {s : Shared} (h : Imp P Q) (x : P f s) : Q f s := h f s x
theorem execs_consA {M : Model} {A : Around} {E : Value → Shared → Prop} {s : Shared} {env : Env} {st : Stmt} {rest : List Stmt} {Q : Flow → Shared → Prop}
  (h : ∀ Q', Imp (fun f s' => match f with | .next => wpAny M A (execs rest env) Q E s' | f => Q f s') Q' → wpAny M A (exec st env) Q' E s) : wpAny M A (execs (st :: rest) env) Q E s :=
 wpAny_execs_cons (h _ fun _ _ x => x)
theorem execs_ret {M : Model} {A : Around} {E : Value → Shared → Prop} {s : Shared} {env : Env} {v : Option PySem.Expr} {pos : Pos} {rest : List Stmt} {Q : Flow → Shared → Prop}
  (h : wpAny M A (exec (.Return v pos) env) (fun f s' => match f with | .next => wpAny M A (execs rest env) Q E s' | f => Q f s') E s) : wpAny M A (execs (.Return v pos :: rest) env) Q E s := wpAny_execs_cons h
theorem gen_turn {M : Model} {A : Around} {E F : Value → Shared → Prop} {s : Shared} {α : Type} {c : Sem α} {c2 : α → Sem Flow} {P : Flow → Shared → Prop}
  (h : ∀ Q, Imp P Q → wpAny M A c (fun x s' => wpAny M A (c2 x) Q F s') E s) : wpAny M A c (fun x s' => wpAny M A (c2 x) P F s') E s := h P fun _ _ x => x

section
variable {w : World} {A : Around} {E : Value → Shared → Prop} {env : Env}
theorem i_ {P Q : Flow → Shared → Prop} {f : Flow} {s : Shared} (x : P f s) (h : Imp P Q := by assumption) : Q f s := h f s x
theorem f_ {f : Value} {first : List Value} {pos : Pos} {s : Shared} {args : List (Bool × Sem Value)} {Q : Value → Shared → Prop}
  (h : wpAny (model PR w) A (evalArgs f true args []) (fun a s₁ => (∃ p, Grd w p ∧ Holds p s₁.heap) ∧ wpAny (model PR w) A (call f (first ++ a.pos) a.kw) Q E s₁) E s) (hk : keepIn (KF w.params) f = true := by kernel_rfl) (hplain : args.any (·.1) = false := by rfl) : wpAny (model PR w) A (callWith pos f first args []) Q E s := cwf hk hplain h
theorem a_ {f : Value} {e : PySem.Expr} {rest : List PySem.Expr} {pos : Pos} {s : Shared} {Q : Args → Shared → Prop}
  (h : wpAny (model PR w) A (spliced (backTo pos (starEach (e :: rest) env))) (fun vs s' => Q ⟨vs, []⟩ s') E s) (he : starEach (e :: rest) env = (false, eval e env) :: starEach rest env := by rfl) : wpAny (model PR w) A (evalArgs f true (backTo pos (starEach (e :: rest) env)) []) Q E s := args1 he h
theorem t_ {value : PySem.Expr} {attr : Str} {pos : Pos} {s : Shared} {Q : Value → Shared → Prop}
  (h : wpAny (model PR w) A (eval value env) (fun o s₁ => wpAny (model PR w) A (getAttr o attr true) Q E s₁) E s)
  (he : attributeBase value attr env (eval value env) = eval value env := by rfl) : wpAny (model PR w) A (eval (.Attribute value attr pos) env) Q E s := attr_ h he
theorem l_ {id : String} {first : List Value} {pos : Pos} {s : Shared} {args : List (Bool × Sem Value)} {Q : Value → Shared → Prop}
  (h : wpAny (model PR w) A (evalArgs (.builtin id) true args []) (fun a s₁ => wpAny (model PR w) A (call (.builtin id) (first ++ a.pos) a.kw) Q E s₁) E s) (hplain : args.any (·.1) = false := by rfl) : wpAny (model PR w) A (callWith pos (.builtin id) first args []) Q E s := cwb hplain h
end
@[reducible] noncomputable def Nx (w : World) (A : Around) (rest : List Stmt) (env : Env) (Q : Flow → Shared → Prop) (E : Value → Shared → Prop) : Flow → Shared → Prop := fun f s => match f with
 | .next => wpAny (model PR w) A (execs rest env) Q E s
 | f => Q f s
section
variable {w : World} {A : Around} {E : Value → Shared → Prop} {env : Env} {s : Shared}
theorem x_ {st : Stmt} {rest : List Stmt} {Q : Flow → Shared → Prop} (h : ∀ Q', Imp (Nx w A rest env Q E) Q' → wpAny (model PR w) A (exec st env) Q' E s) : wpAny (model PR w) A (execs (st :: rest) env) Q E s := execs_consA h
theorem xv_ {x : Str} {q : Pos} {value : PySem.Expr} {pos : Pos} {rest : List Stmt} {Q : Flow → Shared → Prop}
  (h : ∀ Q', Imp (Nx w A rest env Q E) Q' → wpAny (model PR w) A (eval value env) (fun v s₁ => wpAny (model PR w) A (storeName env x v) (fun _ => Q' .next) E s₁) E s)
  (hs : swapsWith value (some (.Name x q)) pos.line env = pure false := by rfl) : wpAny (model PR w) A (execs (.Assign [.Name x q] value pos :: rest) env) Q E s := x_ fun Q' I => wpAny_Assign_Name (h Q' I) hs
theorem xp_ {o : PySem.Expr} {attr : Str} {q : Pos} {value : PySem.Expr} {pos : Pos} {rest : List Stmt} {Q : Flow → Shared → Prop}
  (h : ∀ Q', Imp (Nx w A rest env Q E) Q' → wpAny (model PR w) A (eval value env) (fun v s₁ => wpAny (model PR w) A (eval o env) (fun ov s₂ => wpAny (model PR w) A (setAttr ov attr v) (fun _ => Q' .next) E s₂) E s₁) E s)
  (hs : swapsWith value (some (.Attribute o attr q)) pos.line env = pure false := by rfl) : wpAny (model PR w) A (execs (.Assign [.Attribute o attr q] value pos :: rest) env) Q E s := x_ fun Q' I => plainObj_wpAny_Assign_Attribute (h Q' I) hs
theorem wj_ {e : PySem.Expr} {pos : Pos} {rest : List Stmt} {Q : Flow → Shared → Prop}
  (h : wpAny (model PR w) A (eval e env) (fun v => Q (.ret v)) E s) : wpAny (model PR w) A (execs (.Return (some e) pos :: rest) env) Q E s := execs_ret (wpAny_Return_some h)
theorem ar_ {f : Value} {e : PySem.Expr} {rest : List PySem.Expr} {pos : Pos} {Q : Args → Shared → Prop}
  (h : wpAny (model PR w) A (eval e env) (fun v s₁ => wpAny (model PR w) A (spliced (backTo pos (starEach rest env))) (fun vs s₂ => Q ⟨v :: vs, []⟩ s₂) E s₁) E s)
  (he : starEach (e :: rest) env = (false, eval e env) :: starEach rest env := by rfl) : wpAny (model PR w) A (evalArgs f true (backTo pos (starEach (e :: rest) env)) []) Q E s := args1 he (wpAny_items_cons h he)
theorem arz_ {f : Value} {e : PySem.Expr} {pos : Pos} {Q : Args → Shared → Prop}
  (h : wpAny (model PR w) A (eval e env) (fun v s₁ => Q ⟨[v], []⟩ s₁) E s)
  (he : starEach [e] env = (false, eval e env) :: starEach [] env := by rfl) : wpAny (model PR w) A (evalArgs f true (backTo pos (starEach [e] env)) []) Q E s := ar_ (wpAny_mono h (fun _ _ q => wpAny_items_nil q) fun _ _ q => q) he
theorem rz_ {e : PySem.Expr} {pos : Pos} {Q : List Value → Shared → Prop}
  (h : wpAny (model PR w) A (eval e env) (fun v s₁ => Q [v] s₁) E s)
  (he : starEach [e] env = (false, eval e env) :: starEach [] env := by rfl) : wpAny (model PR w) A (spliced (backTo pos (starEach [e] env))) Q E s := wpAny_items_cons (wpAny_mono h (fun _ _ q => wpAny_items_nil q) fun _ _ q => q) he
section
variable {p : PH} {h : Heap} {g : Array GenState} {d : Drawn} {t : Nat} {os : OsState}
theorem kg_ {x : Str} {q pos : Pos} {v : Value} {args : List PySem.Expr} {Q : Value → Shared → Prop} (c : GlG w.params x v) (G : Grd w p) (H : Holds p h)
  (y : wpAny (model PR w) A (evalArgs v true (backTo pos (starEach args env)) []) (fun a s₁ => (∃ p, Grd w p ∧ Holds p s₁.heap) ∧ wpAny (model PR w) A (call v ([] ++ a.pos) a.kw) Q E s₁) E ⟨h, g, d, t, os⟩)
  (hl : env.kindOf x = some .globalImplicit := by kernel_rfl) (hk : env.scope.kind = .function := by rfl) (hg : env.globals = mainGlobals := by rfl)
  (hf : keepIn (KF w.params) v = true := by kernel_rfl) (hp : (backTo pos (starEach args env)).any (·.1) = false := by rfl) :
  wpAny (model PR w) A (eval (.Call (.Name x q) args [] pos) env) Q E ⟨h, g, d, t, os⟩ := wpAny_Call_NameR (ldG c G H hl hk hg (cwf hf hp y))
theorem kb_ {x : Str} {q pos : Pos} {id : String} {args : List PySem.Expr} {Q : Value → Shared → Prop} (c : GlB w.params x (.builtin id)) (G : Grd w p) (H : Holds p h)
  (y : wpAny (model PR w) A (evalArgs (.builtin id) true (backTo pos (starEach args env)) []) (fun a s₁ => wpAny (model PR w) A (call (.builtin id) ([] ++ a.pos) a.kw) Q E s₁) E ⟨h, g, d, t, os⟩)
  (hl : env.kindOf x = some .globalImplicit := by kernel_rfl) (hk : env.scope.kind = .function := by rfl) (hg : env.globals = mainGlobals := by rfl) (hb : env.builtins = builtinsNs := by rfl)
  (hp : (backTo pos (starEach args env)).any (·.1) = false := by rfl) :
  wpAny (model PR w) A (eval (.Call (.Name x q) args [] pos) env) Q E ⟨h, g, d, t, os⟩ := wpAny_Call_NameR (ldB c G H hl hk hg hb (cwb hp y))
theorem kt_ {x : Str} {q pos : Pos} {T : String} {args : List PySem.Expr} {Q : Value → Shared → Prop} (c : GlB w.params x (.type T)) (G : Grd w p) (H : Holds p h)
  (y : wpAny (model PR w) A (evalArgs (.type T) true (backTo pos (starEach args env)) []) (fun a s₁ => wpAny (model PR w) A (call (.type T) ([] ++ a.pos) a.kw) Q E s₁) E ⟨h, g, d, t, os⟩)
  (hl : env.kindOf x = some .globalImplicit := by kernel_rfl) (hk : env.scope.kind = .function := by rfl) (hg : env.globals = mainGlobals := by rfl) (hb : env.builtins = builtinsNs := by rfl)
  (hp : (backTo pos (starEach args env)).any (·.1) = false := by rfl) :
  wpAny (model PR w) A (eval (.Call (.Name x q) args [] pos) env) Q E ⟨h, g, d, t, os⟩ := wpAny_Call_NameR (ldB c G H hl hk hg hb (PySem.callWith_type hp y))
end
section
variable {p0 p : PH} {h0 h : Heap} {X : List Addr} {L : Addr} {l : AL} {mu : Led} {g : Array GenState} {d : Drawn} {t : Nat} {os : OsState}
variable {x : Str} {q pos : Pos} {v : Value}
theorem tn_ {attr : Str} {Q : Value → Shared → Prop} (n : Nat) (K : W p0 h0 X L p h l mu) (hv : l[n]? = some (x, v))
  (H : wpAny (model PR w) A (getAttr v attr true) Q E ⟨h, g, d, t, os⟩) (c : locOk env x l n = true := by kernel_rfl) (hk : env.scope.kind = .function := by rfl) (he : env.locals = L := by rfl)
  (hb : attributeBase (.Name x q) attr env (eval (.Name x q) env) = eval (.Name x q) env := by rfl) : wpAny (model PR w) A (eval (.Attribute (.Name x q) attr pos) env) Q E ⟨h, g, d, t, os⟩ := attr_ (ldn n K c hk he hv H) hb
theorem rn_ {rest : List PySem.Expr} {Q : List Value → Shared → Prop} (n : Nat) (K : W p0 h0 X L p h l mu) (hv : l[n]? = some (x, v))
  (H : wpAny (model PR w) A (spliced (backTo pos (starEach rest env))) (fun vs s₂ => Q (v :: vs) s₂) E ⟨h, g, d, t, os⟩) (c : locOk env x l n = true := by kernel_rfl) (hk : env.scope.kind = .function := by rfl) (he : env.locals = L := by rfl)
  : wpAny (model PR w) A (spliced (backTo pos (starEach (.Name x q :: rest) env))) Q E ⟨h, g, d, t, os⟩ := wpAny_items_cons (ldn n K c hk he hv H)
theorem rnz_ {Q : List Value → Shared → Prop} (n : Nat) (K : W p0 h0 X L p h l mu) (hv : l[n]? = some (x, v))
  (H : Q [v] ⟨h, g, d, t, os⟩) (c : locOk env x l n = true := by kernel_rfl) (hk : env.scope.kind = .function := by rfl) (he : env.locals = L := by rfl)
  : wpAny (model PR w) A (spliced (backTo pos (starEach [.Name x q] env))) Q E ⟨h, g, d, t, os⟩ := rz_ (ldn n K c hk he hv H)
theorem arn_ {f : Value} {rest : List PySem.Expr} {Q : Args → Shared → Prop} (n : Nat) (K : W p0 h0 X L p h l mu) (hv : l[n]? = some (x, v))
  (H : wpAny (model PR w) A (spliced (backTo pos (starEach rest env))) (fun vs s₂ => Q ⟨v :: vs, []⟩ s₂) E ⟨h, g, d, t, os⟩) (c : locOk env x l n = true := by kernel_rfl) (hk : env.scope.kind = .function := by rfl) (he : env.locals = L := by rfl)
  : wpAny (model PR w) A (evalArgs f true (backTo pos (starEach (.Name x q :: rest) env)) []) Q E ⟨h, g, d, t, os⟩ := ar_ (ldn n K c hk he hv H)
theorem arnz_ {f : Value} {Q : Args → Shared → Prop} (n : Nat) (K : W p0 h0 X L p h l mu) (hv : l[n]? = some (x, v))
  (H : Q ⟨[v], []⟩ ⟨h, g, d, t, os⟩) (c : locOk env x l n = true := by kernel_rfl) (hk : env.scope.kind = .function := by rfl) (he : env.locals = L := by rfl)
  : wpAny (model PR w) A (evalArgs f true (backTo pos (starEach [.Name x q] env)) []) Q E ⟨h, g, d, t, os⟩ := arz_ (ldn n K c hk he hv H)
theorem un_ {slice : PySem.Expr} {Q : Value → Shared → Prop} (n : Nat) (K : W p0 h0 X L p h l mu) (hv : l[n]? = some (x, v))
  (H : wpAny (model PR w) A (eval slice env) (fun i s₂ => wpAny (model PR w) A (subscriptTail (.Name x q) slice v i) Q E s₂) E ⟨h, g, d, t, os⟩) (c : locOk env x l n = true := by kernel_rfl) (hk : env.scope.kind = .function := by rfl) (he : env.locals = L := by rfl)
  : wpAny (model PR w) A (eval (.Subscript (.Name x q) slice pos) env) Q E ⟨h, g, d, t, os⟩ := Subscript_ (ldn n K c hk he hv H)
theorem qn_ {op : PySem.CmpOp} {r whole} {Q : Bool → Shared → Prop} (n : Nat) (K : W p0 h0 X L p h l mu) (hv : l[n]? = some (x, v))
  (H : wpAny (model PR w) A (eval r env) (fun b s₂ => wpAny (model PR w) A (compareOp op v b) (fun c s₃ => wpAny (model PR w) A (truthy c) Q E s₃) E s₂) E ⟨h, g, d, t, os⟩) (c : locOk env x l n = true := by kernel_rfl) (hk : env.scope.kind = .function := by rfl) (he : env.locals = L := by rfl)
  (hm : behindInMarks op r = false := by with_unfolding_all rfl) : wpAny (model PR w) A (isTrue (.Compare (.Name x q) [op] [r] pos) env whole) Q E ⟨h, g, d, t, os⟩ := wpAny_isTrue_Compare1 (ldn n K c hk he hv H) hm
theorem on_ {op} {r} {Q : Value → Shared → Prop} (n : Nat) (K : W p0 h0 X L p h l mu) (hv : l[n]? = some (x, v))
  (H : wpAny (model PR w) A (eval r env) (fun b s₂ => wpAny (model PR w) A (binaryOp op v b) Q E s₂) E ⟨h, g, d, t, os⟩) (c : locOk env x l n = true := by kernel_rfl) (hk : env.scope.kind = .function := by rfl) (he : env.locals = L := by rfl)
  : wpAny (model PR w) A (eval (.BinOp (.Name x q) op r pos) env) Q E ⟨h, g, d, t, os⟩ := wpAny_BinOp (ldn n K c hk he hv H)
theorem dn_ {name : Str} {apos : Pos} {args : List PySem.Expr} {pl : Sem Bool} {Q : Value → Shared → Prop} (n : Nat) (K : W p0 h0 X L p h l mu) (hv : l[n]? = some (x, v))
  (H : wpAny (model PR w) A (getMethod v name pl) (fun fx s₂ => wpAny (model PR w) A (callWith pos fx.1 fx.2 (backTo pos (starEach args env)) []) Q E s₂) E ⟨h, g, d, t, os⟩) (c : locOk env x l n = true := by kernel_rfl) (hk : env.scope.kind = .function := by rfl) (he : env.locals = L := by rfl)
  (hm : eval (.Call (.Attribute (.Name x q) name apos) args [] pos) env = (do
   let ov ← eval (.Name x q) env
   standAt apos.atName
   let (f, first) ← holding [ov] (getMethod ov name pl)
   callWith pos f first (backTo pos (starEach args env)) []) := by rfl) : wpAny (model PR w) A (eval (.Call (.Attribute (.Name x q) name apos) args [] pos) env) Q E ⟨h, g, d, t, os⟩ := MethodCall_ (ldn n K c hk he hv H) hm
end
end
noncomputable abbrev r_ := @wpAny_items_cons
noncomputable abbrev z_ := @wpAny_items_nil
noncomputable abbrev e_ := @wpAny_execs_nil
noncomputable abbrev m_ := @c_int
noncomputable abbrev g_ := @c_str
noncomputable abbrev k_ := @wpAny_Call_NameR
noncomputable abbrev u_ := @Subscript_
noncomputable abbrev v_ := @wpAny_Assign_Name
noncomputable abbrev o_ := @wpAny_BinOp
noncomputable abbrev h_ := @wpAny_truthy_bool
noncomputable abbrev d_ := @MethodCall_
noncomputable abbrev q_ := @wpAny_isTrue_Compare1
noncomputable abbrev p_ := @plainObj_wpAny_Assign_Attribute
noncomputable abbrev w_ := @execs_ret
noncomputable abbrev j_ := @wpAny_Return_some

section
variable {p0 p : PH} {h0 h h' : Heap} {X : List Addr} {L : Addr} {l : AL} {mu mu' : Led}
theorem W.led (K : W p0 h0 X L p h l mu) (s : ∀ q ∈ mu', q ∈ mu) (n : (mu'.map (·.1)).Nodup) : W p0 h0 X L p h l mu' :=
 ⟨K.fr, K.sub, K.hold, K.keep, K.alive, K.fresh, K.pL, K.hL, fun q hq => K.own q (s q hq), n⟩
theorem W.mid {m1 m2 : Led} {x : Addr × Obj} (K : W p0 h0 X L p h l (x :: (m1 ++ m2))) : W p0 h0 X L p h l (m1 ++ x :: m2) := by
 refine K.led (fun q hq => ?_) ?_
 ·simp only [List.mem_append, List.mem_cons] at hq ⊢; rcases hq with a | a | a <;> simp [a]
 ·have := K.nodup
  rw [List.map_append, List.map_cons]
  rw [List.map_cons, List.map_append] at this
  exact (List.perm_middle.nodup_iff).mpr this
theorem W.mid' {m1 m2 : Led} {x : Addr × Obj} (K : W p0 h0 X L p h l (m1 ++ x :: m2)) : W p0 h0 X L p h l (x :: (m1 ++ m2)) := by
 refine K.led (fun q hq => ?_) ?_
 ·simp only [List.mem_append, List.mem_cons] at hq ⊢; rcases hq with a | a | a <;> simp [a]
 ·have := K.nodup
  rw [List.map_append, List.map_cons] at this
  rw [List.map_cons, List.map_append]
  exact (List.perm_middle.nodup_iff).mp this
theorem W.turned {a : Addr} {o o' : Obj} (K : W p0 h0 X L p h l ((a, o) :: mu)) (hs : ∀ b x, b ≠ a → h.get? b = some x → h'.get? b = some x) (ho : h'.get? a = some o') : W p0 h0 X L p h' l ((a, o') :: mu) := by
 obtain ⟨a1, a2, a3, a4⟩ := K.own (a, o) (List.mem_cons_self ..)
 have nd := K.nodup
 rw [List.map_cons, List.nodup_cons] at nd
 refine ⟨Ns_keep K.fr fun o => hs L o (Ne.symm a2), K.sub, fun b x e => hs b x (fun q => by rw [q, a3] at e; cases e) (K.hold b x e), fun b x nb e => hs b x (fun q => ?_) (K.keep b x nb e), fun b x e => ?_, K.fresh, K.pL, K.hL, fun q hq => ?_, ?_⟩
 ·rw [q] at e nb
  rcases a4 with z | z
  ·exact nb z
  ·rw [z] at e; cases e
 ·by_cases q : b = a
  ·exact ⟨o', by rw [q]; exact ho⟩
  ·obtain ⟨x', e'⟩ := K.alive b x e; exact ⟨x', hs b x' q e'⟩
 ·rcases List.mem_cons.mp hq with rfl | hq
  ·exact ⟨ho, a2, a3, a4⟩
  ·obtain ⟨b1, b2⟩ := K.own q (List.mem_cons_of_mem _ hq)
   exact ⟨hs _ _ (fun z => nd.1 (List.mem_map.mpr ⟨q, hq, z⟩)) b1, b2⟩
 ·exact K.nodup
theorem W.drop {a : Addr} {o : Obj} (K : W p0 h0 X L p h l ((a, o) :: mu)) (hn : h0.get? a = none) (hs : ∀ b x, b ≠ a → h.get? b = some x → h'.get? b = some x) : W p0 h0 X L p h' l mu := by
 obtain ⟨a1, a2, a3, a4⟩ := K.own (a, o) (List.mem_cons_self ..)
 have nd := K.nodup
 rw [List.map_cons, List.nodup_cons] at nd
 refine ⟨Ns_keep K.fr fun o => hs L o (Ne.symm a2), K.sub, fun b x e => hs b x (fun q => by rw [q, a3] at e; cases e) (K.hold b x e), fun b x nb e => hs b x (fun q => by rw [q, hn] at e; cases e) (K.keep b x nb e), fun b x e => ?_, K.fresh, K.pL, K.hL, fun q hq => ?_, nd.2⟩
 ·have q : b ≠ a := fun q => by rw [q, hn] at e; cases e
  obtain ⟨x', e'⟩ := K.alive b x e; exact ⟨x', hs b x' q e'⟩
 ·obtain ⟨b1, b2⟩ := K.own q (List.mem_cons_of_mem _ hq)
  exact ⟨hs _ _ (fun z => nd.1 (List.mem_map.mpr ⟨q, hq, z⟩)) b1, b2⟩
theorem W.new_none (K : W p0 h0 X L p h l mu) : h0.get? h.objs.size = none := by
 cases q : h0.get? h.objs.size with
 | none => rfl
 | some o' => obtain ⟨o'', z⟩ := K.alive _ _ q; exact absurd (Heap.lt_size z) (Nat.lt_irrefl _)
end
structure Its (w : World) (A : Around) (g : Array GenState) (d : Drawn) (os : OsState) (target : PySem.Expr) (it : Addr) (OK : Obj → Nat → Prop) (Src : Heap → Prop) (val : Nat → Value → Prop) (N : Nat) : Prop where
 item : ∀ (h : Heap) (t : Nat) (o : Obj) (i : Nat) (Q : Option Value → Shared → Prop) (E : Value → Shared → Prop), h.get? it = some o → OK o i → Src h → i < N →
  (∀ v h' o' t', val i v → h'.get? it = some o' → OK o' (i + 1) → (∀ b x, b ≠ it → h.get? b = some x → h'.get? b = some x) → Q (some v) ⟨h', g, d, t', os⟩) → wpAny (model PR w) A (pyNext (.ref it)) Q E ⟨h, g, d, t, os⟩
 fin : ∀ (h : Heap) (t : Nat) (o : Obj) (Q : Option Value → Shared → Prop) (E : Value → Shared → Prop), h.get? it = some o → OK o N → Src h →
  (∀ h' t', (∀ b x, b ≠ it → h.get? b = some x → h'.get? b = some x) → Q none ⟨h', g, d, t', os⟩) → wpAny (model PR w) A (pyNext (.ref it)) Q E ⟨h, g, d, t, os⟩
 lets : ∀ (h : Heap) (t : Nat) (o : Obj) (i : Nat) (v : Value) (Q : Unit → Shared → Prop) (E : Value → Shared → Prop), h.get? it = some o → OK o (i + 1) → val i v → Q () ⟨h, g, d, t, os⟩ → wpAny (model PR w) A (letOwnedTupleGo target (.ref it) v) Q E ⟨h, g, d, t, os⟩
section
variable {w : World} {A : Around} {g : Array GenState} {d : Drawn} {t : Nat} {os : OsState} {env : Env}
variable {p0 p : PH} {h0 h : Heap} {X : List Addr} {L : Addr} {l : AL} {mu its : Led}
theorem loop {target : PySem.Expr} {body : List Stmt} {R : Result → Shared → Prop} {it : Addr} {o : Obj} {OK : Obj → Nat → Prop} {Src : Heap → Prop} {val : Nat → Value → Prop} {N : Nat}
  (T : Its w A g d os target it OK Src val N) (Inv : Nat → PH → AL → Led → Prop) (K : W p0 h0 X L p h l (mu ++ (it, o) :: its)) (ho : OK o 0) (hn : h0.get? it = none) (I : Inv 0 p l mu)
  (src : ∀ i p h l mu x, W p0 h0 X L p h l (mu ++ x :: its) → Inv i p l mu → Src h)
  (turn : ∀ i v p h l mu its t, val i v → i < N → W p0 h0 X L p h l (mu ++ its) → Inv i p l mu →
   ∀ Qt, Imp (fun fl s' => match fl with
    | .next | .cont => X5 fun p' h' l' mu' t' => A3 (s' = ⟨h', g, d, t', os⟩) (W p0 h0 X L p' h' l' (mu' ++ its)) (Inv (i + 1) p' l' mu')
    | .brk => R (.ok .next) s'
    | .ret v => R (.ok (.ret v)) s') Qt →
   wpAny (model PR w) A (assign target env v) (fun _ s => wpAny (model PR w) A (execs body env) Qt (fun _ _ => False) s) (fun _ _ => False) ⟨h, g, d, t, os⟩)
  (done : ∀ p h l mu t, W p0 h0 X L p h l (mu ++ its) → Inv N p l mu → R (.ok .next) ⟨h, g, d, t, os⟩) :
  codeAny (model PR w) A (.forLoop target (.ref it) body [] env) R ⟨h, g, d, t, os⟩ := by
 refine codeAny_forLoop_any (fun n s => ∃ i p h l mu t o, n = N - i ∧ i ≤ N ∧ s = ⟨h, g, d, t, os⟩ ∧ W p0 h0 X L p h l (mu ++ (it, o) :: its) ∧ OK o i ∧ Inv i p l mu) ?_ N ⟨0, p, h, l, mu, t, o, by exact lne (fun q => lnq [_,_] [aL (tQ Z0) Z1,aL Z1 (tA Z0 (tN 0))] rfl q (sbL _ _)) fun q => lnq [_,_] [aL (tQ Z0) Z1,aL Z1 Z0] rfl q (Nat.sub_le _ _), by exact lnl fun q => lnq [_] [aL (tQ Z0) (tN 0)] rfl q, rfl, K, ho, I⟩
 rintro n s ⟨i, p, h, l, mu, t, o, rfl, hi, rfl, K, ho, I⟩
 have hit : h.get? it = some o := (K.own (it, o) (by simp)).1
 have hsrc := src _ _ _ _ _ _ K I
 by_cases hN : i < N
 ·refine T.item h t o i _ _ hit ho hsrc hN fun v h' o' t' hv hit' ho' hs => ?_
  try dsimp only
  have K' := (K.mid'.turned hs hit').mid
  refine T.lets h' t' o' i v _ _ hit' ho' hv ?_
  refine wpAny_mono (turn i v p h' l mu ((it, o') :: its) t' hv hN K' I _ fun _ _ x => x) (fun _ s hs' => wpAny_mono hs' (fun fl s' q => ?_) fun _ _ q => q.elim) fun _ _ q => q.elim
  cases fl with
  | next => obtain ⟨p', h'', l', mu', t'', rfl, K'', I'⟩ := q; exact ⟨N - (i + 1), by exact lnt fun q => lnq [_,_,_,_] [aE (tA Z0 (tQ Z1)) Z2,aG (tA Z3 Z1) Z2,aL Z3 Z0] rfl (sbC fun q => lnq [_,_] [aL (tQ Z0) (tQ Z1),aL (tQ Z1) Z0] rfl q hN) (sbC fun q => lnq [_,_] [aL (tQ Z0) Z1,aL (tQ Z1) Z0] rfl q hN) q, i + 1, p', h'', l', mu', t'', o', rfl, hN, rfl, K'', ho', I'⟩
  | cont => obtain ⟨p', h'', l', mu', t'', rfl, K'', I'⟩ := q; exact ⟨N - (i + 1), by exact lnt fun q => lnq [_,_,_,_] [aE (tA Z0 (tQ Z1)) Z2,aG (tA Z3 Z1) Z2,aL Z3 Z0] rfl (sbC fun q => lnq [_,_] [aL (tQ Z0) (tQ Z1),aL (tQ Z1) Z0] rfl q hN) (sbC fun q => lnq [_,_] [aL (tQ Z0) Z1,aL (tQ Z1) Z0] rfl q hN) q, i + 1, p', h'', l', mu', t'', o', rfl, hN, rfl, K'', ho', I'⟩
  | brk => exact q
  | ret v => exact q
 ·have e : i = N := by exact lne (fun q => lnq [_,_] [aL (tQ Z0) Z1,aL Z1 Z0] rfl q hi) fun q => lnq [_,_] [aL (tQ Z0) Z1,aX (tQ Z0) Z1] rfl q hN
  subst e
  refine T.fin h t o _ _ hit ho hsrc fun h' t' hs => ?_
  try dsimp only
  refine wpAny_execs_nil ?_
  exact done p h' l mu t' (K.mid'.drop hn hs) I
noncomputable def isName : PySem.Expr → Bool
 | .Name _ _ => true
 | _ => false
noncomputable def listItO (a : Addr) (o : Obj) (i : Nat) : Prop := o.cls = .type "list_iterator" ∧ o.data = .fields #[.ref a, .int i 0]
noncomputable def tupItO (a : Addr) (o : Obj) (i : Nat) : Prop := o.cls = .type "tuple_iterator" ∧ o.data = .fields #[.ref a, .int i 0]
theorem its_list {target : PySem.Expr} (hh : A.handled = none) (ht : isName target = true ∨ ∃ es x1 pos, target = .Tuple es x1 pos) (it a : Addr) (vs : List Value) (href : isName target = true ∨ ∀ v ∈ vs, ∃ b, v = .ref b) :
  Its w A g d os target it (listItO a) (fun h => ∃ m, h.get? a = some (listOf vs.toArray m)) (fun i v => vs[i]? = some v) vs.length where
 item := fun h t o i Q E e ok src hN k => by
  obtain ⟨m, src⟩ := src
  refine wpAny_pyNext_list_item (s := ⟨h, g, d, t, os⟩) (it := it) (l := a) (i := i) (items := vs.toArray) (x := vs[i]) ⟨o, e, ok.1, ok.2⟩ ⟨_, src, rfl, _, rfl⟩ (by simp [hN]) fun h' hi hs => ?_
  obtain ⟨o', e', c', d'⟩ := hi
  exact k _ h' o' t (by simp [hN]) e' ⟨c', d'⟩ fun b x nb q => (hs.2 b nb).trans q
 fin := fun h t o Q E e ok src k => by
  obtain ⟨m, src⟩ := src
  refine wpAny_pyNext_list_end (s := ⟨h, g, d, t, os⟩) (it := it) (l := a) (i := vs.length) (items := vs.toArray) hh ⟨o, e, ok.1, ok.2⟩ ⟨_, src, rfl, _, rfl⟩ (by simp) fun h' hs => ?_
  exact k h' t fun b x nb q => hs b x nb q
 lets := fun h t o i v Q E e ok hv q => by
  rcases ht with ht | ⟨es, x1, pos, rfl⟩
  ·cases target <;> first | exact wpAny_pure q | cases ht
  ·have hb : ∃ b, v = .ref b := by
    rcases href with z | z
    ·cases z
    ·exact z v (List.mem_of_getElem? hv)
   obtain ⟨b, rfl⟩ := hb
   exact wpAny_letOwnedTupleGo_listiter (s := ⟨h, g, d, t, os⟩) (l := a) (i := i + 1) ⟨o, e, ok.1, ok.2⟩ q
theorem its_tup {target : PySem.Expr} (hh : A.handled = none) (ht : isName target = true) (it a : Addr) (vs : List Value) :
  Its w A g d os target it (tupItO a) (fun h => ∃ m, h.get? a = some (tupOf vs.toArray m)) (fun i v => vs[i]? = some v) vs.length where
 item := fun h t o i Q E e ok src hN k => by
  obtain ⟨m, src⟩ := src
  refine wpAny_pyNext_tuple_item (s := ⟨h, g, d, t, os⟩) (it := it) (t := a) (i := i) (items := vs.toArray) (x := vs[i]) ⟨o, e, ok.1, ok.2⟩ ⟨_, src, rfl, _, rfl⟩ (by simp [hN]) fun h' hi hs => ?_
  obtain ⟨o', e', c', d'⟩ := hi
  exact k _ h' o' t (by simp [hN]) e' ⟨c', d'⟩ fun b x nb q => (hs.2 b nb).trans q
 fin := fun h t o Q E e ok src k => by
  obtain ⟨m, src⟩ := src
  refine wpAny_pyNext_tuple_end (s := ⟨h, g, d, t, os⟩) (it := it) (t := a) (i := vs.length) (items := vs.toArray) hh ⟨o, e, ok.1, ok.2⟩ ⟨_, src, rfl, _, rfl⟩ (by simp) fun h' hs => ?_
  exact k h' t fun b x nb q => hs b x nb q
 lets := fun h t o i v Q E e ok hv q => by
  cases target <;> first | exact wpAny_pure q | cases ht
end

section
variable {w : World} {A : Around} {E : Value → Shared → Prop} {g : Array GenState} {d : Drawn} {t : Nat} {os : OsState}
variable {p : PH} {h : Heap} {env : Env}
theorem bitOr_nat (a b : Nat) : Builtin.bitOr (a : Int) (b : Int) = ((a ||| b : Nat) : Int) := by
 have h1 : Builtin.bitNot (a : Int) = -(a : Int) - 1 := rfl
 have h2 : Builtin.bitNot (b : Int) = -(b : Int) - 1 := rfl
 have n1 : decide (0 ≤ -(a : Int) - 1) = false := decide_eq_false (by omega)
 have n2 : decide (0 ≤ -(b : Int) - 1) = false := decide_eq_false (by omega)
 unfold Builtin.bitOr Builtin.bitAnd
 rw [h1, h2, n1, n2]
 have e1 : Builtin.bitNot (-(a : Int) - 1) = (a : Int) := by show -(-(a : Int) - 1) - 1 = _; omega
 have e2 : Builtin.bitNot (-(b : Int) - 1) = (b : Int) := by show -(-(b : Int) - 1) - 1 = _; omega
 try dsimp only
 rw [e1, e2, Int.toNat_natCast, Int.toNat_natCast]
 show -(-((a ||| b : Nat) : Int) - 1) - 1 = _; omega
theorem i_or {a b : Nat} {u v : Tok} {Q : Value → Shared → Prop} (q : ∀ u t', Q (.int ((a ||| b : Nat) : Int) u) ⟨h, g, d, t', os⟩) : wpAny (model PR w) A (binaryOp .BitOr (.int (a : Int) u) (.int (b : Int) v)) Q E ⟨h, g, d, t, os⟩ := PyProof.Rows.or_int (by rw [bitOr_nat]; exact q _ _)
theorem i_and {a b : Nat} {u v : Tok} {Q : Value → Shared → Prop} (q : ∀ u t', Q (.int ((a &&& b : Nat) : Int) u) ⟨h, g, d, t', os⟩) : wpAny (model PR w) A (binaryOp .BitAnd (.int (a : Int) u) (.int (b : Int) v)) Q E ⟨h, g, d, t, os⟩ := PyProof.Rows.and_int (q _ _)
theorem i_shl {a n : Nat} {u v : Tok} {Q : Value → Shared → Prop} (hn : n ≤ 1000000) (ha : a < 2 ^ 64) (q : ∀ u t', Q (.int ((a <<< n : Nat) : Int) u) ⟨h, g, d, t', os⟩) : wpAny (model PR w) A (binaryOp .LShift (.int (a : Int) u) (.int (n : Int) v)) Q E ⟨h, g, d, t, os⟩ := by
 refine PyProof.Rows.lshift_int_small (by exact Int.natCast_nonneg _) (by exact Int.ofNat_le.mpr (lnl fun q => lnq [_] [aL (tQ (tN 1000000)) Z0,aL Z0 (tN 1000000)] rfl q hn)) (by simpa using ha) ?_
 have e : ((a : Int) * 2 ^ (n : Int).toNat) = ((a <<< n : Nat) : Int) := by rw [Nat.shiftLeft_eq]; simp
 rw [e]; exact q _ _
theorem i_shr {a n : Nat} {u v : Tok} {Q : Value → Shared → Prop} (q : ∀ u t', Q (.int ((a >>> n : Nat) : Int) u) ⟨h, g, d, t', os⟩) : wpAny (model PR w) A (binaryOp .RShift (.int (a : Int) u) (.int (n : Int) v)) Q E ⟨h, g, d, t, os⟩ := by
 refine PyProof.Rows.rshift_int (by exact Int.natCast_nonneg _) ?_
 have e : ((a : Int).fdiv (2 ^ (n : Int).toNat)) = ((a >>> n : Nat) : Int) := by
  rw [Nat.shiftRight_eq_div_pow]
  simp
  rw [Int.fdiv_eq_ediv_of_nonneg]
  exact Int.le_of_lt (Int.pow_pos (by decide))
 rw [e]; exact q _ _
end
section
variable {w : World} {A : Around} {g : Array GenState} {d : Drawn} {t : Nat} {os : OsState} {env : Env}
variable {p0 p : PH} {h0 h : Heap} {X : List Addr} {L : Addr} {l : AL} {mu its : Led}
theorem for_list {target : PySem.Expr} {body : List Stmt} {R : Result → Shared → Prop} {E : Value → Shared → Prop} {a : Addr} {vs : List Value} (hh : A.handled = none) (ht : isName target = true ∨ ∃ es x1 pos, target = .Tuple es x1 pos) (href : isName target = true ∨ ∀ v ∈ vs, ∃ b, v = .ref b)
  (Inv : Nat → PH → AL → Led → Prop) (K : W p0 h0 X L p h l (mu ++ its)) (I : Inv 0 p l mu)
  (src : ∀ i p h l mu its, W p0 h0 X L p h l (mu ++ its) → Inv i p l mu → ∃ m, h.get? a = some (listOf vs.toArray m))
  (turn : ∀ i v p h l mu its t, vs[i]? = some v → i < vs.length → W p0 h0 X L p h l (mu ++ its) → Inv i p l mu →
   ∀ Qt, Imp (fun fl s' => match fl with
    | .next | .cont => X5 fun p' h' l' mu' t' => A3 (s' = ⟨h', g, d, t', os⟩) (W p0 h0 X L p' h' l' (mu' ++ its)) (Inv (i + 1) p' l' mu')
    | .brk => R (.ok .next) s'
    | .ret v => R (.ok (.ret v)) s') Qt →
   wpAny (model PR w) A (assign target env v) (fun _ s => wpAny (model PR w) A (execs body env) Qt (fun _ _ => False) s) (fun _ _ => False) ⟨h, g, d, t, os⟩)
  (done : ∀ p h l mu t, W p0 h0 X L p h l (mu ++ its) → Inv vs.length p l mu → R (.ok .next) ⟨h, g, d, t, os⟩) :
  wpAny (model PR w) A (pyIter (.ref a)) (fun it s => codeAny (model PR w) A (.forLoop target it body [] env) R s) E ⟨h, g, d, t, os⟩ := by
 obtain ⟨m, sr⟩ := src _ _ _ _ _ _ K I
 refine wpAny_pyIter_list (s := ⟨h, g, d, t, os⟩) (items := vs.toArray) ⟨_, sr, rfl, _, rfl⟩ ?_
 exact loop (its_list hh ht h.objs.size a vs href) Inv (K.push { cls := .type "list_iterator", data := .fields #[.ref a, .int 0 0] } rfl).mid ⟨rfl, rfl⟩ K.new_none I (fun i p h l mu x K I => src i p h l mu (x :: its) K I) turn done
theorem for_tup {target : PySem.Expr} {body : List Stmt} {R : Result → Shared → Prop} {E : Value → Shared → Prop} {a : Addr} {vs : List Value} (hh : A.handled = none) (ht : isName target = true)
  (Inv : Nat → PH → AL → Led → Prop) (K : W p0 h0 X L p h l (mu ++ its)) (I : Inv 0 p l mu)
  (src : ∀ i p h l mu its, W p0 h0 X L p h l (mu ++ its) → Inv i p l mu → ∃ m, h.get? a = some (tupOf vs.toArray m))
  (turn : ∀ i v p h l mu its t, vs[i]? = some v → i < vs.length → W p0 h0 X L p h l (mu ++ its) → Inv i p l mu →
   ∀ Qt, Imp (fun fl s' => match fl with
    | .next | .cont => X5 fun p' h' l' mu' t' => A3 (s' = ⟨h', g, d, t', os⟩) (W p0 h0 X L p' h' l' (mu' ++ its)) (Inv (i + 1) p' l' mu')
    | .brk => R (.ok .next) s'
    | .ret v => R (.ok (.ret v)) s') Qt →
   wpAny (model PR w) A (assign target env v) (fun _ s => wpAny (model PR w) A (execs body env) Qt (fun _ _ => False) s) (fun _ _ => False) ⟨h, g, d, t, os⟩)
  (done : ∀ p h l mu t, W p0 h0 X L p h l (mu ++ its) → Inv vs.length p l mu → R (.ok .next) ⟨h, g, d, t, os⟩) :
  wpAny (model PR w) A (pyIter (.ref a)) (fun it s => codeAny (model PR w) A (.forLoop target it body [] env) R s) E ⟨h, g, d, t, os⟩ := by
 obtain ⟨m, sr⟩ := src _ _ _ _ _ _ K I
 refine wpAny_pyIter_tuple (s := ⟨h, g, d, t, os⟩) (items := vs.toArray) ⟨_, sr, rfl, _, rfl⟩ ?_
 exact loop (its_tup hh ht h.objs.size a vs) Inv (K.push { cls := .type "tuple_iterator", data := .fields #[.ref a, .int 0 0] } rfl).mid ⟨rfl, rfl⟩ K.new_none I (fun i p h l mu x K I => src i p h l mu (x :: its) K I) turn done
end

section
variable {w : World} {A : Around} {E : Value → Shared → Prop} {g : Array GenState} {d : Drawn} {t : Nat} {os : OsState} {env : Env}
variable {p0 p : PH} {h0 h h' : Heap} {X : List Addr} {L : Addr} {l : AL} {mu its m1 m2 : Led}
theorem size_none (h : Heap) : h.get? h.objs.size = none := by
 cases e : h.get? h.objs.size with
 | none => rfl
 | some o => exact absurd (Heap.lt_size e) (Nat.lt_irrefl _)
theorem W.grow (K : W p0 h0 X L p h l mu) (k : ∀ b o, h.get? b = some o → h'.get? b = some o) : W p0 h0 X L p h' l mu :=
 ⟨Ns_keep K.fr fun o => k L o, K.sub, fun a o e => k a o (K.hold a o e), fun b o nb e => k b o (K.keep b o nb e), fun b o e => let ⟨o', e'⟩ := K.alive b o e; ⟨o', k b o' e'⟩, K.fresh, K.pL, K.hL, fun q hq => ⟨k _ _ (K.own q hq).1, (K.own q hq).2⟩, K.nodup⟩
theorem W.none_of (K : W p0 h0 X L p h l mu) {a : Addr} (e : h.get? a = none) : h0.get? a = none := by
 cases q : h0.get? a with
 | none => rfl
 | some o' => obtain ⟨o'', z⟩ := K.alive _ _ q; rw [z] at e; cases e
theorem W.grown (K : W p0 h0 X L p h l mu) (k : ∀ b o, h.get? b = some o → h'.get? b = some o) {a : Addr} {o : Obj} (e : h.get? a = none) (e' : h'.get? a = some o) : W p0 h0 X L p h' l ((a, o) :: mu) := by
 have K' := K.grow k
 have ne : ∀ b o', h.get? b = some o' → b ≠ a := fun b o' q z => by rw [z, e] at q; cases q
 obtain ⟨oL, hoL⟩ := K.atL
 refine ⟨K'.fr, K'.sub, K'.hold, K'.keep, K'.alive, K'.fresh, K'.pL, K'.hL, fun q hq => ?_, ?_⟩
 ·rcases List.mem_cons.mp hq with rfl | hq
  ·refine ⟨e', Ne.symm (ne _ _ hoL), ?_, .inr (K.none_of e)⟩
   cases q : p a with
   | none => rfl
   | some o' => exact absurd rfl (ne _ _ (K.hold _ _ q))
  ·exact K'.own q hq
 ·rw [List.map_cons, List.nodup_cons]
  refine ⟨fun q => ?_, K.nodup⟩
  obtain ⟨x, hx, z⟩ := List.mem_map.mp q
  exact ne _ _ (K.own x hx).1 z
theorem W.get (K : W p0 h0 X L p h l mu) {a : Addr} {o : Obj} (hm : (a, o) ∈ mu) : h.get? a = some o := (K.own (a, o) hm).1
theorem nl {vs : List Value} {Q : Value → Shared → Prop} (K : W p0 h0 X L p h l mu) (hs : vs.length ≤ sizeLine)
  (q : ∀ a h', h0.get? a = none → W p0 h0 X L p h' l ((a, listOf vs.toArray 0) :: mu) → Q (.ref a) ⟨h', g, d, t, os⟩) : wpAny (model PR w) A (newList vs) Q E ⟨h, g, d, t, os⟩ :=
 wpAny_newList (s := ⟨h, g, d, t, os⟩) (q _ _ K.new_none (K.push _ rfl)) hs
theorem nt {vs : List Value} {Q : Value → Shared → Prop} (K : W p0 h0 X L p h l mu) (hs : vs.length ≤ sizeLine)
  (q : ∀ a h' p', PSub p p' → p' a = some (tupOf vs.toArray 0) → W p0 h0 X L p' h' l mu → Q (.ref a) ⟨h', g, d, t, os⟩) : wpAny (model PR w) A (newTuple vs) Q E ⟨h, g, d, t, os⟩ := by
 obtain ⟨K', a, b⟩ := K.pushFix (tupOf vs.toArray 0) rfl
 exact wpAny_newTuple (s := ⟨h, g, d, t, os⟩) (q _ _ _ a b K') hs
theorem app_m {a : Addr} {vs : Array Value} {n : Nat} {pl : Sem Bool} {Q : Value × List Value → Shared → Prop} (ha : h.get? a = some (listOf vs n))
  (q : Q (.builtin "list.append", [.ref a]) ⟨h, g, d, t, os⟩) : wpAny (model PR w) A (getMethod (.ref a) (Str.ofString "append") pl) Q E ⟨h, g, d, t, os⟩ :=
 getMethod_builtin (s := ⟨h, g, d, t, os⟩) ⟨_, ha, rfl⟩ F.plainAttrs_list F.slot_list_append F.type_list_append (fun b e => by cases e; exact ⟨_, ha, rfl⟩) q
theorem W.app {a : Addr} {vs : List Value} {n : Nat} (K : W p0 h0 X L p h l (m1 ++ (a, listOf vs.toArray n) :: m2)) (v : Value) :
  ∃ n', W p0 h0 X L p (h.update a (Obj.mapSeq fun xs => xs.push v)) l (m1 ++ (a, listOf (vs ++ [v]).toArray n') :: m2) := by
 have := K.upd (Obj.mapSeq fun xs => xs.push v) rfl
 exact ⟨_, by rw [show (vs ++ [v]).toArray = vs.toArray.push v by simp]; exact this⟩
theorem app_ {a : Addr} {vs : List Value} {v : Value} {n : Nat} {Q : Value → Shared → Prop} (K : W p0 h0 X L p h l (m1 ++ (a, listOf vs.toArray n) :: m2)) (hs : vs.length ≤ sizeLine)
  (q : ∀ h' n', W p0 h0 X L p h' l (m1 ++ (a, listOf (vs ++ [v]).toArray n') :: m2) → Q .none ⟨h', g, d, t, os⟩) : wpAny (model PR w) A (call (.builtin "list.append") [.ref a, v]) Q E ⟨h, g, d, t, os⟩ := by
 have ha : h.get? a = some (listOf vs.toArray n) := K.get (by simp)
 obtain ⟨n', K'⟩ := K.app v
 exact call_meets (s := ⟨h, g, d, t, os⟩) F.slot_list_append ⟨_, ha, rfl⟩ F.entry_list_append (F.args_list_append_2 _ _) (list_append a vs.toArray n v (by simpa using hs)) ⟨ha, q _ _ K'⟩
theorem cwt {T : String} {first : List Value} {pos : Pos} {s : Shared} {args : List (Bool × Sem Value)} {Q : Value → Shared → Prop} (hplain : args.any (·.1) = false)
  (h : wpAny (model PR w) A (evalArgs (.type T) true args []) (fun a s₁ => wpAny (model PR w) A (call (.type T) (first ++ a.pos) a.kw) Q E s₁) E s) : wpAny (model PR w) A (callWith pos (.type T) first args []) Q E s :=
 PySem.callWith_type hplain h
theorem wh {test : PySem.Expr} {body : List Stmt} {R : Result → Shared → Prop} (Inv : Nat → PH → AL → Led → Prop) (n : Nat) (K : W p0 h0 X L p h l mu) (I : Inv n p l mu)
  (turn : ∀ n p h l mu t, W p0 h0 X L p h l mu → Inv n p l mu →
   ∀ Qt, Imp (fun fl s' => match fl with
    | .next | .cont => X6 fun m p' h' l' mu' t' => A4 (s' = ⟨h', g, d, t', os⟩) (m < n) (W p0 h0 X L p' h' l' mu') (Inv m p' l' mu')
    | .brk => R (.ok .next) s'
    | .ret v => R (.ok (.ret v)) s') Qt →
   wpAny (model PR w) A (isTrue test env (eval test env)) (fun b s₂ => if b then wpAny (model PR w) A (execs body env) Qt (fun _ _ => False) s₂
    else R (.ok .next) s₂) (fun _ _ => False) ⟨h, g, d, t, os⟩) :
  codeAny (model PR w) A (.whileLoop test body [] env) R ⟨h, g, d, t, os⟩ := by
 refine codeAny_whileLoop (fun n s => ∃ p h l mu t, s = ⟨h, g, d, t, os⟩ ∧ W p0 h0 X L p h l mu ∧ Inv n p l mu) ?_ n ⟨p, h, l, mu, t, rfl, K, I⟩
 rintro n s ⟨p, h, l, mu, t, rfl, K, I⟩
 refine wpAny_mono (turn n p h l mu t K I _ fun _ _ x => x) (fun b s₂ q => ?_) fun _ _ q => q.elim
 cases b with
 | false =>
  simp only [Bool.false_eq_true, if_false] at q ⊢
  exact wpAny_execs_nil q
 | true =>
  simp only [if_true] at q ⊢
  refine wpAny_mono q (fun fl s' q => ?_) fun _ _ q => q.elim
  cases fl with
  | next => obtain ⟨m, p', h', l', mu', t', rfl, hm, K', I'⟩ := q; exact ⟨m, hm, p', h', l', mu', t', rfl, K', I'⟩
  | cont => obtain ⟨m, p', h', l', mu', t', rfl, hm, K', I'⟩ := q; exact ⟨m, hm, p', h', l', mu', t', rfl, K', I'⟩
  | brk => exact q
  | ret v => exact q
noncomputable def rgObj (n : Nat) (a b c : Nat) : Obj := { cls := .type "range", data := .fields #[.int 0 a, .int n b, .int 1 c] }
theorem rg {n : Nat} {u : Tok} {Q : Value → Shared → Prop} (K : W p0 h0 X L p h l mu) (q : ∀ r h' t' a b c, W p0 h0 X L p h' l mu → h'.get? r = some (rgObj n a b c) → (∀ b o, h.get? b = some o → h'.get? b = some o) → Q (.ref r) ⟨h', g, d, t', os⟩) :
  wpAny (model PR w) A (call (.type "range") [.int n u]) Q E ⟨h, g, d, t, os⟩ := by
 refine call_range_1 (s := ⟨h, g, d, t, os⟩) (q _ _ _ t u (t + 1) ?_ (Heap.get?_push_size _ rfl) fun b o e => Heap.get?_push_of_some _ e)
 exact (K.push { cls := .type "range", data := .fields #[.int 0 t, .int n u, .int 1 (t + 1)] } rfl).led (fun q hq => List.mem_cons_of_mem _ hq) K.nodup
noncomputable def rgItO (n : Nat) (o : Obj) (i : Nat) : Prop := o = { cls := .type "range_iterator", dict := none, data := .fields #[rawInt (i : Int), rawInt ((n : Int) - i), rawInt 1], slots := #[] }
theorem its_rg {target : PySem.Expr} (hh : A.handled = none) (ht : isName target = true) (it : Addr) (n : Nat) :
  Its w A g d os target it (rgItO n) (fun _ => True) (fun i v => ∃ u, v = .int (i : Nat) u) n where
 item := fun h t o i Q E e ok src hN k => by
  rw [ok] at e
  refine wpAny_pyNext_range_item (s := ⟨h, g, d, t, os⟩) (it := it) e (by omega) fun h' hi hs => ?_
  exact k _ h' _ _ ⟨_, rfl⟩ hi (by unfold rgItO; rw [show ((i + 1 : Nat) : Int) = (i : Int) + 1 by exact congrArg Int.ofNat (lne (fun q => lnq [_] [aL (tA (tQ Z0) (tN 1)) (tQ Z0)] rfl q) fun q => lnq [_] [aL (tA (tQ Z0) (tN 1)) (tQ Z0)] rfl q), show ((n : Int) - ((i : Int) + 1)) = (n : Int) - i - 1 by omega]) fun b x nb q => (hs.2 b nb).trans q
 fin := fun h t o Q E e ok src k => by
  rw [ok] at e
  refine wpAny_pyNext_range_end (s := ⟨h, g, d, t, os⟩) (it := it) hh e (by omega) fun h' hs => ?_
  exact k h' t fun b x nb q => hs b x nb q
 lets := fun h t o i v Q E e ok hv q => by
  cases target <;> first | exact wpAny_pure q | cases ht
theorem for_rg {target : PySem.Expr} {body : List Stmt} {R : Result → Shared → Prop} {E : Value → Shared → Prop} {r : Addr} {n a b c : Nat} (hh : A.handled = none) (ht : isName target = true) (hr : h.get? r = some (rgObj n a b c)) (hn : n < 2 ^ 62)
  (Inv : Nat → PH → AL → Led → Prop) (K : W p0 h0 X L p h l (mu ++ its)) (I : Inv 0 p l mu)
  (turn : ∀ i p h l mu its t u, i < n → W p0 h0 X L p h l (mu ++ its) → Inv i p l mu →
   ∀ Qt, Imp (fun fl s' => match fl with
    | .next | .cont => X5 fun p' h' l' mu' t' => A3 (s' = ⟨h', g, d, t', os⟩) (W p0 h0 X L p' h' l' (mu' ++ its)) (Inv (i + 1) p' l' mu')
    | .brk => R (.ok .next) s'
    | .ret v => R (.ok (.ret v)) s') Qt →
   wpAny (model PR w) A (assign target env (.int i u)) (fun _ s => wpAny (model PR w) A (execs body env) Qt (fun _ _ => False) s) (fun _ _ => False) ⟨h, g, d, t, os⟩)
  (done : ∀ p h l mu t, W p0 h0 X L p h l (mu ++ its) → Inv n p l mu → R (.ok .next) ⟨h, g, d, t, os⟩) :
  wpAny (model PR w) A (pyIter (.ref r)) (fun it s => codeAny (model PR w) A (.forLoop target it body [] env) R s) E ⟨h, g, d, t, os⟩ := by
 refine wpAny_pyIter_range (s := ⟨h, g, d, t, os⟩) hr (small_one (by decide) (by decide) (by exact ing (by decide)) (by exact Int.ofNat_lt.mpr (lnt fun q => lnq [_] [aL (tN 4611686018427387904) Z0,aL (tQ Z0) (tN 4611686018427387904)] rfl q hn))) ?_
 rw [rangeSize_one, show (if (0 : Int) < n then (n : Int) - 0 else 0) = n by split <;> omega]
 refine loop (its_rg hh ht h.objs.size n) Inv (K.push { cls := .type "range_iterator", data := .fields #[rawInt 0, rawInt n, rawInt 1] } rfl).mid (by unfold rgItO; congr 4) K.new_none I (fun _ _ _ _ _ _ _ _ => trivial) (fun i v p h l mu its t hv hi K I => ?_) done
 obtain ⟨u, rfl⟩ := hv
 exact turn i p h l mu its t u hi K I
theorem lst_list {a : Addr} {vs : List Value} {n : Nat} {Q : Value → Shared → Prop} (K : W p0 h0 X L p h l mu) (ha : h.get? a = some (listOf vs.toArray n)) (hs : vs.length ≤ sizeLine)
  (q : ∀ b h' c, h0.get? b = none → W p0 h0 X L p h' l ((b, listOf vs.toArray c) :: mu) → Q (.ref b) ⟨h', g, d, t, os⟩) : wpAny (model PR w) A (call (.type "list") [.ref a]) Q E ⟨h, g, d, t, os⟩ :=
 call_list_seq (s := ⟨h, g, d, t, os⟩) a (.inl rfl) ha rfl rfl (fun h' c k e => q _ h' c K.new_none (K.grown k (size_none h) e)) (by simpa using hs)
theorem lst_tup {a : Addr} {vs : List Value} {n : Nat} {Q : Value → Shared → Prop} (K : W p0 h0 X L p h l mu) (ha : h.get? a = some (tupOf vs.toArray n)) (hs : vs.length ≤ sizeLine)
  (q : ∀ b h' c, h0.get? b = none → W p0 h0 X L p h' l ((b, listOf vs.toArray c) :: mu) → Q (.ref b) ⟨h', g, d, t, os⟩) : wpAny (model PR w) A (call (.type "list") [.ref a]) Q E ⟨h, g, d, t, os⟩ :=
 call_list_seq (s := ⟨h, g, d, t, os⟩) a (.inr rfl) ha rfl rfl (fun h' c k e => q _ h' c K.new_none (K.grown k (size_none h) e)) (by simpa using hs)
theorem tup_list {a : Addr} {vs : List Value} {n : Nat} {Q : Value → Shared → Prop} (K : W p0 h0 X L p h l mu) (ha : h.get? a = some (listOf vs.toArray n)) (hs : vs.length ≤ sizeLine)
  (q : ∀ b h' p', PSub p p' → p' b = some (tupOf vs.toArray 0) → W p0 h0 X L p' h' l mu → Q (.ref b) ⟨h', g, d, t, os⟩) : wpAny (model PR w) A (call (.type "tuple") [.ref a]) Q E ⟨h, g, d, t, os⟩ := by
 refine call_tuple_list (s := ⟨h, g, d, t, os⟩) ⟨_, ha, rfl, _, rfl⟩ (fun h' k => ?_) (by simpa using hs)
 obtain ⟨K', x, y⟩ := (K.grow k).pushFix (tupOf vs.toArray 0) rfl
 exact q _ _ _ x y K'
set_option maxRecDepth 100000 in
theorem sorted_gen {A0 : Around} {x : Value} {vs : List Value} {ns : List Int} {s : Shared} {Q : Value → Shared → Prop} (hI : IntsAre vs ns) (h64 : vs.length < 64)
  (hc : ∀ (A : Around) (E : Value → Shared → Prop) (Q : List Value → Shared → Prop), A.handled = A0.handled → (∀ h' tk, (∀ b o, s.heap.get? b = some o → h'.get? b = some o) → Q vs { s with heap := h', toks := tk }) → wpAny (model PR w) A (collect x) Q E s)
  (q : ∀ (b : Addr) (h' : Heap) (tk : Nat) (c : Nat) (out : List Value) (ns' : List Int), s.heap.get? b = none → (∀ b o, s.heap.get? b = some o → h'.get? b = some o) → h'.get? b = some (listOf out.toArray c) → IntsAre out ns' → ns'.Perm ns → ns'.Pairwise (· ≤ ·) → Q (.ref b) { s with heap := h', toks := tk }) :
  wpAny (model PR w) A0 (call (.builtin "sorted") [x]) Q E s := by
 refine Calls.call_function_entry kind_sorted plain_sorted entry_sorted (args_sorted1 _) ?_
 unfold Builtin.«sorted»
 refine wpAny_bind (m := checkCount "sorted" 1 1 _) (wpAny_pure ?_)
 refine wpAny_bind (hc _ _ _ rfl fun h' tk k => ?_)
 refine wpAny_bind (wpAny_newList ?_ (by show vs.length ≤ 2 ^ 24; exact lnl fun q => lnq [_] [aL (tQ (tN 16777216)) Z0,aL (tQ Z0) (tN 64)] rfl q h64))
 have hoL : (h'.push (seqObj "list" vs.toArray 0)).get? h'.objs.size = some (seqObj "list" vs.toArray 0) := Heap.get?_push_size _ rfl
 refine wpAny_bind (wpAny_holding (wpAny_call_entry (s := { s with heap := h'.push (seqObj "list" vs.toArray 0), toks := tk }) slot_list_sort ⟨_, hoL, rfl⟩ entry_list_sort (list_sort_tree hoL hI h64 fun out ns' a1 a2 a3 => ⟨_, rfl, ?_⟩) (args_list_sort _)))
 obtain ⟨e, he⟩ := sortedHeap_at (out := out) hoL
 refine wpAny_pure ⟨_, rfl, q _ _ tk e out.toList ns' ?_ (fun b o z => ?_) (by simpa using he) a1 a2 a3⟩
 ·cases z : s.heap.get? h'.objs.size with
  | none => rfl
  | some o => exact absurd (Heap.lt_size (k _ _ z)) (Nat.lt_irrefl _)
 ·have z' := k _ _ z
  have lt := Heap.lt_size z'
  rw [sortedHeap_old (Nat.ne_of_lt lt) (by rw [size_push']; exact Nat.lt_succ_of_lt lt), Heap.get?_push_ne _ _ _ (Nat.ne_of_lt lt)]
  exact z'
theorem sort_list {a : Addr} {vs : List Value} {n : Nat} {ns : List Int} {Q : Value → Shared → Prop} (K : W p0 h0 X L p h l mu) (ha : h.get? a = some (listOf vs.toArray n)) (hI : IntsAre vs ns) (h64 : vs.length < 64)
  (q : ∀ b h' tk c out ns', h0.get? b = none → W p0 h0 X L p h' l ((b, listOf (out : List Value).toArray c) :: mu) → IntsAre out ns' → ns'.Perm ns → ns'.Pairwise (· ≤ ·) → Q (.ref b) ⟨h', g, d, tk, os⟩) : wpAny (model PR w) A (call (.builtin "sorted") [.ref a]) Q E ⟨h, g, d, t, os⟩ :=
 sorted_gen (s := ⟨h, g, d, t, os⟩) hI h64 (fun A E Q _ k => wpAny_collect_seq (s := ⟨h, g, d, t, os⟩) a (.inl rfl) ha rfl rfl (fun h' kk => by simpa using k h' t kk) (by show vs.toArray.size ≤ 2 ^ 24; rw [List.size_toArray]; exact lnl fun q => lnq [_] [aL (tQ (tN 16777216)) Z0,aL (tQ Z0) (tN 64)] rfl q h64))
  fun b h' tk c out ns' e k e' a1 a2 a3 => q b h' tk c out ns' (K.none_of e) (K.grown k e e') a1 a2 a3
theorem sort_tup {a : Addr} {vs : List Value} {n : Nat} {ns : List Int} {Q : Value → Shared → Prop} (K : W p0 h0 X L p h l mu) (ha : h.get? a = some (tupOf vs.toArray n)) (hI : IntsAre vs ns) (h64 : vs.length < 64)
  (q : ∀ b h' tk c out ns', h0.get? b = none → W p0 h0 X L p h' l ((b, listOf (out : List Value).toArray c) :: mu) → IntsAre out ns' → ns'.Perm ns → ns'.Pairwise (· ≤ ·) → Q (.ref b) ⟨h', g, d, tk, os⟩) : wpAny (model PR w) A (call (.builtin "sorted") [.ref a]) Q E ⟨h, g, d, t, os⟩ :=
 sorted_gen (s := ⟨h, g, d, t, os⟩) hI h64 (fun A E Q _ k => wpAny_collect_seq (s := ⟨h, g, d, t, os⟩) a (.inr rfl) ha rfl rfl (fun h' kk => by simpa using k h' t kk) (by show vs.toArray.size ≤ 2 ^ 24; rw [List.size_toArray]; exact lnl fun q => lnq [_] [aL (tQ (tN 16777216)) Z0,aL (tQ Z0) (tN 64)] rfl q h64))
  fun b h' tk c out ns' e k e' a1 a2 a3 => q b h' tk c out ns' (K.none_of e) (K.grown k e e') a1 a2 a3
theorem add_lists {a b : Addr} {vs us : List Value} {n m : Nat} {Q : Value → Shared → Prop} (K : W p0 h0 X L p h l mu) (ha : h.get? a = some (listOf vs.toArray n)) (hb : h.get? b = some (listOf us.toArray m)) (hs : vs.length + us.length ≤ sizeLine)
  (q : ∀ b h', h0.get? b = none → W p0 h0 X L p h' l ((b, listOf (vs ++ us).toArray 0) :: mu) → Q (.ref b) ⟨h', g, d, t, os⟩) : wpAny (model PR w) A (binaryOp .Add (.ref a) (.ref b)) Q E ⟨h, g, d, t, os⟩ :=
 PySem.P.add_list (s := ⟨h, g, d, t, os⟩) ha hb (by
  have := q h.objs.size _ K.new_none (K.push (listOf (vs ++ us).toArray 0) rfl)
  simpa using this) (by simpa using hs)
end

section
variable {w : World} {A : Around} {E : Value → Shared → Prop} {g : Array GenState} {d : Drawn} {t : Nat} {os : OsState} {env : Env}
variable {p0 p : PH} {h0 h h' : Heap} {X : List Addr} {L : Addr} {l : AL} {mu its m1 m2 : Led}
variable {κ : Type} [DecidableEq κ] {knd : KeyKind PR w κ}
noncomputable def DO (knd : KeyKind PR w κ) (o : Obj) (kvs : List (κ × Value)) : Prop :=
 o.ExactDict ∧ ∃ es ep, o.data = .dict es ep ∧ PySem.KeysOf knd es ∧ PySem.Pairs knd es.toList kvs ∧ (kvs.map (·.1)).Nodup
theorem DO.at {o : Obj} {kvs : List (κ × Value)} {a : Addr} (x : DO knd o kvs) (e : h.get? a = some o) : h.DictOf knd a kvs :=
 let ⟨b, es, ep, c1, c2, c3, c4⟩ := x; ⟨o, es, ep, e, b, c1, c2, c3, c4⟩
theorem DO.of {kvs : List (κ × Value)} {a : Addr} (x : h.DictOf knd a kvs) : ∃ o, h.get? a = some o ∧ DO knd o kvs :=
 let ⟨o, es, ep, e, b, c1, c2, c3, c4⟩ := x; ⟨o, e, b, es, ep, c1, c2, c3, c4⟩
theorem Grd.big (G : Grd w p) (H : Holds p h) : sysModules < h.objs.size := by
 have : h.get? 28 = some _ := H _ _ (G.k 28 ((List.lookup 28 (KF w.params)).get (by kernel_rfl)) (by simp))
 exact Nat.lt_trans (by decide) (Heap.lt_size this)
theorem nd {pos : Pos} {Q : Value → Shared → Prop} (G : Grd w p) (K : W p0 h0 X L p h l mu)
  (q : ∀ a h' o, h0.get? a = none → (a == sysModules) = false → DO knd o [] → W p0 h0 X L p h' l ((a, o) :: mu) → Q (.ref a) ⟨h', g, d, t, os⟩) : wpAny (model PR w) A (eval (.Dict [] [] pos) env) Q E ⟨h, g, d, t, os⟩ :=
 wpAny_Dict_empty (s := ⟨h, g, d, t, os⟩) (q _ _ _ K.new_none (beq_false_of_ne (Nat.ne_of_gt (G.big K.hold))) ⟨⟨rfl, rfl, rfl⟩, #[], 0, rfl, fun _ hx => by simp at hx, .nil, List.nodup_nil⟩ (K.push _ rfl))
theorem d_notin {a : Addr} {o : Obj} {kvs : List (κ × Value)} {k : κ} {key : Value} {Q : Value → Shared → Prop} (ha : h.get? a = some o) (D : DO knd o kvs) (hd : (a == sysModules) = false) (hk : knd.is k key = true)
  (q : ∀ t', Q (.bool (!(valueAt kvs k).isSome)) ⟨h, g, d, t', os⟩) : wpAny (model PR w) A (compareOp .NotIn key (.ref a)) Q E ⟨h, g, d, t, os⟩ :=
 wpAny_notIn_of (s := ⟨h, g, d, t, os⟩) hk hd (D.at ha).mapOf (q _)
theorem d_in {a : Addr} {o : Obj} {kvs : List (κ × Value)} {k : κ} {key : Value} {Q : Value → Shared → Prop} (ha : h.get? a = some o) (D : DO knd o kvs) (hd : (a == sysModules) = false) (hk : knd.is k key = true)
  (q : ∀ t', Q (.bool (valueAt kvs k).isSome) ⟨h, g, d, t', os⟩) : wpAny (model PR w) A (compareOp .In key (.ref a)) Q E ⟨h, g, d, t, os⟩ :=
 wpAny_in_of (s := ⟨h, g, d, t, os⟩) hk hd (D.at ha).mapOf (q _)
theorem d_get {a : Addr} {o : Obj} {kvs : List (κ × Value)} {k : κ} {key v : Value} {Q : Value → Shared → Prop} (ha : h.get? a = some o) (D : DO knd o kvs) (hk : knd.is k key = true) (hv : valueAt kvs k = some v)
  (q : ∀ t', Q v ⟨h, g, d, t', os⟩) : wpAny (model PR w) A (getItem (.ref a) key) Q E ⟨h, g, d, t, os⟩ :=
 wpAny_getItem_of (s := ⟨h, g, d, t, os⟩) hk (D.at ha).mapOf hv (q _)
theorem d_set {a : Addr} {o : Obj} {kvs : List (κ × Value)} {k : κ} {key v : Value} {Q : Unit → Shared → Prop} (K : W p0 h0 X L p h l (m1 ++ (a, o) :: m2)) (D : DO knd o kvs) (hk : knd.is k key = true) (hs : kvs.length ≤ sizeLine)
  (q : ∀ h' t' o', DO knd o' (stored kvs k v) → W p0 h0 X L p h' l (m1 ++ (a, o') :: m2) → Q () ⟨h', g, d, t', os⟩) : wpAny (model PR w) A (setItem (.ref a) key v) Q E ⟨h, g, d, t, os⟩ := by
 have ha : h.get? a = some o := K.get (by simp)
 refine wpAny_setItem_pairs (s := ⟨h, g, d, t, os⟩) hk (D.at ha) (fun h' x hs => ?_) hs
 obtain ⟨o', e, D'⟩ := DO.of x
 exact q _ _ _ D' ((K.mid'.turned (fun b x nb e => (hs.2 b nb).trans e) e).mid)
theorem d_sub {value slice : PySem.Expr} {a : Addr} {o : Obj} {kvs : List (κ × Value)} {k : κ} {key v : Value} {Q : Value → Shared → Prop} (ha : h.get? a = some o) (D : DO knd o kvs) (hk : knd.is k key = true) (hv : valueAt kvs k = some v)
  (hs : subscripted slice false (.ref a) key = operate [.ref a, key] (getItem (.ref a) key))
  (q : ∀ t', Q v ⟨h, g, d, t', os⟩) : wpAny (model PR w) A (subscriptTail value slice (.ref a) key) Q E ⟨h, g, d, t, os⟩ :=
 tail_any (s := ⟨h, g, d, t, os⟩) (D.at ha).mapOf.typeIs slot_dict_getitem.lookup (d_get ha D hk hv q) hs
noncomputable def keyItO (a : Addr) (n ep : Nat) (o : Obj) (i : Nat) : Prop := o.cls = .type "dict_keyiterator" ∧ o.data = .fields #[.ref a, .int i 0, .int n 0, .int ep 0]
noncomputable def DO.epoch (o : Obj) : Nat := match o.data with | .dict _ ep => ep | _ => 0
theorem DO.atE {o : Obj} {kvs : List (κ × Value)} {a : Addr} (x : DO knd o kvs) (e : h.get? a = some o) : h.DictAt knd a kvs (DO.epoch o) := by
 obtain ⟨b, es, ep, c1, c2, c3, c4⟩ := x
 refine ⟨o, es, e, b, ?_, c2, c3, c4⟩
 unfold DO.epoch; rw [c1]
theorem its_keys {target : PySem.Expr} (hh : A.handled = none) (ht : isName target = true) (it a : Addr) (o0 : Obj) (kvs : List (κ × Value)) (D : DO knd o0 kvs) :
  Its w A g d os target it (keyItO a kvs.length (DO.epoch o0)) (fun h => h.get? a = some o0) (fun i v => ∃ k x, kvs[i]? = some (k, x) ∧ knd.is k v = true) kvs.length where
 item := fun h t o i Q E e ok src hN k => by
  refine wpAny_pyNext_dict_item (s := ⟨h, g, d, t, os⟩) (it := it) (k := kvs[i].1) (v := kvs[i].2) ⟨o, e, ok.1, ok.2⟩ (D.atE src) (by simp [hN]) fun key h' hk hi hs => ?_
  obtain ⟨o', e', c', d'⟩ := hi
  exact k _ h' o' t ⟨kvs[i].1, kvs[i].2, by simp [hN], hk⟩ e' ⟨c', d'⟩ fun b x nb q => (hs.2 b nb).trans q
 fin := fun h t o Q E e ok src k => by
  refine wpAny_pyNext_dict_end (s := ⟨h, g, d, t, os⟩) (it := it) hh ⟨o, e, ok.1, ok.2⟩ (D.atE src) (by simp) fun h' hs => ?_
  exact k h' t fun b x nb q => hs b x nb q
 lets := fun h t o i v Q E e ok hv q => by
  cases target <;> first | exact wpAny_pure q | cases ht
theorem for_keys {target : PySem.Expr} {body : List Stmt} {R : Result → Shared → Prop} {E : Value → Shared → Prop} {a : Addr} {o : Obj} {kvs : List (κ × Value)} (hh : A.handled = none) (ht : isName target = true) (D : DO knd o kvs) (lo : (a == sysModules) = false)
  (Inv : Nat → PH → AL → Led → Prop) (K : W p0 h0 X L p h l (mu ++ its)) (I : Inv 0 p l mu)
  (src : ∀ i p h l mu its, W p0 h0 X L p h l (mu ++ its) → Inv i p l mu → h.get? a = some o)
  (turn : ∀ i k x v p h l mu its t, kvs[i]? = some (k, x) → knd.is k v = true → i < kvs.length → W p0 h0 X L p h l (mu ++ its) → Inv i p l mu →
   ∀ Qt, Imp (fun fl s' => match fl with
    | .next | .cont => X5 fun p' h' l' mu' t' => A3 (s' = ⟨h', g, d, t', os⟩) (W p0 h0 X L p' h' l' (mu' ++ its)) (Inv (i + 1) p' l' mu')
    | .brk => R (.ok .next) s'
    | .ret v => R (.ok (.ret v)) s') Qt →
   wpAny (model PR w) A (assign target env v) (fun _ s => wpAny (model PR w) A (execs body env) Qt (fun _ _ => False) s) (fun _ _ => False) ⟨h, g, d, t, os⟩)
  (done : ∀ p h l mu t, W p0 h0 X L p h l (mu ++ its) → Inv kvs.length p l mu → R (.ok .next) ⟨h, g, d, t, os⟩) :
  wpAny (model PR w) A (pyIter (.ref a)) (fun it s => codeAny (model PR w) A (.forLoop target it body [] env) R s) E ⟨h, g, d, t, os⟩ := by
 have sr := src _ _ _ _ _ _ K I
 refine wpAny_pyIter_dict (s := ⟨h, g, d, t, os⟩) lo (D.atE sr) ?_
 exact loop (its_keys hh ht h.objs.size a o kvs D) Inv (K.push { cls := .type "dict_keyiterator", data := .fields #[.ref a, .int 0 0, .int kvs.length 0, .int (DO.epoch o) 0] } rfl).mid ⟨rfl, rfl⟩ K.new_none I (fun i p h l mu x K I => src i p h l mu (x :: its) K I) (fun i v p h l mu its t ⟨k, x, e, hk⟩ hi K I => turn i k x v p h l mu its t e hk hi K I) done
theorem sort_keys {a : Addr} {o : Obj} {kvs : List (Int × Value)} {Q : Value → Shared → Prop} (hh : A.handled = none) (K : W p0 h0 X L p h l mu) (ha : h.get? a = some o) (D : DO (PySem.intKind PR w) o kvs) (lo : (a == sysModules) = false) (h64 : kvs.length < 64)
  (q : ∀ b h' tk c out ns', h0.get? b = none → W p0 h0 X L p h' l ((b, listOf (out : List Value).toArray c) :: mu) → IntsAre out ns' → ns'.Perm (kvs.map (·.1)) → ns'.Pairwise (· ≤ ·) → Q (.ref b) ⟨h', g, d, tk, os⟩) : wpAny (model PR w) A (call (.builtin "sorted") [.ref a]) Q E ⟨h, g, d, t, os⟩ := by
 have big : kvs.length ≤ sizeLine := by show kvs.length ≤ 2 ^ 24; exact lnl fun q => lnq [_] [aL (tQ (tN 16777216)) Z0,aL (tQ Z0) (tN 64)] rfl q h64
 have key : ∀ (vs : List Value), vs.length = kvs.length → (∀ (j : Nat) (v : Value), vs[j]? = some v → ∃ k x, kvs[j]? = some (k, x) ∧ (PySem.intKind PR w).is k v = true) → IntsAre vs (kvs.map (·.1)) := by
  clear D h64 q big
  induction kvs with
  | nil => intro vs e _; cases vs with
   | nil => exact .nil
   | cons => cases e
  | cons kv kvs ih => intro vs e f; cases vs with
   | nil => cases e
   | cons v vs =>
    obtain ⟨k, x, e1, e2⟩ := f 0 v rfl
    simp at e1; subst e1
    obtain ⟨t, rfl⟩ := Value.isInt_shape e2
    exact .cons _ _ (ih vs (by simpa using e) fun j v hj => by simpa using f (j + 1) v (by simpa using hj))
 refine Calls.call_function_entry kind_sorted plain_sorted entry_sorted (args_sorted1 _) ?_
 unfold Builtin.«sorted»
 refine wpAny_bind (m := checkCount "sorted" 1 1 _) (wpAny_pure ?_)
 refine wpAny_bind (kdu_collect (s := ⟨h, g, d, t, os⟩) (kdl_dict (knd := PySem.intKind PR w) (kvs := kvs) (ep := DO.epoch o) lo) hh (D.atE ha) big fun h' tk acc k hacc => ?_)
 have hl : acc.toList.length = kvs.length := by rw [Array.length_toList]; exact hacc.1
 have hI := key acc.toList hl fun j v e => hacc.2 j v (by rw [← Array.getElem?_toList]; exact e)
 refine wpAny_bind (wpAny_newList ?_ (by rw [hl]; exact big))
 have hoL : (h'.push (seqObj "list" acc.toList.toArray 0)).get? h'.objs.size = some (seqObj "list" acc.toList.toArray 0) := Heap.get?_push_size _ rfl
 refine wpAny_bind (wpAny_holding (wpAny_call_entry (s := ⟨h'.push (seqObj "list" acc.toList.toArray 0), g, d, tk, os⟩) slot_list_sort ⟨_, hoL, rfl⟩ entry_list_sort (list_sort_tree hoL hI (by exact lnt fun q => lnq [_,_] [aL (tN 64) Z0,aE Z0 Z1,aL (tQ Z1) (tN 64)] rfl q hl h64) fun out ns' a1 a2 a3 => ⟨_, rfl, ?_⟩) (args_list_sort _)))
 obtain ⟨e, he⟩ := sortedHeap_at (out := out) hoL
 have fr : h.get? h'.objs.size = none := by
  cases z : h.get? h'.objs.size with
  | none => rfl
  | some o => exact absurd (Heap.lt_size (k _ _ z)) (Nat.lt_irrefl _)
 refine wpAny_pure ⟨_, rfl, q _ _ tk e out.toList ns' (K.none_of fr) (K.grown (fun b o z => ?_) fr (by simpa using he)) a1 a2 a3⟩
 have z' := k _ _ z
 have lt := Heap.lt_size z'
 rw [sortedHeap_old (Nat.ne_of_lt lt) (by rw [size_push']; exact Nat.lt_succ_of_lt lt), Heap.get?_push_ne _ _ _ (Nat.ne_of_lt lt)]
 exact z'
end

noncomputable def setOk (K : Frag) (C : Addr) (name : Str) : Bool := findIn K (.ref C) "__setattr__" == some (some (.builtin "object.__setattr__")) && plainOver K C && takerIn K C name == some none && (clsIn K C).any (·.hasDict)
noncomputable def AO (N : Nat) (o : Obj) (fs : AL) : Prop := X2 fun es n => A3 (o = dictOf es n) (es.length ≤ N) (∀ y, getL y es = some (fs.lookup y))
theorem AO.nil : AO 0 emptyDict [] := ⟨[], 0, rfl, Nat.le_refl _, fun _ => rfl⟩
theorem AO.congr {N : Nat} {o : Obj} {fs fs' : AL} (x : AO N o fs) (h : ∀ y, fs.lookup y = fs'.lookup y) : AO N o fs' := let ⟨es, n, a, b, c⟩ := x; ⟨es, n, a, b, fun y => by rw [c, h]⟩
theorem Ob.of {p : PH} {x C dx : Addr} {o : Obj} {N : Nat} {fs : AL} (a : p x = some (instObj C dx)) (b : p dx = some o) (h : AO N o fs) : Ob p x C fs := by
 obtain ⟨es, n, rfl, _, c⟩ := h; exact ⟨dx, es, n, a, b, c⟩
theorem isStr_str (y x : Str) (k : Value) (hk : k.isStr x = true) : k.isStr y = (y == x) := by
 cases k <;> simp [Value.isStr] at hk ⊢
 subst hk
 rw [Bool.eq_iff_iff, beq_iff_eq, beq_iff_eq]; exact eq_comm
theorem putL_len {x : Str} {hs : Int} {k v : Value} : ∀ (es : List DictEntry), (putL x hs k v es).length = if es.any (·.key.isStr x) then es.length else es.length + 1
 | [] => rfl
 | e :: r => by
  unfold putL
  cases h : e.key.isStr x with
  | true => simp [h]
  | false => simp only [Bool.false_eq_true, if_false, List.length_cons, putL_len r, List.any_cons, h, Bool.false_or]; split <;> rfl
theorem getL_none {y : Str} {es : List DictEntry} (h : getL y es = some none) : es.find? (·.key.isStr y) = none ∧ es.any (·.refKey) = false := by
 unfold getL at h
 split at h
 ·injection h with h; cases h
 ·rename_i q
  refine ⟨q, ?_⟩
  cases z : es.any (·.refKey) with
  | true => rw [z] at h; cases h
  | false => rfl
theorem getL_put {x : Str} {hs : Int} {t : Tok} {v : Value} {es : List DictEntry} {f : Str → Option Value} (h : ∀ y, getL y es = some (f y)) (y : Str) :
  getL y (putL x hs (.str x t) v es) = some (if y = x then some v else f y) := by
 have key : ∀ (es : List DictEntry) (y : Str), (putL x hs (.str x t) v es).find? (·.key.isStr y) = if y = x then some (((es.find? (·.key.isStr x)).map fun e => (⟨e.hash, e.key, v⟩ : DictEntry)).getD ⟨hs, .str x t, v⟩) else es.find? (·.key.isStr y) := by
  intro es y
  induction es with
  | nil =>
   show List.find? _ [_] = _
   rw [List.find?_cons]
   by_cases e : y = x
   ·subst e; simp [Value.isStr]
   ·have : (Value.str x t).isStr y = false := by simp [Value.isStr, Ne.symm e]
    simp [this, e]
  | cons e r ih =>
   unfold putL
   cases q : e.key.isStr x with
   | true =>
    simp only [if_true]
    rw [List.find?_cons, List.find?_cons, List.find?_cons, q]
    by_cases z : y = x
    ·subst z; simp [q]
    ·have : e.key.isStr y = false := by rw [isStr_str y x _ q]; simpa using z
     simp [this, z]
   | false =>
    simp only [Bool.false_eq_true, if_false]
    rw [List.find?_cons, List.find?_cons, List.find?_cons, q, ih]
    cases z : e.key.isStr y with
    | true =>
     have : y ≠ x := fun e' => by rw [e', q] at z; cases z
     simp [this]
    | false => rfl
 have refs : (putL x hs (.str x t) v es).any (·.refKey) = es.any (·.refKey) := by
  clear key h
  induction es with
  | nil => rfl
  | cons e r ih =>
   unfold putL
   split
   ·rfl
   ·rw [List.any_cons, List.any_cons, ih]
 unfold getL
 rw [key, refs]
 by_cases e : y = x
 ·simp only [e, if_true]
  cases q : es.find? (·.key.isStr x) <;> rfl
 ·simp only [e, if_false]
  exact h y
section
variable {w : World} {A : Around} {E : Value → Shared → Prop} {g : Array GenState} {d : Drawn} {t : Nat} {os : OsState} {env : Env}
variable {p0 p : PH} {h0 h h' : Heap} {X : List Addr} {L : Addr} {l : AL} {mu its m1 m2 : Led}
theorem W.turnedL {a : Addr} {o o' : Obj} (K : W p0 h0 X L p h l ((a, o) :: mu)) (hn : h'.Ns L (fun x => l.lookup x)) (hs : ∀ b x, b ≠ a → b ≠ L → h.get? b = some x → h'.get? b = some x) (ho : h'.get? a = some o') : W p0 h0 X L p h' l ((a, o') :: mu) := by
 obtain ⟨a1, a2, a3, a4⟩ := K.own (a, o) (List.mem_cons_self ..)
 have nd := K.nodup
 rw [List.map_cons, List.nodup_cons] at nd
 have nL : ∀ b x, p b = some x → b ≠ L := fun b x e q => by rw [q, K.pL] at e; cases e
 have n0 : ∀ b x, h0.get? b = some x → b ≠ L := fun b x e q => by rw [q, K.hL] at e; cases e
 refine ⟨hn, K.sub, fun b x e => hs b x (fun q => by rw [q, a3] at e; cases e) (nL b x e) (K.hold b x e), fun b x nb e => hs b x (fun q => ?_) (n0 b x e) (K.keep b x nb e), fun b x e => ?_, K.fresh, K.pL, K.hL, fun q hq => ?_, ?_⟩
 ·rw [q] at e nb
  rcases a4 with z | z
  ·exact nb z
  ·rw [z] at e; cases e
 ·by_cases q : b = a
  ·exact ⟨o', by rw [q]; exact ho⟩
  ·obtain ⟨x', e'⟩ := K.alive b x e; exact ⟨x', hs b x' q (n0 b x e) e'⟩
 ·rcases List.mem_cons.mp hq with rfl | hq
  ·exact ⟨ho, a2, a3, a4⟩
  ·obtain ⟨b1, b2⟩ := K.own q (List.mem_cons_of_mem _ hq)
   exact ⟨hs _ _ (fun z => nd.1 (List.mem_map.mpr ⟨q, hq, z⟩)) b2.1 b1, b2⟩
 ·exact K.nodup
noncomputable def liveBut (h : Heap) (L a : Addr) : Led := (List.range h.objs.size).filterMap fun b => if b = L ∨ b = a then none else (h.get? b).map fun o => (b, o)
theorem mem_live {h : Heap} {L a b : Addr} {o : Obj} : (b, o) ∈ liveBut h L a ↔ b ≠ L ∧ b ≠ a ∧ h.get? b = some o := by
 unfold liveBut
 rw [List.mem_filterMap]
 constructor
 ·rintro ⟨c, hc, e⟩
  split at e
  ·cases e
  ·rename_i n
   cases q : h.get? c with
   | none => rw [q] at e; cases e
   | some o' =>
    rw [q] at e; simp at e
    obtain ⟨rfl, rfl⟩ := e
    exact ⟨fun z => n (.inl z), fun z => n (.inr z), q⟩
 ·rintro ⟨a1, a2, a3⟩
  refine ⟨b, List.mem_range.mpr (Heap.lt_size a3), ?_⟩
  rw [if_neg (by rintro (z | z); exact a1 z; exact a2 z), a3]; rfl
theorem sa {x C dx : Addr} {o : Obj} {N : Nat} {fs : AL} {name : Str} {v : Value} {Q : Unit → Shared → Prop} (G : Grd w p) (K : W p0 h0 X L p h l (m1 ++ (dx, o) :: m2)) (hx : h.get? x = some (instObj C dx)) (ao : AO N o fs) (hN : N < 1000)
  (hC : setOk (KF w.params) C name = true) (q : ∀ h' t' o', AO (N + 1) o' ((name, v) :: fs) → ((List.lookup name fs).isSome = true → AO N o' ((name, v) :: fs)) → W p0 h0 X L p h' l (m1 ++ (dx, o') :: m2) → Q () ⟨h', g, d, t', os⟩) :
  wpAny (model PR w) A (setAttr (.ref x) name v) Q E ⟨h, g, d, t, os⟩ := by
 obtain ⟨es, n, rfl, hes, hget⟩ := ao
 unfold setOk at hC
 simp only [Bool.and_eq_true, beq_iff_eq] at hC
 obtain ⟨⟨⟨c1, c2⟩, c3⟩, c4⟩ := hC
 have K1 := K.mid'
 have hd : h.get? dx = some (dictOf es n) := K.get (by simp)
 have ndL : dx ≠ L := (K1.own (dx, dictOf es n) (List.mem_cons_self ..)).2.1
 have I : InstAt h x (instObj C dx) C (some (dictOf es n)) := ⟨hx, rfl, rfl, hd⟩
 have F : Fr {} L h (fun x => l.lookup x) := ⟨K.fr, fun b o e => by exact absurd (Heap.lt_size e) (Nat.not_lt_zero _), Nat.zero_le _⟩
 have n0 : ∀ b, (({} : Heap)).get? b = none := fun b => by
  cases q : (({} : Heap)).get? b with
  | none => rfl
  | some o => exact absurd (Heap.lt_size q) (Nat.not_lt_zero _)
 have N0 : News {} L h ([] ++ (dx, dictOf es n) :: liveBut h L dx) := fun y hy => by
  rcases List.mem_cons.mp hy with rfl | hy
  ·exact ⟨hd, ndL, n0 _⟩
  ·obtain ⟨b, o⟩ := y
   obtain ⟨a1, a2, a3⟩ := mem_live.mp hy
   exact ⟨a3, a1, n0 _⟩
 refine set_plain (s := ⟨h, g, d, t, os⟩) (G.inn K.hold) I c1 (osa_dict (s := ⟨h, g, d, t + 1, os⟩) (od' := dictOf (putL name (PyData.keyHash w.params name) (.str name (t + 1)) v es) (putN name es n)) (es := putL name (PyData.keyHash w.params name) (.str name (t + 1)) v es) F N0 (G.inn K.hold) I rfl c2 c3 c4 (by rw [lookIn_dict, hget]; rfl) (fun _ h => by cases h) (fun y hy => (mem_live.mp (show (y.1, y.2) ∈ _ from hy)).2.1) (by rw [putName_dict]) rfl (by rw [putL_len]; split <;> (first | exact lnl fun q => lnq [_,_] [aL (tQ (tN 1000)) Z0,aL Z0 Z1,aL (tQ Z1) (tN 1000)] rfl q hes hN | exact lnl fun q => lnq [_,_] [aL (tQ (tN 1000)) (tQ Z0),aL Z0 Z1,aL (tQ Z1) (tN 1000)] rfl q hes hN)) fun h' F' N' => ?_)
 have ge : ∀ y, getL y (putL name (PyData.keyHash w.params name) (.str name (t + 1)) v es) = some (((name, v) :: fs).lookup y) := fun y => by
  rw [getL_put hget y]; exact congrArg some (congrFun (lookup_cons_fn name v fs) y).symm
 refine q _ _ _ ⟨_, _, rfl, ?_, ge⟩ (fun hs => ⟨_, _, rfl, ?_, ge⟩) (K1.turnedL F'.ns (fun b x nb nL e => (N' (b, x) (List.mem_cons_of_mem _ (mem_live.mpr ⟨nL, nb, e⟩))).1) (N' _ (List.mem_cons_self ..)).1).mid
 ·rw [putL_len]; split <;> (first | exact lnl fun q => lnq [_,_] [aL (tA (tQ Z0) (tN 1)) Z1,aL Z1 Z0] rfl q hes | exact lnl fun q => lnq [_,_] [aL (tA (tQ Z0) (tN 1)) (tQ Z1),aL Z1 Z0] rfl q hes)
 ·rw [putL_len, if_pos]
  ·exact hes
  ·have := hget name
   unfold getL at this
   split at this
   ·rename_i e he
    rw [List.any_eq_true]
    exact ⟨e, List.mem_of_find?_eq_some he, List.find?_some (p := fun x : DictEntry => x.key.isStr name) he⟩
   ·split at this
    ·cases this
    ·injection this with this; rw [← this] at hs; cases hs
theorem Rm.tc {A : Around} {n : Nat} (r : Rm A (n + 1)) (C : Addr) (rest : List Value) : Rm (A.under (.builtin "type.__call__" ⟨.ref C :: rest, []⟩)) n :=
 ⟨by have := r.d; show A.depth + 1 + _ ≤ _; exact lnl fun q => lnq [_,_] [aL (tQ (tN 900)) (tA (tQ Z0) (tM 2 Z1)),aL (tA Z0 (tM 2 (tQ Z1))) (tN 900)] rfl q this, by
  have e : (Code.builtin "type.__call__" ⟨.ref C :: rest, []⟩).cUnits = 1 := rfl
  have := r.u; show A.units + (Code.builtin "type.__call__" ⟨.ref C :: rest, []⟩).cUnits + _ ≤ _; rw [e]; exact lnl fun q => lnq [_,_] [aL (tQ (tN 9000)) (tA (tQ Z0) (tM 20 Z1)),aL (tA Z0 (tM 20 (tQ Z1))) (tN 9000)] rfl q this, r.hd⟩
theorem W.adopt {a : Addr} {o : Obj} (K : W p0 h0 X L p h l mu) (e : h.get? a = some o) (hp : p a = none) (hL : a ≠ L) (hm : ∀ q ∈ mu, q.1 ≠ a) (h0n : h0.get? a = none) : W p0 h0 X L p h l ((a, o) :: mu) := by
 refine ⟨K.fr, K.sub, K.hold, K.keep, K.alive, K.fresh, K.pL, K.hL, fun q hq => ?_, ?_⟩
 ·rcases List.mem_cons.mp hq with rfl | hq
  ·exact ⟨e, hL, hp, .inr h0n⟩
  ·exact K.own q hq
 ·rw [List.map_cons, List.nodup_cons]
  refine ⟨fun z => ?_, K.nodup⟩
  obtain ⟨x, hx, z⟩ := List.mem_map.mp z
  exact hm x hx z
noncomputable def makeOk (K : Frag) (C fI : Addr) : Bool := makesIn K C && findIn K (.ref C) "__init__" == some (some (.ref fI)) && typeIn K (.ref fI) == some (.type "function")
theorem mk {C fI : Addr} {rest : List Value} {n : Nat} {Q : Value → Shared → Prop} {Post : Addr → Addr → Value → PH → Heap → Prop} (G : Grd w p) (K : W p0 h0 X L p h l mu) (hC : makeOk (KF w.params) C fI = true) (r : Rm A (n + 1))
  (F : ∀ x dx h1, Grd w p → Holds p h1 → h1.get? x = some (instObj C dx) → h1.get? dx = some emptyDict → p dx = none → p x = none → (∀ b o, h.get? b = some o → h1.get? b = some o) → h.get? x = none → Fn w n (.ref fI) (.ref x :: rest) p h1 [dx] (fun v p' h' => A3 (v = .none) (Post x dx v p' h') (∃ o', h'.get? dx = some o')))
  (q : ∀ x dx p' h' t' o' v, PSub p p' → h0.get? x = none → h0.get? dx = none → W p0 h0 X L p' h' l ((x, instObj C dx) :: (dx, o') :: mu) → Post x dx v p' h' → h'.get? dx = some o' → Q (.ref x) ⟨h', g, d, t', os⟩) :
  wpAny (model PR w) A (call (.ref C) rest []) Q E ⟨h, g, d, t, os⟩ := by
 unfold makeOk at hC
 simp only [Bool.and_eq_true, beq_iff_eq] at hC
 obtain ⟨⟨c1, c2⟩, c3⟩ := hC
 have X0 := G.inn K.hold
 refine wpAny_call (make_core (makes_of X0 c1) (looks_findIn X0 c2) (fun self => bind_fn X0 self c3) (.inl rfl) ?_)
 have K1 := K.push emptyDict rfl
 have K2 := K1.push (instObj C h.objs.size) rfl
 have e1 : (h.push emptyDict).objs.size = h.objs.size + 1 := size_push' ..
 rw [e1] at K2
 have hx := (K2.own _ (List.mem_cons_self ..))
 have hdx := (K2.own (h.objs.size, emptyDict) (.tail _ (.head _)))
 refine (F (h.objs.size + 1) h.objs.size _ G K2.hold hx.1 hdx.1 hdx.2.2.1 hx.2.2.1 (fun b o e => Heap.get?_push_of_some _ (Heap.get?_push_of_some _ e)) ?_) _ g d t os _ (r.tc C rest) fun v p' h' t' gro ⟨hv, hp, o', ho'⟩ => ?_
 ·cases z : h.get? (h.objs.size + 1) with
  | none => rfl
  | some o => exact absurd (Heap.lt_size z) (Nat.not_lt.mpr (Nat.le_succ _))
 ·refine ⟨hv, ?_⟩
  have n1 : h0.get? (h.objs.size + 1) = none := by
   have := K1.new_none; rwa [e1] at this
  have K3 : W p0 h0 X L p _ l ([(h.objs.size, emptyDict)] ++ ((h.objs.size + 1, instObj C h.objs.size) :: mu)) := W.mid' (m1 := [(h.objs.size + 1, instObj C h.objs.size)]) K2
  have K4 := W.callX (m1 := [(h.objs.size, emptyDict)]) (m1' := [(h.objs.size, o')]) K3 gro rfl (fun q hq => by rw [List.mem_singleton] at hq; subst hq; exact ho')
  exact q _ _ p' h' t' o' v gro.sub n1 K.new_none (W.mid' (m1 := [(h.objs.size, o')]) K4) hp ho'
end

section
variable {w : World} {A : Around} {E : Value → Shared → Prop} {g : Array GenState} {d : Drawn} {t : Nat} {os : OsState} {env : Env}
variable {p0 p : PH} {h0 h h' h1 : Heap} {X : List Addr} {L C : Addr} {l lc : AL} {mu its m1 m2 : Led}
theorem W.enter (K : W p0 h0 X L p h l mu) (kp : ∀ b o, h.get? b = some o → h'.get? b = some o) (hC : h.get? C = none) (hns : h'.Ns C (fun x => lc.lookup x)) :
  ∃ oL, h'.get? L = some oL ∧ W p0 h0 X C p h' lc ((L, oL) :: mu) := by
 obtain ⟨oL, hoL⟩ := K.atL
 have K' := K.grow kp
 have ne : ∀ b o, h.get? b = some o → b ≠ C := fun b o e z => by rw [z, hC] at e; cases e
 have pC : p C = none := by
  cases e : p C with
  | none => rfl
  | some o => exact absurd rfl (ne _ _ (K.hold _ _ e))
 refine ⟨oL, kp _ _ hoL, hns, K'.sub, K'.hold, K'.keep, K'.alive, K'.fresh, pC, K.none_of hC, fun q hq => ?_, ?_⟩
 ·rcases List.mem_cons.mp hq with rfl | hq
  ·exact ⟨kp _ _ hoL, ne _ _ hoL, K.pL, .inr K.hL⟩
  ·obtain ⟨a1, a2, a3, a4⟩ := K'.own q hq
   exact ⟨a1, ne _ _ (K.own q hq).1, a3, a4⟩
 ·rw [List.map_cons, List.nodup_cons]
  refine ⟨fun z => ?_, K.nodup⟩
  obtain ⟨x, hx, e⟩ := List.mem_map.mp z
  exact (K.own x hx).2.1 e
theorem W.leave {oL : Obj} (K : W p0 h0 X C p h' lc (m1 ++ (L, oL) :: m2)) (n : h1.Ns L (fun x => l.lookup x)) (e1 : h1.get? L = some oL) (hL : h0.get? L = none) : ∃ oC, h'.get? C = some oC ∧ h0.get? C = none ∧ W p0 h0 X L p h' l ((C, oC) :: (m1 ++ m2)) := by
 have K := K.mid'
 obtain ⟨a1, a2, a3, a4⟩ := K.own (L, oL) (List.mem_cons_self ..)
 obtain ⟨oC, hoC⟩ := K.atL
 have nd := K.nodup
 rw [List.map_cons, List.nodup_cons] at nd
 refine ⟨oC, hoC, K.hL, Ns_keep n (fun o e => by rw [e1] at e; cases e; exact a1), K.sub, K.hold, K.keep, K.alive, K.fresh, a3, hL, fun q hq => ?_, ?_⟩
 ·rcases List.mem_cons.mp hq with rfl | hq
  ·exact ⟨hoC, Ne.symm a2, K.pL, .inr K.hL⟩
  ·obtain ⟨b1, b2, b3, b4⟩ := K.own q (List.mem_cons_of_mem _ hq)
   exact ⟨b1, fun z => nd.1 (List.mem_map.mpr ⟨q, hq, z⟩), b3, b4⟩
 ·rw [List.map_cons, List.nodup_cons]
  refine ⟨fun z => ?_, nd.2⟩
  obtain ⟨x, hx, e⟩ := List.mem_map.mp z
  exact (K.own x (List.mem_cons_of_mem _ hx)).2.1 e
noncomputable def tests (ifs : List PySem.Expr) (env : Env) : Sem Bool := forIn ifs true fun c r => if r = true then do let ok ← isTrue c env (eval c env); pure (ForInStep.yield ok) else pure (ForInStep.yield r)
theorem tests0 {Q : Bool → Shared → Prop} {s : Shared} (h : Q true s) : wpAny (model PR w) A (tests [] env) Q E s := wpAny_tests_nil h
theorem tests1 {c : PySem.Expr} {Q : Bool → Shared → Prop} {s : Shared} (h : wpAny (model PR w) A (isTrue c env (eval c env)) Q E s) : wpAny (model PR w) A (tests [c] env) Q E s := wpAny_tests_one h
noncomputable def emit (elt : PySem.Expr) (acc : Value) (env : Env) : Sem Unit := do let _ ← call (.builtin "list.append") [acc, ← eval elt env]
noncomputable def inner (e i2 : PySem.Expr) (acc : Value) (env : Env) : Sem Unit := do
 let x ← eval i2 env
 standAt i2.pos
 let x ← foldedSetIterable i2 env x
 let _ ← runOwn (.compStart e 1 (← holding [x] (pyIter x)) acc env) env
noncomputable def turnIs (e target : PySem.Expr) (q : Pos) (ifs : List PySem.Expr) (depth : Nat) (it acc : Value) (env : Env) (step : Sem Unit) : Prop :=
 compTurn e depth it acc env = (do
  standAt q
  match ← pyNext it with
  | none => pure (.done .next)
  | some v =>
   letOwnedTupleGo target it v
   assign target env v
   let mut ok := true
   for c in ifs do
    if ok then ok ← isTrue c env (eval c env)
   if ok then step
   again (.compLoop e depth it acc env))
theorem turn1 (elt target iter : PySem.Expr) (ifs : List PySem.Expr) (scope : Scope) (pos : Pos) (it acc : Value) (env : Env) :
  turnIs (.ListComp elt [⟨target, iter, ifs, 0⟩] scope pos) target iter.pos ifs 0 it acc env (emit elt acc env) := by unfold turnIs; rfl
theorem turn2a (elt target iter t2 i2 : PySem.Expr) (ifs ifs2 : List PySem.Expr) (scope : Scope) (pos : Pos) (it acc : Value) (env : Env) :
  turnIs (.ListComp elt [⟨target, iter, ifs, 0⟩, ⟨t2, i2, ifs2, 0⟩] scope pos) target iter.pos ifs 0 it acc env (inner (.ListComp elt [⟨target, iter, ifs, 0⟩, ⟨t2, i2, ifs2, 0⟩] scope pos) i2 acc env) := by
 unfold turnIs inner
 simp only [bind_assoc, pure_bind]
 rfl
theorem turn2b (elt target iter t2 i2 : PySem.Expr) (ifs ifs2 : List PySem.Expr) (scope : Scope) (pos : Pos) (it acc : Value) (env : Env) :
  turnIs (.ListComp elt [⟨target, iter, ifs, 0⟩, ⟨t2, i2, ifs2, 0⟩] scope pos) t2 i2.pos ifs2 1 it acc env (emit elt acc env) := by unfold turnIs; rfl
theorem emit_ {elt : PySem.Expr} {acc : Value} {s : Shared} {Q : Unit → Shared → Prop} (h : wpAny (model PR w) A (eval elt env) (fun x s => wpAny (model PR w) A (call (.builtin "list.append") [acc, x]) (fun _ s' => Q () s') E s) E s) : wpAny (model PR w) A (emit elt acc env) Q E s := by
 unfold emit
 exact wpAny_bind (wpAny_mono h (fun x s q => wpAny_bind (wpAny_mono q (fun _ _ z => wpAny_pure z) fun _ _ z => z)) fun _ _ z => z)
theorem inner_ {e i2 : PySem.Expr} {acc : Value} {n : Nat} {s : Shared} {Q : Unit → Shared → Prop} (rm : Rm A n) (hf : ∀ x, foldedSetIterable i2 env x = pure x)
  (h : wpAny (model PR w) A (eval i2 env) (fun x s => wpAny (model PR w) A (pyIter x) (fun it s => codeAny (model PR w) A (.compStart e 1 it acc env) (fun r s' => (∃ f, r = .ok f) ∧ Q () s') s) E s) E s) : wpAny (model PR w) A (inner e i2 acc env) Q E s := by
 unfold inner
 refine wpAny_bind (wpAny_mono h (fun x s q => wpAny_bind (wpAny_standAt ?_)) fun _ _ z => z)
 refine wpAny_bind (wpAny_of_eq (hf x) (wpAny_bind (wpAny_holding (wpAny_mono q (fun it s q => ?_) fun _ _ z => z))))
 refine wpAny_bind (wpAny_runOwn ?_)
 rw [rm.mark]
 refine codeAny_mono q fun r s' ⟨⟨f, hr⟩, hq⟩ => ?_
 subst hr
 exact wpAny_pure hq
theorem comp_loop {elt : PySem.Expr} {gens : List Comprehension} {scope : Scope} {pos q : Pos} {target : PySem.Expr} {ifs : List PySem.Expr} {step : Sem Unit} {depth : Nat} {acc : Value} {R : Result → Shared → Prop} {it : Addr} {o : Obj} {OK : Obj → Nat → Prop} {Src : Heap → Prop} {val : Nat → Value → Prop} {N : Nat}
  (heq : turnIs (.ListComp elt gens scope pos) target q ifs depth (.ref it) acc env step) (T : Its w A g d os target it OK Src val N) (Inv : Nat → PH → AL → Led → Prop) (K : W p0 h0 X L p h l (mu ++ (it, o) :: its)) (ho : OK o 0) (hn : h0.get? it = none) (I : Inv 0 p l mu)
  (src : ∀ i p h l mu x, W p0 h0 X L p h l (mu ++ x :: its) → Inv i p l mu → Src h)
  (turn : ∀ i v p h l mu its t, val i v → i < N → W p0 h0 X L p h l (mu ++ its) → Inv i p l mu →
   ∀ Qt : Shared → Prop, ImS (fun s'' => X5 fun p' h' l' mu' t' => A3 (s'' = ⟨h', g, d, t', os⟩) (W p0 h0 X L p' h' l' (mu' ++ its)) (Inv (i + 1) p' l' mu')) Qt →
   wpAny (model PR w) A (assign target env v) (fun _ s => wpAny (model PR w) A (tests ifs env) (fun ok s' =>
    if ok = true then wpAny (model PR w) A step (fun _ s'' => Qt s'') (fun _ _ => False) s'
    else Qt s') (fun _ _ => False) s) (fun _ _ => False) ⟨h, g, d, t, os⟩)
  (done : ∀ p h l mu t, W p0 h0 X L p h l (mu ++ its) → Inv N p l mu → R (.ok .next) ⟨h, g, d, t, os⟩) :
  codeAny (model PR w) A (.compLoop (.ListComp elt gens scope pos) depth (.ref it) acc env) R ⟨h, g, d, t, os⟩ := by
 refine codeAny_loop rfl (fun n s => ∃ i p h l mu t o, n = N - i ∧ i ≤ N ∧ s = ⟨h, g, d, t, os⟩ ∧ W p0 h0 X L p h l (mu ++ (it, o) :: its) ∧ OK o i ∧ Inv i p l mu) ?_ N ⟨0, p, h, l, mu, t, o, by exact lne (fun q => lnq [_,_] [aL (tQ Z0) Z1,aL Z1 (tA Z0 (tN 0))] rfl q (sbL _ _)) fun q => lnq [_,_] [aL (tQ Z0) Z1,aL Z1 Z0] rfl q (Nat.sub_le _ _), by exact lnl fun q => lnq [_] [aL (tQ Z0) (tN 0)] rfl q, rfl, K, ho, I⟩
 rintro n s ⟨i, p, h, l, mu, t, o, rfl, hi, rfl, K, ho, I⟩
 show wpAny _ A ((compTurn (.ListComp elt gens scope pos) depth (.ref it) acc env).onRaise (fun x => do noteFrame x env; theTreesLotGoes x)) _ _ _
 refine wpAny_noted ?_
 unfold turnIs at heq
 rw [heq]
 have hit : h.get? it = some o := (K.own (it, o) (by simp)).1
 have hsrc := src _ _ _ _ _ _ K I
 by_cases hN : i < N
 ·refine wpAny_bind (wpAny_standAt (wpAny_bind (T.item h t o i _ _ hit ho hsrc hN fun v h' o' t' hv hit' ho' hs => ?_)))
  try dsimp only
  have K' := (K.mid'.turned hs hit').mid
  refine wpAny_bind (T.lets h' t' o' i v _ _ hit' ho' hv ?_)
  refine wpAny_bind (wpAny_mono (turn i v p h' l mu ((it, o') :: its) t' hv hN K' I _ fun _ x => x) (fun _ s₂ h₂ => wpAny_bind (wpAny_mono h₂ (fun ok s₃ h₃ => ?_) fun _ _ q => q.elim)) fun _ _ q => q.elim)
  cases ok with
  | false =>
   simp only [Bool.false_eq_true, if_false] at h₃
   obtain ⟨p', h'', l', mu', t'', rfl, K'', I'⟩ := h₃
   exact wpAny_pure ⟨rfl, N - (i + 1), by exact lnt fun q => lnq [_,_,_,_] [aE (tA Z0 (tQ Z1)) Z2,aG (tA Z3 Z1) Z2,aL Z3 Z0] rfl (sbC fun q => lnq [_,_] [aL (tQ Z0) (tQ Z1),aL (tQ Z1) Z0] rfl q hN) (sbC fun q => lnq [_,_] [aL (tQ Z0) Z1,aL (tQ Z1) Z0] rfl q hN) q, i + 1, p', h'', l', mu', t'', o', rfl, hN, rfl, K'', ho', I'⟩
  | true =>
   simp only [if_true] at h₃
   refine wpAny_bind (wpAny_mono h₃ (fun _ s₄ h₄ => ?_) fun _ _ q => q.elim)
   obtain ⟨p', h'', l', mu', t'', rfl, K'', I'⟩ := h₄
   exact wpAny_pure ⟨rfl, N - (i + 1), by exact lnt fun q => lnq [_,_,_,_] [aE (tA Z0 (tQ Z1)) Z2,aG (tA Z3 Z1) Z2,aL Z3 Z0] rfl (sbC fun q => lnq [_,_] [aL (tQ Z0) (tQ Z1),aL (tQ Z1) Z0] rfl q hN) (sbC fun q => lnq [_,_] [aL (tQ Z0) Z1,aL (tQ Z1) Z0] rfl q hN) q, i + 1, p', h'', l', mu', t'', o', rfl, hN, rfl, K'', ho', I'⟩
 ·have e : i = N := by exact lne (fun q => lnq [_,_] [aL (tQ Z0) Z1,aL Z1 Z0] rfl q hi) fun q => lnq [_,_] [aL (tQ Z0) Z1,aX (tQ Z0) Z1] rfl q hN
  subst e
  refine wpAny_bind (wpAny_standAt (wpAny_bind (T.fin h t o _ _ hit ho hsrc fun h' t' hs => ?_)))
  try dsimp only
  exact wpAny_pure (done p h' l mu t' (K.mid'.drop hn hs) I)
theorem comp_start {elt target iter : PySem.Expr} {ifs : List PySem.Expr} {rest : List Comprehension} {scope : Scope} {pos : Pos} {acc : Value} {R : Result → Shared → Prop} {it : Addr} {s : Shared}
  (self : ∀ (Q : Value → Shared → Prop) (E : Value → Shared → Prop), Q (.ref it) s → wpAny (model PR w) A (pyIter (.ref it)) Q E s)
  (H : codeAny (model PR w) A (.compLoop (.ListComp elt (⟨target, iter, ifs, 0⟩ :: rest) scope pos) 0 (.ref it) acc env) R s) : codeAny (model PR w) A (.compStart (.ListComp elt (⟨target, iter, ifs, 0⟩ :: rest) scope pos) 0 (.ref it) acc env) R s :=
 codeAny_compStart_list H (self _ _ H)
theorem comp_start1 {elt target iter t2 i2 : PySem.Expr} {ifs ifs2 : List PySem.Expr} {scope : Scope} {pos : Pos} {acc : Value} {R : Result → Shared → Prop} {it : Addr} {s : Shared}
  (self : ∀ (Q : Value → Shared → Prop) (E : Value → Shared → Prop), Q (.ref it) s → wpAny (model PR w) A (pyIter (.ref it)) Q E s)
  (H : codeAny (model PR w) A (.compLoop (.ListComp elt [⟨target, iter, ifs, 0⟩, ⟨t2, i2, ifs2, 0⟩] scope pos) 1 (.ref it) acc env) R s) : codeAny (model PR w) A (.compStart (.ListComp elt [⟨target, iter, ifs, 0⟩, ⟨t2, i2, ifs2, 0⟩] scope pos) 1 (.ref it) acc env) R s := by
 refine codeAny_of_tree ?_
 show wpAny _ A ((compStart (.ListComp elt [⟨target, iter, ifs, 0⟩, ⟨t2, i2, ifs2, 0⟩] scope pos) 1 (.ref it) acc env).onRaise (fun x => do noteFrame x env; standAt theWindowsPlace)) _ _ s
 refine wpAny_notedAt ?_
 unfold compStart
 show wpAny _ _ (ask >>= _) _ _ s
 refine wpAny_bind (wpAny_askSetting (wpAny_ite ?_))
 split
 ·first
   | exact wpAny_bind (wpAny_pure (wpAny_pure (And.intro rfl H)))
   | exact wpAny_pure (And.intro rfl H)
 ·first
   | exact wpAny_bind (wpAny_rule (wpAny_bind (wpAny_standAt (wpAny_bind (self _ _ (wpAny_pure (And.intro rfl H)))))))
   | (refine wpAny_bind (wpAny_rule ?_); show wpAny _ _ (standAt i2.pos >>= _) _ _ s; exact wpAny_bind (wpAny_standAt (wpAny_bind (self _ _ (wpAny_pure (And.intro rfl H))))))
end

section
variable {w : World} {A : Around} {E : Value → Shared → Prop} {g : Array GenState} {d : Drawn} {t : Nat} {os : OsState} {env : Env}
variable {p0 p : PH} {h0 h h' h1 : Heap} {X : List Addr} {L C : Addr} {l lc : AL} {mu its m1 m2 : Led}
noncomputable def compTail (w : World) (A : Around) (E : Value → Shared → Prop) (e : PySem.Expr) (scope : Scope) (cl : List (Str × Addr)) (env : Env) (use : Option (Value → Sem Unit)) (Q : Value → Shared → Prop) (it : Value) (s : Shared) : Prop :=
 wpAny (model PR w) A (newList []) (fun acc s₃ => wpAny (model PR w) A (newFunctionEnv scope env.globals cl [] env.qual none .none (some env)) (fun cenv s₄ =>
  codeAny (model PR w) A (.compStart e 0 it acc { cenv with scope := relabel scope env }) (compPost (model PR w) A E use Q acc cenv.locals) s₄) E s₃) E s
theorem comp_core {elt target iter : PySem.Expr} {ifs : List PySem.Expr} {rest : List Comprehension} {scope : Scope} {pos q : Pos} {cl : List (Str × Addr)} {step : Value → Env → Sem Unit} {use : Option (Value → Sem Unit)} {it : Addr} {o : Obj} {OK : Obj → Nat → Prop} {Src : Heap → Prop} {val : Nat → Value → Prop} {N : Nat} {Q : Value → Shared → Prop}
  (hcell : ∀ y ∈ scope.names, y.2 ≠ .cell) (hkind : scope.kind = .function)
  (heq : ∀ acc env', turnIs (.ListComp elt (⟨target, iter, ifs, 0⟩ :: rest) scope pos) target q ifs 0 (.ref it) acc env' (step acc env'))
  (self : ∀ (s : Shared) (Q : Value → Shared → Prop) (E : Value → Shared → Prop), s.heap.get? it = some o → Q (.ref it) s → wpAny (model PR w) A (pyIter (.ref it)) Q E s)
  (T : Its w A g d os target it OK Src val N) (Inv : Addr → Nat → PH → AL → Led → Prop) (K : W p0 h0 X L p h l (mu ++ (it, o) :: its)) (ho : OK o 0) (hn : h0.get? it = none)
  (I : ∀ D, h0.get? D = none → Inv D 0 p [] ((D, listOf ([] : List Value).toArray 0) :: mu))
  (src : ∀ D C i p h lc mu x its, W p0 h0 X C p h lc (mu ++ x :: its) → Inv D i p lc mu → Src h)
  (turn : ∀ D C i v p h lc mu its t, val i v → i < N → W p0 h0 X C p h lc (mu ++ its) → Inv D i p lc mu →
   ∀ Qt : Shared → Prop, ImS (fun s'' => X5 fun p' h' l' mu' t' => A3 (s'' = ⟨h', g, d, t', os⟩) (W p0 h0 X C p' h' l' (mu' ++ its)) (Inv D (i + 1) p' l' mu')) Qt →
   wpAny (model PR w) A (assign target (compEnvC scope cl C env) v) (fun _ s => wpAny (model PR w) A (tests ifs (compEnvC scope cl C env)) (fun ok s' =>
    if ok = true then wpAny (model PR w) A (step (.ref D) (compEnvC scope cl C env)) (fun _ s'' => Qt s'') (fun _ _ => False) s'
    else Qt s') (fun _ _ => False) s) (fun _ _ => False) ⟨h, g, d, t, os⟩)
  (done : ∀ D C oC p' h' lc mu' t', W p0 h0 X L p' h' l ((C, oC) :: (mu' ++ its)) → h'.Ns C (fun x => lc.lookup x) → h0.get? C = none → Inv D N p' lc mu' → compPost (model PR w) A E use Q (.ref D) C (.ok .next) ⟨h', g, d, t', os⟩) :
  compTail w A E (.ListComp elt (⟨target, iter, ifs, 0⟩ :: rest) scope pos) scope cl env use Q (.ref it) ⟨h, g, d, t, os⟩ := by
 unfold compTail
 refine nl K (by decide) fun D h2 hD K2 => ?_
 refine wpAny_newFunctionEnv hcell (by intro y hy; simp at hy) (fun h3 hns hsb => ?_) hkind
 have hC : h2.get? h2.objs.size = none := size_none h2
 have kp : ∀ b o, h2.get? b = some o → h3.get? b = some o := fun b o e => hsb.extBut b o (Nat.ne_of_lt (Heap.lt_size e)) (Heap.get?_push_of_some _ e)
 obtain ⟨oL, hoL, K3⟩ := K2.enter (lc := []) kp hC hns
 have K4 : W p0 h0 X h2.objs.size p h3 [] (((D, listOf ([] : List Value).toArray 0) :: mu) ++ (it, o) :: ((L, oL) :: its)) := by
  have e : ((D, listOf ([] : List Value).toArray 0) :: mu) ++ (it, o) :: ((L, oL) :: its) = ((D, listOf ([] : List Value).toArray 0) :: mu ++ [(it, o)]) ++ (L, oL) :: its := by simp
  rw [e]
  refine W.mid ?_
  have e2 : ((D, listOf ([] : List Value).toArray 0) :: mu ++ [(it, o)]) ++ its = (D, listOf ([] : List Value).toArray 0) :: (mu ++ (it, o) :: its) := by simp
  rw [e2]; exact K3
 have nL : h3.Ns L (fun x => l.lookup x) := (K2.grow kp).fr
 refine comp_start (env := compEnvC scope cl h2.objs.size env) (fun Q E hq => self _ Q E ((K4.own (it, o) (by simp)).1) hq) ?_
 refine comp_loop (env := compEnvC scope cl h2.objs.size env) (heq _ _) T (Inv D) K4 ho hn (I D hD) (fun i p h l mu x K I => src D _ i p h l mu x _ K I) (fun i v p h l mu its t hv hi K I => turn D _ i v p h l mu its t hv hi K I) fun p' h' lc mu' t' K I => ?_
 obtain ⟨oC, hoC, h0C, K5⟩ := K.leave nL hoL K2.hL
 exact done D _ oC p' h' lc mu' t' K5 K.fr h0C I
theorem comp_val {Q : Value → Shared → Prop} {D C : Addr} {oC : Obj} {t' : Nat} (K : W p0 h0 X L p h' l ((C, oC) :: mu)) (n : h'.Ns C (fun x => lc.lookup x)) (hC : h0.get? C = none)
  (q : ∀ h'', W p0 h0 X L p h'' l mu → Q (.ref D) ⟨h'', g, d, t', os⟩) : compPost (model PR w) A E none Q (.ref D) C (.ok .next) ⟨h', g, d, t', os⟩ :=
 ⟨_, n, fun h'' hs => q h'' (K.drop hC fun b x nb e => (hs.2 b nb).trans e)⟩
theorem comp_use {y : Str} {py : Pos} {Q : Value → Shared → Prop} {D C : Addr} {oC : Obj} {t' : Nat} (K : W p0 h0 X L p h' l ((C, oC) :: mu)) (n : h'.Ns C (fun x => lc.lookup x)) (hC : h0.get? C = none)
  (hl : env.kindOf y = some .local) (hk : env.scope.kind = .function) (he : env.locals = L)
  (q : ∀ h'' t'', W p0 h0 X L p h'' ((y, .ref D) :: l) mu → Q .none ⟨h'', g, d, t'', os⟩) : compPost (model PR w) A E (some (assign (.Name y py) env)) Q (.ref D) C (.ok .next) ⟨h', g, d, t', os⟩ := by
 show wpAny _ _ (assign (.Name y py) env (.ref D)) _ _ _
 refine wpAny_assign_Name ?_
 refine st K hl hk he fun h6 t6 K6 => ?_
 have hoC := (K.own (C, oC) (List.mem_cons_self ..)).1
 have hoC6 := (K6.own (C, oC) (List.mem_cons_self ..)).1
 refine ⟨fun x => lc.lookup x, Ns_keep n fun o e => ?_, fun h7 hs => q h7 t6 (K6.drop hC fun b x nb e => (hs.2 b nb).trans e)⟩
 rw [hoC] at e; cases e; exact hoC6
theorem comp_eval {elt target iter : PySem.Expr} {ifs : List PySem.Expr} {rest : List Comprehension} {scope : Scope} {pos : Pos} {cl : List (Str × Addr)} {Q : Value → Shared → Prop} {s : Shared}
  (hclos : closureFor scope env = pure cl) (hs : ∀ x, foldedSetIterable iter env x = pure x) (hkind : scope.kind = .function) (hnames : ∀ y ∈ scope.names, y.2 = .local → scope.names.lookup y.1 = some .local)
  (h : wpAny (model PR w) A (eval iter env) (fun xv s₁ => wpAny (model PR w) A (pyIter xv) (fun it s₂ => compTail w A E (.ListComp elt (⟨target, iter, ifs, 0⟩ :: rest) scope pos) scope cl env none Q it s₂) E s₁) E s) :
  wpAny (model PR w) A (eval (.ListComp elt (⟨target, iter, ifs, 0⟩ :: rest) scope pos) env) Q E s := by
 rw [eval_ListComp]
 exact wpAny_comprehension_free (use := none) rfl hs hclos hkind hnames h
theorem comp_asg {elt target iter : PySem.Expr} {ifs : List PySem.Expr} {rest : List Comprehension} {scope : Scope} {pos spos py : Pos} {y : Str} {cl : List (Str × Addr)} {Q : Flow → Shared → Prop} {s : Shared}
  (hsw : swapsWith (.ListComp elt (⟨target, iter, ifs, 0⟩ :: rest) scope pos) (some (.Name y py)) spos.line env = pure true)
  (hclos : closureFor scope env = pure cl) (hs : ∀ x, foldedSetIterable iter env x = pure x) (hkind : scope.kind = .function) (hnames : ∀ y ∈ scope.names, y.2 = .local → scope.names.lookup y.1 = some .local)
  (h : wpAny (model PR w) A (eval iter env) (fun xv s₁ => wpAny (model PR w) A (pyIter xv) (fun it s₂ => compTail w A E (.ListComp elt (⟨target, iter, ifs, 0⟩ :: rest) scope pos) scope cl env (some (assign (.Name y py) env)) (fun _ s' => Q .next s') it s₂) E s₁) E s) :
  wpAny (model PR w) A (exec (.Assign [.Name y py] (.ListComp elt (⟨target, iter, ifs, 0⟩ :: rest) scope pos) spos) env) Q E s := by
 rw [exec_Assign_Name_used _ _ _ _ hsw]
 refine wpAny_bind (wpAny_standAt (wpAny_bind ?_))
 show wpAny _ A (do let _ ← comprehension (.ListComp elt (⟨target, iter, ifs, 0⟩ :: rest) scope pos) scope env _ (newList []) false (eval iter env) (some (assign (.Name y py) env))) _ _ s
 exact wpAny_bind (wpAny_mono (wpAny_comprehension_free (use := some (assign (.Name y py) env)) (Q := fun _ s' => Q .next s') rfl hs hclos hkind hnames h) (fun _ s' hq => wpAny_pure (wpAny_pure hq)) fun _ _ e => e)
theorem self_list {it a : Addr} {o : Obj} (h : listItO a o 0) : ∀ (s : Shared) (Q : Value → Shared → Prop) (E : Value → Shared → Prop), s.heap.get? it = some o → Q (.ref it) s → wpAny (model PR w) A (pyIter (.ref it)) Q E s :=
 fun _ _ _ e q => wpAny_pyIter_listiter (l := a) (i := 0) ⟨o, e, h.1, h.2⟩ q
theorem self_tup {it a : Addr} {o : Obj} (h : tupItO a o 0) : ∀ (s : Shared) (Q : Value → Shared → Prop) (E : Value → Shared → Prop), s.heap.get? it = some o → Q (.ref it) s → wpAny (model PR w) A (pyIter (.ref it)) Q E s :=
 fun _ _ _ e q => wpAny_pyIter_tupleiter (t := a) (i := 0) ⟨o, e, h.1, h.2⟩ q
theorem self_rg {it : Addr} {o : Obj} {n : Nat} (h : rgItO n o 0) : ∀ (s : Shared) (Q : Value → Shared → Prop) (E : Value → Shared → Prop), s.heap.get? it = some o → Q (.ref it) s → wpAny (model PR w) A (pyIter (.ref it)) Q E s :=
 fun _ _ _ e q => by rw [h] at e; exact wpAny_pyIter_rangeiter e q
noncomputable def strItO (x : Str) (t : Tok) (o : Obj) (i : Nat) : Prop := o.cls = .type "str_ascii_iterator" ∧ o.data = .fields #[.str x t, .int i 0]
theorem self_str {it : Addr} {o : Obj} {x : Str} {u : Tok} (h : strItO x u o 0) : ∀ (s : Shared) (Q : Value → Shared → Prop) (E : Value → Shared → Prop), s.heap.get? it = some o → Q (.ref it) s → wpAny (model PR w) A (pyIter (.ref it)) Q E s :=
 fun _ _ _ e q => wpAny_pyIter_striter_ascii (x := x) (t := u) (i := 0) ⟨o, e, h.1, h.2⟩ q
theorem its_str {target : PySem.Expr} (hh : A.handled = none) (ht : isName target = true) (it : Addr) (x : Str) (u : Tok) :
  Its w A g d os target it (strItO x u) (fun _ => True) (fun i v => ∃ c u, x.cps[i]? = some c ∧ v = .str ⟨#[c]⟩ u) x.cps.size where
 item := fun h t o i Q E e ok src hN k => by
  refine wpAny_pyNext_ascii_item (s := ⟨h, g, d, t, os⟩) (it := it) (x := x) (t := u) (i := i) (c := x.cps[i]) ⟨o, e, ok.1, ok.2⟩ (by simp [hN]) fun h' hi hs => ?_
  obtain ⟨o', e', c', d'⟩ := hi
  exact k _ h' o' _ ⟨_, _, by simp [hN], rfl⟩ e' ⟨c', d'⟩ fun b x nb q => (hs.2 b nb).trans q
 fin := fun h t o Q E e ok src k => by
  refine wpAny_pyNext_ascii_end (s := ⟨h, g, d, t, os⟩) (it := it) (x := x) (t := u) (i := x.cps.size) hh ⟨o, e, ok.1, ok.2⟩ (by simp) fun h' hs => ?_
  exact k h' t fun b x nb q => hs b x nb q
 lets := fun h t o i v Q E e ok hv q => by
  cases target <;> first | exact wpAny_pure q | cases ht
end

section
variable {w : World} {A : Around} {E : Value → Shared → Prop} {g : Array GenState} {d : Drawn} {t : Nat} {os : OsState} {env : Env}
variable {p0 p : PH} {h0 h h' h1 : Heap} {X : List Addr} {L C : Addr} {l lc : AL} {mu its m1 m2 : Led}
theorem cl_list {elt target iter : PySem.Expr} {ifs : List PySem.Expr} {rest : List Comprehension} {scope : Scope} {pos q : Pos} {cl : List (Str × Addr)} {step : Value → Env → Sem Unit} {use : Option (Value → Sem Unit)} {Q : Value → Shared → Prop} {a : Addr} {vs : List Value}
  (ht : isName target = true ∨ ∃ es x1 pos, target = .Tuple es x1 pos) (href : isName target = true ∨ ∀ v ∈ vs, ∃ b, v = .ref b) {m : Nat} (sr0 : h.get? a = some (listOf vs.toArray m))
  (heq : ∀ it acc env', turnIs (.ListComp elt (⟨target, iter, ifs, 0⟩ :: rest) scope pos) target q ifs 0 it acc env' (step acc env'))
  (hcell : ∀ y ∈ scope.names, y.2 ≠ .cell) (hkind : scope.kind = .function) (hh : A.handled = none)
  (Inv : Addr → Nat → PH → AL → Led → Prop) (K : W p0 h0 X L p h l (mu ++ its))
  (I : ∀ D, h0.get? D = none → Inv D 0 p [] ((D, listOf ([] : List Value).toArray 0) :: mu))
  (src : ∀ D C i p h lc mu its, W p0 h0 X C p h lc (mu ++ its) → Inv D i p lc mu → ∃ m, h.get? a = some (listOf vs.toArray m))
  (turn : ∀ D C i v p h lc mu its t, vs[i]? = some v → i < vs.length → W p0 h0 X C p h lc (mu ++ its) → Inv D i p lc mu →
   ∀ Qt : Shared → Prop, ImS (fun s'' => X5 fun p' h' l' mu' t' => A3 (s'' = ⟨h', g, d, t', os⟩) (W p0 h0 X C p' h' l' (mu' ++ its)) (Inv D (i + 1) p' l' mu')) Qt →
   wpAny (model PR w) A (assign target (compEnvC scope cl C env) v) (fun _ s => wpAny (model PR w) A (tests ifs (compEnvC scope cl C env)) (fun ok s' =>
    if ok = true then wpAny (model PR w) A (step (.ref D) (compEnvC scope cl C env)) (fun _ s'' => Qt s'') (fun _ _ => False) s'
    else Qt s') (fun _ _ => False) s) (fun _ _ => False) ⟨h, g, d, t, os⟩)
  (done : ∀ D C oC p' h' lc mu' t', W p0 h0 X L p' h' l ((C, oC) :: (mu' ++ its)) → h'.Ns C (fun x => lc.lookup x) → h0.get? C = none → Inv D vs.length p' lc mu' → compPost (model PR w) A E use Q (.ref D) C (.ok .next) ⟨h', g, d, t', os⟩) :
  wpAny (model PR w) A (pyIter (.ref a)) (fun it s₂ => compTail w A E (.ListComp elt (⟨target, iter, ifs, 0⟩ :: rest) scope pos) scope cl env use Q it s₂) E ⟨h, g, d, t, os⟩ := by
 refine wpAny_pyIter_list (s := ⟨h, g, d, t, os⟩) (items := vs.toArray) ⟨_, sr0, rfl, _, rfl⟩ ?_
 exact comp_core hcell hkind (heq _) (self_list (a := a) ⟨rfl, rfl⟩) (its_list hh ht h.objs.size a vs href) Inv (K.push { cls := .type "list_iterator", data := .fields #[.ref a, .int 0 0] } rfl).mid ⟨rfl, rfl⟩ K.new_none I (fun D C i p h lc mu x its K I => src D C i p h lc mu (x :: its) K I) turn done
theorem cl_tup {elt target iter : PySem.Expr} {ifs : List PySem.Expr} {rest : List Comprehension} {scope : Scope} {pos q : Pos} {cl : List (Str × Addr)} {step : Value → Env → Sem Unit} {use : Option (Value → Sem Unit)} {Q : Value → Shared → Prop} {a : Addr} {vs : List Value}
  (ht : isName target = true) {m : Nat} (sr0 : h.get? a = some (tupOf vs.toArray m))
  (heq : ∀ it acc env', turnIs (.ListComp elt (⟨target, iter, ifs, 0⟩ :: rest) scope pos) target q ifs 0 it acc env' (step acc env'))
  (hcell : ∀ y ∈ scope.names, y.2 ≠ .cell) (hkind : scope.kind = .function) (hh : A.handled = none)
  (Inv : Addr → Nat → PH → AL → Led → Prop) (K : W p0 h0 X L p h l (mu ++ its))
  (I : ∀ D, h0.get? D = none → Inv D 0 p [] ((D, listOf ([] : List Value).toArray 0) :: mu))
  (src : ∀ D C i p h lc mu its, W p0 h0 X C p h lc (mu ++ its) → Inv D i p lc mu → ∃ m, h.get? a = some (tupOf vs.toArray m))
  (turn : ∀ D C i v p h lc mu its t, vs[i]? = some v → i < vs.length → W p0 h0 X C p h lc (mu ++ its) → Inv D i p lc mu →
   ∀ Qt : Shared → Prop, ImS (fun s'' => X5 fun p' h' l' mu' t' => A3 (s'' = ⟨h', g, d, t', os⟩) (W p0 h0 X C p' h' l' (mu' ++ its)) (Inv D (i + 1) p' l' mu')) Qt →
   wpAny (model PR w) A (assign target (compEnvC scope cl C env) v) (fun _ s => wpAny (model PR w) A (tests ifs (compEnvC scope cl C env)) (fun ok s' =>
    if ok = true then wpAny (model PR w) A (step (.ref D) (compEnvC scope cl C env)) (fun _ s'' => Qt s'') (fun _ _ => False) s'
    else Qt s') (fun _ _ => False) s) (fun _ _ => False) ⟨h, g, d, t, os⟩)
  (done : ∀ D C oC p' h' lc mu' t', W p0 h0 X L p' h' l ((C, oC) :: (mu' ++ its)) → h'.Ns C (fun x => lc.lookup x) → h0.get? C = none → Inv D vs.length p' lc mu' → compPost (model PR w) A E use Q (.ref D) C (.ok .next) ⟨h', g, d, t', os⟩) :
  wpAny (model PR w) A (pyIter (.ref a)) (fun it s₂ => compTail w A E (.ListComp elt (⟨target, iter, ifs, 0⟩ :: rest) scope pos) scope cl env use Q it s₂) E ⟨h, g, d, t, os⟩ := by
 refine wpAny_pyIter_tuple (s := ⟨h, g, d, t, os⟩) (items := vs.toArray) ⟨_, sr0, rfl, _, rfl⟩ ?_
 exact comp_core hcell hkind (heq _) (self_tup (a := a) ⟨rfl, rfl⟩) (its_tup hh ht h.objs.size a vs) Inv (K.push { cls := .type "tuple_iterator", data := .fields #[.ref a, .int 0 0] } rfl).mid ⟨rfl, rfl⟩ K.new_none I (fun D C i p h lc mu x its K I => src D C i p h lc mu (x :: its) K I) turn done
theorem cl_rg {elt target iter : PySem.Expr} {ifs : List PySem.Expr} {rest : List Comprehension} {scope : Scope} {pos q : Pos} {cl : List (Str × Addr)} {step : Value → Env → Sem Unit} {use : Option (Value → Sem Unit)} {Q : Value → Shared → Prop} {r : Addr} {n a b c : Nat}
  (ht : isName target = true) (hr : h.get? r = some (rgObj n a b c)) (hn : n < 2 ^ 62)
  (heq : ∀ it acc env', turnIs (.ListComp elt (⟨target, iter, ifs, 0⟩ :: rest) scope pos) target q ifs 0 it acc env' (step acc env'))
  (hcell : ∀ y ∈ scope.names, y.2 ≠ .cell) (hkind : scope.kind = .function) (hh : A.handled = none)
  (Inv : Addr → Nat → PH → AL → Led → Prop) (K : W p0 h0 X L p h l (mu ++ its))
  (I : ∀ D, h0.get? D = none → Inv D 0 p [] ((D, listOf ([] : List Value).toArray 0) :: mu))
  (turn : ∀ D C i v p h lc mu its t, (∃ u, v = .int (i : Nat) u) → i < n → W p0 h0 X C p h lc (mu ++ its) → Inv D i p lc mu →
   ∀ Qt : Shared → Prop, ImS (fun s'' => X5 fun p' h' l' mu' t' => A3 (s'' = ⟨h', g, d, t', os⟩) (W p0 h0 X C p' h' l' (mu' ++ its)) (Inv D (i + 1) p' l' mu')) Qt →
   wpAny (model PR w) A (assign target (compEnvC scope cl C env) v) (fun _ s => wpAny (model PR w) A (tests ifs (compEnvC scope cl C env)) (fun ok s' =>
    if ok = true then wpAny (model PR w) A (step (.ref D) (compEnvC scope cl C env)) (fun _ s'' => Qt s'') (fun _ _ => False) s'
    else Qt s') (fun _ _ => False) s) (fun _ _ => False) ⟨h, g, d, t, os⟩)
  (done : ∀ D C oC p' h' lc mu' t', W p0 h0 X L p' h' l ((C, oC) :: (mu' ++ its)) → h'.Ns C (fun x => lc.lookup x) → h0.get? C = none → Inv D n p' lc mu' → compPost (model PR w) A E use Q (.ref D) C (.ok .next) ⟨h', g, d, t', os⟩) :
  wpAny (model PR w) A (pyIter (.ref r)) (fun it s₂ => compTail w A E (.ListComp elt (⟨target, iter, ifs, 0⟩ :: rest) scope pos) scope cl env use Q it s₂) E ⟨h, g, d, t, os⟩ := by
 refine wpAny_pyIter_range (s := ⟨h, g, d, t, os⟩) hr (small_one (by decide) (by decide) (by exact ing (by decide)) (by exact Int.ofNat_lt.mpr (lnt fun q => lnq [_] [aL (tN 4611686018427387904) Z0,aL (tQ Z0) (tN 4611686018427387904)] rfl q hn))) ?_
 rw [rangeSize_one, show (if (0 : Int) < n then (n : Int) - 0 else 0) = n by split <;> omega]
 have ok0 : rgItO n { cls := .type "range_iterator", data := .fields #[rawInt 0, rawInt n, rawInt 1] } 0 := by unfold rgItO; congr 4
 exact comp_core hcell hkind (heq _) (self_rg ok0) (its_rg hh ht h.objs.size n) Inv (K.push { cls := .type "range_iterator", data := .fields #[rawInt 0, rawInt n, rawInt 1] } rfl).mid ok0 K.new_none I (fun _ _ _ _ _ _ _ _ _ _ _ => trivial) turn done
theorem cl_str {elt target iter : PySem.Expr} {ifs : List PySem.Expr} {rest : List Comprehension} {scope : Scope} {pos q : Pos} {cl : List (Str × Addr)} {step : Value → Env → Sem Unit} {use : Option (Value → Sem Unit)} {Q : Value → Shared → Prop} {x : Str} {u : Tok}
  (ht : isName target = true) (ha : x.cps.all (· < 128) = true)
  (heq : ∀ it acc env', turnIs (.ListComp elt (⟨target, iter, ifs, 0⟩ :: rest) scope pos) target q ifs 0 it acc env' (step acc env'))
  (hcell : ∀ y ∈ scope.names, y.2 ≠ .cell) (hkind : scope.kind = .function) (hh : A.handled = none)
  (Inv : Addr → Nat → PH → AL → Led → Prop) (K : W p0 h0 X L p h l (mu ++ its))
  (I : ∀ D, h0.get? D = none → Inv D 0 p [] ((D, listOf ([] : List Value).toArray 0) :: mu))
  (turn : ∀ D C i v p h lc mu its t, (∃ c u, x.cps[i]? = some c ∧ v = .str ⟨#[c]⟩ u) → i < x.cps.size → W p0 h0 X C p h lc (mu ++ its) → Inv D i p lc mu →
   ∀ Qt : Shared → Prop, ImS (fun s'' => X5 fun p' h' l' mu' t' => A3 (s'' = ⟨h', g, d, t', os⟩) (W p0 h0 X C p' h' l' (mu' ++ its)) (Inv D (i + 1) p' l' mu')) Qt →
   wpAny (model PR w) A (assign target (compEnvC scope cl C env) v) (fun _ s => wpAny (model PR w) A (tests ifs (compEnvC scope cl C env)) (fun ok s' =>
    if ok = true then wpAny (model PR w) A (step (.ref D) (compEnvC scope cl C env)) (fun _ s'' => Qt s'') (fun _ _ => False) s'
    else Qt s') (fun _ _ => False) s) (fun _ _ => False) ⟨h, g, d, t, os⟩)
  (done : ∀ D C oC p' h' lc mu' t', W p0 h0 X L p' h' l ((C, oC) :: (mu' ++ its)) → h'.Ns C (fun x => lc.lookup x) → h0.get? C = none → Inv D x.cps.size p' lc mu' → compPost (model PR w) A E use Q (.ref D) C (.ok .next) ⟨h', g, d, t', os⟩) :
  wpAny (model PR w) A (pyIter (.str x u)) (fun it s₂ => compTail w A E (.ListComp elt (⟨target, iter, ifs, 0⟩ :: rest) scope pos) scope cl env use Q it s₂) E ⟨h, g, d, t, os⟩ := by
 refine wpAny_pyIter_ascii (s := ⟨h, g, d, t, os⟩) ha ?_
 exact comp_core hcell hkind (heq _) (self_str (x := x) (u := u) ⟨rfl, rfl⟩) (its_str hh ht h.objs.size x u) Inv (K.push { cls := .type "str_ascii_iterator", data := .fields #[.str x u, .int 0 0] } rfl).mid ⟨rfl, rfl⟩ K.new_none I (fun _ _ _ _ _ _ _ _ _ _ _ => trivial) turn done
theorem ci_list {elt target iter t2 i2 : PySem.Expr} {ifs ifs2 : List PySem.Expr} {scope : Scope} {pos : Pos} {acc : Value} {Q : Unit → Shared → Prop} {a : Addr} {vs : List Value}
  (ht : isName t2 = true) (hh : A.handled = none) (Inv : Nat → PH → AL → Led → Prop) (K : W p0 h0 X L p h l (mu ++ its)) (I : Inv 0 p l mu) {m : Nat} (sr0 : h.get? a = some (listOf vs.toArray m))
  (src : ∀ i p h l mu its, W p0 h0 X L p h l (mu ++ its) → Inv i p l mu → ∃ m, h.get? a = some (listOf vs.toArray m))
  (turn : ∀ i v p h l mu its t, vs[i]? = some v → i < vs.length → W p0 h0 X L p h l (mu ++ its) → Inv i p l mu →
   ∀ Qt : Shared → Prop, ImS (fun s'' => X5 fun p' h' l' mu' t' => A3 (s'' = ⟨h', g, d, t', os⟩) (W p0 h0 X L p' h' l' (mu' ++ its)) (Inv (i + 1) p' l' mu')) Qt →
   wpAny (model PR w) A (assign t2 env v) (fun _ s => wpAny (model PR w) A (tests ifs2 env) (fun ok s' =>
    if ok = true then wpAny (model PR w) A (emit elt acc env) (fun _ s'' => Qt s'') (fun _ _ => False) s'
    else Qt s') (fun _ _ => False) s) (fun _ _ => False) ⟨h, g, d, t, os⟩)
  (done : ∀ p h l mu t, W p0 h0 X L p h l (mu ++ its) → Inv vs.length p l mu → Q () ⟨h, g, d, t, os⟩) :
  wpAny (model PR w) A (pyIter (.ref a)) (fun it s => codeAny (model PR w) A (.compStart (.ListComp elt [⟨target, iter, ifs, 0⟩, ⟨t2, i2, ifs2, 0⟩] scope pos) 1 it acc env) (fun r s' => (∃ f, r = .ok f) ∧ Q () s') s) E ⟨h, g, d, t, os⟩ := by
 refine wpAny_pyIter_list (s := ⟨h, g, d, t, os⟩) (items := vs.toArray) ⟨_, sr0, rfl, _, rfl⟩ ?_
 have K1 := (K.push { cls := .type "list_iterator", data := .fields #[.ref a, .int 0 0] } rfl).mid
 refine comp_start1 (fun Q E hq => self_list (a := a) (o := { cls := .type "list_iterator", data := .fields #[.ref a, .int 0 0] }) ⟨rfl, rfl⟩ _ Q E (K1.own (h.objs.size, { cls := .type "list_iterator", data := .fields #[.ref a, .int 0 0] }) (by simp)).1 hq) ?_
 exact comp_loop (turn2b ..) (its_list hh (.inl ht) h.objs.size a vs (.inl ht)) Inv K1 ⟨rfl, rfl⟩ K.new_none I (fun i p h l mu x K I => src i p h l mu (x :: its) K I) turn fun p h l mu t K I => ⟨⟨_, rfl⟩, done p h l mu t K I⟩
theorem ci_tup {elt target iter t2 i2 : PySem.Expr} {ifs ifs2 : List PySem.Expr} {scope : Scope} {pos : Pos} {acc : Value} {Q : Unit → Shared → Prop} {a : Addr} {vs : List Value}
  (ht : isName t2 = true) (hh : A.handled = none) (Inv : Nat → PH → AL → Led → Prop) (K : W p0 h0 X L p h l (mu ++ its)) (I : Inv 0 p l mu) {m : Nat} (sr0 : h.get? a = some (tupOf vs.toArray m))
  (src : ∀ i p h l mu its, W p0 h0 X L p h l (mu ++ its) → Inv i p l mu → ∃ m, h.get? a = some (tupOf vs.toArray m))
  (turn : ∀ i v p h l mu its t, vs[i]? = some v → i < vs.length → W p0 h0 X L p h l (mu ++ its) → Inv i p l mu →
   ∀ Qt : Shared → Prop, ImS (fun s'' => X5 fun p' h' l' mu' t' => A3 (s'' = ⟨h', g, d, t', os⟩) (W p0 h0 X L p' h' l' (mu' ++ its)) (Inv (i + 1) p' l' mu')) Qt →
   wpAny (model PR w) A (assign t2 env v) (fun _ s => wpAny (model PR w) A (tests ifs2 env) (fun ok s' =>
    if ok = true then wpAny (model PR w) A (emit elt acc env) (fun _ s'' => Qt s'') (fun _ _ => False) s'
    else Qt s') (fun _ _ => False) s) (fun _ _ => False) ⟨h, g, d, t, os⟩)
  (done : ∀ p h l mu t, W p0 h0 X L p h l (mu ++ its) → Inv vs.length p l mu → Q () ⟨h, g, d, t, os⟩) :
  wpAny (model PR w) A (pyIter (.ref a)) (fun it s => codeAny (model PR w) A (.compStart (.ListComp elt [⟨target, iter, ifs, 0⟩, ⟨t2, i2, ifs2, 0⟩] scope pos) 1 it acc env) (fun r s' => (∃ f, r = .ok f) ∧ Q () s') s) E ⟨h, g, d, t, os⟩ := by
 refine wpAny_pyIter_tuple (s := ⟨h, g, d, t, os⟩) (items := vs.toArray) ⟨_, sr0, rfl, _, rfl⟩ ?_
 have K1 := (K.push { cls := .type "tuple_iterator", data := .fields #[.ref a, .int 0 0] } rfl).mid
 refine comp_start1 (fun Q E hq => self_tup (a := a) (o := { cls := .type "tuple_iterator", data := .fields #[.ref a, .int 0 0] }) ⟨rfl, rfl⟩ _ Q E (K1.own (h.objs.size, { cls := .type "tuple_iterator", data := .fields #[.ref a, .int 0 0] }) (by simp)).1 hq) ?_
 exact comp_loop (turn2b ..) (its_tup hh ht h.objs.size a vs) Inv K1 ⟨rfl, rfl⟩ K.new_none I (fun i p h l mu x K I => src i p h l mu (x :: its) K I) turn fun p h l mu t K I => ⟨⟨_, rfl⟩, done p h l mu t K I⟩
end

theorem bindL_fn (kindOf : Str → Option NameKind) : ∀ (binds : List (Str × Value)) (l0 : AL), bindL kindOf binds (fun x => l0.lookup x) = fun x => (((binds.filter fun b => kindOf b.1 == some .local).reverse) ++ l0).lookup x
 | [], l0 => rfl
 | (n, v) :: r, l0 => by
  unfold bindL
  by_cases e : kindOf n = some .local
  ·rw [if_pos e, ← lookup_cons_fn, bindL_fn kindOf r ((n, v) :: l0)]
   have : (kindOf n == some .local) = true := by simp [e]
   rw [List.filter_cons, if_pos this, List.reverse_cons]; simp
  ·rw [if_neg e, bindL_fn kindOf r l0]
   have : ¬ (kindOf n == some .local) = true := by simp [e]
   rw [List.filter_cons, if_neg this]
theorem bindC_fn (kindOf : Str → Option NameKind) : ∀ (binds : List (Str × Value)) (l0 : AL), bindC kindOf binds (fun x => l0.lookup x) = fun x => (((binds.filter fun b => kindOf b.1 != some .local).reverse) ++ l0).lookup x
 | [], l0 => rfl
 | (n, v) :: r, l0 => by
  unfold bindC
  by_cases e : kindOf n = some .local
  ·rw [if_pos e, bindC_fn kindOf r l0]
   have : ¬ (kindOf n != some .local) = true := by simp [e]
   rw [List.filter_cons, if_neg this]
  ·rw [if_neg e, ← lookup_cons_fn, bindC_fn kindOf r ((n, v) :: l0)]
   have : (kindOf n != some .local) = true := by simp [e]
   rw [List.filter_cons, if_pos this, List.reverse_cons]; simp
section
variable {w : World} {A : Around} {E : Value → Shared → Prop} {g : Array GenState} {d : Drawn} {t : Nat} {os : OsState} {env : Env}
variable {p0 p : PH} {h0 h h' : Heap} {X : List Addr} {L : Addr} {l : AL} {mu m1 m2 : Led}
theorem W.cell {c : Addr} {v : Option Value} (K : W p0 h0 X L p h l mu) (e : h.IsCell c v) (hp : p c = none) (hL : c ≠ L) (hm : ∀ q ∈ mu, q.1 ≠ c) (h0n : h0.get? c = none) : ∃ o : Obj, o.data = .cell v ∧ W p0 h0 X L p h l ((c, o) :: mu) :=
 let ⟨o, ho, hd⟩ := e; ⟨o, hd, K.adopt ho hp hL hm h0n⟩
theorem ldC {x : Str} {pos : Pos} {c : Addr} {o : Obj} {v : Value} {Q : Value → Shared → Prop} (ho : h.get? c = some o) (hv : o.data = .cell (some v)) (hl : env.kindOf x = some .cell) (hk : env.scope.kind = .function) (hc : env.cells.lookup x = some c)
  (hd : (x == ("__debug__" : Str)) = false) (q : Q v ⟨h, g, d, t, os⟩) : wpAny (model PR w) A (eval (.Name x pos) env) Q E ⟨h, g, d, t, os⟩ :=
 wpAny_Name (wpAny_loadName_cell hk hl hc ⟨o, ho, hv⟩ q) hd
theorem stC {x : Str} {c : Addr} {o : Obj} {v₀ : Option Value} {v : Value} {Q : Unit → Shared → Prop} (K : W p0 h0 X L p h l (m1 ++ (c, o) :: m2)) (hv : o.data = .cell v₀) (hl : env.kindOf x = some .cell) (hk : env.scope.kind = .function) (hc : env.cells.lookup x = some c)
  (q : ∀ h' o', o'.data = .cell (some v) → W p0 h0 X L p h' l (m1 ++ (c, o') :: m2) → Q () ⟨h', g, d, t, os⟩) : wpAny (model PR w) A (storeName env x v) Q E ⟨h, g, d, t, os⟩ := by
 refine wpAny_storeName_cell hk hl hc (s := ⟨h, g, d, t, os⟩) ⟨o, K.get (by simp), hv⟩ fun h' hc' hs => ?_
 obtain ⟨o', ho', hd'⟩ := hc'
 exact q h' o' hd' ((K.mid'.turned (fun b x nb e => (hs.2 b nb).trans e) ho').mid)
end
section
variable {w : World} {A : Around} {g : Array GenState} {d : Drawn} {t : Nat} {os : OsState} {p : PH} {h : Heap} {mu : Led} {R : Result → Shared → Prop}
theorem call_fnC {f : Addr} {fd : FD} {q : Str} {pm cdv : Value} {args : List Value} (binds : List (Str × Value)) (l : AL) {n : Nat}
  (ho : (KF w.params).lookup f = some (fO fd q .none pm cdv)) (hcd : codeIn (KF w.params) cdv q = true)
  (G : Grd w p) (H : Holds p h) (r : Rm A (n + 1)) (hm : ∀ x ∈ mu, h.get? x.1 = some x.2 ∧ p x.1 = none) (hnd : (mu.map (·.1)).Nodup)
  (hbind : bindArgs (fnOf fd.name q fd.params fd.body fd.scope .none .none .none pm none cdv .none) ⟨args, []⟩ = pure binds)
  (hl : (binds.filter fun b => fd.scope.names.lookup b.1 == some .local).reverse = l)
  (hkind : ∀ L, (binds.all fun x => fd.scope.names.lookup x.1 == some .local || (fd.scope.names.lookup x.1 == some .cell && ((cellsFrom (L + 1) fd.scope.names []).lookup x.1).isSome)) = true)
  (hco : fd.scope.isCoroutine = false) (hgen : fd.scope.isGenerator = false) (hk : fd.scope.kind = .function)
  (B : ∀ L h₁ t', (∀ a, L ≤ a → h.get? a = none) → W p h (mu.map (·.1)) L p h₁ l mu →
   (∀ n c, (cellsFrom (L + 1) fd.scope.names []).lookup n = some c → h₁.IsCell c ((binds.filter fun b => fd.scope.names.lookup b.1 != some .local).reverse.lookup n)) →
   wpAny (model PR w) (A.deeper (callEnvC (fnOf fd.name q fd.params fd.body fd.scope .none .none .none pm none cdv .none) L f)) (execs fd.body (callEnvC (fnOf fd.name q fd.params fd.body fd.scope .none .none .none pm none cdv .none) L f))
    (fun fl s' => R (.ok (.ret (match fl with | .ret v => v | _ => .none))) s') (fun _ _ => False) ⟨h₁, g, d, t', os⟩) :
  codeAny (model PR w) A (.call (.ref f) ⟨args, []⟩) R ⟨h, g, d, t, os⟩ := by
 have KI := G.inn H
 refine codeAny_call_cells (fd := fnOf fd.name q fd.params fd.body fd.scope .none .none .none pm none cdv .none) (body := fd.body) (binds := binds) r.depth (KI _ _ ho) rfl (G.lim H) (codeRec_of KI hcd) rfl hbind rfl
  (fun x hx => by have := List.all_eq_true.mp (hkind h.objs.size) x hx; simpa using this) (fun s₁ x => ?_) hco hgen hk
 have hL : ∀ b o, h.get? b = some o → b ≠ h.objs.size := fun b o e => Nat.ne_of_lt (Heap.lt_size e)
 obtain ⟨h₁, tk, rfl⟩ := x.toInCall.same
 have hk₁ := x.toInCall.keep
 have hns := x.toInCall.ns
 rw [show (fun _ : Str => (none : Option Value)) = fun x => List.lookup x ([] : AL) from rfl, bindL_fn, List.append_nil] at hns
 have hl' : (binds.filter fun b => (callEnvC (fnOf fd.name q fd.params fd.body fd.scope .none .none .none pm none cdv .none) h.objs.size f).kindOf b.1 == some .local).reverse = l := hl
 rw [hl'] at hns
 have K : W p h (mu.map (·.1)) h.objs.size p h₁ l mu := by
  refine ⟨hns, PSub.refl _, fun a o e => hk₁ a o (H a o e), fun b o _ e => hk₁ b o e, fun b o e => ⟨o, hk₁ b o e⟩, (fun b o e e' => by rw [e] at e'; cases e'), ?_, ?_, fun x hx => ?_, hnd⟩
  ·cases e : p h.objs.size with
   | none => rfl
   | some o => exact absurd rfl (hL _ _ (H _ _ e))
  ·cases e : h.get? h.objs.size with
   | none => rfl
   | some o => exact absurd rfl (hL _ _ e)
  ·obtain ⟨a1, a2⟩ := hm x hx
   exact ⟨hk₁ _ _ a1, hL _ _ a1, a2, .inl (List.mem_map_of_mem hx)⟩
 refine wpAny_mono (B h.objs.size h₁ tk (fun a ha => ?_) K fun n c hc => ?_) (fun _ _ x => x) (fun _ _ x => x.elim)
 ·cases e : h.get? a with
  | none => rfl
  | some o => exact absurd (Heap.lt_size e) (Nat.not_lt.mpr ha)
 ·have := x.cell n c hc
  rw [show (fun _ : Str => (none : Option Value)) = fun x => List.lookup x ([] : AL) from rfl, bindC_fn, List.append_nil] at this
  exact this
end

noncomputable def IntV (v : Value) (i : Int) : Prop := ∃ t, v = .int i t
noncomputable def LI (p : PH) (v : Value) (is : List Int) : Prop := X3 fun a vs n => A3 (v = .ref a) (p a = some (listOf (vs : List Value).toArray n)) (IntsAre vs is)
noncomputable def TI (p : PH) (v : Value) (is : List Int) : Prop := X3 fun a vs n => A3 (v = .ref a) (p a = some (tupOf (vs : List Value).toArray n)) (IntsAre vs is)
theorem LI.mono {p q : PH} {v is} (x : LI p v is) (s : PSub p q) : LI q v is := let ⟨a, vs, n, e, b, c⟩ := x; ⟨a, vs, n, e, s _ _ b, c⟩
theorem TI.mono {p q : PH} {v is} (x : TI p v is) (s : PSub p q) : TI q v is := let ⟨a, vs, n, e, b, c⟩ := x; ⟨a, vs, n, e, s _ _ b, c⟩
noncomputable def zs (l : List Nat) : List Int := l.map (fun n : Nat => (n : Int))
theorem ints_at {vs : List Value} {is : List Int} (h : IntsAre vs is) : ∀ {k : Nat} {i : Int}, is[k]? = some i → ∃ t, vs[k]? = some (.int i t) := by
 induction h with
 | nil => intro k i e; simp at e
 | cons n t _ ih => intro k i e; cases k with
  | zero => simp at e; subst e; exact ⟨_, rfl⟩
  | succ k => simp at e; exact ih e
theorem zs_at {l : List Nat} {k n : Nat} (h : l[k]? = some n) : (zs l)[k]? = some (n : Int) := by simp [zs, h]
structure Gr where
 names : List Str
 tc : Nat
 rules : List (Nat × List Nat)
 start : Nat
noncomputable def offsF : Nat → List (Nat × List Nat) → List Nat
 | _, [] => []
 | o, r :: l => o :: offsF (o + r.2.length + 1) l
noncomputable def ownF : Nat → List (Nat × List Nat) → List Nat
 | _, [] => []
 | i, r :: l => List.replicate (r.2.length + 1) i ++ ownF (i + 1) l
noncomputable def Gr.offs (γ : Gr) : List Nat := offsF 0 γ.rules
noncomputable def Gr.own (γ : Gr) : List Nat := ownF 0 γ.rules
noncomputable def Gr.right (γ : Gr) (r : Nat) : List Nat := (γ.rules.getD r (0, [])).2
noncomputable def Gr.left (γ : Gr) (r : Nat) : Nat := (γ.rules.getD r (0, [])).1
noncomputable def Gr.it (γ : Gr) (r d : Nat) : Nat := γ.offs.getD r 0 + d
noncomputable def Gr.ok (γ : Gr) (r d : Nat) : Prop := r < γ.rules.length ∧ d ≤ (γ.right r).length
theorem offsF_at : ∀ (l : List (Nat × List Nat)) (o r : Nat), r < l.length → ∃ x, (offsF o l)[r]? = some x ∧ o ≤ x
 | [], _, _, h => by simp at h
 | a :: l, o, 0, _ => ⟨o, rfl, Nat.le_refl _⟩
 | a :: l, o, r + 1, h => by
  refine hide fun QQ hQQ => ?_
  obtain ⟨x, e, q⟩ := offsF_at l (o + a.2.length + 1) r (by simpa using h)
  refine hQQ ?_
  clear hQQ QQ
  exact ⟨x, by simpa [offsF] using e, by omega⟩
theorem ownF_at : ∀ (l : List (Nat × List Nat)) (o i r d x : Nat), (offsF o l)[r]? = some x → d ≤ (l.getD r (0, [])).2.length → r < l.length → (ownF i l)[x - o + d]? = some (i + r)
 | [], _, _, _, _, _, _, _, h => by simp at h
 | a :: l, o, i, 0, d, x, e, hd, _ => by
  simp [offsF] at e; subst e
  simp at hd
  simp only [ownF, Nat.sub_self, Nat.zero_add, Nat.add_zero]
  rw [List.getElem?_append_left (by simp; exact lnt fun q => lnq [_,_] [aL (tQ Z0) Z1,aL Z1 Z0] rfl q hd), List.getElem?_replicate, if_pos (by exact lnt fun q => lnq [_,_] [aL (tQ Z0) Z1,aL Z1 Z0] rfl q hd)]
 | a :: l, o, i, r + 1, d, x, e, hd, h => by
  have e' : (offsF (o + a.2.length + 1) l)[r]? = some x := by simpa [offsF] using e
  have hr : r < l.length := by simpa using h
  refine hide fun QQ hQQ => ?_
  obtain ⟨x', e2, q⟩ := offsF_at l (o + a.2.length + 1) r hr
  refine hQQ ?_
  clear hQQ QQ
  rw [e2] at e'; cases e'
  have ih := ownF_at l (o + a.2.length + 1) (i + 1) r d x e2 (by simpa using hd) hr
  simp only [ownF]
  rw [List.getElem?_append_right (by simp; omega), List.length_replicate]
  rw [show x - o + d - (a.2.length + 1) = x - (o + a.2.length + 1) + d by omega, ih]
  congr 1; exact lne (fun q => lnq [_,_] [aL (tA (tA Z0 (tQ Z1)) (tN 1)) (tA (tQ Z0) Z1)] rfl q) fun q => lnq [_,_] [aL (tA (tA (tQ Z0) Z1) (tN 1)) (tA Z0 (tQ Z1))] rfl q
theorem Gr.offs_at {γ : Gr} {r : Nat} (h : r < γ.rules.length) : γ.offs[r]? = some (γ.it r 0) := by
 refine hide fun QQ hQQ => ?_
 obtain ⟨x, e, _⟩ := offsF_at γ.rules 0 r h
 refine hQQ ?_
 clear hQQ QQ
 have e : γ.offs[r]? = some x := e
 rw [e]; unfold Gr.it; rw [List.getD_eq_getElem?_getD, e]; rfl
theorem Gr.own_at {γ : Gr} {r d : Nat} (h : γ.ok r d) : γ.own[γ.it r d]? = some r := by
 have := ownF_at γ.rules 0 0 r d (γ.it r 0) (Gr.offs_at h.1) h.2 h.1
 simp only [Nat.sub_zero, Nat.zero_add] at this
 unfold Gr.own; rw [show γ.it r d = γ.it r 0 + d by unfold Gr.it; exact lne (fun q => lnq [_,_] [aL (tA (tA (tA Z0 (tN 0)) Z1) (tN 1)) (tA Z0 Z1)] rfl q) fun q => lnq [_,_] [aL (tQ (tA Z0 Z1)) (tA (tA Z0 (tN 0)) Z1)] rfl q]; exact this
noncomputable def LO (p : PH) (v : Value) (n : Nat) (P : Nat → Value → Prop) : Prop := X3 fun a vs e => A4 (v = .ref a) (p a = some (listOf (vs : List Value).toArray e)) (vs.length = n) (∀ i x, vs[i]? = some x → P i x)
noncomputable def RuleAt (p : PH) (n : Nat) (lr : Nat × List Nat) (v : Value) : Prop := X2 fun x fs => A5 (v = .ref x) (Ob p x 309 fs) (∃ t, List.lookup (Str.ofString "number") fs = some (.int n t)) (∃ t, List.lookup (Str.ofString "left") fs = some (.int lr.1 t)) (∃ u, (List.lookup (Str.ofString "right") fs = some u) ∧ (TI p u (zs lr.2)))
noncomputable def LS (p : PH) (v : Value) (xs : List Str) : Prop := X3 fun a vs e => A3 (v = .ref a) (p a = some (listOf (vs : List Value).toArray e)) (StrsAre vs xs)
noncomputable def grAttrs : List Str := ["names", "terminal_count", "rules", "levels", "expect", "start", "by_left", "offsets", "owners", "item_count"]
structure GrAt (p : PH) (x : Addr) (γ : Gr) (fs : AL) : Prop where
 ob : Ob p x 391 fs
 names : ∃ v, List.lookup (Str.ofString "names") fs = some v ∧ LS p v γ.names
 tc : ∃ t, List.lookup (Str.ofString "terminal_count") fs = some (.int γ.tc t)
 rules : ∃ v, List.lookup (Str.ofString "rules") fs = some v ∧ LO p v γ.rules.length (fun i r => RuleAt p i (γ.rules.getD i (0, [])) r)
 offs : ∃ v, List.lookup (Str.ofString "offsets") fs = some v ∧ LI p v (zs γ.offs)
 own : ∃ v, List.lookup (Str.ofString "owners") fs = some v ∧ LI p v (zs γ.own)
 byl : ∃ v, List.lookup (Str.ofString "by_left") fs = some v ∧ LO p v γ.names.length (fun i r => LI p r (zs ((List.range γ.rules.length).filter fun k => γ.left k == i)))
 only : ∀ y, (grAttrs.contains y) = false → List.lookup y fs = none
 small : γ.own.length < 1000 ∧ γ.rules.length < 1000 ∧ γ.names.length < 1000

theorem mo_is_terminal (P : Params) : methOk (KF P) 391 "is_terminal" 339 = true := by kernel_rfl
theorem ao_tc (P : Params) : attrOk (KF P) 391 "terminal_count" = true := by kernel_rfl
theorem ao_rules (P : Params) : attrOk (KF P) 391 "rules" = true := by kernel_rfl
theorem ao_offs (P : Params) : attrOk (KF P) 391 "offsets" = true := by kernel_rfl
theorem ao_own (P : Params) : attrOk (KF P) 391 "owners" = true := by kernel_rfl
theorem ao_byl (P : Params) : attrOk (KF P) 391 "by_left" = true := by kernel_rfl
theorem ao_names (P : Params) : attrOk (KF P) 391 "names" = true := by kernel_rfl
theorem ao_right (P : Params) : attrOk (KF P) 309 "right" = true := by kernel_rfl
theorem ao_left (P : Params) : attrOk (KF P) 309 "left" = true := by kernel_rfl
theorem ao_number (P : Params) : attrOk (KF P) 309 "number" = true := by kernel_rfl
section
variable {w : World} {p : PH} {h : Heap} {gr : Addr} {fs : AL} {γ : Gr}
theorem LI.at_ {p : PH} {v : Value} {l : List Nat} {k n : Nat} (x : LI p v (zs l)) (e : l[k]? = some n) : ∃ a vs m t, v = .ref a ∧ p a = some (listOf (vs : List Value).toArray m) ∧ (vs.toArray)[k]? = some (.int n t) := by
 refine hide fun QQ hQQ => ?_
 obtain ⟨a, vs, m, rfl, b, c⟩ := x
 obtain ⟨t, q⟩ := ints_at c (zs_at e)
 refine hQQ ?_
 clear hQQ QQ
 exact ⟨a, vs, m, t, rfl, b, by simpa using q⟩
theorem is_terminal_spec {s : Int} {t2 : Tok} (G : Grd w p) (H : Holds p h) (g : GrAt p gr γ fs) :
  Fn w 1 (.ref 339) [.ref gr, .int s t2] p h [] (fun v _ _ => v = .bool (decide (s < (γ.tc : Int)))) := by
 intro A g1 d t os R r k
 refine hide fun QQ hQQ => ?_
 obtain ⟨t1, htc⟩ := g.tc
 refine hQQ ?_
 clear hQQ QQ
 refine call_fn (mu := []) (fd := fnM 23 2) [(Str.ofString "symbol", .int s t2), (Str.ofString "self", .ref gr)] rfl (by kernel_rfl) G H r (by simp) (by simp) (BindsTo.of_eq (by rfl)) (by kernel_rfl) (by kernel_rfl) (by rfl) (by rfl) (by rfl) fun L h₁ t₁ K => ?_
 refine wj_ (wpAny_Compare1 (n_ 0 K rfl (tn_ 1 K rfl ?_)))
 refine ga G K.hold (g.ob.mono K.hold) (ao_tc _) htc rfl fun _ => ?_
 refine i_lt ?_
 exact k _ _ _ _ K.gro rfl
theorem item_spec {r d : Nat} {t1 t2 : Tok} (G : Grd w p) (H : Holds p h) (g : GrAt p gr γ fs) (hr : r < γ.rules.length) :
  Fn w 1 (.ref 367) [.ref gr, .int r t1, .int d t2] p h [] (fun v _ _ => IntV v (γ.it r d)) := by
 intro A g1 d1 t os R rm k
 refine hide fun QQ hQQ => ?_
 obtain ⟨vo, ho, hv⟩ := g.offs
 refine hQQ ?_
 clear hQQ QQ
 refine call_fn (mu := []) (fd := fnM 23 6) [(Str.ofString "dot", .int d t2), (Str.ofString "rule", .int r t1), (Str.ofString "self", .ref gr)] rfl (by kernel_rfl) G H rm (by simp) (by simp) (BindsTo.of_eq (by rfl)) (by kernel_rfl) (by kernel_rfl) (by rfl) (by rfl) (by rfl) fun L h₁ t₁ K => ?_
 refine wj_ (o_ (u_ (tn_ 2 K rfl ?_)))
 refine hide fun QQ hQQ => ?_
 obtain ⟨a, vs, m, t3, rfl, b, c⟩ := hv.at_ (γ.offs_at hr)
 refine hQQ ?_
 clear hQQ QQ
 refine ga G K.hold (g.ob.mono K.hold) (ao_offs _) ho rfl fun _ => ?_
 refine n_ 1 K rfl ?_
 have := g.small
 refine sub_list (K.hold _ _ b) (by exact Int.natCast_nonneg _) (by exact Int.ofNat_lt.mpr (lnt fun q => lnq [_,_] [aL (tN 9223372036854775808) Z0,aL (tQ Z1) (tN 1000),aL (tQ Z0) Z1] rfl q this.2.1 hr)) c (by rfl) ?_
 refine n_ 0 K rfl (i_add fun _ _ => ?_)
 exact k _ _ _ _ K.gro ⟨_, by congr 1⟩

theorem LI.sub {A : Around} {E : Value → Shared → Prop} {g1 : Array GenState} {d : Drawn} {t : Nat} {os : OsState} {value slice : Expr} {u : Tok} {v : Value} {l : List Nat} {i : Int} {n : Nat} {Q : Value → Shared → Prop} (H : Holds p h) (x : LI p v (zs l)) (hi : 0 ≤ i) (hk : i < 2 ^ 63) (e : l[i.toNat]? = some n)
  (hs : ∀ a, subscripted slice false (.ref a) (.int i u) = operate [.ref a, .int i u] (getItem (.ref a) (.int i u))) (q : ∀ t', Q (.int n t') ⟨h, g1, d, t, os⟩) :
  wpAny (model PR w) A (subscriptTail value slice v (.int i u)) Q E ⟨h, g1, d, t, os⟩ := by
 refine hide fun QQ hQQ => ?_
 obtain ⟨a, vs, m, t', rfl, b, c⟩ := x.at_ e
 refine hQQ ?_
 clear hQQ QQ
 exact sub_list (H _ _ b) hi hk c (hs a) (q t')
theorem ok_lt {r d : Nat} (hr : γ.ok r d) : γ.it r d < γ.own.length := by
 have := γ.own_at hr
 exact (List.getElem?_eq_some_iff.mp this).1
theorem rule_of_spec {r d : Nat} {t1 : Tok} (G : Grd w p) (H : Holds p h) (g : GrAt p gr γ fs) (hr : γ.ok r d) :
  Fn w 1 (.ref 374) [.ref gr, .int (γ.it r d) t1] p h [] (fun v _ _ => IntV v r) := by
 intro A g1 d1 t os R rm k
 refine hide fun QQ hQQ => ?_
 obtain ⟨vo, ho, hv⟩ := g.own
 refine hQQ ?_
 clear hQQ QQ
 have := g.small
 have lt := ok_lt hr
 refine call_fn (mu := []) (fd := fnM 23 7) [(Str.ofString "item", .int (γ.it r d) t1), (Str.ofString "self", .ref gr)] rfl (by kernel_rfl) G H rm (by simp) (by simp) (BindsTo.of_eq (by rfl)) (by kernel_rfl) (by kernel_rfl) (by rfl) (by rfl) (by rfl) fun L h₁ t₁ K => ?_
 refine wj_ (u_ (tn_ 1 K rfl ?_))
 refine hide fun QQ hQQ => ?_
 obtain ⟨a, vs, m, t', rfl, b, c⟩ := hv.at_ (γ.own_at hr)
 refine hQQ ?_
 clear hQQ QQ
 refine ga G K.hold (g.ob.mono K.hold) (ao_own _) ho rfl fun _ => ?_
 refine n_ 0 K rfl ?_
 refine sub_list (K.hold _ _ b) (by exact Int.natCast_nonneg _) (by exact Int.ofNat_lt.mpr (lnt fun q => lnq [_,_] [aL (tN 9223372036854775808) Z0,aL (tQ Z0) Z1,aL (tQ Z1) (tN 1000)] rfl q lt this.1)) c (by rfl) ?_
 exact k _ _ _ _ K.gro ⟨_, rfl⟩
theorem dot_of_spec {r d : Nat} {t1 : Tok} (G : Grd w p) (H : Holds p h) (g : GrAt p gr γ fs) (hr : γ.ok r d) :
  Fn w 1 (.ref 381) [.ref gr, .int (γ.it r d) t1] p h [] (fun v _ _ => IntV v d) := by
 intro A g1 d1 t os R rm k
 refine hide fun QQ hQQ => ?_
 obtain ⟨vo, ho, hv⟩ := g.own
 obtain ⟨vo2, ho2, hv2⟩ := g.offs
 refine hQQ ?_
 clear hQQ QQ
 have := g.small
 have lt := ok_lt hr
 have hr1 := hr.1
 refine call_fn (mu := []) (fd := fnM 23 8) [(Str.ofString "item", .int (γ.it r d) t1), (Str.ofString "self", .ref gr)] rfl (by kernel_rfl) G H rm (by simp) (by simp) (BindsTo.of_eq (by rfl)) (by kernel_rfl) (by kernel_rfl) (by rfl) (by rfl) (by rfl) fun L h₁ t₁ K => ?_
 refine wj_ (on_ 0 K rfl (u_ (tn_ 1 K rfl ?_)))
 refine hide fun QQ hQQ => ?_
 obtain ⟨a, vs, m, t', rfl, b, c⟩ := hv.at_ (γ.own_at hr)
 obtain ⟨a2, vs2, m2, t2', rfl, b2, c2⟩ := hv2.at_ (γ.offs_at hr.1)
 refine hQQ ?_
 clear hQQ QQ
 refine ga G K.hold (g.ob.mono K.hold) (ao_offs _) ho2 rfl fun _ => ?_
 refine u_ (tn_ 1 K rfl ?_)
 refine ga G K.hold (g.ob.mono K.hold) (ao_own _) ho rfl fun _ => ?_
 refine n_ 0 K rfl ?_
 refine sub_list (K.hold _ _ b) (by exact Int.natCast_nonneg _) (by exact Int.ofNat_lt.mpr (lnt fun q => lnq [_,_] [aL (tN 9223372036854775808) Z0,aL (tQ Z0) Z1,aL (tQ Z1) (tN 1000)] rfl q lt this.1)) c (by rfl) ?_
 refine sub_list (K.hold _ _ b2) (by exact Int.natCast_nonneg _) (by exact Int.ofNat_lt.mpr (lnt fun q => lnq [_,_] [aL (tN 9223372036854775808) Z0,aL (tQ Z0) Z1,aL (tQ Z1) (tN 1000)] rfl q hr1 this.2.1)) c2 (by rfl) ?_
 refine i_sub fun _ _ => ?_
 exact k _ _ _ _ K.gro ⟨_, by rw [show ((γ.it r d : Nat) : Int) - (γ.it r 0 : Nat) = d by unfold Gr.it; omega]⟩

theorem handed_ref (a : Addr) : handedIn (.ref a) = true := rfl
theorem TI.handed {p : PH} {v : Value} {l : List Int} (x : TI p v l) : handedIn v = true := by obtain ⟨a, _, _, rfl, _⟩ := x; rfl
theorem LI.handed {p : PH} {v : Value} {l : List Int} (x : LI p v l) : handedIn v = true := by obtain ⟨a, _, _, rfl, _⟩ := x; rfl
theorem LO.handed {p : PH} {v : Value} {n : Nat} {P} (x : LO p v n P) : handedIn v = true := by obtain ⟨a, _, _, rfl, _⟩ := x; rfl
theorem LO.at_ {p : PH} {v : Value} {n : Nat} {P} (x : LO p v n P) {i : Nat} (hi : i < n) : ∃ a vs m u, v = .ref a ∧ p a = some (listOf (vs : List Value).toArray m) ∧ (vs.toArray)[i]? = some u ∧ P i u := by
 refine hide fun QQ hQQ => ?_
 obtain ⟨a, vs, m, rfl, b, c, k⟩ := x
 refine hQQ ?_
 clear hQQ QQ
 have : i < vs.length := by exact lnt fun q => lnq [_,_,_] [aL Z0 Z1,aG Z0 Z2,aL (tQ Z1) Z2] rfl q c hi
 exact ⟨a, vs, m, vs[i], rfl, b, by simp [this], k i _ (by simp [this])⟩
noncomputable def Gr.after (γ : Gr) (r d : Nat) : Int := match (γ.right r)[d]? with | some x => (x : Int) | none => -1
theorem TI.len_ {p : PH} {v : Value} {l : List Int} (x : TI p v l) : ∃ a vs m, v = .ref a ∧ p a = some (tupOf (vs : List Value).toArray m) ∧ IntsAre vs l ∧ vs.length = l.length := by
 refine hide fun QQ hQQ => ?_
 obtain ⟨a, vs, m, rfl, b, c⟩ := x
 refine hQQ ?_
 clear hQQ QQ
 exact ⟨a, vs, m, rfl, b, c, c.length⟩
theorem after_spec {r d : Nat} {t1 : Tok} (G : Grd w p) (H : Holds p h) (g : GrAt p gr γ fs) (hr : γ.ok r d) (hs : (γ.right r).length < 1000) :
  Fn w 1 (.ref 388) [.ref gr, .int (γ.it r d) t1] p h [] (fun v _ _ => IntV v (γ.after r d)) := by
 intro A g1 d1 t os R rm k
 refine hide fun QQ hQQ => ?_
 obtain ⟨vo, ho, hv⟩ := g.own
 obtain ⟨vo2, ho2, hv2⟩ := g.offs
 obtain ⟨vo3, ho3, hv3⟩ := g.rules
 refine hQQ ?_
 clear hQQ QQ
 have := g.small
 have lt := ok_lt hr
 have hr1 := hr.1
 have hr2 := hr.2
 refine call_fn (mu := []) (fd := fnM 23 9) [(Str.ofString "item", .int (γ.it r d) t1), (Str.ofString "self", .ref gr)] rfl (by kernel_rfl) G H rm (by simp) (by simp) (BindsTo.of_eq (by rfl)) (by kernel_rfl) (by kernel_rfl) (by rfl) (by rfl) (by rfl) fun L h₁ t₁ K => ?_
 refine hide fun QQ hQQ => ?_
 obtain ⟨a, vs, m, t', rfl, b, c⟩ := hv.at_ (γ.own_at hr)
 obtain ⟨a2, vs2, m2, t2', rfl, b2, c2⟩ := hv2.at_ (γ.offs_at hr.1)
 obtain ⟨a3, vs3, m3, u3, rfl, b3, c3, x, fr, rfl, or_, _, _, vr, hvr, tr⟩ := hv3.at_ hr1
 refine hQQ ?_
 clear hQQ QQ
 refine xv_ fun Qq1 Jq1 => t_ (u_ (tn_ 1 K rfl ?_))
 refine ga G K.hold (g.ob.mono K.hold) (ao_rules _) ho3 rfl fun _ => ?_
 refine u_ (tn_ 1 K rfl ?_)
 refine ga G K.hold (g.ob.mono K.hold) (ao_own _) ho rfl fun _ => ?_
 refine n_ 0 K rfl ?_
 refine sub_list (K.hold _ _ b) (by exact Int.natCast_nonneg _) (by exact Int.ofNat_lt.mpr (lnt fun q => lnq [_,_] [aL (tN 9223372036854775808) Z0,aL (tQ Z0) Z1,aL (tQ Z1) (tN 1000)] rfl q lt this.1)) c (by rfl) ?_
 refine sub_list (K.hold _ _ b3) (by exact Int.natCast_nonneg _) (by exact Int.ofNat_lt.mpr (lnt fun q => lnq [_,_] [aL (tN 9223372036854775808) Z0,aL (tQ Z0) Z1,aL (tQ Z1) (tN 1000)] rfl q hr1 this.2.1)) c3 (by rfl) ?_
 refine ga G K.hold (or_.mono K.hold) (ao_right _) hvr tr.handed fun _ => ?_
 refine s_ K ?_
 intro h' _ K'
 refine Jq1 _ _ (xv_ fun Qq2 Jq2 => on_ 1 K' rfl (u_ (tn_ 2 K' rfl ?_)))
 refine ga G K'.hold (g.ob.mono K'.hold) (ao_offs _) ho2 rfl fun _ => ?_
 refine u_ (tn_ 2 K' rfl ?_)
 refine ga G K'.hold (g.ob.mono K'.hold) (ao_own _) ho rfl fun _ => ?_
 refine ldn 1 K' (by kernel_rfl) rfl rfl rfl ?_
 refine sub_list (K'.hold _ _ b) (by exact Int.natCast_nonneg _) (by exact Int.ofNat_lt.mpr (lnt fun q => lnq [_,_] [aL (tN 9223372036854775808) Z0,aL (tQ Z0) Z1,aL (tQ Z1) (tN 1000)] rfl q lt this.1)) c (by rfl) ?_
 refine sub_list (K'.hold _ _ b2) (by exact Int.natCast_nonneg _) (by exact Int.ofNat_lt.mpr (lnt fun q => lnq [_,_] [aL (tN 9223372036854775808) Z0,aL (tQ Z0) Z1,aL (tQ Z1) (tN 1000)] rfl q hr1 this.2.1)) c2 (by rfl) ?_
 refine i_sub fun _ _ => stn K' (by kernel_rfl) rfl rfl ?_
 intro h2 _ K2
 refine Jq2 _ _ (wj_ (wpAny_IfExp (qn_ 0 K2 rfl (kb_ (gB_len _) G K2.hold (arnz_ 1 K2 rfl ?_)))))
 refine hide fun QQ hQQ => ?_
 obtain ⟨at_, vst, mt_, rfl, it_, ia, il⟩ := tr.len_
 refine hQQ ?_
 clear hQQ QQ
 have il' : vst.length = (γ.right r).length := by simpa [zs, Gr.right] using il
 refine len_t (K2.hold _ _ it_) (by simp; exact Int.ofNat_lt.mpr (lnt fun q => lnq [_,_] [aL (tN 9223372036854775808) Z0,aE Z0 Z1,aL (tQ Z1) (tN 1000)] rfl q il' hs)) fun _ _ => ?_
 refine i_lt (h_ ?_)
 refine PyProof.Rows.split_dec (fun hlt => ?_) (fun hlt => ?_)
 ·refine un_ 1 K2 rfl (n_ 0 K2 rfl ?_)
  have e : (γ.it r d : Int) - (γ.it r 0 : Nat) = (d : Nat) := by unfold Gr.it; omega
  rw [e] at hlt ⊢
  have hd : d < (γ.right r).length := by rw [← il']; simp at hlt; exact lnt fun q => lnq [_,_] [aL Z0 Z1,aL (tQ Z1) Z0] rfl q hlt
  refine hide fun QQ hQQ => ?_
  obtain ⟨tt, q⟩ := ints_at ia (zs_at (List.getElem?_eq_getElem hd))
  refine hQQ ?_
  clear hQQ QQ
  have q' : vst.toArray[d]? = some (.int ((γ.right r)[d] : Nat) tt) := by simpa using q
  refine sub_tup (K2.hold _ _ it_) (by exact Int.natCast_nonneg _) (by exact Int.ofNat_lt.mpr (lnt fun q => lnq [_,_] [aL (tN 9223372036854775808) Z0,aL (tQ Z0) Z1,aL (tQ Z1) (tN 1000)] rfl q hd hs)) q' (by rfl) (fun _ => by rfl) ?_
  exact k _ _ _ _ K2.gro ⟨_, by unfold Gr.after; rw [List.getElem?_eq_getElem hd]⟩
 ·have e : (γ.it r d : Int) - (γ.it r 0 : Nat) = (d : Nat) := by unfold Gr.it; omega
  rw [e] at hlt
  have hd : ¬ d < (γ.right r).length := by rw [← il']; simp at hlt; exact fun q => lnq [_,_] [aL (tQ Z0) Z1,aL Z1 Z0] rfl q hlt
  refine wpAny_UnaryOp (m_ fun _ _ => i_neg fun _ _ => ?_)
  exact k _ _ _ _ K2.gro ⟨_, by unfold Gr.after; rw [List.getElem?_eq_none (by exact lnl fun q => lnq [_,_] [aL (tQ Z0) Z1,aX (tQ Z0) Z1] rfl q hd)]⟩
end
theorem LO.mono {p q : PH} {v : Value} {n : Nat} {P P' : Nat → Value → Prop} (x : LO p v n P) (s : PSub p q) (h : ∀ i u, P i u → P' i u) : LO q v n P' :=
 let ⟨a, vs, e, h1, h2, h3, h4⟩ := x; ⟨a, vs, e, h1, s _ _ h2, h3, fun i u z => h i u (h4 i u z)⟩
theorem LS.mono {p q : PH} {v : Value} {xs : List Str} (x : LS p v xs) (s : PSub p q) : LS q v xs := let ⟨a, vs, e, h1, h2, h3⟩ := x; ⟨a, vs, e, h1, s _ _ h2, h3⟩
theorem RuleAt.mono {p q : PH} {n : Nat} {lr} {v : Value} (x : RuleAt p n lr v) (s : PSub p q) : RuleAt q n lr v :=
 let ⟨a, fs, h1, h2, h3, h4, u, h5, h6⟩ := x; ⟨a, fs, h1, h2.mono s, h3, h4, u, h5, h6.mono s⟩
theorem GrAt.mono {p q : PH} {x : Addr} {γ : Gr} {fs : AL} (g : GrAt p x γ fs) (s : PSub p q) : GrAt q x γ fs where
 ob := g.ob.mono s
 names := let ⟨v, a, b⟩ := g.names; ⟨v, a, b.mono s⟩
 tc := g.tc
 rules := let ⟨v, a, b⟩ := g.rules; ⟨v, a, b.mono s fun _ _ z => z.mono s⟩
 offs := let ⟨v, a, b⟩ := g.offs; ⟨v, a, b.mono s⟩
 own := let ⟨v, a, b⟩ := g.own; ⟨v, a, b.mono s⟩
 byl := let ⟨v, a, b⟩ := g.byl; ⟨v, a, b.mono s fun _ _ z => z.mono s⟩
 only := g.only
 small := g.small

theorem ao_c_grammar (P : Params) : attrOk (KF P) 148 "grammar" = true := by kernel_rfl
theorem ao_c_firsts (P : Params) : attrOk (KF P) 148 "firsts" = true := by kernel_rfl
theorem mo_after (P : Params) : methOk (KF P) 391 "after" 388 = true := by kernel_rfl
structure CloAt (p : PH) (c gr : Addr) (firsts : List Nat) : Prop where
 ob : ∃ fs, Ob p c 148 fs ∧ List.lookup (Str.ofString "grammar") fs = some (.ref gr) ∧ (∃ v, List.lookup (Str.ofString "firsts") fs = some v ∧ LI p v (zs firsts)) ∧
  ∀ y, (["grammar", "firsts"] : List Str).contains y = false → List.lookup y fs = none
noncomputable abbrev It := Nat × Nat
noncomputable def Gr.its (γ : Gr) (l : List It) : List Nat := l.map fun x => γ.it x.1 x.2
noncomputable def Gr.wantStep (γ : Gr) (firsts : List Nat) (m : Nat) (x : It) : Nat := match (γ.right x.1)[x.2]? with | some s => m ||| 1 <<< s ||| firsts.getD s 0 | none => m
noncomputable def Gr.want (γ : Gr) (firsts : List Nat) (l : List It) : Nat := l.foldl (γ.wantStep firsts) 0
theorem take_succ_foldl {α β : Type} (f : β → α → β) (b : β) (l : List α) (i : Nat) (x : α) (h : l[i]? = some x) : (l.take (i + 1)).foldl f b = f ((l.take i).foldl f b) x := by
 rw [List.take_add_one, h, List.foldl_append]; rfl
section
variable {w : World} {p : PH} {h : Heap} {gr c : Addr} {fs : AL} {γ : Gr} {firsts : List Nat}
theorem Gr.after_of (γ : Gr) (r d : Nat) : (γ.right r)[d]? = (if 0 ≤ γ.after r d then some (γ.after r d).toNat else none) := by
 unfold Gr.after
 cases h : (γ.right r)[d]? with
 | none => simp
 | some x => simp
theorem Gr.after_lt {γ : Gr} {r d x n : Nat} (hx : ∀ y ∈ γ.right r, y < n) (h : (γ.right r)[d]? = some x) : x < n := hx x (List.mem_of_getElem? h)
noncomputable def GrOk (γ : Gr) : Prop := (∀ r, r < γ.rules.length → (γ.right r).length < 1000) ∧ (∀ r, r < γ.rules.length → ∀ y ∈ γ.right r, y < γ.names.length) ∧ γ.own.length ≤ 24 ∧ γ.names.length ≤ 24 ∧ γ.rules.length ≤ 24 ∧ ∀ r, r < γ.rules.length → γ.left r < γ.names.length
theorem wanted_spec {kv : Value} {l : List It} (G : Grd w p) (H : Holds p h) (g : GrAt p gr γ fs) (ok : GrOk γ) (cl : CloAt p c gr firsts) (hf : firsts.length = γ.names.length) (hk : TI p kv (zs (γ.its l))) (hl : ∀ x ∈ l, γ.ok x.1 x.2) :
  Fn w 2 (.ref 131) [.ref c, kv] p h [] (fun v _ _ => IntV v (γ.want firsts l : Nat)) := by
 intro A g1 d1 t os R rm k
 refine hide fun QQ hQQ => ?_
 obtain ⟨fc, oc, hg, ⟨vf, hvf, lf⟩, ho⟩ := cl.ob
 obtain ⟨a, vs, m, rfl, b, ia⟩ := hk
 refine hQQ ?_
 clear hQQ QQ
 have small := g.small
 refine call_fn (mu := []) (fd := fnM 10 1) [(Str.ofString "kernel", .ref a), (Str.ofString "self", .ref c)] rfl (by kernel_rfl) G H rm (by simp) (by simp) (BindsTo.of_eq (by rfl)) (by kernel_rfl) (by kernel_rfl) (by rfl) (by rfl) (by rfl) fun L h₁ t₁ K => ?_
 refine xv_ fun Qq1 Jq1 => m_ fun _ _ => s_ K ?_
 intro h2 t2 K
 refine Jq1 _ _ (x_ fun Qq2 Jq2 => wpAny_For (n_ 1 K rfl ?_))
 refine for_tup (mu := []) (its := []) (vs := vs) rm.hd rfl (fun i p' l' mu' => A3 (PSub p p') (mu' = []) (X2 fun u r => l' = (Str.ofString "mask", .int ((l.take i).foldl (γ.wantStep firsts) 0 : Nat) u) :: (Str.ofString "kernel", .ref a) :: (Str.ofString "self", .ref c) :: r))
  K ⟨PSub.refl _, rfl, _, _, rfl⟩ ?src ?turn ?done
 case src => rintro i p' h' l' mu' its K ⟨ps, _⟩; exact ⟨m, K.hold _ _ (ps _ _ b)⟩
 case done =>
  rintro p' h' l' mu' t' K hx6_
  refine hide fun QQ hQQ => ?_
  obtain ⟨ps, rfl, u, r, rfl⟩ := hx6_
  refine hQQ ?_
  clear hQQ QQ
  have e : l.take vs.length = l := by rw [List.take_of_length_le]; have := ia.length; simp [zs, Gr.its] at this; exact lnl fun q => lnq [_,_] [aL (tQ Z0) Z1,aG Z0 Z1] rfl q this
  rw [e] at K
  refine Jq2 _ _ (wj_ (n_ 0 K rfl ?_))
  exact k _ _ _ _ K.gro ⟨_, rfl⟩
 case turn =>
  rintro i v p' h' l' mu' its t' hv hi K hx11_ Qt Jt
  refine hide fun QQ hQQ => ?_
  obtain ⟨ps, rfl, u, r, rfl⟩ := hx11_
  refine hQQ ?_
  clear hQQ QQ
  have hi' : i < l.length := by have := ia.length; simp [zs, Gr.its] at this; exact lnt fun q => lnq [_,_,_] [aL Z0 Z1,aE Z2 Z0,aL (tQ Z1) Z2] rfl q this hi
  have hx : l[i]? = some l[i] := List.getElem?_eq_getElem hi'
  generalize l[i] = x at hx
  refine hide fun QQ hQQ => ?_
  obtain ⟨rr, dd⟩ := x
  have hok : γ.ok rr dd := hl _ (List.mem_of_getElem? hx)
  obtain ⟨u2, hv2⟩ := ints_at ia (zs_at (show (γ.its l)[i]? = some (γ.it rr dd) by simp [Gr.its, hx]))
  refine hQQ ?_
  clear hQQ QQ
  rw [hv2] at hv; refine hide fun QQ hQQ => ?_
  cases hv
  all_goals (refine hQQ ?_; clear hQQ QQ)
  rw [take_succ_foldl _ _ _ _ _ hx] at Jt
  generalize List.foldl (γ.wantStep firsts) 0 (l.take i) = mk at K Jt
  have G' := G.mono ps
  have g' := g.mono ps
  refine wpAny_assign_Name (s_ K ?_)
  intro h2 t2 K
  refine xv_ fun Qq3 Jq3 => d_ (tn_ 3 K rfl ?_)
  refine ga G' K.hold ((oc.mono ps).mono K.hold) (ao_c_grammar _) hg rfl fun _ => ?_
  refine gm G' K.hold (g'.ob.mono K.hold) (mo_after _) (g'.only _ (by kernel_rfl)) ?_
  refine f_ (arnz_ 0 K rfl ?_)
  refine ⟨⟨_, G', K.hold⟩, ?_⟩
  refine use_fn (after_spec G' K.hold g' hok (ok.1 rr hok.1)) rm.deeper fun v p3 h3 t3 gro hv => ?_
  refine hide fun QQ hQQ => ?_
  obtain ⟨u3, rfl⟩ := hv
  refine hQQ ?_
  clear hQQ QQ
  have K := K.call gro
  have G' := G'.mono gro.sub
  have g' := g'.mono gro.sub
  refine s_ K ?_
  intro h2 t2 K
  cases hq : (γ.right rr)[dd]? with
  | none =>
   have ea : γ.after rr dd = -1 := by unfold Gr.after; rw [hq]
   rw [ea] at K
   have es : γ.wantStep firsts mk (rr, dd) = mk := by simp [Gr.wantStep, hq]
   refine Jq3 _ _ (x_ fun Qq4 Jq4 => wpAny_If (qn_ 0 K rfl (m_ fun _ _ => i_ge (h_ ?_))))
   refine PyProof.Rows.split_dec (fun hlt => absurd hlt (by decide)) (fun _ => ?_)
   refine e_ (Jq4 _ _ (e_ (Jt _ _ ?_)))
   have K := ((K.pull (x := Str.ofString "self") (by exact lkN 4 (by kernel_rfl) rfl)).pull (x := Str.ofString "kernel") (by exact lkN 4 (by kernel_rfl) rfl)).pull (x := Str.ofString "mask") (by exact lkN 4 (by kernel_rfl) rfl)
   rw [es]
   exact ⟨_, _, _, _, _, rfl, K, ps.trans gro.sub, rfl, _, _, rfl⟩
  | some x =>
   have ea : γ.after rr dd = (x : Nat) := by unfold Gr.after; rw [hq]
   rw [ea] at K
   have es : γ.wantStep firsts mk (rr, dd) = mk ||| 1 <<< x ||| firsts.getD x 0 := by simp [Gr.wantStep, hq]
   have hx1 : x < γ.names.length := Gr.after_lt (ok.2.1 rr hok.1) hq
   refine Jq3 _ _ (x_ fun Qq4 Jq4 => wpAny_If (qn_ 0 K rfl (m_ fun _ _ => i_ge (h_ ?_))))
   refine PyProof.Rows.split_dec (fun _ => ?_) (fun hlt => absurd (by exact Int.natCast_nonneg _) hlt)
   refine xv_ fun Qq5 Jq5 => o_ (on_ 2 K rfl (o_ (m_ fun _ _ => n_ 0 K rfl ?_)))
   refine i_shl (a := 1) (n := x) (by exact lnl fun q => lnq [_,_] [aL (tQ (tN 1000000)) Z0,aL (tQ Z0) Z1,aL (tQ Z1) (tN 1000)] rfl q hx1 small.2.2) (by decide) fun _ _ => ?_
   refine i_or fun _ _ => ?_
   refine u_ (tn_ 4 K rfl ?_)
   refine ga G' K.hold (((oc.mono ps).mono gro.sub).mono K.hold) (ao_c_firsts _) hvf lf.handed fun _ => ?_
   refine n_ 0 K rfl ?_
   refine (lf.mono (ps.trans gro.sub)).sub K.hold (n := firsts.getD x 0) (by exact Int.natCast_nonneg _) (by exact Int.ofNat_lt.mpr (lnt fun q => lnq [_,_] [aL (tN 9223372036854775808) Z0,aL (tQ Z0) Z1,aL (tQ Z1) (tN 1000)] rfl q hx1 small.2.2)) (by rw [Int.toNat_natCast, List.getD_eq_getElem?_getD, List.getElem?_eq_getElem (by exact lnt fun q => lnq [_,_,_] [aL Z0 Z1,aL (tQ Z1) Z2,aG Z0 Z2] rfl q hx1 hf)]; rfl) (fun _ => by rfl) fun _ => ?_
   refine i_or fun _ _ => ?_
   refine s_ K ?_
   intro h2 t2 K
   have K := ((K.pull (x := Str.ofString "self") (by exact lkN 5 (by kernel_rfl) rfl)).pull (x := Str.ofString "kernel") (by exact lkN 5 (by kernel_rfl) rfl)).pull (x := Str.ofString "mask") (by exact lkN 2 (by kernel_rfl) rfl)
   refine Jq5 _ _ (e_ (Jq4 _ _ (e_ (Jt _ _ ?_))))
   rw [es]
   exact ⟨_, _, _, _, _, rfl, K, ps.trans gro.sub, rfl, _, _, rfl⟩
end

theorem split_b {b : Bool} {P Q : Prop} (x : b = true → P) (y : b = false → Q) : if b = true then P else Q := by
 cases b with
 | true => exact x rfl
 | false => exact y rfl
theorem cut {w : World} {A : Around} {c : Bool} {x y : Sem Flow} {E : Value → Shared → Prop} {s : Shared} {post : Flow → Shared → Prop} (Mid : Flow → Shared → Prop) (hx : c = true → wpAny (model PR w) A x Mid E s) (hy : c = false → wpAny (model PR w) A y Mid E s) (hm : ∀ f s', Mid f s' → post f s') :
  if c = true then wpAny (model PR w) A x post E s else wpAny (model PR w) A y post E s := by
 refine split_b (fun e => wpAny_mono (hx e) hm fun _ _ q => q) (fun e => wpAny_mono (hy e) hm fun _ _ q => q)
theorem bit_at (m i : Nat) : (((m >>> i &&& 1 : Nat) : Int) == 1) = m.testBit i := by
 rw [Nat.testBit_eq_decide_div_mod_eq, ← Nat.shiftRight_eq_div_pow, Nat.and_one_is_mod, Bool.eq_iff_iff, beq_iff_eq, decide_eq_true_eq]
 omega
theorem zs_app (l : List Nat) (n : Nat) : zs (l ++ [n]) = zs l ++ [(n : Int)] := by simp [zs]
theorem ints_app {vs : List Value} {is : List Int} (h : IntsAre vs is) {v : Value} {i : Int} (hv : IntV v i) : IntsAre (vs ++ [v]) (is ++ [i]) := by
 refine hide fun QQ hQQ => ?_
 obtain ⟨t, rfl⟩ := hv
 refine hQQ ?_
 clear hQQ QQ
 induction h with
 | nil => exact .cons _ _ .nil
 | cons n t _ ih => exact .cons _ _ ih
theorem ints_append {vs us : List Value} {is js : List Int} (h : IntsAre vs is) (h2 : IntsAre us js) : IntsAre (vs ++ us) (is ++ js) := by
 induction h with
 | nil => exact h2
 | cons n t _ ih => exact .cons _ _ ih
theorem bits_spec {w : World} {p : PH} {h : Heap} {m : Nat} {t1 : Tok} (G : Grd w p) (H : Holds p h) (hm : m < 2 ^ 63) :
  Fn w 1 (.ref 75) [.int (m : Nat) t1] p h [] (fun v p' _ => ∃ l : List Nat, LI p' v (zs l) ∧ l.Nodup ∧ (∀ i, i ∈ l ↔ m.testBit i = true) ∧ l.length ≤ 63) := by
 intro A g1 d1 t os R rm k
 refine call_fn (mu := []) (fd := fnT 6) [(Str.ofString "mask", .int (m : Nat) t1)] rfl (by kernel_rfl) G H rm (by simp) (by simp) (BindsTo.of_eq (by rfl)) (by kernel_rfl) (by kernel_rfl) (by rfl) (by rfl) (by rfl) fun L h₁ t₁ K => ?_
 refine xv_ fun Qq1 Jq1 => List_ (z_ ?_)
 refine nl K (by decide) fun a h2 fr K => ?_
 refine s_ K fun h2 t2 K => Jq1 _ _ (xv_ fun Qq2 Jq2 => m_ fun _ _ => s_ K fun h2 t2 K => Jq2 _ _ (xv_ fun Qq3 Jq3 => n_ 2 K rfl (s_ K fun h2 t2 K => Jq3 _ _ (x_ fun Qq4 Jq4 => wpAny_While ?_))))
 refine wh (fun n p' l' mu' => (PSub p p') ∧ (X6 fun (at_ : Nat) (u v : Tok) (r : AL) (vs : List Value) (c : Nat) => A5 (l' = (Str.ofString "left", .int (m >>> at_ : Nat) u) :: (Str.ofString "at", .int (at_ : Nat) v) :: (Str.ofString "found", .ref a) :: r) (mu' = [(a, listOf vs.toArray c)]) (∃ l : List Nat, IntsAre vs (zs l) ∧ l.Nodup ∧ (∀ i, i ∈ l ↔ i < at_ ∧ m.testBit i = true) ∧ l.length ≤ at_) (at_ ≤ 63) (n = 63 - at_))) 63 K
   ⟨PSub.refl _, 0, _, _, _, [], 0, rfl, rfl, ⟨[], .nil, by simp, by simp, by simp⟩, by decide, rfl⟩ ?turn
 rintro n p' h' l' mu' t' K hx7_ Qt Jt
 refine hide fun QQ hQQ => ?_
 obtain ⟨ps, at_, u, v, r, vs, c, rfl, rfl, ⟨l, ia, nd, hl, ll⟩, ha, hn⟩ := hx7_
 refine hQQ ?_
 clear hQQ QQ
 have hvl : vs.length = l.length := by have := ia.length; simpa [zs] using this
 refine qn_ 0 K rfl (m_ fun _ _ => i_gt (h_ ?_))
 refine PyProof.Rows.split_dec (fun hlt => ?_) (fun hlt => ?_)
 ·have hpos : 0 < m >>> at_ := by exact lnt fun q => lnq [_] [aL Z0 (tN 0),aL (tQ (tN 0)) Z0] rfl q (Int.ofNat_lt.mp hlt)
  have ha' : at_ < 63 := by
   refine Nat.lt_of_le_of_ne ha fun e => ?_
   rw [e, Nat.shiftRight_eq_div_pow, Nat.div_eq_of_lt hm] at hpos; exact lnq [] [aL (tQ (tN 0)) (tN 0)] rfl hpos
  refine x_ fun Qq5 Jq5 => wpAny_If (q_ (on_ 0 K rfl (m_ fun _ _ => ?_)))
  refine i_and (b := 1) fun _ _ => ?_
  refine m_ fun _ _ => i_eq (h_ ?_)
  rw [bit_at]
  have step : ∀ (b : Bool), m.testBit at_ = b → (∀ i, i ∈ (if b then l ++ [at_] else l) ↔ i < at_ + 1 ∧ m.testBit i = true) ∧ (if b then l ++ [at_] else l).Nodup ∧ (if b then l ++ [at_] else l).length ≤ at_ + 1 := by
   intro b hb
   cases b with
   | true =>
    simp only [if_true]
    refine ⟨fun i => ?_, ?_, by simp; exact lnl fun q => lnq [_,_] [aL (tQ Z0) Z1,aL Z1 Z0] rfl q ll⟩
    ·rw [List.mem_append, hl, List.mem_singleton]
     constructor
     ·rintro (x | rfl)
      ·exact ⟨by exact lnt fun q => lnq [_,_] [aL (tQ Z0) Z1,aL (tQ Z1) Z0] rfl q x.1, x.2⟩
      ·exact ⟨by exact lnt fun q => lnq [_] [aL (tQ Z0) Z0] rfl q, hb⟩
     ·rintro hx0_
      refine hide fun QQ hQQ => ?_
      obtain ⟨x, y⟩ := hx0_
      refine hQQ ?_
      clear hQQ QQ
      by_cases e : i = at_
      ·exact .inr e
      ·exact .inl ⟨by exact lnt fun q => (Nat.lt_or_gt_of_ne e).elim (fun q0 => lnq [_,_] [aL (tQ Z0) Z1,aL Z1 Z0] rfl q0 q) fun q0 => lnq [_,_] [aL (tQ Z0) Z1,aL (tQ Z1) (tQ Z0)] rfl q0 x, y⟩
    ·rw [List.nodup_append]
     refine ⟨nd, by simp, fun x hx y hy e => ?_⟩
     rw [List.mem_singleton] at hy; subst hy; subst e
     have := (hl _).mp hx; exact lnq [_] [aL (tQ Z0) Z0] rfl this.1
   | false =>
    simp only [Bool.false_eq_true, if_false]
    refine ⟨fun i => ?_, nd, by exact lnl fun q => lnq [_,_] [aL (tA (tQ Z0) (tN 1)) Z1,aL Z1 Z0] rfl q ll⟩
    rw [hl]
    refine ⟨fun x => ⟨by exact lnt fun q => lnq [_,_] [aL (tQ Z0) Z1,aL (tQ Z1) Z0] rfl q x.1, x.2⟩, fun x => ⟨?_, x.2⟩⟩
    refine Nat.lt_of_le_of_ne (by exact lnl fun q => lnq [_,_] [aL (tQ Z0) Z1,aL (tQ Z1) (tQ Z0)] rfl q x.1) fun e => ?_
    rw [e, hb] at x; cases x.2
  have shr : m >>> at_ >>> 1 = m >>> (at_ + 1) := by rw [Nat.shiftRight_add]
  refine split_b (fun hb => ?_) (fun hb => ?_)
  ·refine hide fun QQ hQQ => ?_
   obtain ⟨s1, s2, s3⟩ := step _ hb
   refine hQQ ?_
   clear hQQ QQ
   simp only [if_true] at s1 s2 s3
   refine x_ fun Qq6 Jq6 => wpAny_Expr_any (dn_ 2 K rfl ?_)
   refine app_m (K.get (.head _)) ?_
   refine l_ (arnz_ 1 K rfl ?_)
   refine app_ (m1 := []) K (by show vs.length ≤ 2 ^ 24; exact lnl fun q => lnq [_,_,_] [aL (tQ (tN 16777216)) Z0,aL (tQ Z1) (tN 63),aE Z0 Z2,aL Z2 Z1] rfl q ha' hvl ll) fun h3 n3 K => ?_
   refine Jq6 _ _ (e_ (Jq5 _ _ (xv_ fun Qq7 Jq7 => on_ 0 K rfl (m_ fun _ _ => ?_))))
   refine i_shr (n := 1) fun _ _ => ?_
   rw [shr]
   refine s_ K fun h2 t2 K => Jq7 _ _ (xv_ fun Qq8 Jq8 => on_ 2 K rfl (m_ fun _ _ => i_add fun _ _ => s_ K fun h2 t2 K => Jq8 _ _ (e_ (Jt _ _ ?_))))
   have K := ((K.pull (x := Str.ofString "found") (by exact lkN 4 (by kernel_rfl) rfl)).pull (x := Str.ofString "at") (by exact lkN 1 (by kernel_rfl) rfl)).pull (x := Str.ofString "left") (by exact lkN 3 (by kernel_rfl) rfl)
   exact ⟨63 - (at_ + 1), _, _, _, _, _, rfl, by exact lnt fun q => lnq [_,_,_,_] [aE (tA Z0 (tQ Z1)) (tN 63),aG (tA Z2 Z1) (tN 63),aL Z3 Z0,aG Z3 Z2] rfl (sbC fun q => lnq [_] [aL (tQ (tN 63)) (tQ Z0),aL (tQ Z0) (tN 63)] rfl q ha') (sbC fun q => lnq [_] [aL (tQ (tN 63)) Z0,aL (tQ Z0) (tN 63)] rfl q ha') q hn, K, ps, at_ + 1, _, _, _, _, _, rfl, rfl, ⟨l ++ [at_], by rw [zs_app]; exact ints_app ia ⟨_, rfl⟩, s2, s1, s3⟩, by exact lnl fun q => lnq [_] [aL (tQ (tN 63)) (tQ Z0),aL (tQ Z0) (tN 63)] rfl q ha', rfl⟩
  ·refine hide fun QQ hQQ => ?_
   obtain ⟨s1, s2, s3⟩ := step _ hb
   refine hQQ ?_
   clear hQQ QQ
   simp only [Bool.false_eq_true, if_false] at s1 s2 s3
   refine e_ (Jq5 _ _ (xv_ fun Qq6 Jq6 => on_ 0 K rfl (m_ fun _ _ => ?_)))
   refine i_shr (n := 1) fun _ _ => ?_
   rw [shr]
   refine s_ K fun h2 t2 K => Jq6 _ _ (xv_ fun Qq7 Jq7 => on_ 2 K rfl (m_ fun _ _ => i_add fun _ _ => s_ K fun h2 t2 K => Jq7 _ _ (e_ (Jt _ _ ?_))))
   have K := ((K.pull (x := Str.ofString "found") (by exact lkN 4 (by kernel_rfl) rfl)).pull (x := Str.ofString "at") (by exact lkN 1 (by kernel_rfl) rfl)).pull (x := Str.ofString "left") (by exact lkN 3 (by kernel_rfl) rfl)
   exact ⟨63 - (at_ + 1), _, _, _, _, _, rfl, by exact lnt fun q => lnq [_,_,_,_] [aE (tA Z0 (tQ Z1)) (tN 63),aG (tA Z2 Z1) (tN 63),aL Z3 Z0,aG Z3 Z2] rfl (sbC fun q => lnq [_] [aL (tQ (tN 63)) (tQ Z0),aL (tQ Z0) (tN 63)] rfl q ha') (sbC fun q => lnq [_] [aL (tQ (tN 63)) Z0,aL (tQ Z0) (tN 63)] rfl q ha') q hn, K, ps, at_ + 1, _, _, _, _, _, rfl, rfl, ⟨l, ia, s2, s1, s3⟩, by exact lnl fun q => lnq [_] [aL (tQ (tN 63)) (tQ Z0),aL (tQ Z0) (tN 63)] rfl q ha', rfl⟩
 ·refine Jq4 _ _ (wj_ (n_ 2 K rfl ?_))
  refine hide fun QQ hQQ => ?_
  obtain ⟨K, ps2, hf⟩ := K.fix fr
  refine hQQ ?_
  clear hQQ QQ
  refine k _ _ _ _ K.gro ⟨l, ⟨a, vs, c, rfl, hf, ia⟩, nd, fun i => ?_, by exact lnl fun q => lnq [_,_] [aL (tQ (tN 63)) Z0,aL Z0 Z1,aL Z1 (tN 63)] rfl q ll ha⟩
  rw [hl]
  refine ⟨fun x => x.2, fun x => ⟨?_, x⟩⟩
  have : m >>> at_ = 0 := Nat.eq_zero_of_not_pos fun z => hlt (Int.ofNat_lt.mpr z)
  have hb : (m >>> at_).testBit (i - at_) = false := by rw [this]; simp
  refine Nat.lt_of_not_le fun hle => ?_
  rw [Nat.testBit_shiftRight, show at_ + (i - at_) = i by exact lne (fun q => lnq [_,_,_] [aE (tA Z0 Z1) Z2,aL (tQ Z2) (tA Z1 Z0)] rfl (sbC fun q => lnq [_,_] [aL (tQ Z0) Z1,aL Z1 Z0] rfl q hle) q) fun q => lnq [_,_,_] [aL (tQ (tA Z0 Z1)) Z2,aL Z2 (tA Z1 Z0)] rfl q (sbL _ _), x] at hb; refine hide fun QQ hQQ => ?_
  cases hb
  all_goals (refine hQQ ?_; clear hQQ QQ)

theorem Gr.it_inj {γ : Gr} {x y : It} (hx : γ.ok x.1 x.2) (hy : γ.ok y.1 y.2) (e : γ.it x.1 x.2 = γ.it y.1 y.2) : x = y := by
 have a := γ.own_at hx
 have b := γ.own_at hy
 rw [e, b] at a
 have a : y.1 = x.1 := by injection a
 have : x.2 = y.2 := by unfold Gr.it at e; rw [a] at e; exact lne (fun q => lnq [_,_,_] [aL (tQ Z0) Z1,aE (tA Z2 Z1) (tA Z2 Z0)] rfl q e) fun q => lnq [_,_,_] [aL (tQ Z0) Z1,aG (tA Z2 Z0) (tA Z2 Z1)] rfl q e
 exact Prod.ext a.symm this
theorem Gr.mem_its {γ : Gr} {l : List It} {x : It} (hl : ∀ y ∈ l, γ.ok y.1 y.2) (hx : γ.ok x.1 x.2) : γ.it x.1 x.2 ∈ γ.its l ↔ x ∈ l := by
 unfold Gr.its
 rw [List.mem_map]
 constructor
 ·rintro ⟨y, hy, e⟩
  rw [Gr.it_inj hx (hl y hy) e.symm]; exact hy
 ·intro h; exact ⟨x, h, rfl⟩
theorem Gr.its_nodup {γ : Gr} {l : List It} (hl : ∀ y ∈ l, γ.ok y.1 y.2) (h : l.Nodup) : (γ.its l).Nodup := by
 induction l with
 | nil => exact List.nodup_nil
 | cons a l ih =>
  rw [List.nodup_cons] at h
  show ((γ.it a.1 a.2) :: γ.its l).Nodup
  rw [List.nodup_cons]
  exact ⟨fun q => h.1 ((Gr.mem_its (fun y hy => hl y (List.mem_cons_of_mem _ hy)) (hl a (List.mem_cons_self ..))).mp q), ih (fun y hy => hl y (List.mem_cons_of_mem _ hy)) h.2⟩
theorem perm_map {α β : Type} (f : α → β) {l : List α} {m : List β} (h : m.Perm (l.map f)) : ∃ l' : List α, l'.Perm l ∧ m = l'.map f := by
 generalize hb : l.map f = b at h
 induction h generalizing l with
 | nil => cases l with
  | nil => exact ⟨[], .refl _, rfl⟩
  | cons a l => cases hb
 | cons x _ ih => cases l with
  | nil => cases hb
  | cons a l =>
   rw [List.map_cons] at hb; injection hb with h1 h2
   obtain ⟨l', hp, e⟩ := ih h2
   exact ⟨a :: l', hp.cons a, by rw [List.map_cons, ← e, h1]⟩
 | swap x y l2 => match l, hb with
  | a :: b :: l, hb =>
   simp only [List.map_cons, List.cons.injEq] at hb
   exact ⟨b :: a :: l, .swap a b l, by simp [hb]⟩
 | trans _ _ ih1 ih2 =>
  obtain ⟨l1, p1, e1⟩ := ih2 hb
  obtain ⟨l2, p2, e2⟩ := ih1 e1.symm
  exact ⟨l2, p2.trans p1, e2⟩
theorem zs_perm {l : List Nat} {ns : List Int} (h : ns.Perm (zs l)) : ∃ l', l'.Perm l ∧ ns = zs l' := perm_map _ h
theorem its_perm {γ : Gr} {l : List It} {ns : List Int} (h : ns.Perm (zs (γ.its l))) : ∃ l', l'.Perm l ∧ ns = zs (γ.its l') := by
 obtain ⟨m, hm, rfl⟩ := zs_perm h
 obtain ⟨l', hl, rfl⟩ := perm_map _ hm
 exact ⟨l', hl, rfl⟩
inductive Gr.Fst (γ : Gr) : Nat → Nat → Prop
 | one {r b : Nat} : r < γ.rules.length → (γ.right r)[0]? = some b → γ.Fst (γ.left r) b
 | step {a b c : Nat} : γ.Fst a b → γ.Fst b c → γ.Fst a c
noncomputable def FirstsOk (γ : Gr) (firsts : List Nat) : Prop := firsts.length = γ.names.length ∧ ∀ s, s < γ.names.length → firsts.getD s 0 < 2 ^ γ.names.length ∧ ∀ i, ((firsts.getD s 0).testBit i = true ↔ γ.Fst s i)
inductive Gr.Clo (γ : Gr) (k : It → Prop) : It → Prop
 | base {x : It} : k x → γ.Clo k x
 | step {r d s r' : Nat} : γ.Clo k (r, d) → (γ.right r)[d]? = some s → r' < γ.rules.length → γ.left r' = s → γ.Clo k (r', 0)
theorem one_shl (x : Nat) : 1 <<< x = 2 ^ x := by rw [Nat.shiftLeft_eq, Nat.one_mul]
theorem Gr.wantStep_bit {γ : Gr} {firsts : List Nat} (m : Nat) (x : It) (i : Nat) : (γ.wantStep firsts m x).testBit i = true ↔ m.testBit i = true ∨ ∃ s, (γ.right x.1)[x.2]? = some s ∧ (i = s ∨ (firsts.getD s 0).testBit i = true) := by
 unfold Gr.wantStep
 cases h : (γ.right x.1)[x.2]? with
 | none => simp
 | some s =>
  simp only [Nat.testBit_or, Bool.or_eq_true, one_shl, Nat.testBit_two_pow, decide_eq_true_eq, Option.some.injEq, exists_eq_left']
  rw [or_assoc]
  constructor
  ·rintro (a | a | a)
   ·exact .inl a
   ·exact .inr (.inl a.symm)
   ·exact .inr (.inr a)
  ·rintro (a | a | a)
   ·exact .inl a
   ·exact .inr (.inl a.symm)
   ·exact .inr (.inr a)
theorem Gr.want_bit (γ : Gr) (firsts : List Nat) (l : List It) (i : Nat) : (γ.want firsts l).testBit i = true ↔ ∃ x ∈ l, ∃ s, (γ.right x.1)[x.2]? = some s ∧ (i = s ∨ (firsts.getD s 0).testBit i = true) := by
 have : ∀ (l : List It) (m : Nat), (l.foldl (γ.wantStep firsts) m).testBit i = true ↔ m.testBit i = true ∨ ∃ x ∈ l, ∃ s, (γ.right x.1)[x.2]? = some s ∧ (i = s ∨ (firsts.getD s 0).testBit i = true) := by
  intro l
  induction l with
  | nil => intro m; simp
  | cons a l ih =>
   intro m
   rw [List.foldl_cons, ih, Gr.wantStep_bit, or_assoc]
   refine or_congr_right ?_
   simp only [List.mem_cons, exists_eq_or_imp]
 unfold Gr.want
 rw [this]; simp
theorem Gr.want_lt (γ : Gr) {firsts : List Nat} (fo : FirstsOk γ firsts) (ok : GrOk γ) (l : List It) (hl : ∀ x ∈ l, γ.ok x.1 x.2) : γ.want firsts l < 2 ^ γ.names.length := by
 have : ∀ (l : List It) (m : Nat), m < 2 ^ γ.names.length → (∀ x ∈ l, γ.ok x.1 x.2) → l.foldl (γ.wantStep firsts) m < 2 ^ γ.names.length := by
  intro l
  induction l with
  | nil => intro m h _; exact h
  | cons a l ih =>
   intro m h hl
   rw [List.foldl_cons]
   refine ih _ ?_ fun x hx => hl x (List.mem_cons_of_mem _ hx)
   unfold Gr.wantStep
   cases hq : (γ.right a.1)[a.2]? with
   | none => exact h
   | some s =>
    have hs : s < γ.names.length := ok.2.1 a.1 (hl a (List.mem_cons_self ..)).1 s (List.mem_of_getElem? hq)
    exact Nat.or_lt_two_pow (Nat.or_lt_two_pow h (by rw [one_shl]; exact Nat.pow_lt_pow_right (by decide) hs)) (fo.2 s hs).1
 exact this l 0 (Nat.two_pow_pos _) hl
theorem Gr.Clo.ok {γ : Gr} {k : It → Prop} (hk : ∀ x, k x → γ.ok x.1 x.2) {x : It} (h : γ.Clo k x) : γ.ok x.1 x.2 := by
 cases h with
 | base h => exact hk x h
 | step _ _ h _ => exact ⟨h, Nat.zero_le _⟩
theorem Gr.Clo.fst {γ : Gr} {k : It → Prop} {a b : Nat} (h : γ.Fst a b) : ∀ {r d : Nat}, γ.Clo k (r, d) → (γ.right r)[d]? = some a → ∃ r' d', γ.Clo k (r', d') ∧ (γ.right r')[d']? = some b := by
 induction h with
 | one h1 h2 => intro r d c e; exact ⟨_, 0, .step c e h1 rfl, h2⟩
 | step _ _ ih1 ih2 => intro r d c e; obtain ⟨r', d', c', e'⟩ := ih1 c e; exact ih2 c' e'
theorem Gr.clo_want {γ : Gr} {firsts : List Nat} (fo : FirstsOk γ firsts) (ok : GrOk γ) {l : List It} (hl : ∀ x ∈ l, γ.ok x.1 x.2) (x : It) :
  γ.Clo (· ∈ l) x ↔ x ∈ l ∨ (x.2 = 0 ∧ x.1 < γ.rules.length ∧ (γ.want firsts l).testBit (γ.left x.1) = true) := by
 constructor
 ·intro h
  have key : ∀ x, γ.Clo (· ∈ l) x → ∀ s, (γ.right x.1)[x.2]? = some s → (γ.want firsts l).testBit s = true := by
   intro x h
   induction h with
   | base h => intro s e; rw [Gr.want_bit]; exact ⟨_, h, s, e, .inl rfl⟩
   | @step r d s r' h1 e1 h2 h3 ih =>
    intro s' e'
    have := ih s e1
    rw [Gr.want_bit] at this ⊢
    obtain ⟨y, hy, z, ez, hz⟩ := this
    have hz' : z < γ.names.length := ok.2.1 y.1 (hl y hy).1 z (List.mem_of_getElem? ez)
    have f1 : γ.Fst s s' := by have := Gr.Fst.one (γ := γ) h2 e'; rwa [h3] at this
    refine ⟨y, hy, z, ez, .inr ?_⟩
    rw [(fo.2 z hz').2]
    rcases hz with rfl | hz
    ·exact f1
    ·exact .step (((fo.2 z hz').2 s).mp hz) f1
  cases h with
  | base h => exact .inl h
  | step h1 e1 h2 h3 => exact .inr ⟨rfl, h2, by subst h3; exact key _ h1 _ e1⟩
 ·rintro (h | ⟨h1, h2, h3⟩)
  ·exact .base h
  ·rw [Gr.want_bit] at h3
   obtain ⟨y, hy, z, ez, hz⟩ := h3
   have hz' : z < γ.names.length := ok.2.1 y.1 (hl y hy).1 z (List.mem_of_getElem? ez)
   obtain ⟨r, d⟩ := x
   simp only at h1 h2 hz ⊢
   subst h1
   rcases hz with rfl | hz
   ·exact .step (r := y.1) (d := y.2) (.base hy) ez h2 rfl
   ·obtain ⟨r', d', c', e'⟩ := Gr.Clo.fst (((fo.2 z hz').2 _).mp hz) (Gr.Clo.base (k := (· ∈ l)) hy) ez
    exact .step c' e' h2 rfl
theorem nodup_le : ∀ (n : Nat) {l : List Nat}, l.Nodup → (∀ x ∈ l, x < n) → l.length ≤ n
 | 0, l, _, h => by
  cases l with
  | nil => exact Nat.le_refl _
  | cons a l => exact absurd (h a (List.mem_cons_self ..)) (Nat.not_lt_zero _)
 | n + 1, l, nd, h => by
  have := nodup_le n (l := l.erase n) (nd.erase n) fun x hx => by
   rw [nd.mem_erase_iff] at hx
   have := h x hx.2; have := hx.1; exact lnt fun q => (Nat.lt_or_gt_of_ne hx.1).elim (fun q0 => lnq [_,_] [aL (tQ Z0) Z1,aL Z1 Z0] rfl q0 q) fun q0 => lnq [_,_] [aL (tQ Z0) Z1,aL (tQ Z1) (tQ Z0)] rfl q0 (by assumption)
  rw [List.length_erase] at this
  split at this <;> (first | exact lnl fun q => lnq [_,_] [aL (tA (tQ Z0) (tN 1)) Z1,aL Z1 Z0] rfl q this | exact lnl fun q => lnq [_,_,_] [aL (tA (tQ Z0) (tN 1)) Z1,aL Z2 Z0,aL Z1 (tQ Z2)] rfl q this (sbL _ _))
theorem Gr.its_len {γ : Gr} {l : List It} (hl : ∀ y ∈ l, γ.ok y.1 y.2) (h : l.Nodup) : l.length ≤ γ.own.length := by
 have := nodup_le γ.own.length (Gr.its_nodup hl h) fun x hx => by
  unfold Gr.its at hx
  obtain ⟨y, hy, rfl⟩ := List.mem_map.mp hx
  exact ok_lt (hl y hy)
 simpa [Gr.its] using this

noncomputable def Gr.byL (γ : Gr) (s : Nat) : List Nat := (List.range γ.rules.length).filter fun k => γ.left k == s
section
variable {w : World} {p : PH} {h : Heap} {gr c : Addr} {fs : AL} {γ : Gr} {firsts : List Nat}
theorem in_ti {A : Around} {E : Value → Shared → Prop} {g1 : Array GenState} {d : Drawn} {t : Nat} {os : OsState} {a : Addr} {vs : List Value} {n k : Nat} {u : Tok} {l : List Nat} {Q : Value → Shared → Prop} (ha : h.get? a = some (tupOf vs.toArray n)) (hI : IntsAre vs (zs l))
  (q : Q (.bool (!decide (k ∈ l))) ⟨h, g1, d, t, os⟩) : wpAny (model PR w) A (compareOp .NotIn (.int (k : Nat) u) (.ref a)) Q E ⟨h, g1, d, t, os⟩ := by
 refine PySem.SeqAt.notIn_tupleAt (s := ⟨h, g1, d, t, os⟩) (fun y => match y with | .int i _ => i == (k : Int) | _ => false) ⟨_, ha, rfl, _, rfl⟩ (fun y hy => ?_) ?_
 ·have hy : y ∈ vs := by simpa using hy
  refine hide fun QQ hQQ => ?_
  obtain ⟨i, u, rfl⟩ := hI.all y hy
  refine hQQ ?_
  clear hQQ QQ
  exact PySem.SeqAt.EqAt.int_int i u k _
 ·have e : (vs.toArray.any fun y => match y with | .int i _ => i == (k : Int) | _ => false) = decide (k ∈ l) := by
   rw [List.any_toArray]
   clear q ha
   induction l generalizing vs with
   | nil => cases hI; rfl
   | cons a l ih =>
    cases hI with
    | cons _ _ hI =>
     rw [List.any_cons, ih hI, Bool.eq_iff_iff]
     simp only [Bool.or_eq_true, beq_iff_eq, decide_eq_true_eq, List.mem_cons]
     constructor
     ·rintro (x | x)
      ·exact .inl (by exact lne (fun q => lnq [_,_] [aL (tQ Z0) Z1,aG Z0 Z1] rfl q (Int.ofNat.inj x)) fun q => lnq [_,_] [aL (tQ Z0) Z1,aE Z1 Z0] rfl q (Int.ofNat.inj x))
      ·exact .inr x
     ·rintro (x | x)
      ·exact .inl (by exact congrArg Int.ofNat (lne (fun q => lnq [_,_] [aL (tQ Z0) Z1,aG Z0 Z1] rfl q x) fun q => lnq [_,_] [aL (tQ Z0) Z1,aE Z1 Z0] rfl q x))
      ·exact .inr x
  rw [e]; exact q
theorem ao_c_gr (P : Params) : attrOk (KF P) 148 "grammar" = true := by kernel_rfl
theorem mo_rules_of (P : Params) : methOk (KF P) 391 "rules_of" 360 = true := by kernel_rfl
theorem mo_item (P : Params) : methOk (KF P) 391 "item" 367 = true := by kernel_rfl
theorem mo_wanted (P : Params) : methOk (KF P) 148 "wanted" 131 = true := by kernel_rfl
theorem mo_added (P : Params) : methOk (KF P) 148 "added" 138 = true := by kernel_rfl
theorem rules_of_spec {s : Nat} {t1 : Tok} (G : Grd w p) (H : Holds p h) (g : GrAt p gr γ fs) (hs : s < γ.names.length) :
  Fn w 1 (.ref 360) [.ref gr, .int (s : Nat) t1] p h [] (fun v p' _ => LI p' v (zs (γ.byL s))) := by
 intro A g1 d1 t os R rm k
 refine hide fun QQ hQQ => ?_
 obtain ⟨vo, ho, hv⟩ := g.byl
 refine hQQ ?_
 clear hQQ QQ
 have sm := g.small
 refine call_fn (mu := []) (fd := fnM 23 5) [(Str.ofString "symbol", .int (s : Nat) t1), (Str.ofString "self", .ref gr)] rfl (by kernel_rfl) G H rm (by simp) (by simp) (BindsTo.of_eq (by rfl)) (by kernel_rfl) (by kernel_rfl) (by rfl) (by rfl) (by rfl) fun L h₁ t₁ K => ?_
 refine hide fun QQ hQQ => ?_
 obtain ⟨a, vs, m, u, rfl, b, c, x⟩ := hv.at_ hs
 obtain ⟨a2, vs2, m2, rfl, b2, ia⟩ := x
 refine hQQ ?_
 clear hQQ QQ
 have hl : vs2.length = (γ.byL s).length := by rw [ia.length]; simp [zs]; rfl
 have hl2 : (γ.byL s).length ≤ γ.rules.length := by unfold Gr.byL; refine Nat.le_trans (List.length_filter_le ..) ?_; simp
 refine wj_ (kt_ (gB_list _) G K.hold (ar_ (u_ (tn_ 1 K rfl ?_))))
 refine ga G K.hold (g.ob.mono K.hold) (ao_byl _) ho rfl fun _ => ?_
 refine n_ 0 K rfl ?_
 refine sub_list (K.hold _ _ b) (by exact Int.natCast_nonneg _) (by exact Int.ofNat_lt.mpr (lnt fun q => lnq [_,_] [aL (tN 9223372036854775808) Z0,aL (tQ Z1) (tN 1000),aL (tQ Z0) Z1] rfl q sm.2.2 hs)) c (by rfl) ?_
 refine z_ ?_
 refine lst_list K (K.hold _ _ b2) (by show vs2.length ≤ 2 ^ 24; exact lnl fun q => lnq [_,_,_] [aL (tQ (tN 16777216)) Z0,aL Z1 Z2,aE Z0 Z1,aL (tQ Z2) (tN 1000)] rfl q hl2 hl sm.2.1) fun b h3 n3 fr K => ?_
 refine hide fun QQ hQQ => ?_
 obtain ⟨K, ps, hb⟩ := K.fix fr
 refine hQQ ?_
 clear hQQ QQ
 exact k _ _ _ _ K.gro ⟨b, vs2, n3, rfl, hb, ia⟩
theorem added_spec {kv : Value} {l : List It} (G : Grd w p) (H : Holds p h) (g : GrAt p gr γ fs) (ok : GrOk γ) (cl : CloAt p c gr firsts) (fo : FirstsOk γ firsts) (hk : TI p kv (zs (γ.its l))) (hl : ∀ x ∈ l, γ.ok x.1 x.2) :
  Fn w 3 (.ref 138) [.ref c, kv] p h [] (fun v p' _ => ∃ l' : List It, LI p' v (zs (γ.its l')) ∧ l'.Nodup ∧ (∀ x, x ∈ l' ↔ x ∉ l ∧ x.2 = 0 ∧ x.1 < γ.rules.length ∧ (γ.want firsts l).testBit (γ.left x.1) = true)) := by
 intro A g1 d1 t os R rm k
 refine hide fun QQ hQQ => ?_
 obtain ⟨fc, oc, hg, ⟨vf, hvf, lf⟩, ho⟩ := cl.ob
 refine hQQ ?_
 clear hQQ QQ
 refine call_fn (mu := []) (fd := fnM 10 2) [(Str.ofString "kernel", kv), (Str.ofString "self", .ref c)] rfl (by kernel_rfl) G H rm (by simp) (by simp) (BindsTo.of_eq (by rfl)) (by kernel_rfl) (by kernel_rfl) (by rfl) (by rfl) (by rfl) fun L h₁ t₁ K => ?_
 refine xv_ fun Qq1 Jq1 => List_ (z_ ?_)
 refine nl K (by decide) fun a h2 fr K => ?_
 refine s_ K fun h2 t2 K => Jq1 _ _ (x_ fun Qq2 Jq2 => wpAny_For (kg_ (gG_bits _) G K.hold (ar_ (dn_ 2 K rfl ?_))))
 refine gm G K.hold (oc.mono K.hold) (mo_wanted _) (ho _ (by kernel_rfl)) ?_
 refine f_ (arnz_ 1 K rfl ?_)
 refine ⟨⟨_, G, K.hold⟩, ?_⟩
 refine use_fn (wanted_spec G K.hold g ok cl fo.1 hk hl) rm.deeper fun v p3 h3 t3 gro hv => ?_
 refine hide fun QQ hQQ => ?_
 obtain ⟨u3, rfl⟩ := hv
 refine hQQ ?_
 clear hQQ QQ
 have K := K.call gro
 have G' := G.mono gro.sub
 have g' := g.mono gro.sub
 have hk' := hk.mono gro.sub
 refine z_ ?_
 refine ⟨⟨_, G', K.hold⟩, ?_⟩
 have nl24 := ok.2.2.2.1
 have wl := γ.want_lt fo ok l hl
 have wl2 : γ.want firsts l < 2 ^ 63 := Nat.lt_of_lt_of_le wl (Nat.pow_le_pow_right (by decide) (by exact lnl fun q => lnq [_] [aL (tQ (tN 63)) Z0,aL Z0 (tN 24)] rfl q nl24))
 refine use_fn (bits_spec G' K.hold wl2) (rm.deeper.less (by decide)) fun v p4 h4 t4 gro2 hv => ?_
 refine hide fun QQ hQQ => ?_
 obtain ⟨bl, hbl, bnd, bmem, blen⟩ := hv
 have K := K.call gro2
 have G' := G'.mono gro2.sub
 have g' := g'.mono gro2.sub
 have hk' := hk'.mono gro2.sub
 have oc' := (oc.mono gro.sub).mono gro2.sub
 obtain ⟨a2, vs2, m2, rfl, b2, ia2⟩ := hbl
 refine hQQ ?_
 clear hQQ QQ
 have vl2 : vs2.length = bl.length := by rw [ia2.length]; simp [zs]
 skip
 refine for_list (mu := [(a, listOf [].toArray 0)]) (its := []) (vs := vs2) rm.hd (.inl rfl) (.inl rfl) (fun i p' l' mu' => (PSub p4 p') ∧ (X3 fun (vs : List Value) (c1 : Nat) (r : AL) => A3 (l' = (Str.ofString "found", .ref a) :: (Str.ofString "kernel", kv) :: (Str.ofString "self", .ref c) :: r) (mu' = [(a, listOf vs.toArray c1)]) (∃ l1 : List It, IntsAre vs (zs (γ.its l1)) ∧ l1.Nodup ∧ ∀ x, x ∈ l1 ↔ x ∉ l ∧ x.2 = 0 ∧ x.1 < γ.rules.length ∧ γ.left x.1 ∈ bl.take i)))
  K ⟨PSub.refl _, [], 0, _, rfl, rfl, [], .nil, List.nodup_nil, by simp⟩ ?src ?turn ?done
 case src => rintro i p' h' l' mu' its K ⟨ps, _⟩; exact ⟨m2, K.hold _ _ (ps _ _ b2)⟩
 case done =>
  rintro p' h' l' mu' t' K hx6_
  refine hide fun QQ hQQ => ?_
  obtain ⟨ps, vs, c1, r, rfl, rfl, l1, ia1, nd1, m1⟩ := hx6_
  refine hQQ ?_
  clear hQQ QQ
  have e : bl.take vs2.length = bl := by rw [List.take_of_length_le]; exact lnl fun q => lnq [_,_] [aL (tQ Z0) Z1,aG Z0 Z1] rfl q vl2
  rw [e] at m1
  have ok1 : ∀ x ∈ l1, γ.ok x.1 x.2 := fun x hx => by have := (m1 x).mp hx; exact ⟨this.2.2.1, by exact lnl fun q => lnq [_,_] [aL (tQ Z0) Z1,aE Z1 (tN 0)] rfl q this.2.1⟩
  have len1 := Gr.its_len ok1 nd1
  have ol := ok.2.2.1
  have vl1 : vs.length = l1.length := by rw [ia1.length]; simp [zs, Gr.its]
  have G1 := G'.mono ps
  refine Jq2 _ _ (wj_ (kb_ (gB_sorted _) G1 K.hold (arnz_ 0 K rfl ?_)))
  refine sort_list K (K.get (.head _)) ia1 (by exact lnt fun q => lnq [_,_,_] [aL (tN 64) Z0,aE Z0 Z1,aL Z2 (tN 24),aL Z1 Z2] rfl q vl1 ol len1) fun b h5 t5 c5 out ns fr5 K si sp sw => ?_
  refine hide fun QQ hQQ => ?_
  obtain ⟨l2, lp, rfl⟩ := its_perm sp
  obtain ⟨K, ps5, hb⟩ := K.fix fr5
  refine hQQ ?_
  clear hQQ QQ
  refine k _ _ _ _ K.gro ⟨l2, ⟨b, out, c5, rfl, hb, si⟩, lp.symm.nodup nd1, fun x => ?_⟩
  rw [lp.mem_iff, m1, bmem]
 case turn =>
  rintro i v p' h' l' mu' its t' hv hi K hx11_ Qt Jt
  refine hide fun QQ hQQ => ?_
  obtain ⟨ps, vs, c1, r, rfl, rfl, l1, ia1, nd1, m1⟩ := hx11_
  refine hQQ ?_
  clear hQQ QQ
  have hi' : i < bl.length := by exact lnt fun q => lnq [_,_,_] [aL Z0 Z1,aL (tQ Z1) Z2,aE Z2 Z0] rfl q hi vl2
  have hx : bl[i]? = some bl[i] := List.getElem?_eq_getElem hi'
  generalize bl[i] = s at hx
  refine hide fun QQ hQQ => ?_
  obtain ⟨u2, hv2⟩ := ints_at ia2 (zs_at hx)
  refine hQQ ?_
  clear hQQ QQ
  rw [hv2] at hv; refine hide fun QQ hQQ => ?_
  cases hv
  all_goals (refine hQQ ?_; clear hQQ QQ)
  have hs : s < γ.names.length := by
   refine Nat.lt_of_not_le fun q => ?_
   have a1 := (bmem s).mp (List.mem_of_getElem? hx)
   rw [Nat.testBit_lt_two_pow (Nat.lt_of_lt_of_le wl (Nat.pow_le_pow_right (by decide) q))] at a1; refine hide fun QQ hQQ => ?_
   cases a1
   all_goals (refine hQQ ?_; clear hQQ QQ)
  have G1 := G'.mono ps
  have g1 := g'.mono ps
  have k1 := hk'.mono ps
  have o1 := oc'.mono ps
  refine wpAny_assign_Name (s_ K fun h2 t2 K => x_ fun Qq3 Jq3 => wpAny_For (d_ (tn_ 3 K rfl ?_)))
  refine ga G1 K.hold (o1.mono K.hold) (ao_c_grammar _) hg rfl fun _ => ?_
  refine gm G1 K.hold (g1.ob.mono K.hold) (mo_rules_of _) (g1.only _ (by kernel_rfl)) ?_
  refine f_ (arnz_ 0 K rfl ?_)
  refine ⟨⟨_, G1, K.hold⟩, ?_⟩
  refine use_fn (rules_of_spec G1 K.hold g1 hs) (rm.deeper.less (by decide)) fun v p5 h5 t5 gro5 hv => ?_
  refine hide fun QQ hQQ => ?_
  obtain ⟨a3, vs3, m3, rfl, b3, ia3⟩ := hv
  refine hQQ ?_
  clear hQQ QQ
  have K := K.call gro5
  have G1 := G1.mono gro5.sub
  have g1 := g1.mono gro5.sub
  have k1 := k1.mono gro5.sub
  have o1 := o1.mono gro5.sub
  have vl3 : vs3.length = (γ.byL s).length := by rw [ia3.length]; simp [zs]
  skip
  have bn : (γ.byL s).Nodup := List.Pairwise.filter _ List.nodup_range
  have bm : ∀ x, x ∈ γ.byL s ↔ x < γ.rules.length ∧ γ.left x = s := fun x => by unfold Gr.byL; rw [List.mem_filter, List.mem_range, beq_iff_eq]
  have snot : s ∉ bl.take i := fun q => by
   refine hide fun QQ hQQ => ?_
   obtain ⟨j, hj⟩ := List.mem_iff_getElem?.mp q
   refine hQQ ?_
   clear hQQ QQ
   rw [List.getElem?_take] at hj
   split at hj
   ·rename_i jl
    have := (List.getElem?_inj (by exact lnt fun q => lnq [_,_,_] [aL Z0 Z1,aL (tQ Z1) Z2,aL (tQ Z2) Z0] rfl q jl hi') bnd).mp (hj.trans hx.symm); exact lnq [_,_] [aG Z0 Z1,aL (tQ Z0) Z1] rfl this jl
   ·cases hj
  refine for_list (mu := [(a, listOf vs.toArray c1)]) (its := its) (vs := vs3) rm.hd (.inl rfl) (.inl rfl) (fun j p' l' mu' => (PSub p5 p') ∧ (X3 fun (vs : List Value) (c1 : Nat) (r : AL) => A3 (l' = (Str.ofString "symbol", .int (s : Nat) u2) :: (Str.ofString "found", .ref a) :: (Str.ofString "kernel", kv) :: (Str.ofString "self", .ref c) :: r) (mu' = [(a, listOf vs.toArray c1)]) (∃ l1 : List It, IntsAre vs (zs (γ.its l1)) ∧ l1.Nodup ∧ ∀ x, x ∈ l1 ↔ x ∉ l ∧ x.2 = 0 ∧ x.1 < γ.rules.length ∧ (γ.left x.1 ∈ bl.take i ∨ x.1 ∈ (γ.byL s).take j))))
   K ⟨PSub.refl _, vs, c1, _, rfl, rfl, l1, ia1, nd1, by simpa using m1⟩ ?src ?turn ?done
  case src => rintro i p' h' l' mu' its K ⟨ps, _⟩; exact ⟨m3, K.hold _ _ (ps _ _ b3)⟩
  case done =>
   rintro p6 h6 l' mu' t' K hx6_
   refine hide fun QQ hQQ => ?_
   obtain ⟨ps6, vs, c1, r, rfl, rfl, l1, ia1, nd1, m1⟩ := hx6_
   refine hQQ ?_
   clear hQQ QQ
   have e : (γ.byL s).take vs3.length = γ.byL s := by rw [List.take_of_length_le]; exact lnl fun q => lnq [_,_] [aL (tQ Z0) Z1,aG Z0 Z1] rfl q vl3
   rw [e] at m1
   refine Jq3 _ _ (e_ (Jt _ _ ?_))
   have K := ((K.pull (x := Str.ofString "self") (by exact lkN 3 (by kernel_rfl) rfl)).pull (x := Str.ofString "kernel") (by exact lkN 3 (by kernel_rfl) rfl)).pull (x := Str.ofString "found") (by exact lkN 3 (by kernel_rfl) rfl)
   refine ⟨_, _, _, _, _, rfl, K, (ps.trans gro5.sub).trans ps6, _, _, _, rfl, rfl, l1, ia1, nd1, fun x => ?_⟩
   rw [m1, List.take_add_one, hx, List.mem_append, bm]
   constructor
   ·rintro ⟨a1, a2, a3, a4 | a4⟩
    ·exact ⟨a1, a2, a3, .inl a4⟩
    ·exact ⟨a1, a2, a3, .inr (by simp [a4.2])⟩
   ·rintro ⟨a1, a2, a3, a4 | a4⟩
    ·exact ⟨a1, a2, a3, .inl a4⟩
    ·exact ⟨a1, a2, a3, .inr ⟨a3, by simpa using a4⟩⟩
  case turn =>
   rintro j v p6 h6 l' mu' its t' hv hj K hx11_ Qt Jt
   refine hide fun QQ hQQ => ?_
   obtain ⟨ps6, vs, c1, r, rfl, rfl, l1, ia1, nd1, m1⟩ := hx11_
   refine hQQ ?_
   clear hQQ QQ
   have hj' : j < (γ.byL s).length := by exact lnt fun q => lnq [_,_,_] [aL Z0 Z1,aL (tQ Z1) Z2,aE Z2 Z0] rfl q hj vl3
   have hy : (γ.byL s)[j]? = some (γ.byL s)[j] := List.getElem?_eq_getElem hj'
   generalize (γ.byL s)[j] = n at hy
   refine hide fun QQ hQQ => ?_
   obtain ⟨u5, hv5⟩ := ints_at ia3 (zs_at hy)
   refine hQQ ?_
   clear hQQ QQ
   rw [hv5] at hv; refine hide fun QQ hQQ => ?_
   cases hv
   all_goals (refine hQQ ?_; clear hQQ QQ)
   have hn := (bm n).mp (List.mem_of_getElem? hy)
   have G1 := G1.mono ps6
   have g1 := g1.mono ps6
   have k1 := k1.mono ps6
   have o1 := o1.mono ps6
   refine wpAny_assign_Name (s_ K fun h2 t2 K => xv_ fun Qq4 Jq4 => d_ (tn_ 4 K rfl ?_))
   refine ga G1 K.hold (o1.mono K.hold) (ao_c_grammar _) hg rfl fun _ => ?_
   refine gm G1 K.hold (g1.ob.mono K.hold) (mo_item _) (g1.only _ (by kernel_rfl)) ?_
   refine f_ (arn_ 0 K rfl (r_ (m_ fun _ _ => z_ ?_)))
   refine ⟨⟨_, G1, K.hold⟩, ?_⟩
   refine use_fn (item_spec (d := 0) G1 K.hold g1 hn.1) (rm.deeper.less (by decide)) fun v p7 h7 t7 gro7 hv => ?_
   refine hide fun QQ hQQ => ?_
   obtain ⟨u7, rfl⟩ := hv
   have K := K.call gro7
   have G1 := G1.mono gro7.sub
   have k1 := k1.mono gro7.sub
   obtain ⟨ka, kvs, km, rfl, kb, kia⟩ := k1
   refine hQQ ?_
   clear hQQ QQ
   refine s_ K fun h2 t2 K => Jq4 _ _ (x_ fun Qq5 Jq5 => wpAny_If (qn_ 0 K rfl (n_ 4 K rfl ?_)))
   refine in_ti (K.hold _ _ kb) kia ?_
   have okn : γ.ok n 0 := ⟨hn.1, Nat.zero_le _⟩
   have nnot : n ∉ (γ.byL s).take j := fun q => by
    refine hide fun QQ hQQ => ?_
    obtain ⟨j', hj⟩ := List.mem_iff_getElem?.mp q
    refine hQQ ?_
    clear hQQ QQ
    rw [List.getElem?_take] at hj
    split at hj
    ·rename_i jl
     have := (List.getElem?_inj (by exact lnt fun q => lnq [_,_,_] [aL Z0 Z1,aL (tQ Z1) Z2,aL (tQ Z2) Z0] rfl q jl hj') bn).mp (hj.trans hy.symm); exact lnq [_,_] [aG Z0 Z1,aL (tQ Z0) Z1] rfl this jl
    ·cases hj
   refine h_ ?_
   refine split_b (fun hb => ?_) (fun hb => ?_)
   ·have hb : (n, 0) ∉ l := by simpa [Gr.mem_its (x := (n, 0)) hl okn] using hb
    have new : (n, 0) ∉ l1 := fun q => by
     have := (m1 _).mp q
     rcases this.2.2.2 with z | z
     ·rw [hn.2] at z; exact snot z
     ·exact nnot z
    have ok1 : ∀ x ∈ l1, γ.ok x.1 x.2 := fun x hx => by have := (m1 x).mp hx; exact ⟨this.2.2.1, by exact lnl fun q => lnq [_,_] [aL (tQ Z0) Z1,aE Z1 (tN 0)] rfl q this.2.1⟩
    have len1 := Gr.its_len ok1 nd1
    have ol := ok.2.2.1
    have vl1 : vs.length = l1.length := by rw [ia1.length]; simp [zs, Gr.its]
    refine x_ fun Qq6 Jq6 => wpAny_Expr_any (dn_ 3 K rfl ?_)
    refine app_m (K.get (.head _)) ?_
    refine l_ (arnz_ 0 K rfl ?_)
    refine app_ (m1 := []) K (by show vs.length ≤ 2 ^ 24; exact lnl fun q => lnq [_,_,_] [aL (tQ (tN 16777216)) Z0,aE Z0 Z1,aL Z2 (tN 24),aL Z1 Z2] rfl q vl1 ol len1) fun h8 n8 K => ?_
    refine Jq6 _ _ (e_ (Jq5 _ _ (e_ (Jt _ _ ?_))))
    have K := (((K.pull (x := Str.ofString "self") (by exact lkN 5 (by kernel_rfl) rfl)).pull (x := Str.ofString "kernel") (by exact lkN 5 (by kernel_rfl) rfl)).pull (x := Str.ofString "found") (by exact lkN 5 (by kernel_rfl) rfl)).pull (x := Str.ofString "symbol") (by exact lkN 5 (by kernel_rfl) rfl)
    refine ⟨_, _, _, _, _, rfl, K, ps6.trans gro7.sub, _, _, _, rfl, rfl, l1 ++ [(n, 0)], ?_, ?_, fun x => ?_⟩
    ·rw [show γ.its (l1 ++ [(n, 0)]) = γ.its l1 ++ [γ.it n 0] by simp [Gr.its], zs_app]
     exact ints_app ia1 ⟨_, rfl⟩
    ·rw [List.nodup_append]
     refine ⟨nd1, by simp, fun x hx y hy e => ?_⟩
     rw [List.mem_singleton] at hy; subst hy; subst e; exact new hx
    ·rw [List.mem_append, List.mem_singleton, m1, List.take_add_one, hy, List.mem_append]
     constructor
     ·rintro (⟨a1, a2, a3, a4 | a4⟩ | rfl)
      ·exact ⟨a1, a2, a3, .inl a4⟩
      ·exact ⟨a1, a2, a3, .inr (.inl a4)⟩
      ·exact ⟨hb, rfl, hn.1, .inr (.inr (by simp))⟩
     ·rintro ⟨a1, a2, a3, a4 | a4 | a4⟩
      ·exact .inl ⟨a1, a2, a3, .inl a4⟩
      ·exact .inl ⟨a1, a2, a3, .inr a4⟩
      ·exact .inr (Prod.ext (by simpa using a4) a2)
   ·have hb : (n, 0) ∈ l := by simpa [Gr.mem_its (x := (n, 0)) hl okn] using hb
    refine e_ (Jq5 _ _ (e_ (Jt _ _ ?_)))
    have K := (((K.pull (x := Str.ofString "self") (by exact lkN 5 (by kernel_rfl) rfl)).pull (x := Str.ofString "kernel") (by exact lkN 5 (by kernel_rfl) rfl)).pull (x := Str.ofString "found") (by exact lkN 5 (by kernel_rfl) rfl)).pull (x := Str.ofString "symbol") (by exact lkN 5 (by kernel_rfl) rfl)
    refine ⟨_, _, _, _, _, rfl, K, ps6.trans gro7.sub, _, _, _, rfl, rfl, l1, ia1, nd1, fun x => ?_⟩
    rw [m1, List.take_add_one, hy, List.mem_append]
    constructor
    ·rintro ⟨a1, a2, a3, a4 | a4⟩
     ·exact ⟨a1, a2, a3, .inl a4⟩
     ·exact ⟨a1, a2, a3, .inr (.inl a4)⟩
    ·rintro ⟨a1, a2, a3, a4 | a4 | a4⟩
     ·exact ⟨a1, a2, a3, .inl a4⟩
     ·exact ⟨a1, a2, a3, .inr a4⟩
     ·have : x = (n, 0) := Prod.ext (by simpa using a4) a2
      rw [this] at a1; exact absurd hb a1
end

theorem mo_rule_of (P : Params) : methOk (KF P) 391 "rule_of" 374 = true := by kernel_rfl
theorem mo_dot_of (P : Params) : methOk (KF P) 391 "dot_of" 381 = true := by kernel_rfl
section
variable {w : World} {p : PH} {h : Heap} {gr c : Addr} {fs : AL} {γ : Gr} {firsts : List Nat}
theorem close_spec {kv : Value} {l : List It} (G : Grd w p) (H : Holds p h) (g : GrAt p gr γ fs) (ok : GrOk γ) (cl : CloAt p c gr firsts) (fo : FirstsOk γ firsts) (hk : TI p kv (zs (γ.its l))) (hl : ∀ x ∈ l, γ.ok x.1 x.2) (nd : l.Nodup) :
  Fn w 4 (.ref 145) [.ref c, kv] p h [] (fun v p' _ => ∃ l' : List It, LI p' v (zs (γ.its l')) ∧ l'.Nodup ∧ ∀ x, x ∈ l' ↔ γ.Clo (· ∈ l) x) := by
 intro A g1 d1 t os R rm k
 refine hide fun QQ hQQ => ?_
 obtain ⟨fc, oc, hg, ⟨vf, hvf, lf⟩, ho⟩ := cl.ob
 refine hQQ ?_
 clear hQQ QQ
 refine call_fn (mu := []) (fd := fnM 10 3) [(Str.ofString "kernel", kv), (Str.ofString "self", .ref c)] rfl (by kernel_rfl) G H rm (by simp) (by simp) (BindsTo.of_eq (by rfl)) (by kernel_rfl) (by kernel_rfl) (by rfl) (by rfl) (by rfl) fun L h₁ t₁ K => ?_
 have hk0 := hk
 refine hide fun QQ hQQ => ?_
 obtain ⟨ka, kvs, km, rfl, kb, kia⟩ := hk
 refine hQQ ?_
 clear hQQ QQ
 have ol := ok.2.2.1
 have len0 := Gr.its_len hl nd
 have vl0 : kvs.length = l.length := by rw [kia.length]; simp [zs, Gr.its]
 refine wj_ (o_ (kb_ (gB_sorted _) G K.hold (arnz_ 0 K rfl ?_)))
 refine sort_tup K (K.hold _ _ kb) kia (by exact lnt fun q => lnq [_,_,_] [aL (tN 64) Z0,aE Z0 Z1,aL Z1 Z2,aL Z2 (tN 24)] rfl q vl0 len0 ol) fun b h5 t5 c5 out ns fr5 K si sp sw => ?_
 refine hide fun QQ hQQ => ?_
 obtain ⟨l2, lp, rfl⟩ := its_perm sp
 obtain ⟨K, ps5, hb⟩ := K.fix fr5
 refine hQQ ?_
 clear hQQ QQ
 have G := G.mono ps5
 refine dn_ 1 K rfl ?_
 refine gm G K.hold ((oc.mono ps5).mono K.hold) (mo_added _) (ho _ (by kernel_rfl)) ?_
 refine f_ (arnz_ 0 K rfl ?_)
 refine ⟨⟨_, G, K.hold⟩, ?_⟩
 refine use_fn (added_spec G K.hold (g.mono ps5) ok ⟨fc, oc.mono ps5, hg, ⟨vf, hvf, lf.mono ps5⟩, ho⟩ fo (hk0.mono ps5) hl) rm.deeper fun v p3 h3 t3 gro hv => ?_
 refine hide fun QQ hQQ => ?_
 obtain ⟨l3, ⟨a3, vs3, m3, rfl, b3, ia3⟩, nd3, m3⟩ := hv
 refine hQQ ?_
 clear hQQ QQ
 have K := K.call gro
 have ok3 : ∀ x ∈ l3, γ.ok x.1 x.2 := fun x hx => by have := (m3 x).mp hx; exact ⟨this.2.2.1, by exact lnl fun q => lnq [_,_] [aL (tQ Z0) Z1,aE Z1 (tN 0)] rfl q this.2.1⟩
 have len3 := Gr.its_len ok3 nd3
 have vl3 : vs3.length = l3.length := by rw [ia3.length]; simp [zs, Gr.its]
 have vlo : out.length = l2.length := by rw [si.length]; simp [zs, Gr.its]
 have len2 := lp.length_eq
 refine add_lists K (K.hold _ _ (gro.sub _ _ hb)) (K.hold _ _ b3) (by show out.length + vs3.length ≤ 2 ^ 24; exact lnl fun q => lnq [_,_,_,_,_,_] [aL (tQ (tN 16777216)) (tA Z0 Z1),aE Z2 Z3,aE Z0 Z2,aE Z1 Z4,aL Z4 Z5,aL Z3 Z5,fL 2 Z5 (tN 24)] rfl q len2 vlo vl3 len3 len0 ol) fun b6 h6 fr6 K => ?_
 refine hide fun QQ hQQ => ?_
 obtain ⟨K, ps6, hb6⟩ := K.fix fr6
 refine hQQ ?_
 clear hQQ QQ
 refine k _ _ _ _ K.gro ⟨l2 ++ l3, ⟨b6, _, 0, rfl, hb6, ?_⟩, ?_, fun x => ?_⟩
 ·rw [show zs (γ.its (l2 ++ l3)) = zs (γ.its l2) ++ zs (γ.its l3) by simp [zs, Gr.its]]
  exact ints_append si ia3
 ·rw [List.nodup_append]
  refine ⟨lp.symm.nodup nd, nd3, fun x hx y hy e => ?_⟩
  subst e
  exact ((m3 x).mp hy).1 (lp.mem_iff.mp hx)
 ·rw [List.mem_append, lp.mem_iff, m3, Gr.clo_want fo ok hl]
  constructor
  ·rintro (a | a)
   ·exact .inl a
   ·exact .inr a.2
  ·rintro (a | a)
   ·exact .inl a
   ·by_cases q : x ∈ l
    ·exact .inl q
    ·exact .inr ⟨q, a⟩
theorem advanced_spec {r d : Nat} {t1 : Tok} (G : Grd w p) (H : Holds p h) (g : GrAt p gr γ fs) (hr : γ.ok r d) :
  Fn w 2 (.ref 159) [.ref gr, .int (γ.it r d) t1] p h [] (fun v _ _ => IntV v (γ.it r (d + 1))) := by
 intro A g1 d1 t os R rm k
 refine call_fn (mu := []) (fd := fnT 11) [(Str.ofString "item", .int (γ.it r d) t1), (Str.ofString "grammar", .ref gr)] rfl (by kernel_rfl) G H rm (by simp) (by simp) (BindsTo.of_eq (by rfl)) (by kernel_rfl) (by kernel_rfl) (by rfl) (by rfl) (by rfl) fun L h₁ t₁ K => ?_
 refine wj_ (dn_ 1 K rfl ?_)
 refine gm G K.hold (g.ob.mono K.hold) (mo_item _) (g.only _ (by kernel_rfl)) ?_
 refine f_ (ar_ (dn_ 1 K rfl ?_))
 refine gm G K.hold (g.ob.mono K.hold) (mo_rule_of _) (g.only _ (by kernel_rfl)) ?_
 refine f_ (arnz_ 0 K rfl ?_)
 refine ⟨⟨_, G, K.hold⟩, ?_⟩
 refine use_fn (rule_of_spec G K.hold g hr) rm.deeper fun v p3 h3 t3 gro hv => ?_
 refine hide fun QQ hQQ => ?_
 obtain ⟨u3, rfl⟩ := hv
 refine hQQ ?_
 clear hQQ QQ
 have K := K.call gro
 have G := G.mono gro.sub
 have g := g.mono gro.sub
 refine r_ (o_ (dn_ 1 K rfl ?_))
 refine gm G K.hold (g.ob.mono K.hold) (mo_dot_of _) (g.only _ (by kernel_rfl)) ?_
 refine f_ (arnz_ 0 K rfl ?_)
 refine ⟨⟨_, G, K.hold⟩, ?_⟩
 refine use_fn (dot_of_spec G K.hold g hr) rm.deeper fun v p4 h4 t4 gro4 hv => ?_
 refine hide fun QQ hQQ => ?_
 obtain ⟨u4, rfl⟩ := hv
 refine hQQ ?_
 clear hQQ QQ
 have K := K.call gro4
 have G := G.mono gro4.sub
 have g := g.mono gro4.sub
 refine m_ fun _ _ => i_add fun _ _ => z_ ?_
 refine ⟨⟨_, G, K.hold⟩, ?_⟩
 refine use_fn (item_spec (d := d + 1) G K.hold g hr.1) rm.deeper fun v p5 h5 t5 gro5 hv => ?_
 exact k _ _ _ _ (K.call gro5).gro hv
noncomputable def Gr.done (γ : Gr) (x : It) : Bool := x.2 == (γ.right x.1).length && x.1 != 0
noncomputable def Gr.red (γ : Gr) (l : List It) : List Nat := (l.filter γ.done).map (·.1)
theorem Gr.after_neg {γ : Gr} {r d : Nat} (hr : γ.ok r d) : γ.after r d < 0 ↔ d = (γ.right r).length := by
 unfold Gr.after
 cases h : (γ.right r)[d]? with
 | none => rw [List.getElem?_eq_none_iff] at h; have := hr.2; simp; exact lne (fun q => lnq [_,_] [aL (tQ Z0) Z1,aL Z1 Z0] rfl q this) fun q => lnq [_,_] [aL (tQ Z0) Z1,aL Z1 Z0] rfl q h
 | some x => have := (List.getElem?_eq_some_iff.mp h).1; simp; omega
theorem complete_spec {iv : Value} {l : List It} (G : Grd w p) (H : Holds p h) (g : GrAt p gr γ fs) (ok : GrOk γ) (hi : LI p iv (zs (γ.its l))) (hl : ∀ x ∈ l, γ.ok x.1 x.2) (nd : l.Nodup) :
  Fn w 2 (.ref 173) [.ref gr, iv] p h [] (fun v p' _ => ∃ l' : List Nat, LI p' v (zs l') ∧ l'.Perm (γ.red l)) := by
 intro A g1 d1 t os R rm k
 refine call_fn (mu := []) (fd := fnT 13) [(Str.ofString "items", iv), (Str.ofString "grammar", .ref gr)] rfl (by kernel_rfl) G H rm (by simp) (by simp) (BindsTo.of_eq (by rfl)) (by kernel_rfl) (by kernel_rfl) (by rfl) (by rfl) (by rfl) fun L h₁ t₁ K => ?_
 refine hide fun QQ hQQ => ?_
 obtain ⟨ka, kvs, km, rfl, kb, kia⟩ := hi
 refine hQQ ?_
 clear hQQ QQ
 have ol := ok.2.2.1
 have len0 := Gr.its_len hl nd
 have vl0 : kvs.length = l.length := by rw [kia.length]; simp [zs, Gr.its]
 refine xv_ fun Qq1 Jq1 => List_ (z_ ?_)
 refine nl K (by decide) fun a h2 fr K => ?_
 refine s_ K fun h2 t2 K => Jq1 _ _ (x_ fun Qq2 Jq2 => wpAny_For (n_ 1 K rfl ?_))
 refine for_list (mu := [(a, listOf [].toArray 0)]) (its := []) (vs := kvs) rm.hd (.inl rfl) (.inl rfl) (fun i p' l' mu' => (PSub p p') ∧ (X3 fun (vs : List Value) (c1 : Nat) (r : AL) => A4 (l' = (Str.ofString "found", .ref a) :: (Str.ofString "items", .ref ka) :: (Str.ofString "grammar", .ref gr) :: r) (mu' = [(a, listOf vs.toArray c1)]) (IntsAre vs (zs (γ.red (l.take i)))) (vs.length ≤ i)))
  K ⟨PSub.refl _, [], 0, _, rfl, rfl, .nil, by simp⟩ ?src ?turn ?done
 case src => rintro i p' h' l' mu' its K ⟨ps, _⟩; exact ⟨km, K.hold _ _ (ps _ _ kb)⟩
 case done =>
  rintro p' h' l' mu' t' K hx6_
  refine hide fun QQ hQQ => ?_
  obtain ⟨ps, vs, c1, r, rfl, rfl, ia1, vl⟩ := hx6_
  refine hQQ ?_
  clear hQQ QQ
  have e : l.take kvs.length = l := by rw [List.take_of_length_le]; exact lnl fun q => lnq [_,_] [aL (tQ Z0) Z1,aG Z0 Z1] rfl q vl0
  rw [e] at ia1
  have G1 := G.mono ps
  refine Jq2 _ _ (wj_ (kb_ (gB_sorted _) G1 K.hold (arnz_ 0 K rfl ?_)))
  refine sort_list K (K.get (.head _)) ia1 (by exact lnt fun q => lnq [_,_,_,_] [aL (tN 64) Z0,aL Z0 Z1,aE Z1 Z2,aL Z2 Z3,aL Z3 (tN 24)] rfl q vl vl0 len0 ol) fun b h5 t5 c5 out ns fr5 K si sp sw => ?_
  refine hide fun QQ hQQ => ?_
  obtain ⟨l2, lp, rfl⟩ := zs_perm sp
  obtain ⟨K, ps5, hb⟩ := K.fix fr5
  refine hQQ ?_
  clear hQQ QQ
  exact k _ _ _ _ K.gro ⟨l2, ⟨b, out, c5, rfl, hb, si⟩, lp⟩
 case turn =>
  rintro i v p' h' l' mu' its t' hv hi K hx11_ Qt Jt
  refine hide fun QQ hQQ => ?_
  obtain ⟨ps, vs, c1, r, rfl, rfl, ia1, vl⟩ := hx11_
  refine hQQ ?_
  clear hQQ QQ
  have hx : l[i]? = some l[i] := List.getElem?_eq_getElem (by exact lnt fun q => lnq [_,_,_] [aL Z0 Z1,aL (tQ Z1) Z2,aE Z2 Z0] rfl q hi vl0)
  generalize l[i] = x at hx
  refine hide fun QQ hQQ => ?_
  obtain ⟨rr, dd⟩ := x
  have hok : γ.ok rr dd := hl _ (List.mem_of_getElem? hx)
  obtain ⟨u2, hv2⟩ := ints_at kia (zs_at (show (γ.its l)[i]? = some (γ.it rr dd) by simp [Gr.its, hx]))
  refine hQQ ?_
  clear hQQ QQ
  rw [hv2] at hv; refine hide fun QQ hQQ => ?_
  cases hv
  all_goals (refine hQQ ?_; clear hQQ QQ)
  have redT : γ.red (l.take (i + 1)) = γ.red (l.take i) ++ if γ.done (rr, dd) then [rr] else [] := by
   rw [List.take_add_one, hx]
   unfold Gr.red
   rw [List.filter_append, List.map_append]
   congr 1
   show List.map _ (List.filter _ [(rr, dd)]) = _
   rw [List.filter_cons]
   split <;> rfl
  have G1 := G.mono ps
  have g1 := g.mono ps
  refine wpAny_assign_Name (s_ K fun h2 t2 K => x_ fun Qq3 Jq3 => wpAny_If (isTrue_and (q_ (dn_ 3 K rfl ?_))))
  refine gm G1 K.hold (g1.ob.mono K.hold) (mo_after _) (g1.only _ (by kernel_rfl)) ?_
  refine f_ (arnz_ 0 K rfl ?_)
  refine ⟨⟨_, G1, K.hold⟩, ?_⟩
  refine use_fn (after_spec G1 K.hold g1 hok (ok.1 rr hok.1)) rm.deeper fun v p3 h3 t3 gro hv => ?_
  refine hide fun QQ hQQ => ?_
  obtain ⟨u3, rfl⟩ := hv
  refine hQQ ?_
  clear hQQ QQ
  have K := K.call gro
  have G1 := G1.mono gro.sub
  have g1 := g1.mono gro.sub
  refine m_ fun _ _ => i_lt (h_ ?_)
  refine PyProof.Rows.split_dec (fun hlt => ?_) (fun hlt => ?_)
  ·have hd := (Gr.after_neg hok).mp hlt
   refine isTrue_and (q_ (dn_ 3 K rfl ?_))
   refine gm G1 K.hold (g1.ob.mono K.hold) (mo_rule_of _) (g1.only _ (by kernel_rfl)) ?_
   refine f_ (arnz_ 0 K rfl ?_)
   refine ⟨⟨_, G1, K.hold⟩, ?_⟩
   refine use_fn (rule_of_spec G1 K.hold g1 hok) (rm.deeper.less (by decide)) fun v p4 h4 t4 gro4 hv => ?_
   refine hide fun QQ hQQ => ?_
   obtain ⟨u4, rfl⟩ := hv
   refine hQQ ?_
   clear hQQ QQ
   have K := K.call gro4
   have G1 := G1.mono gro4.sub
   have g1 := g1.mono gro4.sub
   refine m_ fun _ _ => i_ne (h_ ?_)
   refine split_b (fun hb => ?_) (fun hb => ?_)
   ·have hdone : γ.done (rr, dd) = true := by
     have : rr ≠ 0 := by intro e; subst e; simp at hb
     simp [Gr.done, hd, this]
    refine isTrue_and_nil ?_
    refine split_b (fun _ => ?_) (fun q => by cases q)
    refine x_ fun Qq4 Jq4 => wpAny_Expr_any (dn_ 1 K rfl ?_)
    refine app_m (K.get (.head _)) ?_
    refine l_ (ar_ (dn_ 3 K rfl ?_))
    refine gm G1 K.hold (g1.ob.mono K.hold) (mo_rule_of _) (g1.only _ (by kernel_rfl)) ?_
    refine f_ (arnz_ 0 K rfl ?_)
    refine ⟨⟨_, G1, K.hold⟩, ?_⟩
    refine use_fn (rule_of_spec G1 K.hold g1 hok) (rm.deeper.less (by decide)) fun v p5 h5 t5 gro5 hv => ?_
    refine hide fun QQ hQQ => ?_
    obtain ⟨u5, rfl⟩ := hv
    refine hQQ ?_
    clear hQQ QQ
    have K := K.call gro5
    have G1 := G1.mono gro5.sub
    refine z_ ?_
    refine app_ (m1 := []) K (by show vs.length ≤ 2 ^ 24; exact lnl fun q => lnq [_,_,_,_,_] [aL (tQ (tN 16777216)) Z0,aL Z0 Z1,aL (tQ Z1) Z2,aE Z2 Z3,aL Z3 Z4,aL Z4 (tN 24)] rfl q vl hi vl0 len0 ol) fun h8 n8 K => ?_
    refine Jq4 _ _ (e_ (Jq3 _ _ (e_ (Jt _ _ ?_))))
    have K := ((K.pull (x := Str.ofString "grammar") (by exact lkN 3 (by kernel_rfl) rfl)).pull (x := Str.ofString "items") (by exact lkN 3 (by kernel_rfl) rfl)).pull (x := Str.ofString "found") (by exact lkN 3 (by kernel_rfl) rfl)
    refine ⟨_, _, _, _, _, rfl, K, ((ps.trans gro.sub).trans gro4.sub).trans gro5.sub, _, _, _, rfl, rfl, ?_, by simp; exact lnl fun q => lnq [_,_] [aL (tQ Z0) Z1,aL Z1 Z0] rfl q vl⟩
    rw [redT, if_pos hdone, zs_app]
    exact ints_app ia1 ⟨_, rfl⟩
   ·have hdone : γ.done (rr, dd) = false := by
     have : rr = 0 := by simpa using hb
     simp [Gr.done, this]
    skip
    refine split_b (fun q => by cases q) (fun _ => ?_)
    refine e_ (Jq3 _ _ (e_ (Jt _ _ ?_)))
    have K := ((K.pull (x := Str.ofString "grammar") (by exact lkN 3 (by kernel_rfl) rfl)).pull (x := Str.ofString "items") (by exact lkN 3 (by kernel_rfl) rfl)).pull (x := Str.ofString "found") (by exact lkN 3 (by kernel_rfl) rfl)
    refine ⟨_, _, _, _, _, rfl, K, (ps.trans gro.sub).trans gro4.sub, _, _, _, rfl, rfl, ?_, by exact lnl fun q => lnq [_,_] [aL (tA (tQ Z0) (tN 1)) Z1,aL Z1 Z0] rfl q vl⟩
    rw [redT, hdone]; simpa using ia1
  ·have hdone : γ.done (rr, dd) = false := by
    have : dd ≠ (γ.right rr).length := fun e => hlt ((Gr.after_neg hok).mpr e)
    simp [Gr.done, this]
   skip
   refine split_b (fun q => by cases q) (fun _ => ?_)
   refine e_ (Jq3 _ _ (e_ (Jt _ _ ?_)))
   have K := ((K.pull (x := Str.ofString "grammar") (by exact lkN 3 (by kernel_rfl) rfl)).pull (x := Str.ofString "items") (by exact lkN 3 (by kernel_rfl) rfl)).pull (x := Str.ofString "found") (by exact lkN 3 (by kernel_rfl) rfl)
   refine ⟨_, _, _, _, _, rfl, K, ps.trans gro.sub, _, _, _, rfl, rfl, ?_, by exact lnl fun q => lnq [_,_] [aL (tA (tQ Z0) (tN 1)) Z1,aL Z1 Z0] rfl q vl⟩
   rw [redT, hdone]; simpa using ia1
end

noncomputable def Gr.behind (γ : Gr) (s : Nat) (l : List It) : List It := (l.filter fun x => (γ.right x.1)[x.2]? == some s).map fun x => (x.1, x.2 + 1)
theorem Gr.mem_behind {γ : Gr} {s : Nat} {l : List It} {y : It} : y ∈ γ.behind s l ↔ ∃ x ∈ l, (γ.right x.1)[x.2]? = some s ∧ y = (x.1, x.2 + 1) := by
 unfold Gr.behind
 rw [List.mem_map]
 constructor
 ·rintro hx0_
  refine hide fun QQ hQQ => ?_
  obtain ⟨x, hx, rfl⟩ := hx0_
  refine hQQ ?_
  clear hQQ QQ
  rw [List.mem_filter, beq_iff_eq] at hx
  exact ⟨x, hx.1, hx.2, rfl⟩
 ·rintro hx0_
  refine hide fun QQ hQQ => ?_
  obtain ⟨x, h1, h2, rfl⟩ := hx0_
  refine hQQ ?_
  clear hQQ QQ
  exact ⟨x, List.mem_filter.mpr ⟨h1, beq_iff_eq.mpr h2⟩, rfl⟩
theorem Gr.behind_ok {γ : Gr} {s : Nat} {l : List It} (hl : ∀ x ∈ l, γ.ok x.1 x.2) : ∀ y ∈ γ.behind s l, γ.ok y.1 y.2 := by
 intro y hy
 refine hide fun QQ hQQ => ?_
 obtain ⟨x, h1, h2, rfl⟩ := Gr.mem_behind.mp hy
 refine hQQ ?_
 clear hQQ QQ
 exact ⟨(hl x h1).1, (List.getElem?_eq_some_iff.mp h2).1⟩
theorem Gr.behind_nodup {γ : Gr} {s : Nat} {l : List It} (h : l.Nodup) : (γ.behind s l).Nodup := by
 unfold Gr.behind
 have h := List.Pairwise.filter (fun x : It => (γ.right x.1)[x.2]? == some s) h
 refine List.Pairwise.map _ (fun a b hab e => hab ?_) h
 simp only [Prod.mk.injEq] at e
 exact Prod.ext e.1 (by exact lne (fun q => lnq [_,_] [aL (tQ Z0) Z1,aE (tQ Z1) (tQ Z0)] rfl q e.2) fun q => lnq [_,_] [aL (tQ Z0) Z1,aG (tQ Z0) (tQ Z1)] rfl q e.2)
theorem Gr.behind_take {γ : Gr} {s i : Nat} {l : List It} {x : It} (h : l[i]? = some x) : γ.behind s (l.take (i + 1)) = γ.behind s (l.take i) ++ if (γ.right x.1)[x.2]? == some s then [(x.1, x.2 + 1)] else [] := by
 rw [List.take_add_one, h]
 unfold Gr.behind
 rw [List.filter_append, List.map_append]
 congr 1
 show List.map _ (List.filter _ [x]) = _
 rw [List.filter_cons]
 split <;> rfl
noncomputable abbrev Ent := Nat × Addr × List Value × Nat
noncomputable def entK (e : Ent) : Int × Value := ((e.1 : Int), .ref e.2.1)
noncomputable def entL (e : Ent) : Addr × Obj := (e.2.1, listOf e.2.2.1.toArray e.2.2.2)
section
variable {w : World} {p : PH} {h : Heap} {gr c : Addr} {fs : AL} {γ : Gr} {firsts : List Nat}
theorem stored_new {κ : Type} [DecidableEq κ] {kvs : List (κ × Value)} {k : κ} {v : Value} (h : k ∉ kvs.map (·.1)) : stored kvs k v = kvs ++ [(k, v)] := by
 unfold stored
 rw [if_neg]
 intro q
 rw [List.any_eq_true] at q
 refine hide fun QQ hQQ => ?_
 obtain ⟨x, hx, e⟩ := q
 refine hQQ ?_
 clear hQQ QQ
 exact h (List.mem_map.mpr ⟨x, hx, by simpa using e⟩)
theorem valueAt_mem {κ : Type} [DecidableEq κ] {kvs : List (κ × Value)} (nd : (kvs.map (·.1)).Nodup) {k : κ} {v : Value} (h : (k, v) ∈ kvs) : valueAt kvs k = some v := by
 unfold valueAt
 induction kvs with
 | nil => cases h
 | cons a l ih =>
  rw [List.map_cons, List.nodup_cons] at nd
  rw [List.find?_cons]
  rcases List.mem_cons.mp h with rfl | h
  ·simp
  ·have : a.1 ≠ k := fun e => nd.1 (e ▸ List.mem_map.mpr ⟨_, h, rfl⟩)
   simp only [this, decide_false]
   exact ih nd.2 h
theorem valueAt_none {κ : Type} [DecidableEq κ] {kvs : List (κ × Value)} {k : κ} : (valueAt kvs k).isSome = decide (k ∈ kvs.map (·.1)) := by
 unfold valueAt
 rw [Option.isSome_map, List.isSome_find?, Bool.eq_iff_iff, List.any_eq_true, decide_eq_true_eq, List.mem_map]
 simp
theorem int_is (n : Int) (u : Tok) : (PySem.intKind PR w).is n (.int n u) = true := beq_self_eq_true n
theorem ent_len {o : Obj} {ent : List Ent} {n : Nat} (D : DO (PySem.intKind PR w) o (ent.map entK)) (h : ∀ e ∈ ent, e.1 < n) : ent.length ≤ n ∧ (ent.map (·.1)).Nodup := by
 refine hide fun QQ hQQ => ?_
 obtain ⟨_, es, ep, _, _, _, nd⟩ := D
 refine hQQ ?_
 clear hQQ QQ
 have nd' : (ent.map (·.1)).Nodup := by
  rw [show (ent.map entK).map (·.1) = (ent.map (·.1)).map fun n : Nat => (n : Int) by simp [entK]] at nd
  exact List.Pairwise.imp (fun h e => h (by rw [e])) (List.pairwise_map.mp nd)
 have := nodup_le n nd' fun x hx => by obtain ⟨e, he, rfl⟩ := List.mem_map.mp hx; exact h e he
 exact ⟨by simpa using this, nd'⟩
noncomputable def BehPost (w : World) (γ : Gr) (l : List It) (v : Value) (p' : PH) : Prop := X3 fun a o kvs => A7 (v = .ref a) (p' a = some o) ((a == sysModules) = false) (DO (PySem.intKind PR w) o kvs) (kvs.length ≤ 24) ((∀ k x, (k, x) ∈ kvs → ∃ s : Nat, k = s ∧ s < γ.names.length ∧ γ.behind s l ≠ [] ∧ ∃ l', TI p' x (zs (γ.its l')) ∧ l'.Perm (γ.behind s l) ∧ (zs (γ.its l')).Pairwise (· ≤ ·))) (∀ s : Nat, γ.behind s l ≠ [] → ∃ x, ((s : Int), x) ∈ kvs)
theorem kernels_behind_spec {iv : Value} {l : List It} (G : Grd w p) (H : Holds p h) (g : GrAt p gr γ fs) (ok : GrOk γ) (hi : LI p iv (zs (γ.its l))) (hl : ∀ x ∈ l, γ.ok x.1 x.2) (nd0 : l.Nodup) :
  Fn w 3 (.ref 166) [.ref gr, iv] p h [] (fun v p' _ => BehPost w γ l v p') := by
 intro A gg d1 t os R rm k
 refine call_fn (mu := []) (fd := fnT 12) [(Str.ofString "items", iv), (Str.ofString "grammar", .ref gr)] rfl (by kernel_rfl) G H rm (by simp) (by simp) (BindsTo.of_eq (by rfl)) (by kernel_rfl) (by kernel_rfl) (by rfl) (by rfl) (by rfl) fun L h₁ t₁ K => ?_
 refine hide fun QQ hQQ => ?_
 obtain ⟨ka, kvs0, km, rfl, kb, kia⟩ := hi
 refine hQQ ?_
 clear hQQ QQ
 have ol := ok.2.2.1
 have nl24 := ok.2.2.2.1
 have len0 := Gr.its_len hl nd0
 have vl0 : kvs0.length = l.length := by rw [kia.length]; simp [zs, Gr.its]
 refine xv_ fun Qq1 Jq1 => ?_
 refine nd (knd := PySem.intKind PR w) G K fun a h2 o fr lo D K => ?_
 refine s_ K fun h2 t2 K => Jq1 _ _ (x_ fun Qq2 Jq2 => wpAny_For (n_ 1 K rfl ?_))
 refine for_list (mu := [(a, o)]) (its := []) (vs := kvs0) rm.hd (.inl rfl) (.inl rfl) (fun i p' l' mu' => (PSub p p') ∧ (X3 fun (r : AL) (o : Obj) (ent : List Ent) => A5 (l' = (Str.ofString "found", .ref a) :: (Str.ofString "items", .ref ka) :: (Str.ofString "grammar", .ref gr) :: r) (mu' = (a, o) :: ent.map entL) (DO (PySem.intKind PR w) o (ent.map entK)) ((∀ e ∈ ent, IntsAre e.2.2.1 (zs (γ.its (γ.behind e.1 (l.take i)))) ∧ γ.behind e.1 (l.take i) ≠ [] ∧ e.1 < γ.names.length ∧ h.get? e.2.1 = none)) ((∀ s, γ.behind s (l.take i) ≠ [] → s ∈ ent.map (·.1)))))
  K ⟨PSub.refl _, _, o, [], rfl, rfl, D, by simp, by simp [Gr.behind]⟩ ?src ?turn ?done
 case src => rintro i p' h' l' mu' its K ⟨ps, _⟩; exact ⟨km, K.hold _ _ (ps _ _ kb)⟩
 case turn =>
  rintro i v p' h' l' mu' its t' hv hi K hx11_ Qt Jt
  refine hide fun QQ hQQ => ?_
  obtain ⟨ps, r, o, ent, rfl, rfl, D, he, hc⟩ := hx11_
  refine hQQ ?_
  clear hQQ QQ
  have hx : l[i]? = some l[i] := List.getElem?_eq_getElem (by exact lnt fun q => lnq [_,_,_] [aL Z0 Z1,aL (tQ Z1) Z2,aE Z2 Z0] rfl q hi vl0)
  generalize l[i] = x at hx
  refine hide fun QQ hQQ => ?_
  obtain ⟨rr, dd⟩ := x
  have hok : γ.ok rr dd := hl _ (List.mem_of_getElem? hx)
  obtain ⟨u2, hv2⟩ := ints_at kia (zs_at (show (γ.its l)[i]? = some (γ.it rr dd) by simp [Gr.its, hx]))
  refine hQQ ?_
  clear hQQ QQ
  rw [hv2] at hv; refine hide fun QQ hQQ => ?_
  cases hv
  all_goals (refine hQQ ?_; clear hQQ QQ)
  have G1 := G.mono ps
  have g1 := g.mono ps
  refine wpAny_assign_Name (s_ K fun h2 t2 K => xv_ fun Qq3 Jq3 => dn_ 3 K rfl ?_)
  refine gm G1 K.hold (g1.ob.mono K.hold) (mo_after _) (g1.only _ (by kernel_rfl)) ?_
  refine f_ (arnz_ 0 K rfl ?_)
  refine ⟨⟨_, G1, K.hold⟩, ?_⟩
  refine use_fn (after_spec G1 K.hold g1 hok (ok.1 rr hok.1)) (rm.deeper.less (by decide)) fun v p3 h3 t3 gro hv => ?_
  refine hide fun QQ hQQ => ?_
  obtain ⟨u3, rfl⟩ := hv
  refine hQQ ?_
  clear hQQ QQ
  have K := K.call gro
  have G1 := G1.mono gro.sub
  have g1 := g1.mono gro.sub
  cases hq : (γ.right rr)[dd]? with
  | none =>
   have ea : γ.after rr dd = -1 := by unfold Gr.after; rw [hq]
   rw [ea]
   refine s_ K fun h2 t2 K => Jq3 _ _ (x_ fun Qq4 Jq4 => wpAny_If (qn_ 0 K rfl (m_ fun _ _ => i_ge (h_ ?_))))
   refine PyProof.Rows.split_dec (fun hlt => absurd hlt (by decide)) (fun _ => ?_)
   refine e_ (Jq4 _ _ (e_ (Jt _ _ ?_)))
   have bt : ∀ s, γ.behind s (l.take (i + 1)) = γ.behind s (l.take i) := fun s => by rw [Gr.behind_take hx]; simp [hq]
   have K := ((K.pull (x := Str.ofString "grammar") (by exact lkN 4 (by kernel_rfl) rfl)).pull (x := Str.ofString "items") (by exact lkN 4 (by kernel_rfl) rfl)).pull (x := Str.ofString "found") (by exact lkN 4 (by kernel_rfl) rfl)
   exact ⟨_, _, _, _, _, rfl, K, ps.trans gro.sub, _, o, ent, rfl, rfl, D, by simpa only [bt] using he, by simpa only [bt] using hc⟩
  | some s =>
   have ea : γ.after rr dd = (s : Nat) := by unfold Gr.after; rw [hq]
   rw [ea]
   have hs : s < γ.names.length := ok.2.1 rr hok.1 s (List.mem_of_getElem? hq)
   have bs : γ.behind s (l.take (i + 1)) = γ.behind s (l.take i) ++ [(rr, dd + 1)] := by rw [Gr.behind_take hx]; simp [hq]
   have bt : ∀ s', s' ≠ s → γ.behind s' (l.take (i + 1)) = γ.behind s' (l.take i) := fun s' ne => by rw [Gr.behind_take hx]; simp [hq, Ne.symm ne]
   refine s_ K fun h2 t2 K => Jq3 _ _ (x_ fun Qq4 Jq4 => wpAny_If (qn_ 0 K rfl (m_ fun _ _ => i_ge (h_ ?_))))
   refine PyProof.Rows.split_dec (fun _ => ?_) (fun hlt => absurd (by exact Int.natCast_nonneg _) hlt)
   refine x_ fun Qq5 Jq5 => wpAny_If (qn_ 0 K rfl (n_ 2 K rfl ?_))
   refine d_notin (k := ((s : Nat) : Int)) (K.get (.head _)) D lo (int_is _ _) fun _ => ?_
   refine h_ ?_
   rw [valueAt_none]
   have ek : (ent.map entK).map (·.1) = (ent.map (·.1)).map fun n : Nat => (n : Int) := by simp [entK]
   have em : ∀ (ent : List Ent), ((s : Nat) : Int) ∈ (ent.map entK).map (·.1) ↔ s ∈ ent.map (·.1) := fun ent => by
    rw [show (ent.map entK).map (·.1) = (ent.map (·.1)).map fun n : Nat => (n : Int) by simp [entK], List.mem_map]
    exact ⟨fun ⟨a, h, e⟩ => by rw [← Int.ofNat.inj e]; exact h, fun h => ⟨s, h, rfl⟩⟩
   refine cut (fun f s' => (f = .next) ∧ (X5 fun (h4 : Heap) (t4 : Nat) (o4 : Obj) (r4 : AL) (ent4 : List Ent) => A6 (s' = ⟨h4, gg, d1, t4, os⟩) (W p h [] L p3 h4 ((Str.ofString "symbol", .int (s : Nat) u3) :: (Str.ofString "item", .int (γ.it rr dd : Nat) u2) :: (Str.ofString "found", .ref a) :: (Str.ofString "items", .ref ka) :: (Str.ofString "grammar", .ref gr) :: r4) ((a, o4) :: ent4.map entL ++ its)) (DO (PySem.intKind PR w) o4 (ent4.map entK)) ((∀ e ∈ ent4, IntsAre e.2.2.1 (zs (γ.its (γ.behind e.1 (l.take i)))) ∧ (γ.behind e.1 (l.take i) ≠ [] ∨ e.1 = s) ∧ e.1 < γ.names.length ∧ h.get? e.2.1 = none)) ((∀ s, γ.behind s (l.take i) ≠ [] → s ∈ ent4.map (·.1))) (s ∈ ent4.map (·.1)))) (fun hb => ?_) (fun hb => ?_) ?_
   ·have hn : s ∉ ent.map (·.1) := by
     have : ((s : Nat) : Int) ∉ (ent.map entK).map (·.1) := by simpa only [Bool.not_eq_true', decide_eq_false_iff_not] using hb
     rwa [em] at this
    have len := (ent_len D fun e h => (he e h).2.2.1).1
    refine x_ fun Qq6 Jq6 => wpAny_Assign_Subscript (List_ (z_ ?_))
    refine nl K (by decide) fun b h5 fr5 K => ?_
    refine n_ 2 K rfl (n_ 0 K rfl ?_)
    refine d_set (m1 := [(b, listOf [].toArray 0)]) (k := ((s : Nat) : Int)) K D (int_is _ _) (by show (ent.map entK).length ≤ 2 ^ 24; rw [List.length_map]; exact lnl fun q => lnq [_,_] [aL (tQ (tN 16777216)) Z0,aL Z0 Z1,aL Z1 (tN 24)] rfl q len nl24) fun h6 t6 o6 D6 K => ?_
    refine Jq6 _ _ (e_ ?_)
    rw [stored_new (by rwa [em])] at D6
    have K := W.mid (m1 := (a, o6) :: ent.map entL) (m2 := its) K
    refine ⟨rfl, h6, _, o6, r, ent ++ [(s, b, [], 0)], rfl, ?_, by simpa [entK] using D6, fun e hE => ?_, fun s' hs' => ?_, by simp⟩
    ·have e : (a, o6) :: (ent ++ [(s, b, [], 0)]).map entL ++ its = (a, o6) :: ent.map entL ++ (b, listOf [].toArray 0) :: its := by simp [entL]
     rw [e]; exact K
    ·rcases List.mem_append.mp hE with hE | hE
     ·exact ⟨(he e hE).1, .inl (he e hE).2.1, (he e hE).2.2⟩
     ·rw [List.mem_singleton] at hE; subst hE
      refine ⟨?_, .inr rfl, hs, fr5⟩
      have : γ.behind s (l.take i) = [] := by
       cases q : γ.behind s (l.take i) with
       | nil => rfl
       | cons a b => exact absurd (hc s (by rw [q]; simp)) hn
      rw [this]; exact .nil
    ·rw [List.map_append]; exact List.mem_append_left _ (hc s' hs')
   ·have hn : s ∈ ent.map (·.1) := by
     have : ((s : Nat) : Int) ∈ (ent.map entK).map (·.1) := by simpa only [Bool.not_eq_false', decide_eq_true_eq] using hb
     rwa [em] at this
    refine e_ ?_
    exact ⟨rfl, _, _, o, _, ent, rfl, K, D, fun e hE => ⟨(he e hE).1, .inl (he e hE).2.1, (he e hE).2.2⟩, hc, hn⟩
   ·rintro f s' hx2_
    refine hide fun QQ hQQ => ?_
    obtain ⟨rfl, h4, t4, o4, r4, ent4, rfl, K, D4, he4, hc4, hm4⟩ := hx2_
    refine hQQ ?_
    clear hQQ QQ
    try dsimp only
    have len4 := ent_len D4 fun e h => (he4 e h).2.2.1
    refine hide fun QQ hQQ => ?_
    obtain ⟨e, hE, es⟩ := List.mem_map.mp hm4
    obtain ⟨e1, e2, rfl⟩ := List.append_of_mem hE
    obtain ⟨s', b, vs, n⟩ := e
    refine hQQ ?_
    clear hQQ QQ
    simp only at es; subst es
    refine Jq5 _ _ (x_ fun Qq6 Jq6 => wpAny_Expr_any (d_ (un_ 2 K rfl (n_ 0 K rfl ?_))))
    refine d_sub (k := ((s' : Nat) : Int)) (v := .ref b) (K.get (.head _)) D4 (int_is _ _) (valueAt_mem D4.2.choose_spec.choose_spec.2.2.2 (by simp [entK])) (by rfl) fun _ => ?_
    have eL : (a, o4) :: (e1 ++ (s', b, vs, n) :: e2).map entL ++ its = ((a, o4) :: e1.map entL) ++ (b, listOf vs.toArray n) :: (e2.map entL ++ its) := by simp [entL]
    rw [eL] at K
    refine app_m (K.get (o := listOf vs.toArray n) (by simp)) ?_
    refine l_ (ar_ (kg_ (gG_advanced _) G1 K.hold (arn_ 4 K rfl (rnz_ 1 K rfl ?_))))
    refine ⟨⟨_, G1, K.hold⟩, ?_⟩
    refine use_fn (advanced_spec G1 K.hold g1 hok) rm.deeper fun v p5 h5 t5 gro5 hv => ?_
    refine hide fun QQ hQQ => ?_
    obtain ⟨u5, rfl⟩ := hv
    refine hQQ ?_
    clear hQQ QQ
    have K := K.call gro5
    have hb := he4 (s', b, vs, n) (by simp)
    have vl : vs.length ≤ 24 := by
     rw [hb.1.length]
     have := Gr.its_len (Gr.behind_ok (γ := γ) (s := s') (l := l.take i) fun x hx => hl x (List.mem_of_mem_take hx)) (Gr.behind_nodup (List.Pairwise.sublist (List.take_sublist i l) nd0))
     simp only [zs, Gr.its, List.length_map]; exact lnl fun q => lnq [_,_] [aL (tQ (tN 24)) Z0,aL Z0 Z1,aL Z1 (tN 24)] rfl q this ol
    refine z_ ?_
    refine app_ (m1 := (a, o4) :: e1.map entL) K (by show vs.length ≤ 2 ^ 24; exact lnl fun q => lnq [_] [aL (tQ (tN 16777216)) Z0,aL Z0 (tN 24)] rfl q vl) fun h8 n8 K => ?_
    refine Jq6 _ _ (e_ (Jq4 _ _ (e_ (Jt _ _ ?_))))
    have K := ((K.pull (x := Str.ofString "grammar") (by exact lkN 4 (by kernel_rfl) rfl)).pull (x := Str.ofString "items") (by exact lkN 4 (by kernel_rfl) rfl)).pull (x := Str.ofString "found") (by exact lkN 4 (by kernel_rfl) rfl)
    have eq : (a, o4) :: (e1 ++ (s', b, vs ++ [Value.int (γ.it rr (dd + 1) : Nat) u5], n8) :: e2).map entL ++ its = ((a, o4) :: e1.map entL) ++ (b, listOf (vs ++ [Value.int (γ.it rr (dd + 1) : Nat) u5]).toArray n8) :: (e2.map entL ++ its) := by simp [entL]
    rw [← eq] at K
    refine ⟨_, _, _, (a, o4) :: (e1 ++ (s', b, vs ++ [Value.int (γ.it rr (dd + 1) : Nat) u5], n8) :: e2).map entL, _, rfl, K, (ps.trans gro.sub).trans gro5.sub, _, o4, _, rfl, rfl, ?_, fun e hE => ?_, fun s hs => ?_⟩
    ·have : (e1 ++ (s', b, vs ++ [Value.int (γ.it rr (dd + 1) : Nat) u5], n8) :: e2).map entK = (e1 ++ (s', b, vs, n) :: e2).map entK := by simp [entK]
     rw [this]; exact D4
    ·have hne : ∀ e, e ∈ e1 ∨ e ∈ e2 → e.1 ≠ s' := fun e hE q => by
      have nd := len4.2
      rw [List.map_append, List.map_cons, List.nodup_append, List.nodup_cons] at nd
      rcases hE with hE | hE
      ·exact nd.2.2 _ (List.mem_map_of_mem hE) _ (List.mem_cons_self ..) q
      ·exact nd.2.1.1 (List.mem_map.mpr ⟨e, hE, q⟩)
     have old : ∀ e, e ∈ e1 ∨ e ∈ e2 → IntsAre e.2.2.1 (zs (γ.its (γ.behind e.1 (l.take (i + 1))))) ∧ γ.behind e.1 (l.take (i + 1)) ≠ [] ∧ e.1 < γ.names.length ∧ h.get? e.2.1 = none := fun e hE => by
      have q := he4 e (by rcases hE with z | z <;> simp [z])
      rw [bt _ (hne e hE)]
      exact ⟨q.1, q.2.1.resolve_right (hne e hE), q.2.2⟩
     rcases List.mem_append.mp hE with hE | hE
     ·exact old e (.inl hE)
     ·rcases List.mem_cons.mp hE with rfl | hE
      ·refine ⟨?_, by rw [bs]; simp, hb.2.2⟩
       rw [bs, show γ.its (γ.behind s' (l.take i) ++ [(rr, dd + 1)]) = γ.its (γ.behind s' (l.take i)) ++ [γ.it rr (dd + 1)] by simp [Gr.its], zs_app]
       exact ints_app hb.1 ⟨_, rfl⟩
      ·exact old e (.inr hE)
    ·have : (e1 ++ (s', b, vs ++ [Value.int (γ.it rr (dd + 1) : Nat) u5], n8) :: e2).map (·.1) = (e1 ++ (s', b, vs, n) :: e2).map (·.1) := by simp
     rw [this]
     by_cases q : s = s'
     ·rw [q]; exact hm4
     ·rw [bt _ q] at hs; exact hc4 s hs
 case done =>
  rintro p' h' l' mu' t' K hx6_
  refine hide fun QQ hQQ => ?_
  obtain ⟨ps, r, o, ent, rfl, rfl, D, he, hc⟩ := hx6_
  refine hQQ ?_
  clear hQQ QQ
  have e : l.take kvs0.length = l := by rw [List.take_of_length_le]; exact lnl fun q => lnq [_,_] [aL (tQ Z0) Z1,aG Z0 Z1] rfl q vl0
  rw [e] at he hc
  have len := ent_len D fun e h => (he e h).2.2.1
  have G1 := G.mono ps
  refine Jq2 _ _ (xv_ fun Qq3 Jq3 => ?_)
  refine nd (knd := PySem.intKind PR w) G1 K fun a2 h5 o2 fr2 lo2 D2 K => ?_
  refine s_ K fun h2 t2 K => Jq3 _ _ (x_ fun Qq4 Jq4 => wpAny_For (kb_ (gB_sorted _) G1 K.hold (arnz_ 1 K rfl ?_)))
  refine sort_keys rm.hd K (K.get (.tail _ (.head _))) D lo (by rw [List.length_map]; exact lnt fun q => lnq [_,_] [aL (tN 64) Z0,aL Z0 Z1,aL Z1 (tN 24)] rfl q len.1 nl24) fun b h6 t6 c6 out ns fr6 K si sp sw => ?_
  have ek : (ent.map entK).map (·.1) = zs (ent.map (·.1)) := by simp [entK, zs]
  rw [ek] at sp
  refine hide fun QQ hQQ => ?_
  obtain ⟨ks, kp, rfl⟩ := zs_perm sp
  have knd : ks.Nodup := kp.symm.nodup len.2
  obtain ⟨K, ps6, hb⟩ := K.fix fr6
  refine hQQ ?_
  clear hQQ QQ
  have vlo : out.length = ks.length := by rw [si.length]; simp [zs]
  have kl : ks.length ≤ 24 := by rw [kp.length_eq, List.length_map]; exact lnl fun q => lnq [_,_] [aL (tQ (tN 24)) Z0,aL Z0 Z1,aL Z1 (tN 24)] rfl q len.1 nl24
  refine for_list (mu := (a2, o2) :: (a, o) :: ent.map entL) (its := []) (vs := out) rm.hd (.inl rfl) (.inl rfl) (fun i p6 l' mu' => (PSub (p'.add b (listOf out.toArray c6)) p6) ∧ (X3 fun (r : AL) (o2 : Obj) (kvs : List (Int × Value)) => A5 (l' = (Str.ofString "ordered", .ref a2) :: (Str.ofString "found", .ref a) :: (Str.ofString "grammar", .ref gr) :: r) (mu' = (a2, o2) :: (a, o) :: ent.map entL) (DO (PySem.intKind PR w) o2 kvs) (kvs.map (·.1) = zs (ks.take i)) ((∀ k x, (k, x) ∈ kvs → ∃ s : Nat, k = s ∧ s < γ.names.length ∧ γ.behind s l ≠ [] ∧ ∃ l', TI p6 x (zs (γ.its l')) ∧ l'.Perm (γ.behind s l) ∧ (zs (γ.its l')).Pairwise (· ≤ ·)))))
   (by have K := ((K.pull (x := Str.ofString "grammar") (by exact lkN 3 (by kernel_rfl) rfl)).pull (x := Str.ofString "found") (by exact lkN 2 (by kernel_rfl) rfl)).pull (x := Str.ofString "ordered") (by exact lkN 2 (by kernel_rfl) rfl); rw [List.append_nil] at K ⊢; exact K) ⟨PSub.refl _, _, o2, [], rfl, rfl, D2, by simp [zs], by simp⟩ ?src ?turn ?done
  case src => rintro i p' h' l' mu' its K ⟨ps, _⟩; exact ⟨_, K.hold _ _ (ps _ _ hb)⟩
  case done =>
   rintro p7 h7 l' mu' t' K hx6_
   refine hide fun QQ hQQ => ?_
   obtain ⟨ps7, r, o2, kvs, rfl, rfl, D2, ek2, hx2⟩ := hx6_
   refine hQQ ?_
   clear hQQ QQ
   have e7 : ks.take out.length = ks := by rw [List.take_of_length_le]; exact lnl fun q => lnq [_,_] [aL (tQ Z0) Z1,aG Z0 Z1] rfl q vlo
   rw [e7] at ek2
   refine Jq4 _ _ (wj_ (n_ 0 K rfl ?_))
   refine hide fun QQ hQQ => ?_
   obtain ⟨K, ps8, hb8⟩ := K.fix fr2
   refine hQQ ?_
   clear hQQ QQ
   refine k _ _ _ _ K.gro ⟨a2, o2, kvs, rfl, hb8, lo2, D2, ?_, fun k x hkx => ?_, fun s hs => ?_⟩
   ·have : (kvs.map (·.1)).length = ks.length := by rw [ek2]; simp [zs]
    rw [List.length_map] at this; exact lnl fun q => lnq [_,_] [aL (tQ (tN 24)) Z0,aE Z0 Z1,aL Z1 (tN 24)] rfl q this kl
   ·refine hide fun QQ hQQ => ?_
    obtain ⟨s, h1, h2, h3, l', h4, h5, h6⟩ := hx2 k x hkx
    refine hQQ ?_
    clear hQQ QQ
    exact ⟨s, h1, h2, h3, l', h4.mono ps8, h5, h6⟩
   ·have h1 : s ∈ ks := kp.mem_iff.mpr (hc s hs)
    have h2 : (s : Int) ∈ kvs.map (·.1) := by rw [ek2]; exact List.mem_map_of_mem h1
    refine hide fun QQ hQQ => ?_
    obtain ⟨⟨k, x⟩, h3, h4⟩ := List.mem_map.mp h2
    refine hQQ ?_
    clear hQQ QQ
    exact ⟨x, by rw [← h4]; exact h3⟩
  case turn =>
   rintro i v p7 h7 l' mu' its t' hv hi K hx11_ Qt Jt
   refine hide fun QQ hQQ => ?_
   obtain ⟨ps7, r, o2, kvs, rfl, rfl, D2, ek2, hx2⟩ := hx11_
   refine hQQ ?_
   clear hQQ QQ
   have hx : ks[i]? = some ks[i] := List.getElem?_eq_getElem (by exact lnt fun q => lnq [_,_,_] [aL Z0 Z1,aL (tQ Z1) Z2,aE Z2 Z0] rfl q hi vlo)
   generalize ks[i] = s at hx
   refine hide fun QQ hQQ => ?_
   obtain ⟨u2, hv2⟩ := ints_at si (zs_at hx)
   refine hQQ ?_
   clear hQQ QQ
   rw [hv2] at hv; refine hide fun QQ hQQ => ?_
   cases hv
   all_goals (refine hQQ ?_; clear hQQ QQ)
   have hsm : s ∈ ent.map (·.1) := kp.mem_iff.mp (List.mem_of_getElem? hx)
   refine hide fun QQ hQQ => ?_
   obtain ⟨e, hE, es⟩ := List.mem_map.mp hsm
   have hee := he e hE
   obtain ⟨s', b9, vs, n⟩ := e
   refine hQQ ?_
   clear hQQ QQ
   simp only at es; subst es
   have G7 := (G1.mono ps6).mono ps7
   have sn : s' ∉ ks.take i := fun q => by
    refine hide fun QQ hQQ => ?_
    obtain ⟨j, hj⟩ := List.mem_iff_getElem?.mp q
    refine hQQ ?_
    clear hQQ QQ
    rw [List.getElem?_take] at hj
    split at hj
    ·have := (List.getElem?_inj (by exact lnt fun q => lnq [_,_,_,_] [aL Z0 Z1,aL (tQ Z1) Z2,aL (tQ Z2) Z3,aE Z3 Z0] rfl q (by assumption) hi vlo) knd).mp (hj.trans hx.symm); exact lnq [_,_] [aG Z0 Z1,aL (tQ Z0) Z1] rfl this (by assumption)
    ·cases hj
   have bok := Gr.behind_ok (γ := γ) (s := s') hl
   have bnd := Gr.behind_nodup (γ := γ) (s := s') nd0
   have vl : vs.length ≤ 24 := by
    rw [hee.1.length]
    have := Gr.its_len bok bnd
    simp only [zs, Gr.its, List.length_map]; exact lnl fun q => lnq [_,_] [aL (tQ (tN 24)) Z0,aL Z0 Z1,aL Z1 (tN 24)] rfl q this ol
   refine wpAny_assign_Name (s_ K fun h2 t2 K => x_ fun Qq5 Jq5 => wpAny_Assign_Subscript (kt_ (gB_tuple _) G7 K.hold (ar_ (kb_ (gB_sorted _) G7 K.hold (ar_ (un_ 2 K rfl (n_ 0 K rfl ?_)))))))
   refine d_sub (k := ((s' : Nat) : Int)) (v := .ref b9) (K.get (.tail _ (.head _))) D (int_is _ _) (valueAt_mem D.2.choose_spec.choose_spec.2.2.2 (List.mem_map.mpr ⟨_, hE, rfl⟩)) (by rfl) fun _ => ?_
   refine z_ ?_
   refine sort_list K (K.get (o := listOf vs.toArray n) (List.mem_append_left _ (.tail _ (.tail _ (List.mem_map.mpr ⟨_, hE, rfl⟩))))) hee.1 (by exact lnt fun q => lnq [_] [aL (tN 64) Z0,aL Z0 (tN 24)] rfl q vl) fun b10 h10 t10 c10 out10 ns10 fr10 K si10 sp10 sw10 => ?_
   refine hide fun QQ hQQ => ?_
   obtain ⟨l10, lp10, rfl⟩ := its_perm sp10
   refine hQQ ?_
   clear hQQ QQ
   refine z_ ?_
   refine tup_list K (K.get (.head _)) (by
    show out10.length ≤ 2 ^ 24
    have := sp10.length_eq
    have q1 := si10.length; have q2 := hee.1.length
    simp only [zs, Gr.its, List.length_map] at this q1 q2; exact lnl fun q => lnq [_,_,_,_] [aL (tQ (tN 16777216)) Z0,aG Z1 Z2,aE Z0 Z3,aE Z3 Z2,aL Z1 (tN 24)] rfl q q2 q1 this vl) fun b11 h11 p11 ps11 hb11 K => ?_
   have K := K.led (mu' := (a2, o2) :: (a, o) :: ent.map entL ++ its) (fun q hq => List.mem_cons_of_mem _ hq) (by have := K.nodup; rw [List.map_cons, List.nodup_cons] at this; exact this.2)
   refine n_ 1 K rfl (n_ 0 K rfl ?_)
   have kvl : kvs.length ≤ 24 := by
    have : (kvs.map (·.1)).length = (ks.take i).length := by rw [ek2]; simp [zs]
    rw [List.length_map, List.length_take] at this; exact lnl fun q => lnq [_,_,_,_,_] [aL (tQ (tN 24)) Z0,aE Z0 Z1,aL Z1 Z2,aL (tQ Z2) Z3,aL Z4 (tN 24),aE Z3 Z4] rfl q this (Nat.min_le_left _ _) hi kl vlo
   refine d_set (m1 := []) (k := ((s' : Nat) : Int)) K D2 (int_is _ _) (by show kvs.length ≤ 2 ^ 24; exact lnl fun q => lnq [_] [aL (tQ (tN 16777216)) Z0,aL Z0 (tN 24)] rfl q kvl) fun h12 t12 o12 D12 K => ?_
   refine Jq5 _ _ (e_ (Jt _ _ ?_))
   rw [stored_new (by
    rw [ek2]; intro q
    refine hide fun QQ hQQ => ?_
    obtain ⟨z, hz, ez⟩ := List.mem_map.mp q
    refine hQQ ?_
    clear hQQ QQ
    exact sn (by rw [← Int.ofNat.inj ez]; exact hz))] at D12
   have K := ((K.pull (x := Str.ofString "grammar") (by exact lkN 3 (by kernel_rfl) rfl)).pull (x := Str.ofString "found") (by exact lkN 3 (by kernel_rfl) rfl)).pull (x := Str.ofString "ordered") (by exact lkN 3 (by kernel_rfl) rfl)
   refine ⟨_, _, _, (a2, o12) :: (a, o) :: ent.map entL, _, rfl, K, ps7.trans ps11, _, o12, _, rfl, rfl, D12, ?_, fun k x hkx => ?_⟩
   ·rw [List.map_append, ek2, List.take_add_one, hx]; simp [zs]
   ·rcases List.mem_append.mp hkx with hkx | hkx
    ·refine hide fun QQ hQQ => ?_
     obtain ⟨s, h1, h2, h3, l', h4, h5, h6⟩ := hx2 k x hkx
     refine hQQ ?_
     clear hQQ QQ
     exact ⟨s, h1, h2, h3, l', h4.mono ps11, h5, h6⟩
    ·rw [List.mem_singleton] at hkx; cases hkx
     exact ⟨s', rfl, hee.2.2.1, hee.2.1, l10, ⟨b11, out10, 0, rfl, hb11, si10⟩, lp10, sw10⟩
end

theorem so_s (P : Params) : setOk (KF P) 106 "number" = true ∧ setOk (KF P) 106 "kernel" = true ∧ setOk (KF P) 106 "symbol" = true ∧ setOk (KF P) 106 "items" = true ∧ setOk (KF P) 106 "moves" = true ∧ setOk (KF P) 106 "reductions" = true ∧ setOk (KF P) 106 "is_shifting" = true :=
 ⟨by kernel_rfl, by kernel_rfl, by kernel_rfl, by kernel_rfl, by kernel_rfl, by kernel_rfl, by kernel_rfl⟩
theorem mk_s (P : Params) : makeOk (KF P) 106 89 = true := by kernel_rfl
section
variable {w : World} {p : PH} {h : Heap} {gr c : Addr} {fs : AL} {γ : Gr} {firsts : List Nat}
theorem state_init {x dx : Addr} {n s : Int} {t1 t2 : Tok} {kv : Value} (G : Grd w p) (H : Holds p h) (hx : h.get? x = some (instObj 106 dx)) (hd : h.get? dx = some emptyDict) (pd : p dx = none) :
  Fn w 1 (.ref 89) [.ref x, .int n t1, kv, .int s t2] p h [dx] (fun v p' h' => A3 (v = .none) (X5 fun o' mv om it rd => A7 (h'.get? dx = some o') (AO 7 o' [(Str.ofString "is_shifting", .bool false), (Str.ofString "reductions", .ref rd), (Str.ofString "moves", .ref mv), (Str.ofString "items", .ref it), (Str.ofString "symbol", .int s t2), (Str.ofString "kernel", kv), (Str.ofString "number", .int n t1)]) (h.get? mv = none) (p' mv = none) (h'.get? mv = some om) ((mv == sysModules) = false) (DO (PySem.intKind PR w) om [])) (∃ o', h'.get? dx = some o')) := by
 intro A gg d1 t os R rm k
 refine hide fun QQ hQQ => ?_
 obtain ⟨s1, s2, s3, s4, s5, s6, s7⟩ := so_s w.params
 refine hQQ ?_
 clear hQQ QQ
 refine call_fn (mu := [(dx, emptyDict)]) (fd := fnM 9 0) [(Str.ofString "symbol", .int s t2), (Str.ofString "kernel", kv), (Str.ofString "number", .int n t1), (Str.ofString "self", .ref x)] rfl (by kernel_rfl) G H rm (by simpa using ⟨hd, pd⟩) (by simp) (BindsTo.of_eq (by rfl)) (by kernel_rfl) (by kernel_rfl) (by rfl) (by rfl) (by rfl) fun L h₁ t₁ K => ?_
 have hxX : x ∉ [(dx, emptyDict)].map (·.1) := by intro q; simp at q; rw [q, hd] at hx; cases hx
 refine xp_ fun Qq1 Jq1 => n_ 2 K rfl (n_ 3 K rfl ?_)
 refine sa (m1 := []) G K (K.keep x _ hxX hx) AO.nil (by decide) s1 fun h2 t2 o2 a2 _ K => ?_
 refine Jq1 _ _ (xp_ fun Qq2 Jq2 => n_ 1 K rfl (n_ 3 K rfl ?_))
 refine sa (m1 := []) G K (K.keep x _ hxX hx) a2 (by decide) s2 fun h3 t3 o3 a3 _ K => ?_
 refine Jq2 _ _ (xp_ fun Qq3 Jq3 => n_ 0 K rfl (n_ 3 K rfl ?_))
 refine sa (m1 := []) G K (K.keep x _ hxX hx) a3 (by decide) s3 fun h4 t4 o4 a4 _ K => ?_
 refine Jq3 _ _ (xp_ fun Qq4 Jq4 => List_ (z_ ?_))
 refine nl K (by decide) fun it h5 fr5 K => ?_
 refine n_ 3 K rfl ?_
 refine sa (m1 := [(it, listOf [].toArray 0)]) G K (K.keep x _ hxX hx) a4 (by decide) s4 fun h6 t6 o6 a6 _ K => ?_
 refine Jq4 _ _ (xp_ fun Qq5 Jq5 => ?_)
 refine nd (knd := PySem.intKind PR w) G K fun mv h7 om fr7 lo7 D7 K => ?_
 refine n_ 3 K rfl ?_
 refine sa (m1 := [(mv, om), (it, listOf [].toArray 0)]) G K (K.keep x _ hxX hx) a6 (by decide) s5 fun h8 t8 o8 a8 _ K => ?_
 refine Jq5 _ _ (xp_ fun Qq6 Jq6 => List_ (z_ ?_))
 refine nl K (by decide) fun rd h9 fr9 K => ?_
 refine n_ 3 K rfl ?_
 refine sa (m1 := [(rd, listOf [].toArray 0), (mv, om), (it, listOf [].toArray 0)]) G K (K.keep x _ hxX hx) a8 (by decide) s6 fun h10 t10 o10 a10 _ K => ?_
 refine Jq6 _ _ (xp_ fun Qq7 Jq7 => ?_)
 refine wpAny_Constant_bool ?_
 refine n_ 3 K rfl ?_
 refine sa (m1 := [(rd, listOf [].toArray 0), (mv, om), (it, listOf [].toArray 0)]) G K (K.keep x _ hxX hx) a10 (by decide) s7 fun h11 t11 o11 a11 _ K => ?_
 refine Jq7 _ _ (e_ ?_)
 have omv := K.own (mv, om) (by simp)
 have odx := K.own (dx, o11) (by simp)
 refine k _ _ _ _ K.gro ⟨rfl, ⟨o11, mv, om, it, rd, odx.1, a11, fr7, omv.2.2.1, omv.1, lo7, D7⟩, o11, odx.1⟩
end

section
variable {w : World} {A : Around} {E : Value → Shared → Prop} {g : Array GenState} {d : Drawn} {t : Nat} {os : OsState} {env : Env}
variable {p0 p : PH} {h0 h h' : Heap} {X : List Addr} {L : Addr} {l : AL} {mu its m1 m2 : Led}
noncomputable abbrev TK (w : World) : HeapKind PR w (List Int) := tupleKind (PySem.intKind PR w)
theorem TI.key {v : Value} {is : List Int} (x : TI p v is) (H : Holds p h) : ∃ a, v = .ref a ∧ (TK w).is h is a := by
 refine hide fun QQ hQQ => ?_
 obtain ⟨a, vs, n, rfl, e, ia⟩ := x
 refine hQQ ?_
 clear hQQ QQ
 refine ⟨a, rfl, _, vs.toArray, n, H _ _ e, rfl, rfl, ?_⟩
 show ItemsAre _ is vs
 clear e
 induction ia with
 | nil => exact .nil
 | cons n t _ ih => exact .cons (int_is n t) ih
noncomputable abbrev XS := List (List Int × Addr × Value)
noncomputable def DH (w : World) (o : Obj) (xs : XS) : Prop := o.ExactDict ∧ ∃ es ep, o.data = .dict es ep ∧ es.toList = xs.map (entryOfKey (TK w)) ∧ (xs.map (·.1)).Nodup
noncomputable def XOk (p : PH) (xs : XS) : Prop := ∀ x ∈ xs, TI p (.ref x.2.1) x.1
theorem XOk.mono {p q : PH} {xs : XS} (x : XOk p xs) (s : PSub p q) : XOk q xs := fun y hy => (x y hy).mono s
theorem DH.at {o : Obj} {xs : XS} {a : Addr} (D : DH w o xs) (x : XOk p xs) (H : Holds p h) (e : h.get? a = some o) : h.DictOfH (TK w) a xs := by
 refine hide fun QQ hQQ => ?_
 obtain ⟨b, es, ep, c1, c2, c3⟩ := D
 refine hQQ ?_
 clear hQQ QQ
 refine ⟨o, es, ep, e, b, c1, c2, fun y hy => ?_, c3⟩
 refine hide fun QQ hQQ => ?_
 obtain ⟨a', e', k⟩ := (x y hy).key (w := w) H
 refine hQQ ?_
 clear hQQ QQ
 cases e'; exact k
theorem ndh {pos : Pos} {Q : Value → Shared → Prop} (G : Grd w p) (K : W p0 h0 X L p h l mu)
  (q : ∀ a h' o, h0.get? a = none → (a == sysModules) = false → DH w o [] → W p0 h0 X L p h' l ((a, o) :: mu) → Q (.ref a) ⟨h', g, d, t, os⟩) : wpAny (model PR w) A (eval (.Dict [] [] pos) env) Q E ⟨h, g, d, t, os⟩ :=
 wpAny_Dict_empty (s := ⟨h, g, d, t, os⟩) (q _ _ _ K.new_none (beq_false_of_ne (Nat.ne_of_gt (G.big K.hold))) ⟨⟨rfl, rfl, rfl⟩, #[], 0, rfl, rfl, List.nodup_nil⟩ (K.push _ rfl))
theorem dh_notin {a : Addr} {o : Obj} {xs : XS} {is : List Int} {key : Value} {n : Nat} {Q : Value → Shared → Prop} (r : Rm A n) (H : Holds p h) (ha : h.get? a = some o) (D : DH w o xs) (x : XOk p xs) (hd : (a == sysModules) = false) (hk : TI p key is)
  (q : ∀ t', Q (.bool (!(atKey xs is).isSome)) ⟨h, g, d, t', os⟩) : wpAny (model PR w) A (compareOp .NotIn key (.ref a)) Q E ⟨h, g, d, t, os⟩ := by
 refine hide fun QQ hQQ => ?_
 obtain ⟨b, rfl, k⟩ := hk.key (w := w) H
 refine hQQ ?_
 clear hQQ QQ
 exact wpAny_notIn_heap (s := ⟨h, g, d, t, os⟩) (tupleKind_room_in1 (by have := r.u; unfold cLine; exact lnt fun q => lnq [_,_] [aL (tN 9900) (tQ Z0),aL (tA Z0 (tM 20 Z1)) (tN 9000)] rfl q this)) k hd (D.at x H ha) (q _)
theorem dh_sub {value slice : PySem.Expr} {a : Addr} {o : Obj} {xs : XS} {is : List Int} {key v : Value} {b : Addr} {n : Nat} {Q : Value → Shared → Prop} (r : Rm A n) (H : Holds p h) (ha : h.get? a = some o) (D : DH w o xs) (x : XOk p xs) (hk : TI p key is) (hv : atKey xs is = some (b, v))
  (hs : ∀ c, subscripted slice false (.ref a) (.ref c) = operate [.ref a, .ref c] (getItem (.ref a) (.ref c)))
  (q : ∀ t', Q v ⟨h, g, d, t', os⟩) : wpAny (model PR w) A (subscriptTail value slice (.ref a) key) Q E ⟨h, g, d, t, os⟩ := by
 refine hide fun QQ hQQ => ?_
 obtain ⟨c, rfl, k⟩ := hk.key (w := w) H
 refine hQQ ?_
 clear hQQ QQ
 exact tail_any (s := ⟨h, g, d, t, os⟩) (D.at x H ha).typeIs slot_dict_getitem.lookup (wpAny_getItem_heap (s := ⟨h, g, d, t, os⟩) (tupleKind_room_in1 (by have := r.u; unfold cLine; exact lnt fun q => lnq [_,_] [aL (tN 9900) (tQ Z0),aL (tA Z0 (tM 20 Z1)) (tN 9000)] rfl q this)) k (D.at x H ha) hv (q _)) (hs c)
theorem dh_set {a : Addr} {o : Obj} {xs : XS} {is : List Int} {key v : Value} {n : Nat} {Q : Unit → Shared → Prop} (r : Rm A n) (K : W p0 h0 X L p h l (m1 ++ (a, o) :: m2)) (D : DH w o xs) (x : XOk p xs) (hk : TI p key is) (hs : xs.length ≤ sizeLine)
  (q : ∀ h' t' o' b, key = .ref b → DH w o' (storedH xs is b v) → W p0 h0 X L p h' l (m1 ++ (a, o') :: m2) → Q () ⟨h', g, d, t', os⟩) : wpAny (model PR w) A (setItem (.ref a) key v) Q E ⟨h, g, d, t, os⟩ := by
 have ha : h.get? a = some o := K.get (by simp)
 refine hide fun QQ hQQ => ?_
 obtain ⟨b, rfl, k⟩ := hk.key (w := w) K.hold
 refine hQQ ?_
 clear hQQ QQ
 refine wpAny_setItem_heap (s := ⟨h, g, d, t, os⟩) (tupleKind_room_in1 (by have := r.u; unfold cLine; exact lnt fun q => lnq [_,_] [aL (tN 9900) (tQ Z0),aL (tA Z0 (tM 20 Z1)) (tN 9000)] rfl q this)) k (D.at x K.hold ha) (fun h' y hs => ?_) hs
 refine hide fun QQ hQQ => ?_
 obtain ⟨o', es, ep, e, c0, c1, c2, _, c3⟩ := y
 refine hQQ ?_
 clear hQQ QQ
 exact q _ _ o' b rfl ⟨c0, es, ep, c1, c2, c3⟩ ((K.mid'.turned (fun b x nb e => (hs.2 b nb).trans e) e).mid)
end
theorem Gr.its_inj {γ : Gr} {l l' : List It} (h1 : ∀ x ∈ l, γ.ok x.1 x.2) (h2 : ∀ x ∈ l', γ.ok x.1 x.2) (e : γ.its l = γ.its l') : l = l' := by
 induction l generalizing l' with
 | nil => cases l' with
  | nil => rfl
  | cons => cases e
 | cons a l ih => cases l' with
  | nil => cases e
  | cons b l' =>
   simp only [Gr.its, List.map_cons, List.cons.injEq] at e
   rw [Gr.it_inj (h1 a (List.mem_cons_self ..)) (h2 b (List.mem_cons_self ..)) e.1, ih (fun x hx => h1 x (List.mem_cons_of_mem _ hx)) (fun x hx => h2 x (List.mem_cons_of_mem _ hx)) e.2]
theorem zs_inj {l l' : List Nat} (e : zs l = zs l') : l = l' := by
 unfold zs at e
 exact (List.map_inj_right (fun a b h => Int.ofNat.inj h)).mp e
structure NumOk (γ : Gr) (p : PH) (xs : XS) (kers : List (List It)) : Prop where
 len : xs.length = kers.length
 at_ : ∀ j l, kers[j]? = some l → ∃ a t, xs[j]? = some (zs (γ.its l), a, Value.int (j : Nat) t)
 ok : XOk p xs
 items : ∀ l ∈ kers, ∀ x ∈ l, γ.ok x.1 x.2
theorem NumOk.mono {γ : Gr} {p q : PH} {xs : XS} {kers : List (List It)} (n : NumOk γ p xs kers) (s : PSub p q) : NumOk γ q xs kers := ⟨n.len, n.at_, n.ok.mono s, n.items⟩
theorem NumOk.find {γ : Gr} {p : PH} {xs : XS} {kers : List (List It)} (n : NumOk γ p xs kers) (nd : (xs.map (·.1)).Nodup) {l : List It} (hl : ∀ x ∈ l, γ.ok x.1 x.2) :
  (∃ j b t, kers[j]? = some l ∧ atKey xs (zs (γ.its l)) = some (b, Value.int (j : Nat) t)) ∨ (l ∉ kers ∧ atKey xs (zs (γ.its l)) = none) := by
 by_cases q : l ∈ kers
 ·refine hide fun QQ hQQ => ?_
  obtain ⟨j, hj⟩ := List.mem_iff_getElem?.mp q
  obtain ⟨a, t, e⟩ := n.at_ j l hj
  refine hQQ ?_
  clear hQQ QQ
  exact .inl ⟨j, a, t, hj, atKey_of_get nd e⟩
 ·refine .inr ⟨q, atKey_none_of_get fun j pp e => ?_⟩
  have hj : j < kers.length := by rw [← n.len]; exact (List.getElem?_eq_some_iff.mp e).1
  refine hide fun QQ hQQ => ?_
  obtain ⟨a, t, e'⟩ := n.at_ j kers[j] (List.getElem?_eq_getElem hj)
  refine hQQ ?_
  clear hQQ QQ
  rw [e] at e'
  simp only [Option.some.injEq, Prod.mk.injEq] at e'
  have := Gr.its_inj hl (n.items _ (List.getElem_mem hj)) (zs_inj e'.1)
  exact q (this ▸ List.getElem_mem hj)
theorem ao_b (P : Params) : attrOk (KF P) 267 "grammar" = true ∧ attrOk (KF P) 267 "closer" = true ∧ attrOk (KF P) 267 "states" = true ∧ attrOk (KF P) 267 "numbers" = true := ⟨by kernel_rfl, by kernel_rfl, by kernel_rfl, by kernel_rfl⟩
structure BuAt (p : PH) (b gr c ls nm : Addr) : Prop where
 ob : ∃ fs, Ob p b 267 fs ∧ List.lookup (Str.ofString "grammar") fs = some (.ref gr) ∧ List.lookup (Str.ofString "closer") fs = some (.ref c) ∧ List.lookup (Str.ofString "states") fs = some (.ref ls) ∧ List.lookup (Str.ofString "numbers") fs = some (.ref nm) ∧
  ∀ y, (["grammar", "closer", "states", "numbers"] : List Str).contains y = false → List.lookup y fs = none
theorem BuAt.mono {p q : PH} {b gr c ls nm : Addr} (x : BuAt p b gr c ls nm) (s : PSub p q) : BuAt q b gr c ls nm := let ⟨fs, a, r⟩ := x.ob; ⟨fs, a.mono s, r⟩
noncomputable def FreshSt (w : World) (x dx mv : Addr) (od om : Obj) (n : Nat) (kv : Value) : Prop :=
 (mv == sysModules) = false ∧ DO (PySem.intKind PR w) om [] ∧ ∃ it rd t1 s t2, AO 7 od [(Str.ofString "is_shifting", .bool false), (Str.ofString "reductions", .ref rd), (Str.ofString "moves", .ref mv), (Str.ofString "items", .ref it), (Str.ofString "symbol", .int s t2), (Str.ofString "kernel", kv), (Str.ofString "number", .int (n : Nat) t1)]
section
variable {w : World} {p : PH} {h : Heap}
theorem number_of_spec {γ : Gr} {b gr c ls nm : Addr} {kv : Value} {s : Int} {t1 : Tok} {refs : List Value} {n : Nat} {o : Obj} {xs : XS} {kers : List (List It)} {l : List It} (G : Grd w p) (H : Holds p h) (B : BuAt p b gr c ls nm)
  (hls : h.get? ls = some (listOf refs.toArray n)) (pls : p ls = none) (hnm : h.get? nm = some o) (pnm : p nm = none) (ne : ls ≠ nm) (lo : (nm == sysModules) = false) (D : DH w o xs) (no : NumOk γ p xs kers) (hr : refs.length = kers.length) (hb : kers.length ≤ 2 ^ 24)
  (hk : TI p kv (zs (γ.its l))) (hl : ∀ x ∈ l, γ.ok x.1 x.2) :
  Fn w 3 (.ref 250) [.ref b, kv, .int s t1] p h [ls, nm] (fun v p' h' => ∃ j, (IntV v (j : Nat)) ∧ (((kers[j]? = some l ∧ h'.get? ls = some (listOf refs.toArray n) ∧ h'.get? nm = some o ∧ p' ls = none ∧ p' nm = none) ∨
    (l ∉ kers ∧ j = kers.length ∧ ∃ x dx mv od om n' o' xs', h'.get? ls = some (listOf (refs ++ [Value.ref x]).toArray n') ∧ h'.get? nm = some o' ∧ DH w o' xs' ∧ NumOk γ p' xs' (kers ++ [l]) ∧ p' ls = none ∧ p' nm = none ∧
    p' x = some (instObj 106 dx) ∧ h.get? dx = none ∧ h.get? mv = none ∧ p' dx = none ∧ p' mv = none ∧ dx ≠ mv ∧ h'.get? dx = some od ∧ h'.get? mv = some om ∧ FreshSt w x dx mv od om j kv)))) := by
 intro A gg d1 t os R rm k
 refine hide fun QQ hQQ => ?_
 obtain ⟨fs, ob, bg, bc, bs, bn, bo⟩ := B.ob
 obtain ⟨b1, b2, b3, b4⟩ := ao_b w.params
 refine hQQ ?_
 clear hQQ QQ
 have ndx := D.2.choose_spec.choose_spec.2.2
 refine call_fn (mu := [(ls, listOf refs.toArray n), (nm, o)]) (fd := fnM 15 1) [(Str.ofString "symbol", .int s t1), (Str.ofString "kernel", kv), (Str.ofString "self", .ref b)] rfl (by kernel_rfl) G H rm (by intro y hy; simp at hy; rcases hy with rfl | rfl; exact ⟨hls, pls⟩; exact ⟨hnm, pnm⟩) (by simp [ne]) (BindsTo.of_eq (by rfl)) (by kernel_rfl) (by kernel_rfl) (by rfl) (by rfl) (by rfl) fun L h₁ t₁ K => ?_
 refine x_ fun Qq1 Jq1 => wpAny_If (qn_ 1 K rfl (tn_ 2 K rfl ?_))
 refine ga G K.hold (ob.mono K.hold) b4 bn rfl fun _ => ?_
 skip
 refine dh_notin rm.deeper K.hold (K.get (.tail _ (.head _))) D no.ok lo hk fun _ => ?_
 rcases no.find ndx hl with ⟨j, b', tj, hj, e⟩ | ⟨hn, e⟩
 ·rw [e]
  refine h_ ?_
  refine split_b (fun q => by cases q) (fun _ => ?_)
  refine e_ (Jq1 _ _ (wj_ (u_ (tn_ 2 K rfl ?_))))
  refine ga G K.hold (ob.mono K.hold) b4 bn rfl fun _ => ?_
  refine n_ 1 K rfl ?_
  refine dh_sub rm.deeper K.hold (K.get (.tail _ (.head _))) D no.ok hk e (fun _ => by rfl) fun _ => ?_
  exact k _ _ _ _ K.gro ⟨j, ⟨_, rfl⟩, .inl ⟨hj, K.get (.head _), K.get (.tail _ (.head _)), pls, pnm⟩⟩
 ·rw [e]
  refine h_ ?_
  refine split_b (fun _ => ?_) (fun q => by cases q)
  refine x_ fun Qq2 Jq2 => wpAny_Assign_Subscript (kb_ (gB_len _) G K.hold (ar_ (tn_ 2 K rfl ?_)))
  refine ga G K.hold (ob.mono K.hold) b3 bs rfl fun _ => ?_
  refine z_ ?_
  refine len_l (K.get (.head _)) (by simp; exact Int.ofNat_lt.mpr (lnt fun q => lnq [_,_] [aL (tN 9223372036854775808) Z0,aL Z1 (tN 16777216),aE Z0 Z1] rfl q hb hr)) fun ul _ => ?_
  refine tn_ 2 K rfl ?_
  refine ga G K.hold (ob.mono K.hold) b4 bn rfl fun _ => ?_
  refine n_ 1 K rfl ?_
  refine dh_set (m1 := [(ls, listOf refs.toArray n)]) rm.deeper K D no.ok hk (by show xs.length ≤ 2 ^ 24; rw [no.len]; exact hb) fun h4 t4 o4 b4' ekv D4 K => ?_
  refine Jq2 _ _ (x_ fun Qq3 Jq3 => wpAny_Expr_any (d_ (tn_ 2 K rfl ?_)))
  refine ga G K.hold (ob.mono K.hold) b3 bs rfl fun _ => ?_
  refine app_m (K.get (.head _)) ?_
  refine l_ (ar_ (kg_ (gG_LrState _) G K.hold (ar_ (kb_ (gB_len _) G K.hold (ar_ (tn_ 2 K rfl ?_))))))
  refine ga G K.hold (ob.mono K.hold) b3 bs rfl fun _ => ?_
  refine z_ ?_
  refine len_l (K.get (.head _)) (by simp; exact Int.ofNat_lt.mpr (lnt fun q => lnq [_,_] [aL (tN 9223372036854775808) Z0,aL Z1 (tN 16777216),aE Z0 Z1] rfl q hb hr)) fun _ _ => ?_
  refine rn_ 1 K rfl (rnz_ 0 K rfl ?_)
  refine ⟨⟨_, G, K.hold⟩, ?_⟩
  have K4 := K
  refine mk (n := 1) (Post := fun x dx v p' h' => X7 fun mv om o' it rd t1' t2' => A9 (h'.get? dx = some o') (AO 7 o' [(Str.ofString "is_shifting", .bool false), (Str.ofString "reductions", .ref rd), (Str.ofString "moves", .ref mv), (Str.ofString "items", .ref it), (Str.ofString "symbol", .int s t2'), (Str.ofString "kernel", kv), (Str.ofString "number", .int (refs.toArray.size : Nat) t1')]) (h4.get? mv = none) (mv ≠ x) (mv ≠ dx) (p' mv = none) (h'.get? mv = some om) ((mv == sysModules) = false) (DO (PySem.intKind PR w) om [])) G K (mk_s _) (rm.deeper.less (by decide)) (fun x dx h1 G1 H1 hx hdx pdx px kp fx => ?_) (fun x dx p5 h5 t5 o5 v ps5 fx fdx K po ho5 => ?_)
  ·intro A' g' d' t' os' R' rm' k'
   refine state_init G1 H1 hx hdx pdx A' g' d' t' os' R' rm' fun v p6 h6 t6 gro po => ?_
   refine hide fun QQ hQQ => ?_
   obtain ⟨rv, ⟨o', mv, om, it, rd, q1, q2, q3, q4, q5, q6, q7⟩, q8⟩ := po
   refine hQQ ?_
   clear hQQ QQ
   refine k' v p6 h6 t6 gro ⟨rv, ⟨mv, om, o', it, rd, _, _, q1, q2, ?_, ?_, ?_, q4, q5, q6, q7⟩, q8⟩
   ·cases z : h4.get? mv with
    | none => rfl
    | some o => rw [kp _ _ z] at q3; cases q3
   ·intro z; rw [z, hx] at q3; cases q3
   ·intro z; rw [z, hdx] at q3; cases q3
  ·refine hide fun QQ hQQ => ?_
   obtain ⟨mv, om, o', it, rd, t1', t2', q1, q2, q3, q4, q5, q6, q7, q8, q9⟩ := po
   refine hQQ ?_
   clear hQQ QQ
   rw [ho5] at q1; refine hide fun QQ hQQ => ?_
   cases q1
   all_goals (refine hQQ ?_; clear hQQ QQ)
   refine hide fun QQ hQQ => ?_
   obtain ⟨oL, eL⟩ := K4.atL
   have els : h4.get? ls = some (listOf refs.toArray n) := K4.get (.head _)
   have enm : h4.get? nm = some o4 := K4.get (.tail _ (.head _))
   obtain ⟨K, ps6, hfx⟩ := K.fix fx
   refine hQQ ?_
   clear hQQ QQ
   have pmv : (p5.add x (instObj 106 dx)) mv = none := by unfold PH.add; rw [if_neg q4]; exact q6
   have K := K.adopt q7 pmv (fun z => by rw [z, eL] at q3; cases q3) (by
    intro q hq
    simp only [List.cons_append, List.nil_append, List.mem_cons, List.not_mem_nil, or_false] at hq
    rcases hq with rfl | rfl | rfl
    ·exact Ne.symm q5
    ·intro z; rw [← z] at q3; rw [els] at q3; cases q3
    ·intro z; rw [← z] at q3; rw [enm] at q3; cases q3) (K4.none_of q3)
   have G := (G.mono ps5).mono ps6
   have ob := (ob.mono ps5).mono ps6
   have no' := (no.mono ps5).mono ps6
   have hk' := (hk.mono ps5).mono ps6
   rw [storedH_new e] at D4
   have D4n := D4.2.choose_spec.choose_spec.2.2
   have hk'' := hk'
   refine hide fun QQ hQQ => ?_
   obtain ⟨kva, kvs, kn, rfl, kb, kia⟩ := hk''
   cases ekv
   all_goals (refine hQQ ?_; clear hQQ QQ)
   have no4 : NumOk γ (p5.add x (instObj 106 dx)) (xs ++ [(zs (γ.its l), b4', .int (refs.toArray.size : Nat) ul)]) (kers ++ [l]) := by
    refine ⟨by simp [no.len], fun j l' hj => ?_, fun y hy => ?_, fun l' hl' => ?_⟩
    ·rw [List.getElem?_append] at hj ⊢
     split at hj
     ·rename_i lt
      rw [if_pos (by rw [no.len]; exact lt)]; exact no.at_ j l' hj
     ·rename_i nlt
      rw [if_neg (by rw [no.len]; exact nlt), no.len]
      have hj0 : j - kers.length = 0 := by
       have := (List.getElem?_eq_some_iff.mp hj).1; simp at this; exact sbZ fun q => lnq [_,_,_] [aL (tQ Z0) Z1,aE Z2 (tN 0),aL Z1 (tA Z2 Z0)] rfl q this (sbL _ _)
      rw [hj0] at hj ⊢
      simp at hj; subst hj
      refine ⟨b4', ul, ?_⟩
      simp only [List.getElem?_cons_zero, Option.some.injEq, Prod.mk.injEq, true_and]
      congr 1
      simp; exact congrArg Int.ofNat (lne (fun q => lnq [_,_,_] [aL (tQ Z0) Z1,aX (tQ Z0) Z2,aE Z1 Z2] rfl q nlt hr) fun q => lnq [_,_,_,_] [aL (tQ Z0) Z1,aE Z2 (tN 0),aL Z1 (tA Z2 Z3),aG Z0 Z3] rfl q hj0 (sbL _ _) hr)
    ·rcases List.mem_append.mp hy with hy | hy
     ·exact no'.ok y hy
     ·rw [List.mem_singleton] at hy; subst hy; exact hk'
    ·rcases List.mem_append.mp hl' with hl' | hl'
     ·exact no.items l' hl'
     ·rw [List.mem_singleton] at hl'; subst hl'; exact hl
   refine z_ ?_
   refine app_ (m1 := [(mv, om), (dx, o5)]) K (by show refs.length ≤ 2 ^ 24; exact lnl fun q => lnq [_,_] [aL (tQ (tN 16777216)) Z0,aL Z1 (tN 16777216),aE Z0 Z1] rfl q hb hr) fun h7 n7 K => ?_
   refine Jq3 _ _ (e_ (Jq1 _ _ (wj_ (u_ (tn_ 2 K rfl ?_)))))
   refine ga G K.hold (ob.mono K.hold) b4 bn rfl fun _ => ?_
   refine n_ 1 K rfl ?_
   refine dh_sub rm.deeper K.hold (K.get (o := o4) (by simp)) D4 no4.ok hk' (atKey_of_get D4n (i := xs.length) (by simp; exact ⟨rfl, rfl⟩)) (fun _ => by rfl) fun _ => ?_
   have w1 := K.own (ls, listOf (refs ++ [Value.ref x]).toArray n7) (by simp)
   have w2 := K.own (nm, o4) (by simp)
   have w3 := K.own (dx, o5) (by simp)
   have w4 := K.own (mv, om) (by simp)
   refine k _ _ _ _ K.gro ⟨kers.length, ⟨ul, by show Value.int ((refs.length : Nat) : Int) ul = _; rw [hr]⟩, .inr ⟨hn, rfl, x, dx, mv, o5, om, n7, o4, _, w1.1, w2.1, D4, no4, w1.2.2.1, w2.2.2.1, hfx, fdx, K4.none_of q3, w3.2.2.1, w4.2.2.1, Ne.symm q5, w3.1, w4.1, q8, q9, it, rd, t1', s, t2', ?_⟩⟩
   have e : ((refs.toArray.size : Nat) : Int) = (kers.length : Nat) := by simp; exact congrArg Int.ofNat (lne (fun q => lnq [_,_] [aL (tQ Z0) Z1,aE Z1 Z0] rfl q hr) fun q => lnq [_,_] [aL (tQ Z0) Z1,aG Z0 Z1] rfl q hr)
   rw [← e]; exact q2
end

noncomputable def KerOk (γ : Gr) (l : List It) : Prop := (∀ x ∈ l, γ.ok x.1 x.2) ∧ l.Nodup ∧ (zs (γ.its l)).Pairwise (· ≤ ·)
noncomputable def maskOf (l : List Nat) : Nat := l.foldr (fun i m => 1 <<< i ||| m) 0
theorem maskOf_bit (l : List Nat) (i : Nat) : (maskOf l).testBit i = true ↔ i ∈ l := by
 induction l with
 | nil => simp [maskOf]
 | cons a l ih =>
  show (1 <<< a ||| maskOf l).testBit i = true ↔ _
  rw [Nat.testBit_or, Bool.or_eq_true, ih, one_shl, Nat.testBit_two_pow, decide_eq_true_eq, List.mem_cons]
  exact or_congr_left eq_comm
theorem maskOf_lt {l : List Nat} {n : Nat} (h : ∀ x ∈ l, x < n) : maskOf l < 2 ^ n := by
 induction l with
 | nil => exact Nat.two_pow_pos _
 | cons a l ih =>
  refine Nat.or_lt_two_pow ?_ (ih fun x hx => h x (List.mem_cons_of_mem _ hx))
  rw [one_shl]; exact Nat.pow_lt_pow_right (by decide) (h a (List.mem_cons_self ..))
theorem asc_eq : ∀ {l m : List Nat}, l.Pairwise (· < ·) → m.Pairwise (· < ·) → (∀ x, x ∈ l ↔ x ∈ m) → l = m
 | [], [], _, _, _ => rfl
 | [], b :: m, _, _, h => by have := (h b).mpr (List.mem_cons_self ..); cases this
 | a :: l, [], _, _, h => by have := (h a).mp (List.mem_cons_self ..); cases this
 | a :: l, b :: m, h1, h2, h => by
  rw [List.pairwise_cons] at h1 h2
  have e : a = b := by
   have ha := (h a).mp (List.mem_cons_self ..)
   have hb := (h b).mpr (List.mem_cons_self ..)
   rcases List.mem_cons.mp ha with e | ha
   ·exact e
   ·rcases List.mem_cons.mp hb with e | hb
    ·exact e.symm
    ·have := h2.1 a ha; have := h1.1 b hb; exact lne (fun q => lnq [_,_] [aL (tQ Z0) Z1,aL (tQ Z1) Z0] rfl q this) fun q => lnq [_,_] [aL (tQ Z0) Z1,aL (tQ Z1) Z0] rfl q (by assumption)
  subst e
  rw [asc_eq h1.2 h2.2 fun x => ?_]
  have := h x
  rw [List.mem_cons, List.mem_cons] at this
  constructor
  ·intro hx
   rcases this.mp (.inr hx) with e | z
   ·have := h1.1 x hx; exact (lnq [_,_] [aL (tQ Z0) Z1,aE Z1 Z0] rfl this e : False).elim
   ·exact z
  ·intro hx
   rcases this.mpr (.inr hx) with e | z
   ·have := h2.1 x hx; exact (lnq [_,_] [aL (tQ Z0) Z1,aE Z1 Z0] rfl this e : False).elim
   ·exact z
theorem KerOk.asc {γ : Gr} {l : List It} (k : KerOk γ l) : (γ.its l).Pairwise (· < ·) := by
 have h1 := Gr.its_nodup k.1 k.2.1
 have h2 := List.pairwise_map.mp k.2.2
 exact (h1.and h2).imp fun ⟨a, b⟩ => by exact lnt fun q => (Nat.lt_or_gt_of_ne a).elim (fun q0 => lnq [_,_] [aL (tQ Z0) Z1,aL Z1 Z0] rfl q0 q) fun q0 => lnq [_,_] [aL (tQ Z0) Z1,aL Z1 Z0] rfl q0 (Int.ofNat_le.mp b)
theorem kers_len {γ : Gr} (ok : GrOk γ) {kers : List (List It)} (h : ∀ l ∈ kers, KerOk γ l) (nd : kers.Nodup) : kers.length ≤ 2 ^ 24 := by
 have h1 : (kers.map fun l => maskOf (γ.its l)).Nodup := by
  refine List.pairwise_map.mpr (List.Pairwise.imp_of_mem (fun {a b} ha hb hab e => hab ?_) nd)
  refine Gr.its_inj (h a ha).1 (h b hb).1 (asc_eq (h a ha).asc (h b hb).asc fun x => ?_)
  rw [← maskOf_bit, e, maskOf_bit]
 have := nodup_le (2 ^ 24) h1 fun x hx => by
  refine hide fun QQ hQQ => ?_
  obtain ⟨l, hl, rfl⟩ := List.mem_map.mp hx
  refine hQQ ?_
  clear hQQ QQ
  refine Nat.lt_of_lt_of_le (maskOf_lt (n := γ.own.length) fun y hy => ?_) (Nat.pow_le_pow_right (by decide) ok.2.2.1)
  unfold Gr.its at hy
  refine hide fun QQ hQQ => ?_
  obtain ⟨z, hz, rfl⟩ := List.mem_map.mp hy
  refine hQQ ?_
  clear hQQ QQ
  exact ok_lt ((h l hl).1 z hz)
 simpa using this
theorem AO.shadow {N : Nat} {o : Obj} {n : Str} {v u : Value} {pre post : AL} (x : AO N o ((n, v) :: (pre ++ (n, u) :: post))) : AO N o ((n, v) :: (pre ++ post)) := by
 refine x.congr fun y => ?_
 rw [List.lookup_cons, List.lookup_cons]
 cases e : y == n with
 | true => rfl
 | false =>
  show List.lookup y (pre ++ (n, u) :: post) = List.lookup y (pre ++ post)
  clear x
  induction pre with
  | nil => show List.lookup y ((n, u) :: post) = _; rw [List.lookup_cons, e]; rfl
  | cons a pre ih => rw [List.cons_append, List.cons_append, List.lookup_cons, List.lookup_cons, ih]
theorem AO.swap {N : Nat} {o : Obj} {n m : Str} {v u : Value} {fs : AL} (x : AO N o ((n, v) :: (m, u) :: fs)) (h : (n == m) = false) : AO N o ((m, u) :: (n, v) :: fs) := by
 refine x.congr fun y => ?_
 rw [List.lookup_cons, List.lookup_cons, List.lookup_cons, List.lookup_cons]
 cases e : y == n with
 | false => rfl
 | true => cases e' : y == m with
  | false => rfl
  | true => rw [beq_iff_eq] at e e'; subst e; subst e'; simp at h
structure SD where
 x : Addr
 dx : Addr
 mv : Addr
 od : Obj
 om : Obj
 ker : List It
noncomputable def SD.ref (s : SD) : Value := .ref s.x
noncomputable def SD.led (s : SD) : Led := [(s.dx, s.od), (s.mv, s.om)]
noncomputable def SdOk (w : World) (p : PH) (γ : Gr) (j : Nat) (s : SD) : Prop := p s.x = some (instObj 106 s.dx) ∧ KerOk γ s.ker ∧ ∃ kv, FreshSt w s.x s.dx s.mv s.od s.om j kv ∧ TI p kv (zs (γ.its s.ker))
theorem SdOk.mono {w : World} {p q : PH} {γ : Gr} {j : Nat} {s : SD} (x : SdOk w p γ j s) (h : PSub p q) : SdOk w q γ j s := let ⟨a, b, kv, c, d⟩ := x; ⟨h _ _ a, b, kv, c, d.mono h⟩
noncomputable def DoneSt (w : World) (γ : Gr) (p : PH) (mv : Addr) (od om : Obj) (n : Nat) (kv : Value) (l : List It) (kers : List (List It)) : Prop :=
 X9 fun its iv rv rl mvs sh t1 s t2 => A11 (AO 7 od [(Str.ofString "is_shifting", .bool sh), (Str.ofString "reductions", rv), (Str.ofString "moves", .ref mv), (Str.ofString "items", iv), (Str.ofString "symbol", .int s t2), (Str.ofString "kernel", kv), (Str.ofString "number", .int (n : Nat) t1)]) (LI p iv (zs (γ.its its))) (its.Nodup) ((∀ x, x ∈ its ↔ γ.Clo (· ∈ l) x)) (LI p rv (zs rl)) (rl.Perm (γ.red its)) ((mv == sysModules) = false) (DO (PySem.intKind PR w) om mvs) ((∀ k v, (k, v) ∈ mvs → ∃ (s j : Nat) (t : Tok), k = s ∧ v = .int (j : Nat) t ∧ γ.behind s its ≠ [] ∧ ∃ l', kers[j]? = some l' ∧ l'.Perm (γ.behind s its))) ((∀ s : Nat, γ.behind s its ≠ [] → (s : Int) ∈ mvs.map (·.1))) ((sh = true ↔ ∃ s, s < γ.tc ∧ γ.behind s its ≠ []))
theorem ao_st (P : Params) : attrOk (KF P) 106 "number" = true ∧ attrOk (KF P) 106 "kernel" = true ∧ attrOk (KF P) 106 "symbol" = true ∧ attrOk (KF P) 106 "items" = true ∧ attrOk (KF P) 106 "moves" = true ∧ attrOk (KF P) 106 "reductions" = true ∧ attrOk (KF P) 106 "is_shifting" = true :=
 ⟨by kernel_rfl, by kernel_rfl, by kernel_rfl, by kernel_rfl, by kernel_rfl, by kernel_rfl, by kernel_rfl⟩
theorem mo_close (P : Params) : methOk (KF P) 148 "close" 145 = true := by kernel_rfl
theorem mo_number_of (P : Params) : methOk (KF P) 267 "number_of" 250 = true := by kernel_rfl
section
variable {w : World} {p : PH} {h : Heap}
noncomputable def newLed (new : List SD) : Led := new.flatMap SD.led
theorem idx_unique {κ : Type} [DecidableEq κ] {kvs : List (κ × Value)} (nd : (kvs.map (·.1)).Nodup) {i j : Nat} {a b : κ × Value} (h1 : kvs[i]? = some a) (h2 : kvs[j]? = some b) (e : a.1 = b.1) : i = j := by
 have e1 : (kvs.map (·.1))[i]? = some a.1 := by rw [List.getElem?_map, h1]; rfl
 have e2 : (kvs.map (·.1))[j]? = some a.1 := by rw [List.getElem?_map, h2, e]; rfl
 exact (List.getElem?_inj (List.getElem?_eq_some_iff.mp e1).1 nd).mp (e1.trans e2.symm)
theorem expand_spec {γ : Gr} {b gr c ls nm x dx mv : Addr} {kv : Value} {fsg : AL} {firsts : List Nat} {refs : List Value} {n n0 : Nat} {o od om : Obj} {xs : XS} {kers : List (List It)} {l : List It} (G : Grd w p) (H : Holds p h) (B : BuAt p b gr c ls nm)
  (g : GrAt p gr γ fsg) (ok : GrOk γ) (cl : CloAt p c gr firsts) (fo : FirstsOk γ firsts)
  (hls : h.get? ls = some (listOf refs.toArray n)) (pls : p ls = none) (hnm : h.get? nm = some o) (pnm : p nm = none) (nodup : [ls, nm, dx, mv].Nodup) (lo : (nm == sysModules) = false) (D : DH w o xs) (no : NumOk γ p xs kers) (hr : refs.length = kers.length) (ko : ∀ l ∈ kers, KerOk γ l) (kn : kers.Nodup)
  (hx : p x = some (instObj 106 dx)) (hdx : h.get? dx = some od) (pdx : p dx = none) (hmv : h.get? mv = some om) (pmv : p mv = none) (F : FreshSt w x dx mv od om n0 kv) (hk : TI p kv (zs (γ.its l))) (hl : KerOk γ l) :
  Fn w 6 (.ref 257) [.ref b, .ref x] p h [ls, nm, dx, mv] (fun v p' h' => X6 fun (new : List SD) (n' : Nat) (o' od' om' : Obj) (xs' : XS) => A15 (h'.get? ls = some (listOf (refs ++ new.map SD.ref).toArray n')) (p' ls = none) (h'.get? nm = some o') (p' nm = none) (DH w o' xs') (NumOk γ p' xs' (kers ++ new.map SD.ker)) ((kers ++ new.map SD.ker).Nodup) (h'.get? dx = some od') (p' dx = none) (h'.get? mv = some om') (p' mv = none) (DoneSt w γ p' mv od' om' n0 kv l (kers ++ new.map SD.ker)) ((∀ i sd, new[i]? = some sd → SdOk w p' γ (kers.length + i) sd)) ((∀ q ∈ newLed new, h.get? q.1 = none ∧ p' q.1 = none ∧ h'.get? q.1 = some q.2)) (((newLed new).map (·.1)).Nodup)) := by
 intro A gg d1 t os R rm k
 refine hide fun QQ hQQ => ?_
 obtain ⟨fs, ob, bg, bc, bs, bn, bo⟩ := B.ob
 obtain ⟨b1, b2, b3, b4⟩ := ao_b w.params
 obtain ⟨s1, s2, s3, s4, s5, s6, s7⟩ := so_s w.params
 obtain ⟨a1, a2, a3, a4, a5, a6, a7⟩ := ao_st w.params
 obtain ⟨lom, Dm, it0, rd0, tka, sy, tkb, ao⟩ := F
 obtain ⟨fc, oc, cg, cf, co⟩ := cl.ob
 refine hQQ ?_
 clear hQQ QQ
 refine call_fn (mu := [(ls, listOf refs.toArray n), (nm, o), (dx, od), (mv, om)]) (fd := fnM 15 2) [(Str.ofString "state", .ref x), (Str.ofString "self", .ref b)] rfl (by kernel_rfl) G H rm (by
  intro y hy; simp at hy; rcases hy with rfl | rfl | rfl | rfl
  ·exact ⟨hls, pls⟩
  ·exact ⟨hnm, pnm⟩
  ·exact ⟨hdx, pdx⟩
  ·exact ⟨hmv, pmv⟩) nodup (BindsTo.of_eq (by rfl)) (by kernel_rfl) (by kernel_rfl) (by rfl) (by rfl) (by rfl) fun L h₁ t₁ K => ?_
 refine xp_ fun Qq1 Jq1 => d_ (tn_ 1 K rfl ?_)
 refine ga G K.hold (ob.mono K.hold) b2 bc rfl fun _ => ?_
 refine gm G K.hold (oc.mono K.hold) (mo_close _) (co _ (by kernel_rfl)) ?_
 refine f_ (ar_ (tn_ 0 K rfl ?_))
 refine ga G K.hold (Ob.of (K.hold _ _ hx) (K.get (.tail _ (.tail _ (.head _)))) ao) a2 (by exact lkN 5 (by kernel_rfl) rfl) (hk.handed) fun _ => ?_
 refine z_ ?_
 refine ⟨⟨_, G, K.hold⟩, ?_⟩
 refine use_fn (close_spec G K.hold g ok cl fo hk hl.1 hl.2.1) (rm.deeper.less (by decide)) fun v p3 h3 t3 gro hv => ?_
 refine hide fun QQ hQQ => ?_
 obtain ⟨its, hits, ind, imem⟩ := hv
 refine hQQ ?_
 clear hQQ QQ
 have K := K.call gro
 have G := G.mono gro.sub
 have ob := ob.mono gro.sub
 have g := g.mono gro.sub
 have hx := gro.sub _ _ hx
 have iok : ∀ x ∈ its, γ.ok x.1 x.2 := fun x hx => Gr.Clo.ok hl.1 ((imem x).mp hx)
 refine n_ 0 K rfl ?_
 refine sa (m1 := [(ls, listOf refs.toArray n), (nm, o)]) G K (K.hold _ _ hx) ao (by decide) s4 fun h4 t4 od4 _ ao4 K => ?_
 have ao4 := ao4 (by rfl)
 refine Jq1 _ _ (xp_ fun Qq2 Jq2 => kg_ (gG_complete_rules _) G K.hold (ar_ (tn_ 1 K rfl ?_)))
 refine ga G K.hold (ob.mono K.hold) b1 bg rfl fun _ => ?_
 refine r_ (tn_ 0 K rfl ?_)
 refine ga G K.hold (Ob.of (K.hold _ _ hx) (K.get (.tail _ (.tail _ (.head _)))) ao4) a4 (by exact lkN 0 (by kernel_rfl) rfl) hits.handed fun _ => ?_
 refine z_ ?_
 refine ⟨⟨_, G, K.hold⟩, ?_⟩
 refine use_fn (complete_spec G K.hold g ok hits iok ind) (rm.deeper.less (by decide)) fun v5 p5 h5 t5 gro5 hv => ?_
 refine hide fun QQ hQQ => ?_
 obtain ⟨rl, hrl, rlp⟩ := hv
 refine hQQ ?_
 clear hQQ QQ
 have K := K.call gro5
 have G := G.mono gro5.sub
 have ob := ob.mono gro5.sub
 have g := g.mono gro5.sub
 have hx := gro5.sub _ _ hx
 have hits := hits.mono gro5.sub
 refine n_ 0 K rfl ?_
 refine sa (m1 := [(ls, listOf refs.toArray n), (nm, o)]) G K (K.hold _ _ hx) ao4 (by decide) s6 fun h6 t6 od6 _ ao6 K => ?_
 have ao6 := ao6 (by rfl)
 refine Jq2 _ _ (xv_ fun Qq3 Jq3 => kg_ (gG_kernels_behind _) G K.hold (ar_ (tn_ 1 K rfl ?_)))
 refine ga G K.hold (ob.mono K.hold) b1 bg rfl fun _ => ?_
 refine r_ (tn_ 0 K rfl ?_)
 refine ga G K.hold (Ob.of (K.hold _ _ hx) (K.get (.tail _ (.tail _ (.head _)))) ao6) a4 (by exact lkN 1 (by kernel_rfl) rfl) hits.handed fun _ => ?_
 refine z_ ?_
 refine ⟨⟨_, G, K.hold⟩, ?_⟩
 refine use_fn (kernels_behind_spec G K.hold g ok hits iok ind) (rm.deeper.less (by decide)) fun v7 p7 h7 t7 gro7 hv => ?_
 refine hide fun QQ hQQ => ?_
 obtain ⟨bd, bo', kvs, rfl, hbd, lob, Db, kl, hkv, hkc⟩ := hv
 refine hQQ ?_
 clear hQQ QQ
 have K := K.call gro7
 have G := G.mono gro7.sub
 have ob := ob.mono gro7.sub
 have g := g.mono gro7.sub
 have hx := gro7.sub _ _ hx
 have hits := hits.mono gro7.sub
 refine s_ K fun h2 t2 K => Jq3 _ _ (x_ fun Qq4 Jq4 => wpAny_For (n_ 0 K rfl ?_))
 have aoX : AO 7 od6 ((Str.ofString "is_shifting", .bool false) :: [(Str.ofString "reductions", v5), (Str.ofString "moves", .ref mv), (Str.ofString "items", v), (Str.ofString "symbol", .int sy tkb), (Str.ofString "kernel", kv), (Str.ofString "number", .int (n0 : Nat) tka)]) := by
  refine ao6.congr fun y => ?_
  rw [List.lookup_cons, List.lookup_cons, List.lookup_cons, List.lookup_cons, List.lookup_cons, List.lookup_cons, List.lookup_cons, List.lookup_cons, List.lookup_cons, List.lookup_cons, List.lookup_cons]
  by_cases q1 : y = Str.ofString "reductions"
  ·subst q1; kernel_rfl
  by_cases q2 : y = Str.ofString "items"
  ·subst q2; kernel_rfl
  by_cases q3 : y = Str.ofString "is_shifting"
  ·subst q3; kernel_rfl
  by_cases q4 : y = Str.ofString "moves"
  ·subst q4; kernel_rfl
  have e1 := beq_false_of_ne q1
  have e2 := beq_false_of_ne q2
  have e3 := beq_false_of_ne q3
  have e4 := beq_false_of_ne q4
  simp only [e1, e2, e3, e4, List.lookup_cons]
 refine for_keys (mu := [(ls, listOf refs.toArray n), (nm, o), (dx, od6), (mv, om)]) (its := []) rm.hd rfl Db lob (fun i p' l' mu' => (PSub p7 p') ∧ (X9 fun (r : AL) (new : List SD) (n' : Nat) (o' od' om' : Obj) (xs' : XS) (mvs : List (Int × Value)) (sh : Bool) => A12 (l' = (Str.ofString "behind", .ref bd) :: (Str.ofString "state", .ref x) :: (Str.ofString "self", .ref b) :: r) (mu' = (ls, listOf (refs ++ new.map SD.ref).toArray n') :: (nm, o') :: (dx, od') :: (mv, om') :: newLed new) (DH w o' xs') (NumOk γ p' xs' (kers ++ new.map SD.ker)) ((kers ++ new.map SD.ker).Nodup) ((∀ i sd, new[i]? = some sd → SdOk w p' γ (kers.length + i) sd)) ((∀ q ∈ newLed new, h.get? q.1 = none)) (AO 7 od' ((Str.ofString "is_shifting", .bool sh) :: [(Str.ofString "reductions", v5), (Str.ofString "moves", .ref mv), (Str.ofString "items", v), (Str.ofString "symbol", .int sy tkb), (Str.ofString "kernel", kv), (Str.ofString "number", .int (n0 : Nat) tka)])) (DO (PySem.intKind PR w) om' mvs) (mvs.map (·.1) = (kvs.take i).map (·.1)) ((∀ k v, (k, v) ∈ mvs → ∃ (s j : Nat) (t : Tok), k = s ∧ v = .int (j : Nat) t ∧ γ.behind s its ≠ [] ∧ ∃ l', (kers ++ new.map SD.ker)[j]? = some l' ∧ l'.Perm (γ.behind s its))) ((sh = true ↔ ∃ s, s < γ.tc ∧ (s : Int) ∈ (kvs.take i).map (·.1)))))
  K ⟨PSub.refl _, _, [], n, o, od6, om, xs, [], false, rfl, by simp [newLed], D, by simpa using (((no.mono gro.sub).mono gro5.sub).mono gro7.sub), by simpa using kn, by simp, by simp [newLed], aoX, Dm, by simp, by simp, by simp⟩ ?src ?turn ?done
 case src => rintro i p' h' l' mu' its K ⟨ps, _⟩; exact K.hold _ _ (ps _ _ hbd)
 case done =>
  rintro p8 h8 l' mu' t8 K hx6_
  refine hide fun QQ hQQ => ?_
  obtain ⟨ps, r, new, n', o', od', om', xs', mvs, sh, rfl, rfl, D8, no8, kn8, sd8, fr8, ao8, Dm8, mk8, mp8, sh8⟩ := hx6_
  refine hQQ ?_
  clear hQQ QQ
  refine Jq4 _ _ (e_ ?_)
  rw [List.take_of_length_le (Nat.le_refl _)] at mk8 sh8
  have o1 := K.own (ls, listOf (refs ++ new.map SD.ref).toArray n') (by simp)
  have o2 := K.own (nm, o') (by simp)
  have o3 := K.own (dx, od') (by simp)
  have o4 := K.own (mv, om') (by simp)
  have nd9 := K.nodup
  refine k _ _ _ _ K.gro ⟨new, n', o', od', om', xs', o1.1, o1.2.2.1, o2.1, o2.2.2.1, D8, no8, kn8, o3.1, o3.2.2.1, o4.1, o4.2.2.1, ⟨its, v, v5, rl, mvs, sh, tka, sy, tkb, ao8, hits.mono ps, ind, imem, (hrl.mono gro7.sub).mono ps, rlp, lom, Dm8, mp8, fun s hs => ?_, ?_⟩, sd8, fun q hq => ⟨fr8 q hq, (K.own q (by simp [hq])).2.2.1, (K.own q (by simp [hq])).1⟩, ?_⟩
  ·rw [mk8]
   refine hide fun QQ hQQ => ?_
   obtain ⟨x, hx⟩ := hkc s hs
   refine hQQ ?_
   clear hQQ QQ
   exact List.mem_map.mpr ⟨_, hx, rfl⟩
  ·rw [sh8]
   constructor
   ·rintro hx0_
    refine hide fun QQ hQQ => ?_
    obtain ⟨s, h1, h2⟩ := hx0_
    obtain ⟨⟨k, x⟩, h3, h4⟩ := List.mem_map.mp h2
    obtain ⟨s', e, _, hs', _⟩ := hkv k x h3
    refine hQQ ?_
    clear hQQ QQ
    simp only at h4; rw [h4] at e
    rw [← Int.ofNat.inj e] at hs'
    exact ⟨s, h1, hs'⟩
   ·rintro hx0_
    refine hide fun QQ hQQ => ?_
    obtain ⟨s, h1, h2⟩ := hx0_
    obtain ⟨x, hx⟩ := hkc s h2
    refine hQQ ?_
    clear hQQ QQ
    exact ⟨s, h1, List.mem_map.mpr ⟨_, hx, rfl⟩⟩
  ·simp only [List.append_nil, List.map_cons, List.nodup_cons] at nd9
   exact nd9.2.2.2.2
 case turn =>
  rintro i kk xv v9 p8 h8 l' mu' its' t8 hkx hvk hi K hx14_ Qt Jt
  refine hide fun QQ hQQ => ?_
  obtain ⟨ps, r, new, n', o', od', om', xs', mvs, sh, rfl, rfl, D8, no8, kn8, sd8, fr8, ao8, Dm8, mk8, mp8, sh8⟩ := hx14_
  obtain ⟨u9, rfl⟩ := Value.isInt_shape hvk
  obtain ⟨s, rfl, hsn, hsb, l9, ti9, lp9, sw9⟩ := hkv kk xv (List.mem_of_getElem? hkx)
  refine hQQ ?_
  clear hQQ QQ
  have G := G.mono ps
  have ob := ob.mono ps
  have g := g.mono ps
  have hx := ps _ _ hx
  have hbd := ps _ _ hbd
  have ti9 := ti9.mono ps
  have ko8 : ∀ l ∈ kers ++ new.map SD.ker, KerOk γ l := fun l hl => by
   rcases List.mem_append.mp hl with hl | hl
   ·exact ko l hl
   ·refine hide fun QQ hQQ => ?_
    obtain ⟨sd, hsd, rfl⟩ := List.mem_map.mp hl
    obtain ⟨i, hi⟩ := List.mem_iff_getElem?.mp hsd
    refine hQQ ?_
    clear hQQ QQ
    exact (sd8 i sd hi).2.1
  have len8 := kers_len ok ko8 kn8
  have lr8 : (refs ++ new.map SD.ref).length = (kers ++ new.map SD.ker).length := by simp [hr]
  have l9ok : KerOk γ l9 := ⟨fun x hx => Gr.behind_ok iok x (lp9.mem_iff.mp hx), lp9.symm.nodup (Gr.behind_nodup ind), sw9⟩
  have own8 := K.own
  have nd8 := K.nodup
  have els := own8 (ls, listOf (refs ++ new.map SD.ref).toArray n') (by simp)
  have enm := own8 (nm, o') (by simp)
  have B8 : BuAt p8 b gr c ls nm := ⟨fs, ob, bg, bc, bs, bn, bo⟩
  refine wpAny_assign_Name (s_ K fun h2 t2 K => x_ fun Qq5 Jq5 => wpAny_Assign_Subscript (dn_ 3 K rfl ?_))
  refine gm G K.hold (ob.mono K.hold) (mo_number_of _) (bo _ (by kernel_rfl)) ?_
  refine f_ (ar_ (un_ 1 K rfl (n_ 0 K rfl ?_)))
  refine d_sub (k := ((s : Nat) : Int)) (v := xv) (K.hold _ _ hbd) Db (int_is _ _) (valueAt_mem Db.2.choose_spec.choose_spec.2.2.2 (List.mem_of_getElem? hkx)) (by rfl) fun _ => ?_
  refine rnz_ 0 K rfl ?_
  refine ⟨⟨_, G, K.hold⟩, ?_⟩
  have els := K.own (ls, listOf (refs ++ new.map SD.ref).toArray n') (by simp)
  have enm := K.own (nm, o') (by simp)
  refine use_fn (number_of_spec G K.hold B8 els.1 els.2.2.1 enm.1 enm.2.2.1 (by intro e; simp [e] at nodup) lo D8 no8 lr8 len8 ti9 l9ok.1) (rm.deeper.less (by decide)) fun v10 p10 h10 t10 gro10 hv => ?_
  refine hide fun QQ hQQ => ?_
  obtain ⟨j, ⟨uj, rfl⟩, hcase⟩ := hv
  have Kb := K
  have step : ∃ (new1 : List SD) (n1 : Nat) (o1 : Obj) (xs1 : XS), (W p h [ls, nm, dx, mv] L p10 h10 ((Str.ofString "symbol", .int (s : Nat) u9) :: (Str.ofString "behind", .ref bd) :: (Str.ofString "state", .ref x) :: (Str.ofString "self", .ref b) :: r) ((ls, listOf (refs ++ new1.map SD.ref).toArray n1) :: (nm, o1) :: (dx, od') :: (mv, om') :: newLed new1 ++ its')) ∧
    DH w o1 xs1 ∧ NumOk γ p10 xs1 (kers ++ new1.map SD.ker) ∧ (kers ++ new1.map SD.ker).Nodup ∧ (∀ i sd, new1[i]? = some sd → SdOk w p10 γ (kers.length + i) sd) ∧ (∀ q ∈ newLed new1, h.get? q.1 = none) ∧ (kers ++ new1.map SD.ker)[j]? = some l9 ∧ (∀ (j : Nat) (l : List It), (kers ++ new.map SD.ker)[j]? = some l → (kers ++ new1.map SD.ker)[j]? = some l) := by
   have K0 : W p h [ls, nm, dx, mv] L p8 h2 _ ([(ls, listOf (refs ++ new.map SD.ref).toArray n'), (nm, o')] ++ ((dx, od') :: (mv, om') :: newLed new ++ its')) := K
   rcases hcase with ⟨c1, c2, c3, c4, c5⟩ | ⟨c0, c1, x', dx', mv', odn, omn, n10, o10, xs10, c2, c3, c4, c5, c6, c7, c8, c9, c10, c11, c12, c13, c14, c15, c16⟩
   ·refine ⟨new, n', o', xs', W.callX (m1' := [(ls, listOf (refs ++ new.map SD.ref).toArray n'), (nm, o')]) K0 gro10 rfl (fun q hq => ?_), D8, no8.mono gro10.sub, kn8, fun i sd hi => (sd8 i sd hi).mono gro10.sub, fr8, c1, fun _ _ z => z⟩
    simp at hq; rcases hq with rfl | rfl
    ·exact c2
    ·exact c3
   ·have K1 := W.callX (m1' := [(ls, listOf (refs ++ new.map SD.ref ++ [Value.ref x']).toArray n10), (nm, o10)]) K0 gro10 rfl (fun q hq => by
     rcases List.mem_cons.mp hq with rfl | hq
     ·exact c2
     ·rw [List.mem_singleton] at hq; subst hq; exact c3)
    have alv : ∀ q ∈ [(ls, listOf (refs ++ new.map SD.ref ++ [Value.ref x']).toArray n10), (nm, o10)] ++ ((dx, od') :: (mv, om') :: newLed new ++ its'), ∃ o, h2.get? q.1 = some o := fun q hq => by
     rcases List.mem_append.mp hq with hq | hq
     ·rcases List.mem_cons.mp hq with rfl | hq
      ·exact ⟨_, els.1⟩
      ·rw [List.mem_singleton] at hq; subst hq; exact ⟨_, enm.1⟩
     ·exact ⟨_, (K0.own q (List.mem_append_right _ hq)).1⟩
    refine hide fun QQ hQQ => ?_
    obtain ⟨oL, eL⟩ := Kb.atL
    refine hQQ ?_
    clear hQQ QQ
    have K2 := K1.adopt c15 c12 (fun z => by rw [z, eL] at c10; cases c10) (fun q hq z => by obtain ⟨o, e⟩ := alv q hq; rw [z, c10] at e; cases e) (Kb.none_of c10)
    have K2 := W.mid (m1 := (ls, listOf (refs ++ new.map SD.ref ++ [Value.ref x']).toArray n10) :: (nm, o10) :: (dx, od') :: (mv, om') :: newLed new) (m2 := its') K2
    have K3 := K2.adopt c14 c11 (fun z => by rw [z, eL] at c9; cases c9) (fun q hq z => by
     rcases List.mem_append.mp hq with hq | hq
     ·refine hide fun QQ hQQ => ?_
      obtain ⟨o, e⟩ := alv q (by
       have : q ∈ ((ls, listOf (refs ++ new.map SD.ref ++ [Value.ref x']).toArray n10) :: (nm, o10) :: (dx, od') :: (mv, om') :: newLed new) ++ its' := List.mem_append_left _ hq
       exact this)
      refine hQQ ?_
      clear hQQ QQ
      rw [z, c9] at e; refine hide fun QQ hQQ => ?_
      cases e
      all_goals (refine hQQ ?_; clear hQQ QQ)
     ·rcases List.mem_cons.mp hq with rfl | hq
      ·exact c13 z.symm
      ·refine hide fun QQ hQQ => ?_
       obtain ⟨o, e⟩ := alv q (by
        have : q ∈ ((ls, listOf (refs ++ new.map SD.ref ++ [Value.ref x']).toArray n10) :: (nm, o10) :: (dx, od') :: (mv, om') :: newLed new) ++ its' := List.mem_append_right _ hq
        exact this)
       refine hQQ ?_
       clear hQQ QQ
       rw [z, c9] at e; cases e) (Kb.none_of c9)
    have K3 := W.mid (m1 := (ls, listOf (refs ++ new.map SD.ref ++ [Value.ref x']).toArray n10) :: (nm, o10) :: (dx, od') :: (mv, om') :: newLed new) (m2 := (mv', omn) :: its') K3
    have eq : (ls, listOf (refs ++ (new ++ [SD.mk x' dx' mv' odn omn l9]).map SD.ref).toArray n10) :: (nm, o10) :: (dx, od') :: (mv, om') :: newLed (new ++ [SD.mk x' dx' mv' odn omn l9]) ++ its' = ((ls, listOf (refs ++ new.map SD.ref ++ [Value.ref x']).toArray n10) :: (nm, o10) :: (dx, od') :: (mv, om') :: newLed new) ++ (dx', odn) :: (mv', omn) :: its' := by
     simp [newLed, SD.led, SD.ref]
    rw [← eq] at K3
    have ek : kers ++ (new ++ [SD.mk x' dx' mv' odn omn l9]).map SD.ker = kers ++ new.map SD.ker ++ [l9] := by simp
    refine ⟨new ++ [SD.mk x' dx' mv' odn omn l9], n10, o10, xs10, K3, c4, by rw [ek]; exact c5, ?_, fun i sd hi => ?_, fun q hq => ?_, ?_, fun j l hj => ?_⟩
    ·rw [ek, List.nodup_append]
     exact ⟨kn8, by simp, fun a ha b hb e => by rw [List.mem_singleton] at hb; subst hb; subst e; exact c0 ha⟩
    ·rw [List.getElem?_append] at hi
     split at hi
     ·exact (sd8 i sd hi).mono gro10.sub
     ·rename_i nlt
      have hi0 : i - new.length = 0 := by have := (List.getElem?_eq_some_iff.mp hi).1; simp at this; exact sbZ fun q => lnq [_,_,_] [aL (tQ Z0) Z1,aE Z2 (tN 0),aL Z1 (tA Z2 Z0)] rfl q this (sbL _ _)
      rw [hi0] at hi; simp at hi; subst hi
      refine ⟨c8, l9ok, xv, ?_, ti9.mono gro10.sub⟩
      have : j = kers.length + i := by rw [c1]; simp; exact lne (fun q => lnq [_,_] [aL (tQ Z0) Z1,aX (tQ Z0) Z1] rfl q nlt) fun q => lnq [_,_,_] [aL (tQ Z0) Z1,aE Z2 (tN 0),aL Z1 (tA Z2 Z0)] rfl q hi0 (sbL _ _)
      rw [← this]; exact c16
    ·have : q ∈ newLed new ∨ q = (dx', odn) ∨ q = (mv', omn) := by simpa [newLed, SD.led] using hq
     rcases this with z | rfl | rfl
     ·exact fr8 q z
     ·exact Kb.none_of c9
     ·exact Kb.none_of c10
    ·rw [ek, c1]; simp
    ·rw [ek, List.getElem?_append_left (List.getElem?_eq_some_iff.mp hj).1]; exact hj
  clear K
  obtain ⟨new1, n1, o1, xs1, K, D1, no1, kn1, sd1, fr1, hj1, up1⟩ := step
  refine hQQ ?_
  clear hQQ QQ
  have G := G.mono gro10.sub
  have ob := ob.mono gro10.sub
  have g := g.mono gro10.sub
  have hx := gro10.sub _ _ hx
  have mvl : mvs.length ≤ 24 := by
   have : (mvs.map (·.1)).length = ((kvs.take i).map (·.1)).length := by rw [mk8]
   rw [List.length_map, List.length_map, List.length_take] at this; exact lnl fun q => lnq [_,_,_,_] [aL (tQ (tN 24)) Z0,aE Z0 Z1,aL Z1 Z2,aL (tQ Z2) Z3,aL Z3 (tN 24)] rfl q this (Nat.min_le_left _ _) hi kl
  have snew : ((s : Nat) : Int) ∉ mvs.map (·.1) := by
   rw [mk8]; intro q
   refine hide fun QQ hQQ => ?_
   obtain ⟨⟨k', x'⟩, hm, e⟩ := List.mem_map.mp q
   obtain ⟨j', hj'⟩ := List.mem_iff_getElem?.mp hm
   refine hQQ ?_
   clear hQQ QQ
   rw [List.getElem?_take] at hj'
   split at hj'
   ·have nd := Db.2.choose_spec.choose_spec.2.2.2
    have := idx_unique nd hj' hkx e
    exact lnq [_,_] [aG Z0 Z1,aL (tQ Z0) Z1] rfl this (by assumption)
   ·cases hj'
  refine tn_ 2 K rfl ?_
  refine ga G K.hold (Ob.of (K.hold _ _ hx) (K.get (.tail _ (.tail _ (.head _)))) ao8) a5 (by exact lkN 2 (by kernel_rfl) rfl) rfl fun _ => ?_
  refine n_ 0 K rfl ?_
  refine d_set (m1 := [(ls, listOf (refs ++ new1.map SD.ref).toArray n1), (nm, o1), (dx, od')]) (k := ((s : Nat) : Int)) K Dm8 (int_is _ _) (by show mvs.length ≤ 2 ^ 24; exact lnl fun q => lnq [_] [aL (tQ (tN 16777216)) Z0,aL Z0 (tN 24)] rfl q mvl) fun h12 t12 om12 Dm12 K => ?_
  rw [stored_new snew] at Dm12
  refine Jq5 _ _ (xp_ fun Qq6 Jq6 => BoolOp_or (tn_ 2 K rfl ?_))
  have kt : (kvs.take (i + 1)).map (·.1) = (kvs.take i).map (·.1) ++ [((s : Nat) : Int)] := by rw [List.take_add_one, hkx]; simp
  have mkn : (mvs ++ [(((s : Nat) : Int), Value.int (j : Nat) uj)]).map (·.1) = (kvs.take (i + 1)).map (·.1) := by rw [kt, List.map_append, mk8]; rfl
  have mpn : ∀ k v, (k, v) ∈ mvs ++ [(((s : Nat) : Int), Value.int (j : Nat) uj)] → ∃ (s j : Nat) (t : Tok), k = s ∧ v = .int (j : Nat) t ∧ γ.behind s its ≠ [] ∧ ∃ l', (kers ++ new1.map SD.ker)[j]? = some l' ∧ l'.Perm (γ.behind s its) := by
   intro k v hkv'
   rcases List.mem_append.mp hkv' with q | q
   ·refine hide fun QQ hQQ => ?_
    obtain ⟨s', j', t', e1, e2, e3, l', e4, e5⟩ := mp8 k v q
    refine hQQ ?_
    clear hQQ QQ
    exact ⟨s', j', t', e1, e2, e3, l', up1 _ _ e4, e5⟩
   ·rw [List.mem_singleton] at q; cases q
    exact ⟨s, j, uj, rfl, rfl, hsb, l9, hj1, lp9⟩
  refine ga G K.hold (Ob.of (K.hold _ _ hx) (K.get (.tail _ (.tail _ (.head _)))) ao8) a7 (by exact lkN 0 (by kernel_rfl) rfl) rfl fun _ => ?_
  refine h_ ?_
  refine split_b (fun hsh => ?_) (fun hsh => ?_)
  ·refine n_ 2 K rfl ?_
   refine sa (m1 := [(ls, listOf (refs ++ new1.map SD.ref).toArray n1), (nm, o1)]) G K (K.hold _ _ hx) ao8 (by decide) s7 fun h13 t13 od13 _ ao13 K => ?_
   have ao13 := AO.shadow (pre := []) (ao13 (by rfl))
   refine Jq6 _ _ (e_ (Jt _ _ ?_))
   have K := ((K.pull (x := Str.ofString "self") (by exact lkN 3 (by kernel_rfl) rfl)).pull (x := Str.ofString "state") (by exact lkN 3 (by kernel_rfl) rfl)).pull (x := Str.ofString "behind") (by exact lkN 3 (by kernel_rfl) rfl)
   refine ⟨_, _, _, (ls, listOf (refs ++ new1.map SD.ref).toArray n1) :: (nm, o1) :: (dx, od13) :: (mv, om12) :: newLed new1, _, rfl, K, ps.trans gro10.sub, _, new1, n1, o1, od13, om12, xs1, _, sh, rfl, rfl, D1, no1, kn1, sd1, fr1, ao13, Dm12, mkn, mpn, ?_⟩
   rw [kt]
   refine ⟨fun q => ?_, fun _ => hsh⟩
   refine hide fun QQ hQQ => ?_
   obtain ⟨s', h1, h2⟩ := sh8.mp q
   refine hQQ ?_
   clear hQQ QQ
   exact ⟨s', h1, List.mem_append_left _ h2⟩
  ·refine BoolOp_one (d_ (tn_ 3 K rfl ?_))
   refine ga G K.hold (ob.mono K.hold) b1 bg rfl fun _ => ?_
   refine gm G K.hold (g.ob.mono K.hold) (mo_is_terminal _) (g.only _ (by kernel_rfl)) ?_
   refine f_ (arnz_ 0 K rfl ?_)
   refine ⟨⟨_, G, K.hold⟩, ?_⟩
   refine use_fn (is_terminal_spec G K.hold g) (rm.deeper.less (by decide)) fun v14 p14 h14 t14 gro14 hv => ?_
   subst hv
   have K := K.call gro14
   have G := G.mono gro14.sub
   have hx := gro14.sub _ _ hx
   refine n_ 2 K rfl ?_
   refine sa (m1 := [(ls, listOf (refs ++ new1.map SD.ref).toArray n1), (nm, o1)]) G K (K.hold _ _ hx) ao8 (by decide) s7 fun h15 t15 od15 _ ao15 K => ?_
   have ao15 := AO.shadow (pre := []) (ao15 (by rfl))
   refine Jq6 _ _ (e_ (Jt _ _ ?_))
   have K := ((K.pull (x := Str.ofString "self") (by exact lkN 3 (by kernel_rfl) rfl)).pull (x := Str.ofString "state") (by exact lkN 3 (by kernel_rfl) rfl)).pull (x := Str.ofString "behind") (by exact lkN 3 (by kernel_rfl) rfl)
   refine ⟨_, _, _, (ls, listOf (refs ++ new1.map SD.ref).toArray n1) :: (nm, o1) :: (dx, od15) :: (mv, om12) :: newLed new1, _, rfl, K, (ps.trans gro10.sub).trans gro14.sub, _, new1, n1, o1, od15, om12, xs1, _, _, rfl, rfl, D1, no1.mono gro14.sub, kn1, fun i sd hi => (sd1 i sd hi).mono gro14.sub, fr1, ao15, Dm12, mkn, mpn, ?_⟩
   rw [kt, decide_eq_true_eq]
   have hno : ¬ ∃ s', s' < γ.tc ∧ (s' : Int) ∈ (kvs.take i).map (·.1) := fun q => by have := sh8.mpr q; rw [hsh] at this; cases this
   constructor
   ·intro q; exact ⟨s, by omega, List.mem_append_right _ (by simp)⟩
   ·rintro hx0_
    refine hide fun QQ hQQ => ?_
    obtain ⟨s', h1, h2⟩ := hx0_
    refine hQQ ?_
    clear hQQ QQ
    rcases List.mem_append.mp h2 with h2 | h2
    ·exact absurd ⟨s', h1, h2⟩ hno
    ·have : s' = s := Int.ofNat.inj (by simpa using h2)
     subst this; exact Int.ofNat_lt.mpr (lnt fun q => lnq [_,_] [aL Z0 Z1,aL (tQ Z1) Z0] rfl q h1)
end

theorem CloAt.mono {p q : PH} {c gr : Addr} {firsts : List Nat} (x : CloAt p c gr firsts) (s : PSub p q) : CloAt q c gr firsts := let ⟨fs, a, b, ⟨v, e, l⟩, r⟩ := x.ob; ⟨fs, a.mono s, b, ⟨v, e, l.mono s⟩, r⟩
theorem DoneSt.mono {w : World} {γ : Gr} {p q : PH} {mv : Addr} {od om : Obj} {n : Nat} {kv : Value} {l : List It} {kers more : List (List It)} (x : DoneSt w γ p mv od om n kv l kers) (s : PSub p q) : DoneSt w γ q mv od om n kv l (kers ++ more) := by
 refine hide fun QQ hQQ => ?_
 obtain ⟨its, iv, rv, rl, mvs, sh, t1, sy, t2, a1, a2, a3, a4, a5, a6, a7, a8, a9, a10, a11⟩ := x
 refine hQQ ?_
 clear hQQ QQ
 refine ⟨its, iv, rv, rl, mvs, sh, t1, sy, t2, a1, a2.mono s, a3, a4, a5.mono s, a6, a7, a8, fun k v h => ?_, a10, a11⟩
 refine hide fun QQ hQQ => ?_
 obtain ⟨s', j, t, e1, e2, e3, l', e4, e5⟩ := a9 k v h
 refine hQQ ?_
 clear hQQ QQ
 exact ⟨s', j, t, e1, e2, e3, l', by rw [List.getElem?_append_left (List.getElem?_eq_some_iff.mp e4).1]; exact e4, e5⟩
noncomputable def DoneAt (w : World) (γ : Gr) (p : PH) (i : Nat) (l : List It) (kers : List (List It)) (v : Value) : Prop :=
 X6 fun x dx mv od om kv => A5 (v = .ref x) (p x = some (instObj 106 dx)) (p dx = some od) (p mv = some om) (DoneSt w γ p mv od om i kv l kers)
theorem DoneAt.mono {w : World} {γ : Gr} {p q : PH} {i : Nat} {v : Value} {l : List It} {kers more : List (List It)} (x : DoneAt w γ p i l kers v) (s : PSub p q) : DoneAt w γ q i l (kers ++ more) v :=
 let ⟨x, dx, mv, od, om, kv, a, b, c, d, e⟩ := x; ⟨x, dx, mv, od, om, kv, a, s _ _ b, s _ _ c, s _ _ d, e.mono s⟩
section
variable {p0 p : PH} {h0 h hb : Heap} {X : List Addr} {L : Addr} {l : AL} {mu : Led}
theorem W.adopts (more : Led) (K : W p0 h0 X L p h l mu) (e : ∀ q ∈ more, h.get? q.1 = some q.2 ∧ p q.1 = none ∧ hb.get? q.1 = none ∧ h0.get? q.1 = none) (hL : ∃ o, hb.get? L = some o) (hm : ∀ q ∈ mu, ∃ o, hb.get? q.1 = some o) (nd : (more.map (·.1)).Nodup) : W p0 h0 X L p h l (mu ++ more) := by
 refine ⟨K.fr, K.sub, K.hold, K.keep, K.alive, K.fresh, K.pL, K.hL, fun q hq => ?_, ?_⟩
 ·rcases List.mem_append.mp hq with hq | hq
  ·exact K.own q hq
  ·refine hide fun QQ hQQ => ?_
   obtain ⟨a, b, c, d⟩ := e q hq
   refine hQQ ?_
   clear hQQ QQ
   have nl : q.1 ≠ L := fun z => by
    refine hide fun QQ hQQ => ?_
    obtain ⟨o, z'⟩ := hL
    refine hQQ ?_
    clear hQQ QQ
    rw [← z, c] at z'; cases z'
   exact ⟨a, nl, b, .inr d⟩
 ·rw [List.map_append, List.nodup_append]
  refine ⟨K.nodup, nd, fun a ha b hb' z => ?_⟩
  refine hide fun QQ hQQ => ?_
  obtain ⟨q, hq, rfl⟩ := List.mem_map.mp ha
  obtain ⟨q', hq', e'⟩ := List.mem_map.mp hb'
  obtain ⟨o, z'⟩ := hm q hq
  refine hQQ ?_
  clear hQQ QQ
  rw [z, ← e', (e q' hq').2.2.1] at z'; cases z'
end
theorem mo_expand (P : Params) : methOk (KF P) 267 "expand" 257 = true := by kernel_rfl
theorem so_a (P : Params) : setOk (KF P) 225 "grammar" = true ∧ setOk (KF P) 225 "states" = true := ⟨by kernel_rfl, by kernel_rfl⟩
theorem mk_a (P : Params) : makeOk (KF P) 225 187 = true := by kernel_rfl
section
variable {w : World} {p : PH} {h : Heap}
theorem aut_init {x dx gr ls : Addr} (G : Grd w p) (H : Holds p h) (hx : h.get? x = some (instObj 225 dx)) (hd : h.get? dx = some emptyDict) (pd : p dx = none) :
  Fn w 1 (.ref 187) [.ref x, .ref gr, .ref ls] p h [dx] (fun v p' h' => A3 (v = .none) (∃ o', (h'.get? dx = some o') ∧ (AO 2 o' [(Str.ofString "states", .ref ls), (Str.ofString "grammar", .ref gr)])) (∃ o', h'.get? dx = some o')) := by
 intro A gg d1 t os R rm k
 refine hide fun QQ hQQ => ?_
 obtain ⟨s1, s2⟩ := so_a w.params
 refine hQQ ?_
 clear hQQ QQ
 refine call_fn (mu := [(dx, emptyDict)]) (fd := fnM 14 0) [(Str.ofString "states", .ref ls), (Str.ofString "grammar", .ref gr), (Str.ofString "self", .ref x)] rfl (by kernel_rfl) G H rm (by simpa using ⟨hd, pd⟩) (by simp) (BindsTo.of_eq (by rfl)) (by kernel_rfl) (by kernel_rfl) (by rfl) (by rfl) (by rfl) fun L h₁ t₁ K => ?_
 have hxX : x ∉ [(dx, emptyDict)].map (·.1) := by intro q; simp at q; rw [q, hd] at hx; cases hx
 refine xp_ fun Qq1 Jq1 => n_ 1 K rfl (n_ 2 K rfl ?_)
 refine sa (m1 := []) G K (K.keep x _ hxX hx) AO.nil (by decide) s1 fun h2 t2 o2 a2 _ K => ?_
 refine Jq1 _ _ (xp_ fun Qq2 Jq2 => n_ 0 K rfl (n_ 2 K rfl ?_))
 refine sa (m1 := []) G K (K.keep x _ hxX hx) a2 (by decide) s2 fun h3 t3 o3 a3 _ K => ?_
 refine Jq2 _ _ (e_ ?_)
 have odx := K.own (dx, o3) (by simp)
 exact k _ _ _ _ K.gro ⟨rfl, ⟨o3, odx.1, a3⟩, o3, odx.1⟩
noncomputable def AutSt (w : World) (γ : Gr) (p : PH) (h : Heap) (gr ls : Addr) (kers : List (List It)) (v : Value) : Prop :=
 X5 fun x dx o refs n => A12 (v = .ref x) (p x = some (instObj 225 dx)) (p dx = some o) (AO 2 o [(Str.ofString "states", .ref ls), (Str.ofString "grammar", .ref gr)]) (h.get? ls = some (listOf (refs : List Value).toArray n)) (p ls = none) (refs.length = kers.length) ((∀ i u, refs[i]? = some u → DoneAt w γ p i (kers.getD i []) kers u)) ((∀ l ∈ kers, KerOk γ l)) (kers[0]? = some [(0, 0)]) (kers.length ≤ 2 ^ 24) (kers.Nodup)
theorem built_spec {γ : Gr} {b gr c ls nm : Addr} {fsg : AL} {firsts : List Nat} {n : Nat} {o : Obj} (G : Grd w p) (H : Holds p h) (B : BuAt p b gr c ls nm)
  (g : GrAt p gr γ fsg) (ok : GrOk γ) (h0r : 0 < γ.rules.length) (cl : CloAt p c gr firsts) (fo : FirstsOk γ firsts)
  (hls : h.get? ls = some (listOf ([] : List Value).toArray n)) (pls : p ls = none) (hnm : h.get? nm = some o) (pnm : p nm = none) (nodup : ls ≠ nm) (lo : (nm == sysModules) = false) (D : DH w o []) :
  Fn w 8 (.ref 264) [.ref b] p h [ls, nm] (fun v p' h' => ∃ kers : List (List It), AutSt w γ p' h' gr ls kers v) := by
 intro A gg d1 t os R rm k
 refine hide fun QQ hQQ => ?_
 obtain ⟨fs, ob, bg, bc, bs, bn, bo⟩ := B.ob
 obtain ⟨b1, b2, b3, b4⟩ := ao_b w.params
 refine hQQ ?_
 clear hQQ QQ
 refine call_fn (mu := [(ls, listOf ([] : List Value).toArray n), (nm, o)]) (fd := fnM 15 3) [(Str.ofString "self", .ref b)] rfl (by kernel_rfl) G H rm (by
  intro y hy; simp at hy; rcases hy with rfl | rfl
  ·exact ⟨hls, pls⟩
  ·exact ⟨hnm, pnm⟩) (by simp [nodup]) (BindsTo.of_eq (by rfl)) (by kernel_rfl) (by kernel_rfl) (by rfl) (by rfl) (by rfl) fun L h₁ t₁ K => ?_
 refine x_ fun Qq1 Jq1 => wpAny_Expr_any (dn_ 0 K rfl ?_)
 refine gm G K.hold (ob.mono K.hold) (mo_number_of _) (bo _ (by kernel_rfl)) ?_
 refine f_ (ar_ (Tuple_ (r_ (d_ (tn_ 0 K rfl ?_)))))
 refine ga G K.hold (ob.mono K.hold) b1 bg rfl fun _ => ?_
 refine gm G K.hold (g.ob.mono K.hold) (mo_item _) (g.only _ (by kernel_rfl)) ?_
 refine f_ (ar_ (m_ fun _ _ => r_ (m_ fun _ _ => z_ ?_)))
 refine ⟨⟨_, G, K.hold⟩, ?_⟩
 refine use_fn (item_spec (r := 0) (d := 0) G K.hold g h0r) (rm.deeper.less (by decide)) fun v p3 h3 t3 gro hv => ?_
 refine hide fun QQ hQQ => ?_
 obtain ⟨u3, rfl⟩ := hv
 refine hQQ ?_
 clear hQQ QQ
 have K := K.call gro
 have G := G.mono gro.sub
 have ob := ob.mono gro.sub
 have g := g.mono gro.sub
 refine z_ ?_
 refine nt K (by show 1 ≤ 2 ^ 24; decide) fun ta h4 p4 ps4 hta K => ?_
 have G := G.mono ps4
 have ob := ob.mono ps4
 have g := g.mono ps4
 refine r_ (ldG (gG_NONE _) G K.hold (by kernel_rfl) rfl rfl (z_ ?_))
 refine ⟨⟨_, G, K.hold⟩, ?_⟩
 have okz : ∀ x ∈ [((0, 0) : It)], γ.ok x.1 x.2 := fun x hx => by rw [List.mem_singleton] at hx; subst hx; exact ⟨h0r, Nat.zero_le _⟩
 have hk0 : TI p4 (.ref ta) (zs (γ.its [(0, 0)])) := ⟨ta, _, 0, rfl, hta, .cons _ _ .nil⟩
 have els := K.own (ls, listOf ([] : List Value).toArray n) (.head _)
 have enm := K.own (nm, o) (.tail _ (.head _))
 refine use_fn (number_of_spec (γ := γ) (kers := []) (refs := []) (l := [(0, 0)]) G K.hold (BuAt.mono (BuAt.mono B gro.sub) ps4) els.1 els.2.2.1 enm.1 enm.2.2.1 nodup lo D ⟨rfl, by simp, fun _ h => by (cases h), by simp⟩ rfl (by simp) hk0 okz) (rm.deeper.less (by decide)) fun v p5 h5 t5 gro5 hv => ?_
 refine hide fun QQ hQQ => ?_
 obtain ⟨j, ⟨uj, rfl⟩, hcase⟩ := hv
 refine hQQ ?_
 clear hQQ QQ
 rcases hcase with ⟨c1, _⟩ | ⟨_, c1, x', dx', mv', odn, omn, n10, o10, xs10, c2, c3, c4, c5, c6, c7, c8, c9, c10, c11, c12, c13, c14, c15, c16⟩
 ·simp at c1
 have Kb := K
 have K := W.callX (m1 := [(ls, listOf ([] : List Value).toArray n), (nm, o)]) (m2 := []) (m1' := [(ls, listOf ([] ++ [Value.ref x']).toArray n10), (nm, o10)]) K gro5 rfl (fun q hq => by
  rcases List.mem_cons.mp hq with rfl | hq
  ·exact c2
  ·rw [List.mem_singleton] at hq; subst hq; exact c3)
 have K := W.adopts (hb := h4) [(dx', odn), (mv', omn)] K (fun q hq => by
  rcases List.mem_cons.mp hq with rfl | hq
  ·exact ⟨c14, c11, c9, Kb.none_of c9⟩
  ·rw [List.mem_singleton] at hq; subst hq; exact ⟨c15, c12, c10, Kb.none_of c10⟩) Kb.atL (fun q hq => by
  rcases List.mem_cons.mp hq with rfl | hq
  ·exact ⟨_, els.1⟩
  ·have hq : q ∈ [(nm, o10)] := hq
   rw [List.mem_singleton] at hq; subst hq; exact ⟨_, enm.1⟩) (by simp [c13])
 have G := G.mono gro5.sub
 have ob := ob.mono gro5.sub
 have g := g.mono gro5.sub
 refine Jq1 _ _ (xv_ fun Qq2 Jq2 => m_ fun _ _ => s_ K fun h2 t2 K => Jq2 _ _ (x_ fun Qq3 Jq3 => wpAny_While ?_))
 have kz : KerOk γ [(0, 0)] := ⟨okz, by simp, by simp [zs, Gr.its]⟩
 refine wh (fun nn p' l' mu' => (PSub p5 p') ∧ (X7 fun (at_ : Nat) (u : Tok) (r : AL) (sds : List SD) (n' : Nat) (o' : Obj) (xs' : XS) => A12 (l' = (Str.ofString "at", .int (at_ : Nat) u) :: (Str.ofString "self", .ref b) :: r) (mu' = (ls, listOf (sds.map SD.ref).toArray n') :: (nm, o') :: newLed (sds.drop at_)) (DH w o' xs') (NumOk γ p' xs' (sds.map SD.ker)) ((sds.map SD.ker).Nodup) ((∀ sd ∈ sds, KerOk γ sd.ker)) (at_ ≤ sds.length) ((∀ i sd, i < at_ → sds[i]? = some sd → DoneAt w γ p' i sd.ker (sds.map SD.ker) sd.ref)) ((∀ i sd, at_ ≤ i → sds[i]? = some sd → SdOk w p' γ i sd)) ((∀ q ∈ newLed (sds.drop at_), h.get? q.1 = none)) ((sds.map SD.ker)[0]? = some [(0, 0)]) (nn = 2 ^ 24 + 1 - at_)))
  (2 ^ 24 + 1) K ⟨PSub.refl _, 0, _, _, [SD.mk x' dx' mv' odn omn [(0, 0)]], n10, o10, xs10, rfl, by simp [newLed, SD.led, SD.ref], c4, by simpa using c5, by simp, by simpa using kz, by simp, fun i sd hi => absurd hi (Nat.not_lt_zero _), fun i sd _ hi => ?_, fun q hq => ?_, by simp, by decide⟩ ?turn
 ·cases i with
  | succ i => simp at hi
  | zero =>
   simp at hi; subst hi
   simp at c1; subst c1
   exact ⟨c8, kz, .ref ta, c16, hk0.mono gro5.sub⟩
 ·have : q = (dx', odn) ∨ q = (mv', omn) := by simpa [newLed, SD.led] using hq
  rcases this with rfl | rfl
  ·exact Kb.none_of c9
  ·exact Kb.none_of c10
 case turn =>
  rintro nn p6 h6 l' mu' t6 K hx7_ Qt Jt
  refine hide fun QQ hQQ => ?_
  obtain ⟨ps6, at_, u, r, sds, n', o', xs', rfl, rfl, D6, no6, kn6, ko6, hat, dn6, sd6, fr6, k06, hnn⟩ := hx7_
  refine hQQ ?_
  clear hQQ QQ
  have G := G.mono ps6
  have ob := ob.mono ps6
  have g := g.mono ps6
  have len6 := kers_len ok (fun l hl => by obtain ⟨sd, hsd, rfl⟩ := List.mem_map.mp hl; exact ko6 sd hsd) kn6
  rw [List.length_map] at len6
  refine qn_ 0 K rfl (kb_ (gB_len _) G K.hold (ar_ (tn_ 1 K rfl ?_)))
  refine ga G K.hold (ob.mono K.hold) b3 bs rfl fun _ => ?_
  refine z_ ?_
  refine len_l (K.get (.head _)) (by simp; exact Int.ofNat_lt.mpr (lnt fun q => lnq [_] [aL (tN 9223372036854775808) Z0,aL Z0 (tN 16777216)] rfl q len6)) fun ul _ => ?_
  refine i_lt (h_ ?_)
  refine PyProof.Rows.split_dec (fun hlt => ?_) (fun hlt => ?_)
  ·have hlt' : at_ < sds.length := by simp at hlt; exact lnt fun q => lnq [_,_] [aL Z0 Z1,aL (tQ Z1) Z0] rfl q hlt
   refine hide fun QQ hQQ => ?_
   obtain ⟨sd, hsd⟩ : ∃ sd, sds[at_]? = some sd := ⟨_, List.getElem?_eq_getElem hlt'⟩
   have hdrop : sds.drop at_ = sd :: sds.drop (at_ + 1) := by
    rw [List.drop_eq_getElem_cons hlt']
    have := List.getElem?_eq_getElem hlt'
    rw [hsd] at this; injection this with this; rw [this]
   obtain ⟨x9, dx9, mv9, od9, om9, ker9⟩ := sd
   rw [hdrop] at K fr6
   have sdo := sd6 at_ _ (Nat.le_refl _) hsd
   obtain ⟨px9, kk9, kv9, F9, hk9⟩ := sdo
   refine hQQ ?_
   clear hQQ QQ
   simp only at px9 kk9 F9 hk9
   have eL : (ls, listOf (sds.map SD.ref).toArray n') :: (nm, o') :: newLed (SD.mk x9 dx9 mv9 od9 om9 ker9 :: sds.drop (at_ + 1)) = [(ls, listOf (sds.map SD.ref).toArray n'), (nm, o'), (dx9, od9), (mv9, om9)] ++ newLed (sds.drop (at_ + 1)) := by simp [newLed, SD.led]
   rw [eL] at K
   have w1 := K.own (ls, listOf (sds.map SD.ref).toArray n') (by simp)
   have w2 := K.own (nm, o') (by simp)
   have w3 := K.own (dx9, od9) (by simp)
   have w4 := K.own (mv9, om9) (by simp)
   have nd9 := K.nodup
   refine x_ fun Qq4 Jq4 => wpAny_Expr_any (dn_ 1 K rfl ?_)
   refine gm G K.hold (ob.mono K.hold) (mo_expand _) (bo _ (by kernel_rfl)) ?_
   refine f_ (ar_ (u_ (tn_ 1 K rfl ?_)))
   refine ga G K.hold (ob.mono K.hold) b3 bs rfl fun _ => ?_
   refine n_ 0 K rfl ?_
   refine sub_list (K.get (.head _)) (by exact Int.natCast_nonneg _) (by exact Int.ofNat_lt.mpr (lnt fun q => lnq [_,_] [aL (tN 9223372036854775808) Z0,aL (tQ Z0) Z1,aL Z1 (tN 16777216)] rfl q hlt' len6)) (v := .ref x9) (by simp [hsd, SD.ref]) (by rfl) ?_
   refine z_ ?_
   refine ⟨⟨_, G, K.hold⟩, ?_⟩
   have Kb := K
   have cl' : CloAt p6 c gr firsts := (((cl.mono gro.sub).mono ps4).mono gro5.sub).mono ps6
   have B' : BuAt p6 b gr c ls nm := (((BuAt.mono B gro.sub).mono ps4).mono gro5.sub).mono ps6
   refine use_fn (expand_spec (xs := xs') (kers := sds.map SD.ker) (refs := sds.map SD.ref) G K.hold B' g ok cl' fo w1.1 w1.2.2.1 w2.1 w2.2.2.1 (by
    rw [List.map_append, List.nodup_append] at nd9; exact nd9.1) lo D6 no6 (by simp) (fun l hl => by obtain ⟨sd, hsd, rfl⟩ := List.mem_map.mp hl; exact ko6 sd hsd) kn6 px9 w3.1 w3.2.2.1 w4.1 w4.2.2.1 F9 hk9 kk9) (rm.deeper.less (by decide)) fun v p7 h7 t7 gro7 hv => ?_
   refine hide fun QQ hQQ => ?_
   obtain ⟨new, n7, o7, od7, om7, xs7, q1, q2, q3, q4, q5, q6, q7, q8, q9, q10, q11, q12, q13, q14, q15⟩ := hv
   have K := W.callX (m1 := [(ls, listOf (sds.map SD.ref).toArray n'), (nm, o'), (dx9, od9), (mv9, om9)]) (m1' := [(ls, listOf (sds.map SD.ref ++ new.map SD.ref).toArray n7), (nm, o7), (dx9, od7), (mv9, om7)]) K gro7 rfl (fun q hq => by
    simp only [List.mem_cons, List.not_mem_nil, or_false] at hq
    rcases hq with rfl | rfl | rfl | rfl
    ·exact q1
    ·exact q3
    ·exact q8
    ·exact q10)
   have K := W.adopts (hb := h6) (newLed new) K (fun q hq => ⟨(q14 q hq).2.2, (q14 q hq).2.1, (q14 q hq).1, Kb.none_of (q14 q hq).1⟩) Kb.atL (fun q hq => by
    have : ∃ o, (q.1, o) ∈ [(ls, listOf (sds.map SD.ref).toArray n'), (nm, o'), (dx9, od9), (mv9, om9)] ++ newLed (sds.drop (at_ + 1)) := by
     rcases List.mem_append.mp hq with hq | hq
     ·simp only [List.mem_cons, List.not_mem_nil, or_false] at hq
      rcases hq with rfl | rfl | rfl | rfl
      ·exact ⟨_, by simp; exact .inl rfl⟩
      ·exact ⟨o', by simp⟩
      ·exact ⟨od9, by simp⟩
      ·exact ⟨om9, by simp⟩
     ·exact ⟨q.2, List.mem_append_right _ hq⟩
    refine hide fun QQ hQQ => ?_
    obtain ⟨o, ho⟩ := this
    refine hQQ ?_
    clear hQQ QQ
    exact ⟨o, (Kb.own _ ho).1⟩) q15
   have frdx : h.get? dx9 = none := fr6 (dx9, od9) (by simp [newLed, SD.led])
   have frmv : h.get? mv9 = none := fr6 (mv9, om9) (by simp [newLed, SD.led])
   have K := K.led (mu' := (dx9, od7) :: (mv9, om7) :: (ls, listOf (sds.map SD.ref ++ new.map SD.ref).toArray n7) :: (nm, o7) :: (newLed (sds.drop (at_ + 1)) ++ newLed new)) (fun q hq => by
    simp only [List.mem_append, List.mem_cons, List.not_mem_nil, or_false] at hq ⊢
    rcases hq with z | z | z | z | z | z <;> simp [z]) (by
    have := K.nodup
    refine (List.Perm.nodup_iff ?_).mp this
    simp only [List.cons_append, List.nil_append, List.append_assoc, List.map_cons, List.map_append]
    exact (List.perm_append_comm (l₁ := [ls, nm]) (l₂ := [dx9, mv9])).append_right _)
   obtain ⟨K, ps8, hf8⟩ := K.fix (Kb.hL |> fun _ => frdx)
   obtain ⟨K, ps9, hf9⟩ := K.fix frmv
   refine hQQ ?_
   clear hQQ QQ
   refine Jq4 _ _ (xv_ fun Qq5 Jq5 => on_ 0 K rfl (m_ fun _ _ => i_add fun _ _ => s_ K fun h2 t2 K => Jq5 _ _ (e_ (Jt _ _ ?_))))
   have K := (K.pull (x := Str.ofString "self") (by exact lkN 2 (by kernel_rfl) rfl)).pull (x := Str.ofString "at") (by exact lkN 1 (by kernel_rfl) rfl)
   have kers' : (sds ++ new).map SD.ker = sds.map SD.ker ++ new.map SD.ker := List.map_append ..
   have dr : (sds ++ new).drop (at_ + 1) = sds.drop (at_ + 1) ++ new := List.drop_append_of_le_length (by exact lnl fun q => lnq [_,_] [aL (tQ Z0) (tQ Z1),aL (tQ Z1) Z0] rfl q hlt')
   have ps79 : PSub p7 ((p7.add dx9 od7).add mv9 om7) := ps8.trans ps9
   refine ⟨2 ^ 24 + 1 - (at_ + 1), _, _, _, _, _, rfl, by exact lnt fun q => lnq [_,_,_,_] [aE (tA Z0 (tQ Z1)) (tQ (tN 16777216)),aG (tA Z2 Z1) (tQ (tN 16777216)),aL Z3 Z0,aG Z3 Z2] rfl (sbC fun q => lnq [_,_] [aL (tA (tQ (tN 16777216)) (tN 1)) (tQ Z0),aL (tQ Z0) Z1,aL Z1 (tN 16777216)] rfl q hlt' len6) (sbC fun q => lnq [_,_] [aL (tA (tQ (tN 16777216)) (tN 1)) Z0,aL (tQ Z0) Z1,aL Z1 (tN 16777216)] rfl q hlt' len6) q hnn, K, ((ps6.trans gro7.sub).trans ps8).trans ps9, at_ + 1, _, _, sds ++ new, n7, o7, xs7, rfl, ?_, q5, ?_, ?_, fun sd hsd' => ?_, by simp; exact lnl fun q => lnq [_,_,_] [aL (tQ (tA Z0 Z1)) (tQ Z2),aL (tQ Z2) Z0] rfl q hlt', fun i sd hi hsd' => ?_, fun i sd hi hsd' => ?_, fun q hq => ?_, ?_, rfl⟩
   ·rw [List.map_append, dr]
    simp [newLed]
   ·rw [kers']; exact q6.mono ps79
   ·rw [kers']; exact q7
   ·rcases List.mem_append.mp hsd' with z | z
    ·exact ko6 _ z
    ·refine hide fun QQ hQQ => ?_
     obtain ⟨i, hi⟩ := List.mem_iff_getElem?.mp z
     refine hQQ ?_
     clear hQQ QQ
     exact (q13 i sd hi).2.1
   ·rw [kers']
    rcases Nat.lt_or_ge i at_ with z | z
    ·rw [List.getElem?_append_left (by exact lnt fun q => lnq [_,_,_] [aL Z0 Z1,aL (tQ Z1) Z2,aL (tQ Z2) Z0] rfl q z hlt')] at hsd'
     exact (dn6 i sd z hsd').mono (gro7.sub.trans ps79)
    ·have : i = at_ := by exact lne (fun q => lnq [_,_] [aL (tQ Z0) Z1,aL (tQ Z1) (tQ Z0)] rfl q hi) fun q => lnq [_,_] [aL (tQ Z0) Z1,aL Z1 Z0] rfl q z
     subst this
     rw [List.getElem?_append_left (by exact lnt fun q => lnq [_,_] [aL Z0 Z1,aL (tQ Z1) Z0] rfl q hlt'), hsd] at hsd'
     cases hsd'
     exact ⟨x9, dx9, mv9, od7, om7, kv9, rfl, ps79 _ _ (gro7.sub _ _ px9), ps9 _ _ hf8, hf9, by simpa using q12.mono (more := []) ps79⟩
   ·rcases Nat.lt_or_ge i sds.length with z | z
    ·rw [List.getElem?_append_left z] at hsd'
     exact (sd6 i sd (by exact lnl fun q => lnq [_,_] [aL (tQ Z0) Z1,aL (tQ Z1) Z0] rfl q hi) hsd').mono (gro7.sub.trans ps79)
    ·rw [List.getElem?_append_right z] at hsd'
     have := (q13 _ sd hsd').mono ps79
     rw [List.length_map, show sds.length + (i - sds.length) = i by exact lne (fun q => lnq [_,_,_] [aE (tA Z0 Z1) Z2,aL (tQ Z2) (tA Z1 Z0)] rfl (sbC fun q => lnq [_,_] [aL (tQ Z0) Z1,aL Z1 Z0] rfl q z) q) fun q => lnq [_,_,_] [aL (tQ (tA Z0 Z1)) Z2,aL Z2 (tA Z1 Z0)] rfl q (sbL _ _)] at this
     exact this
   ·rw [dr] at hq
    have hq : q ∈ newLed (sds.drop (at_ + 1)) ++ newLed new := by simpa [newLed] using hq
    rcases List.mem_append.mp hq with z | z
    ·exact fr6 q (by
      have e : newLed (SD.mk x9 dx9 mv9 od9 om9 ker9 :: sds.drop (at_ + 1)) = [(dx9, od9), (mv9, om9)] ++ newLed (sds.drop (at_ + 1)) := by simp [newLed, SD.led]
      rw [e]; exact List.mem_append_right _ z)
    ·exact Kb.none_of (q14 q z).1
   ·rw [kers', List.getElem?_append_left (List.getElem?_eq_some_iff.mp k06).1]; exact k06
  ·refine Jq3 _ _ (wj_ (kg_ (gG_Automaton _) G K.hold (ar_ (tn_ 1 K rfl ?_))))
   refine ga G K.hold (ob.mono K.hold) b1 bg rfl fun _ => ?_
   refine r_ (tn_ 1 K rfl ?_)
   refine ga G K.hold (ob.mono K.hold) b3 bs rfl fun _ => ?_
   refine z_ ?_
   refine ⟨⟨_, G, K.hold⟩, ?_⟩
   have hat' : at_ = sds.length := by simp at hlt; exact lne (fun q => lnq [_,_] [aL (tQ Z0) Z1,aL Z1 Z0] rfl q hat) fun q => lnq [_,_] [aL (tQ Z0) Z1,aL Z1 Z0] rfl q hlt
   refine mk (n := 1) (Post := fun x dx v p' h' => ∃ o', (h'.get? dx = some o') ∧ (AO 2 o' [(Str.ofString "states", .ref ls), (Str.ofString "grammar", .ref gr)])) G K (mk_a _) (rm.deeper.less (by decide)) (fun x dx h1 G1 H1 hx hdx pdx px kp fx => ?_) (fun x dx p7 h7 t7 o7 v ps7 fx fdx K po ho7 => ?_)
   ·intro A' g' d' t' os' R' rm' k'
    refine aut_init G1 H1 hx hdx pdx A' g' d' t' os' R' rm' fun v p8 h8 t8 gro po => ?_
    exact k' v p8 h8 t8 gro (let ⟨c1, c2, c3⟩ := po; ⟨c1, c2, c3⟩)
   ·refine hide fun QQ hQQ => ?_
    obtain ⟨o8, e8, ao8⟩ := po
    refine hQQ ?_
    clear hQQ QQ
    rw [ho7] at e8; refine hide fun QQ hQQ => ?_
    cases e8
    all_goals (refine hQQ ?_; clear hQQ QQ)
    refine hide fun QQ hQQ => ?_
    obtain ⟨K, ps8, hf8⟩ := K.fix fx
    obtain ⟨K, ps9, hf9⟩ := K.fix fdx
    refine hQQ ?_
    clear hQQ QQ
    have w1 := K.own (ls, listOf (sds.map SD.ref).toArray n') (by simp)
    refine k _ _ _ _ K.gro ⟨sds.map SD.ker, x, dx, o7, sds.map SD.ref, n', rfl, ps9 _ _ hf8, hf9, ao8, w1.1, w1.2.2.1, by simp, fun i u hu => ?_, fun l hl => ?_, k06, by simpa using len6, kn6⟩
    ·rw [List.getElem?_map] at hu
     refine hide fun QQ hQQ => ?_
     obtain ⟨sd, hsd, rfl⟩ := Option.map_eq_some_iff.mp hu
     refine hQQ ?_
     clear hQQ QQ
     have hi := (List.getElem?_eq_some_iff.mp hsd).1
     have : ((sds.map SD.ker).getD i []) = sd.ker := by simp [List.getD_eq_getElem?_getD, hsd]
     rw [this]
     have := (dn6 i sd (by exact lnt fun q => lnq [_,_,_] [aL Z0 Z1,aL (tQ Z1) Z2,aG Z0 Z2] rfl q hi hat') hsd).mono (more := []) ((ps7.trans ps8).trans ps9)
     simpa using this
    ·refine hide fun QQ hQQ => ?_
     obtain ⟨sd, hsd, rfl⟩ := List.mem_map.mp hl
     refine hQQ ?_
     clear hQQ QQ
     exact ko6 sd hsd
end

section
variable {w : World} {A : Around} {E : Value → Shared → Prop} {g : Array GenState} {d : Drawn} {t : Nat} {os : OsState} {env : Env}
variable {p0 p : PH} {h0 h h' : Heap} {X : List Addr} {L : Addr} {l : AL} {mu m1 m2 : Led}
theorem set_l {a : Addr} {vs : List Value} {n k : Nat} {u : Tok} {v : Value} {Q : Unit → Shared → Prop} (K : W p0 h0 X L p h l (m1 ++ (a, listOf vs.toArray n) :: m2)) (hk : k < vs.length) (hb : vs.length ≤ 2 ^ 24)
  (q : ∀ h' n', W p0 h0 X L p h' l (m1 ++ (a, listOf (vs.set k v).toArray n') :: m2) → Q () ⟨h', g, d, t, os⟩) : wpAny (model PR w) A (setItem (.ref a) (.int (k : Nat) u) v) Q E ⟨h, g, d, t, os⟩ := by
 have ha : h.get? a = some (listOf vs.toArray n) := K.get (by simp)
 refine ki_setAt (s := ⟨h, g, d, t, os⟩) ha (by exact Int.natCast_nonneg _) (by exact Int.ofNat_lt.mpr (lnt fun q => lnq [_,_] [aL (tN 9223372036854775808) Z0,aL Z1 (tN 16777216),aL (tQ Z0) Z1] rfl q hb hk)) (by simpa using hk) ?_
 have e : (vs.set k v).toArray = vs.toArray.setIfInBounds k v := by simp
 have K' := K.upd (Obj.mapSeq fun xs => xs.setIfInBounds k v) rfl
 exact q _ _ (by rw [e]; exact K')
theorem rep_foldl (x : Value) (n : Nat) : (List.foldl (fun x1 x2 => x1 ++ x2) (#[] : Array Value) (List.replicate n #[x])) = (List.replicate n x).toArray := by
 have : ∀ (n : Nat) (acc : Array Value), List.foldl (fun x1 x2 => x1 ++ x2) acc (List.replicate n #[x]) = acc ++ (List.replicate n x).toArray := by
  intro n
  induction n with
  | zero => intro acc; simp
  | succ n ih => intro acc; rw [List.replicate_succ, List.foldl_cons, ih, List.replicate_succ]; apply Array.toList_inj.mp; simp
 rw [this]; simp
theorem mul_core {a : Addr} {items : Array Value} {n : Int} {k : Nat} {u : Tok} {s : Shared} {Q : Value → Shared → Prop} (ha : s.heap.get? a = some (listOf items k)) (h0 : 0 ≤ n) (h1 : n ≤ 2 ^ 24) (hs : items.size * n.toNat ≤ 2 ^ 24)
  (q : Q (.ref s.heap.objs.size) { s with heap := s.heap.push { cls := .type "list", data := .seq (List.foldl (fun x1 x2 => x1 ++ x2) #[] (List.replicate (if items.isEmpty = true then 0 else n.toNat) items)) } }) : wpAny (model PR w) A (binaryOp .Mult (.ref a) (.int n u)) Q E s := by
 have c0 : ¬(!Builtin.List.listFitsIndex n) = true := by simp [Builtin.List.listFitsIndex]; omega
 have c1 : ¬items.size * n.toNat > (2 ^ 63 - 1) / 8 := by omega
 have c2 : ¬Builtin.List.listTooLong (items.size * n.toNat) = true := by simp [Builtin.List.listTooLong, sizeLine]; exact lnl fun q => lnq [_] [aL (tQ (tN 16777216)) Z0,aL Z0 (tN 16777216)] rfl q hs
 have m := AutoListH.list___mul___list_int_3 a items k n u c0 c1 c2
 exact wpAny_binaryOp_repeat_ref (T := "list") (U := "int") (by decide) ⟨_, ha, rfl⟩ (fun s' => typeIs_int s' n u) noFill_list_mul F.fills_int_mul F.slot_int_rmul repeat_list F.slot_int_index.lookup
  (call_meets F.slot_int_rmul (typeIs_int s n u) F.entry_int_rmul (F.args_int_rmul_2 _ _) (int___rmul___int_list n u a items k)
   ⟨ha, rfl, ⟨_, ha, rfl⟩, call_meets F.slot_list_mul ⟨_, ha, rfl⟩ F.entry_list_mul (F.args_list_mul_2 _ _) m ⟨ha, q⟩⟩)
theorem mul_l {a : Addr} {x : Value} {n k : Nat} {u : Tok} {Q : Value → Shared → Prop} (K : W p0 h0 X L p h l mu) (ha : h.get? a = some (listOf [x].toArray k)) (hs : n ≤ 2 ^ 24)
  (q : ∀ b h', h0.get? b = none → W p0 h0 X L p h' l ((b, listOf (List.replicate n x).toArray 0) :: mu) → Q (.ref b) ⟨h', g, d, t, os⟩) : wpAny (model PR w) A (binaryOp .Mult (.ref a) (.int (n : Nat) u)) Q E ⟨h, g, d, t, os⟩ := by
 have e : (List.foldl (fun x1 x2 => x1 ++ x2) #[] (List.replicate (if ([x].toArray).isEmpty = true then 0 else ((n : Nat) : Int).toNat) [x].toArray)) = (List.replicate n x).toArray := by
  rw [if_neg (by simp)]; exact rep_foldl x n
 have sz : ([x].toArray).size = 1 := rfl
 refine mul_core (s := ⟨h, g, d, t, os⟩) ha (by exact Int.natCast_nonneg _) (by exact Int.ofNat_le.mpr (lnl fun q => lnq [_] [aL (tQ (tN 16777216)) Z0,aL Z0 (tN 16777216)] rfl q hs)) (by rw [sz]; omega) ?_
 rw [e]
 exact q _ _ K.new_none (K.push (listOf (List.replicate n x).toArray 0) rfl)
theorem ints_all {vs us : List Value} {is js : List Int} (h1 : IntsAre vs is) (h2 : IntsAre us js) (hl : is.length = js.length) : ∃ e : Nat → Bool, (∀ j (a : j < vs.toArray.size) (b : j < us.toArray.size), ∀ (A : Around) (s : Shared), PySem.SeqAt.EqAt A s vs.toArray[j] us.toArray[j] (e j)) ∧ (List.range vs.toArray.size).all e = decide (is = js) := by
 refine ⟨fun j => is.getD j 0 == js.getD j 0, fun j a b A s => ?_, ?_⟩
 ·have la := h1.length
  have lb := h2.length
  simp only [List.size_toArray] at a b
  obtain ⟨t1, e1⟩ := ints_at h1 (List.getElem?_eq_getElem (show j < is.length by exact lnt fun q => lnq [_,_,_] [aL Z0 Z1,aL (tQ Z1) Z2,aE Z2 Z0] rfl q a la))
  obtain ⟨t2, e2⟩ := ints_at h2 (List.getElem?_eq_getElem (show j < js.length by exact lnt fun q => lnq [_,_,_] [aL Z0 Z1,aL (tQ Z1) Z2,aE Z2 Z0] rfl q b lb))
  rw [List.getElem?_eq_getElem a] at e1
  rw [List.getElem?_eq_getElem b] at e2
  injection e1 with e1; injection e2 with e2
  have x1 : vs.toArray[j] = .int is[j] t1 := by simpa using e1
  have x2 : us.toArray[j] = .int js[j] t2 := by simpa using e2
  rw [x1, x2]
  have y1 : is.getD j 0 = is[j] := by simp [List.getD_eq_getElem?_getD, show j < is.length by exact lnt fun q => lnq [_,_,_] [aL Z0 Z1,aL (tQ Z1) Z2,aE Z2 Z0] rfl q a la]
  have y2 : js.getD j 0 = js[j] := by simp [List.getD_eq_getElem?_getD, show j < js.length by exact lnt fun q => lnq [_,_,_] [aL Z0 Z1,aL (tQ Z1) Z2,aE Z2 Z0] rfl q b lb]
  simp only [y1, y2]
  exact PySem.SeqAt.EqAt.int_int _ _ _ _
 ·have la := h1.length
  rw [Bool.eq_iff_iff, List.all_eq_true, decide_eq_true_eq]
  simp only [List.size_toArray, List.mem_range, beq_iff_eq]
  constructor
  ·intro h
   refine List.ext_getElem hl fun j a b => ?_
   have := h j (by exact lnt fun q => lnq [_,_,_] [aL Z0 Z1,aL (tQ Z1) Z2,aG Z0 Z2] rfl q a la)
   simpa [List.getD_eq_getElem?_getD, a, b] using this
  ·rintro rfl j _; rfl
theorem eq_li {a b : Addr} {vs us : List Value} {n m k : Nat} {is js : List Int} {Q : Value → Shared → Prop} (r : Rm A k) (ha : h.get? a = some (listOf vs.toArray n)) (hb : h.get? b = some (listOf us.toArray m)) (h1 : IntsAre vs is) (h2 : IntsAre us js)
  (q : Q (.bool (decide (is = js))) ⟨h, g, d, t, os⟩) : wpAny (model PR w) A (compareOp .Eq (.ref a) (.ref b)) Q E ⟨h, g, d, t, os⟩ := by
 have hu : A.units < cLine := by have := r.u; unfold cLine; exact lnt fun q => lnq [_,_] [aL (tN 9900) Z0,aL (tA Z0 (tM 20 Z1)) (tN 9000)] rfl q this
 by_cases hl : is.length = js.length
 ·obtain ⟨e, he, hal⟩ := ints_all h1 h2 hl
  refine PySem.SeqAt.eq_listAt (s := ⟨h, g, d, t, os⟩) (items := vs.toArray) (items2 := us.toArray) ⟨_, ha, rfl, _, rfl⟩ ⟨_, hb, rfl, _, rfl⟩ (by simp [h1.length, h2.length, hl]) hu (fun j x y => he j x y _ _) ?_
  rw [hal]; exact q
 ·refine PySem.SeqAt.eq_list_lengthsAt (s := ⟨h, g, d, t, os⟩) (items := vs.toArray) (items2 := us.toArray) ⟨_, ha, rfl, _, rfl⟩ ⟨_, hb, rfl, _, rfl⟩ (by simp [h1.length, h2.length, hl]) hu ?_
  have : decide (is = js) = false := decide_eq_false fun e => hl (by rw [e])
  rw [this] at q; exact q
theorem ne_li {a b : Addr} {vs us : List Value} {n m k : Nat} {is js : List Int} {Q : Value → Shared → Prop} (r : Rm A k) (ha : h.get? a = some (listOf vs.toArray n)) (hb : h.get? b = some (listOf us.toArray m)) (h1 : IntsAre vs is) (h2 : IntsAre us js)
  (q : Q (.bool (!decide (is = js))) ⟨h, g, d, t, os⟩) : wpAny (model PR w) A (compareOp .NotEq (.ref a) (.ref b)) Q E ⟨h, g, d, t, os⟩ := by
 have hu : A.units < cLine := by have := r.u; unfold cLine; exact lnt fun q => lnq [_,_] [aL (tN 9900) Z0,aL (tA Z0 (tM 20 Z1)) (tN 9000)] rfl q this
 by_cases hl : is.length = js.length
 ·obtain ⟨e, he, hal⟩ := ints_all h1 h2 hl
  refine PySem.EqBoolInt.of_rcne (s := ⟨h, g, d, t, os⟩) (PySem.SeqAt.RcNeAt.lists (items := vs.toArray) (items2 := us.toArray) ⟨_, ha, rfl, _, rfl⟩ ⟨_, hb, rfl, _, rfl⟩ (by simp [h1.length, h2.length, hl]) hu (fun j x y => he j x y _ _)) ?_
  rw [hal]; exact q
 ·refine PySem.EqBoolInt.of_rcne (s := ⟨h, g, d, t, os⟩) (PySem.SeqAt.RcNeAt.lists_lengths (items := vs.toArray) (items2 := us.toArray) ⟨_, ha, rfl, _, rfl⟩ ⟨_, hb, rfl, _, rfl⟩ (by simp [h1.length, h2.length, hl]) hu) ?_
  have : decide (is = js) = false := decide_eq_false fun e => hl (by rw [e])
  rw [this] at q; exact q
theorem eq_l0 {a b : Addr} {vs : List Value} {n m k : Nat} {Q : Value → Shared → Prop} (r : Rm A k) (ha : h.get? a = some (listOf vs.toArray n)) (hb : h.get? b = some (listOf ([] : List Value).toArray m))
  (q : Q (.bool vs.isEmpty) ⟨h, g, d, t, os⟩) : wpAny (model PR w) A (compareOp .Eq (.ref a) (.ref b)) Q E ⟨h, g, d, t, os⟩ := by
 have hu : A.units < cLine := by have := r.u; unfold cLine; exact lnt fun q => lnq [_,_] [aL (tN 9900) Z0,aL (tA Z0 (tM 20 Z1)) (tN 9000)] rfl q this
 cases vs with
 | nil => exact PySem.SeqAt.eq_listAt (s := ⟨h, g, d, t, os⟩) (items := ([] : List Value).toArray) (items2 := ([] : List Value).toArray) (e := fun _ => true) ⟨_, ha, rfl, _, rfl⟩ ⟨_, hb, rfl, _, rfl⟩ rfl hu (fun j x y => by simp at x) q
 | cons v vs => exact PySem.SeqAt.eq_list_lengthsAt (s := ⟨h, g, d, t, os⟩) (items := (v :: vs).toArray) (items2 := ([] : List Value).toArray) ⟨_, ha, rfl, _, rfl⟩ ⟨_, hb, rfl, _, rfl⟩ (by simp) hu q
theorem ne_l0 {a b : Addr} {vs : List Value} {n m k : Nat} {Q : Value → Shared → Prop} (r : Rm A k) (ha : h.get? a = some (listOf vs.toArray n)) (hb : h.get? b = some (listOf ([] : List Value).toArray m))
  (q : Q (.bool (!vs.isEmpty)) ⟨h, g, d, t, os⟩) : wpAny (model PR w) A (compareOp .NotEq (.ref a) (.ref b)) Q E ⟨h, g, d, t, os⟩ := by
 have hu : A.units < cLine := by have := r.u; unfold cLine; exact lnt fun q => lnq [_,_] [aL (tN 9900) Z0,aL (tA Z0 (tM 20 Z1)) (tN 9000)] rfl q this
 cases vs with
 | nil => exact PySem.EqBoolInt.of_rcne (s := ⟨h, g, d, t, os⟩) (PySem.SeqAt.RcNeAt.lists (items := ([] : List Value).toArray) (items2 := ([] : List Value).toArray) (e := fun _ => true) ⟨_, ha, rfl, _, rfl⟩ ⟨_, hb, rfl, _, rfl⟩ rfl hu (fun j x y => by simp at x)) q
 | cons v vs => exact PySem.EqBoolInt.of_rcne (s := ⟨h, g, d, t, os⟩) (PySem.SeqAt.RcNeAt.lists_lengths (items := (v :: vs).toArray) (items2 := ([] : List Value).toArray) ⟨_, ha, rfl, _, rfl⟩ ⟨_, hb, rfl, _, rfl⟩ (by simp) hu) q
variable {κ : Type} [DecidableEq κ] {knd : KeyKind PR w κ}
theorem dg_m {a : Addr} {o : Obj} {kvs : List (κ × Value)} {pl : Sem Bool} {Q : Value × List Value → Shared → Prop} (ha : h.get? a = some o) (D : DO knd o kvs)
  (q : Q (.builtin "dict.get", [.ref a]) ⟨h, g, d, t, os⟩) : wpAny (model PR w) A (getMethod (.ref a) (Str.ofString "get") pl) Q E ⟨h, g, d, t, os⟩ :=
 getMethod_builtin (s := ⟨h, g, d, t, os⟩) (D.at ha).mapOf.typeIs F.plainAttrs_dict F.slot_dict_get F.type_dict_get (D.at ha).mapOf.noDict q
theorem dg_ {a : Addr} {o : Obj} {kvs : List (κ × Value)} {k : κ} {key dflt : Value} {Q : Value → Shared → Prop} (ha : h.get? a = some o) (D : DO knd o kvs) (hd : (a == sysModules) = false) (hk : knd.is k key = true)
  (q : ∀ t', Q ((valueAt kvs k).getD dflt) ⟨h, g, d, t', os⟩) : wpAny (model PR w) A (call (.builtin "dict.get") [.ref a, key, dflt]) Q E ⟨h, g, d, t, os⟩ :=
 call_meetsIn (s := ⟨h, g, d, t, os⟩) F.slot_dict_get (D.at ha).mapOf.typeIs F.entry_dict_get (F.args_dict_get_3 _ _ _) (meets_dict_get_default knd a hk hd dflt) ⟨_, (D.at ha).mapOf, q _⟩
theorem sub_tupT {value slice : PySem.Expr} {a : Addr} {vs : List Value} {n : Nat} {k : Int} {u : Tok} {v : Value} {Q : Value → Shared → Prop} (hl : h.get? a = some (tupOf vs.toArray n)) (h0 : 0 ≤ k) (hk : k < 2 ^ 63) (hx : vs[k.toNat]? = some v)
  (hs : subscripted slice false (.ref a) (.int k u) = operate [.ref a, .int k u] (getItem (.ref a) (.int k u))) (q : Q v ⟨h, g, d, t, os⟩) :
  wpAny (model PR w) A (subscriptTail value slice (.ref a) (.int k u)) Q E ⟨h, g, d, t, os⟩ := by
 refine item_tupleT (s := ⟨h, g, d, t, os⟩) (l := vs) (j := k.toNat) ⟨_, hl, rfl, _, rfl⟩ (by omega) hk ?_ hx q hs
 have := (List.getElem?_eq_some_iff.mp hx).1
 have hk0 : ¬ k < 0 := by omega
 have hk1 : k < (vs.length : Int) := by omega
 simp [seqIndex?, hk0, h0, hk1]
end

inductive Via (E : Nat → Nat → Prop) (m : Nat) : Nat → Nat → Prop
 | edge {s i : Nat} : E s i → Via E m s i
 | step {s k i : Nat} : Via E m s k → k < m → Via E m k i → Via E m s i
theorem Via.up {E : Nat → Nat → Prop} {m n s i : Nat} (h : Via E m s i) (hm : m ≤ n) : Via E n s i := by
 induction h with
 | edge e => exact .edge e
 | step _ hk _ ih1 ih2 => exact .step ih1 (by exact lnt fun q => lnq [_,_,_] [aL Z0 Z1,aL (tQ Z1) Z2,aL Z2 Z0] rfl q hk hm) ih2
theorem Via.succ {E : Nat → Nat → Prop} {m s i : Nat} : Via E (m + 1) s i ↔ Via E m s i ∨ (Via E m s m ∧ Via E m m i) := by
 constructor
 ·intro h
  induction h with
  | edge e => exact .inl (.edge e)
  | @step s k i _ hk _ ih1 ih2 =>
   by_cases e : k = m
   ·subst e
    refine .inr ⟨ih1.elim id (·.1), ih2.elim id (·.2)⟩
   ·have hk' : k < m := by exact lnt fun q => (Nat.lt_or_gt_of_ne e).elim (fun q0 => lnq [_,_] [aL (tQ Z0) Z1,aL Z1 Z0] rfl q0 q) fun q0 => lnq [_,_] [aL (tQ Z0) Z1,aL (tQ Z1) (tQ Z0)] rfl q0 hk
    rcases ih1 with a | ⟨a, b⟩
    ·rcases ih2 with c | ⟨c, d⟩
     ·exact .inl (.step a hk' c)
     ·exact .inr ⟨.step a hk' c, d⟩
    ·rcases ih2 with c | ⟨c, d⟩
     ·exact .inr ⟨a, .step b hk' c⟩
     ·exact .inr ⟨a, d⟩
 ·rintro (h | ⟨a, b⟩)
  ·exact h.up (by exact lnl fun q => lnq [_] [aL (tA (tQ Z0) (tN 1)) Z0] rfl q)
  ·exact .step (a.up (by exact lnl fun q => lnq [_] [aL (tA (tQ Z0) (tN 1)) Z0] rfl q)) (by exact lnt fun q => lnq [_] [aL (tQ Z0) Z0] rfl q) (b.up (by exact lnl fun q => lnq [_] [aL (tA (tQ Z0) (tN 1)) Z0] rfl q))
theorem Via.self {E : Nat → Nat → Prop} {m i : Nat} : Via E (m + 1) m i ↔ Via E m m i := by
 rw [Via.succ]; exact ⟨fun h => h.elim id (·.2), .inl⟩
theorem ints_set {vs : List Value} {is : List Int} (h : IntsAre vs is) {k : Nat} {i : Int} {t : Tok} : IntsAre (vs.set k (.int i t)) (is.set k i) := by
 induction h generalizing k with
 | nil => exact .nil
 | cons n u _ ih => cases k with
  | zero => exact .cons _ _ (by assumption)
  | succ k => exact .cons _ _ ih
theorem zs_set (l : List Nat) (k n : Nat) : zs (l.set k n) = (zs l).set k (n : Int) := by simp [zs, List.map_set]
theorem getD_set (l : List Nat) (k j n : Nat) (h : k < l.length) : (l.set k n).getD j 0 = if j = k then n else l.getD j 0 := by
 simp only [List.getD_eq_getElem?_getD, List.getElem?_set]
 by_cases e : k = j
 ·subst e; simp [h]
 ·simp [e, Ne.symm e]
theorem getD_at (l : List Nat) {k : Nat} (h : k < l.length) : l[k]? = some (l.getD k 0) := by simp [List.getD_eq_getElem?_getD, h]
noncomputable def ViaOk (E : Nat → Nat → Prop) (n m one : Nat) (F : List Nat) : Prop := F.length = n ∧ ∀ j, j < n → F.getD j 0 < 2 ^ n ∧ ∀ i, (F.getD j 0).testBit i = true ↔ if j < one then Via E (m + 1) j i else Via E m j i
theorem transitive_spec {w : World} {p : PH} {h : Heap} {rv : Value} {R : List Nat} {E : Nat → Nat → Prop} (G : Grd w p) (H : Holds p h) (hr : LI p rv (zs R)) (hn : R.length ≤ 24) (hb : ∀ j, j < R.length → R.getD j 0 < 2 ^ R.length) (hE : ∀ j, j < R.length → ∀ i, (R.getD j 0).testBit i = true ↔ E j i) :
  Fn w 1 (.ref 28) [rv] p h [] (fun v p' _ => ∃ F : List Nat, LI p' v (zs F) ∧ ViaOk E R.length R.length 0 F) := by
 intro A gg d1 t os Rr rm k
 refine hide fun QQ hQQ => ?_
 obtain ⟨ra, rvs, rn, rfl, rb, ria⟩ := hr
 refine hQQ ?_
 clear hQQ QQ
 have rl : rvs.length = R.length := by rw [ria.length]; simp [zs]
 refine call_fn (mu := []) (fd := fnT 2) [(Str.ofString "rows", .ref ra)] rfl (by kernel_rfl) G H rm (by simp) (by simp) (BindsTo.of_eq (by rfl)) (by kernel_rfl) (by kernel_rfl) (by rfl) (by rfl) (by rfl) fun L h₁ t₁ K => ?_
 refine xv_ fun Qq1 Jq1 => kt_ (gB_list _) G K.hold (arnz_ 0 K rfl ?_)
 refine lst_list K (K.hold _ _ rb) (by show rvs.length ≤ 2 ^ 24; exact lnl fun q => lnq [_,_] [aL (tQ (tN 16777216)) Z0,aE Z0 Z1,aL Z1 (tN 24)] rfl q rl hn) fun a h3 n3 fr K => ?_
 refine s_ K fun h2 t2 K => Jq1 _ _ (x_ fun Qq2 Jq2 => wpAny_For (kt_ (gB_range _) G K.hold (ar_ (kb_ (gB_len _) G K.hold (arnz_ 0 K rfl ?_)))))
 refine len_l (K.get (.head _)) (by simp; exact Int.ofNat_lt.mpr (lnt fun q => lnq [_,_] [aL (tN 9223372036854775808) Z0,aE Z0 Z1,aL Z1 (tN 24)] rfl q rl hn)) fun _ _ => ?_
 refine z_ ?_
 simp only [List.size_toArray, rl]
 refine rg K fun r1 h4 t4 _ _ _ K hr1 _ => ?_
 refine for_rg (mu := [(a, listOf rvs.toArray n3)]) (its := []) rm.hd rfl hr1 (by exact lnt fun q => lnq [_] [aL (tN 4611686018427387904) Z0,aL Z0 (tN 24)] rfl q hn) (fun m p' l' mu' => (PSub p p') ∧ (X4 fun (r : AL) (vs : List Value) (n : Nat) (F : List Nat) => A4 (l' = (Str.ofString "found", .ref a) :: r) (mu' = [(a, listOf vs.toArray n)]) (IntsAre vs (zs F)) (ViaOk E R.length m 0 F)))
  K ⟨PSub.refl _, _, rvs, n3, R, rfl, rfl, ria, rfl, fun j hj => ⟨hb j hj, fun i => by
   rw [hE j hj]; simp only [Nat.not_lt_zero, if_false]
   refine ⟨.edge, fun q => ?_⟩
   cases q with
   | edge e => exact e
   | step _ hk _ => exact (lnq [_] [aL (tQ Z0) (tN 0)] rfl hk : False).elim⟩⟩ ?turn ?done
 case done =>
  rintro p' h' l' mu' t' K hx6_
  refine hide fun QQ hQQ => ?_
  obtain ⟨ps, r, vs, n, F, rfl, rfl, ia, vo⟩ := hx6_
  refine hQQ ?_
  clear hQQ QQ
  refine Jq2 _ _ (wj_ (n_ 0 K rfl ?_))
  refine hide fun QQ hQQ => ?_
  obtain ⟨K, ps2, hf⟩ := K.fix fr
  refine hQQ ?_
  clear hQQ QQ
  exact k _ _ _ _ K.gro ⟨F, ⟨a, vs, n, rfl, hf, ia⟩, vo⟩
 case turn =>
  rintro m p' h' l' mu' its t' u hm K hx10_ Qt Jt
  refine hide fun QQ hQQ => ?_
  obtain ⟨ps, r, vs, n, F, rfl, rfl, ia, vo⟩ := hx10_
  refine hQQ ?_
  clear hQQ QQ
  have fl := vo.1
  have vl : vs.length = F.length := by rw [ia.length]; simp [zs]
  have G1 := G.mono ps
  refine wpAny_assign_Name (s_ K fun h2 t2 K => x_ fun Qq3 Jq3 => wpAny_For (kt_ (gB_range _) G1 K.hold (ar_ (kb_ (gB_len _) G1 K.hold (arnz_ 1 K rfl ?_)))))
  refine len_l (K.get (.head _)) (by simp; exact Int.ofNat_lt.mpr (lnt fun q => lnq [_,_,_] [aL (tN 9223372036854775808) Z0,aE Z0 Z1,aE Z1 Z2,aL Z2 (tN 24)] rfl q vl fl hn)) fun _ _ => ?_
  refine z_ ?_
  simp only [List.size_toArray, vl, fl]
  refine rg K fun r2 h5 t5 _ _ _ K hr2 _ => ?_
  refine for_rg (mu := [(a, listOf vs.toArray n)]) (its := its) rm.hd rfl hr2 (by exact lnt fun q => lnq [_] [aL (tN 4611686018427387904) Z0,aL Z0 (tN 24)] rfl q hn) (fun one p'' l' mu' => (PSub p' p'') ∧ (X4 fun (r : AL) (vs : List Value) (n : Nat) (F : List Nat) => A4 (l' = (Str.ofString "middle", .int (m : Nat) u) :: (Str.ofString "found", .ref a) :: r) (mu' = [(a, listOf vs.toArray n)]) (IntsAre vs (zs F)) (ViaOk E R.length m one F)))
   K ⟨PSub.refl _, _, vs, n, F, rfl, rfl, ia, vo⟩ ?turn ?done
  case done =>
   rintro p'' h'' l' mu' t'' K hx6_
   refine hide fun QQ hQQ => ?_
   obtain ⟨ps2, r, vs, n, F, rfl, rfl, ia, vo⟩ := hx6_
   refine hQQ ?_
   clear hQQ QQ
   refine Jq3 _ _ (e_ (Jt _ _ ?_))
   have K := K.pull (x := Str.ofString "found") (by exact lkN 1 (by kernel_rfl) rfl)
   refine ⟨_, _, _, _, _, rfl, K, ps.trans ps2, _, vs, n, F, rfl, rfl, ia, vo.1, fun j hj => ⟨(vo.2 j hj).1, fun i => ?_⟩⟩
   rw [(vo.2 j hj).2 i, if_pos hj, if_neg (by exact fun q => lnq [_] [aL (tQ Z0) (tN 0)] rfl q)]
  case turn =>
   rintro one p'' h'' l' mu' its' t'' u2 ho K hx10_ Qt Jt
   refine hide fun QQ hQQ => ?_
   obtain ⟨ps2, r, vs, n, F, rfl, rfl, ia, vo⟩ := hx10_
   have G2 := G1.mono ps2
   have fl := vo.1
   have vl : vs.length = F.length := by rw [ia.length]; simp [zs]
   obtain ⟨t1, e1⟩ := ints_at ia (zs_at (getD_at F (k := one) (by exact lnt fun q => lnq [_,_,_] [aL Z0 Z1,aG Z0 Z2,aL (tQ Z1) Z2] rfl q fl ho)))
   obtain ⟨t2, e2⟩ := ints_at ia (zs_at (getD_at F (k := m) (by exact lnt fun q => lnq [_,_,_] [aL Z0 Z1,aG Z0 Z2,aL (tQ Z1) Z2] rfl q fl hm)))
   refine hQQ ?_
   clear hQQ QQ
   have e1' : vs.toArray[((one : Nat) : Int).toNat]? = some (.int (F.getD one 0 : Nat) t1) := by simpa using e1
   have e2' : vs.toArray[((m : Nat) : Int).toNat]? = some (.int (F.getD m 0 : Nat) t2) := by simpa using e2
   have b1 := (vo.2 one ho).2 m
   rw [if_neg (by exact fun q => lnq [_] [aL (tQ Z0) Z0] rfl q)] at b1
   refine wpAny_assign_Name (s_ K fun h2 t2 K => x_ fun Qq4 Jq4 => wpAny_If (q_ (o_ (o_ (un_ 2 K rfl (n_ 0 K rfl ?_))))))
   refine sub_list (K.get (.head _)) (by exact Int.natCast_nonneg _) (by exact Int.ofNat_lt.mpr (lnt fun q => lnq [_,_] [aL (tN 9223372036854775808) Z0,aL (tQ Z0) Z1,aL Z1 (tN 24)] rfl q ho hn)) e1' (by rfl) ?_
   refine n_ 1 K rfl ?_
   refine i_shr fun _ _ => ?_
   refine m_ fun _ _ => ?_
   refine i_and (b := 1) fun _ _ => ?_
   refine m_ fun _ _ => i_eq (h_ ?_)
   rw [bit_at]
   refine split_b (fun hbit => ?_) (fun hbit => ?_)
   ·refine x_ fun Qq5 Jq5 => wpAny_Assign_Subscript (o_ (un_ 2 K rfl (n_ 0 K rfl ?_)))
    refine sub_list (K.get (.head _)) (by exact Int.natCast_nonneg _) (by exact Int.ofNat_lt.mpr (lnt fun q => lnq [_,_] [aL (tN 9223372036854775808) Z0,aL (tQ Z0) Z1,aL Z1 (tN 24)] rfl q ho hn)) e1' (by rfl) ?_
    refine un_ 2 K rfl (n_ 1 K rfl ?_)
    refine sub_list (K.get (.head _)) (by exact Int.natCast_nonneg _) (by exact Int.ofNat_lt.mpr (lnt fun q => lnq [_,_] [aL (tN 9223372036854775808) Z0,aL (tQ Z0) Z1,aL Z1 (tN 24)] rfl q hm hn)) e2' (by rfl) ?_
    refine i_or fun u7 _ => ?_
    refine n_ 2 K rfl (n_ 0 K rfl ?_)
    refine set_l (m1 := []) K (by exact lnt fun q => lnq [_,_,_,_] [aL Z0 Z1,aG Z0 Z2,aG Z2 Z3,aL (tQ Z1) Z3] rfl q vl fl ho) (by exact lnl fun q => lnq [_,_,_] [aL (tQ (tN 16777216)) Z0,aE Z0 Z1,aE Z1 Z2,aL Z2 (tN 24)] rfl q vl fl hn) fun h8 n8 K => ?_
    refine Jq5 _ _ (e_ (Jq4 _ _ (e_ (Jt _ _ ?_))))
    have K := (K.pull (x := Str.ofString "found") (by exact lkN 2 (by kernel_rfl) rfl)).pull (x := Str.ofString "middle") (by exact lkN 2 (by kernel_rfl) rfl)
    refine ⟨_, _, _, _, _, rfl, K, ps2, _, _, n8, F.set one (F.getD one 0 ||| F.getD m 0), rfl, rfl, ?_, by simpa using fl, fun j hj => ?_⟩
    ·rw [zs_set]; exact ints_set ia
    ·rw [getD_set _ _ _ _ (by exact lnt fun q => lnq [_,_,_] [aL Z0 Z1,aG Z0 Z2,aL (tQ Z1) Z2] rfl q fl ho)]
     by_cases e : j = one
     ·subst e
      rw [if_pos rfl]
      refine ⟨Nat.or_lt_two_pow (vo.2 j hj).1 (vo.2 m hm).1, fun i => ?_⟩
      have ee : (if m < j then Via E (m + 1) m i else Via E m m i) ↔ Via E m m i := by
       split
       ·exact Via.self
       ·exact Iff.rfl
      rw [if_pos (by exact lnt fun q => lnq [_] [aL (tQ Z0) Z0] rfl q), Nat.testBit_or, Bool.or_eq_true, (vo.2 j hj).2 i, (vo.2 m hm).2 i, if_neg (by exact fun q => lnq [_] [aL (tQ Z0) Z0] rfl q), ee, Via.succ]
      have hv := b1.mp hbit
      exact ⟨fun q => q.elim .inl fun q => .inr ⟨hv, q⟩, fun q => q.elim .inl fun q => .inr q.2⟩
     ·rw [if_neg e]
      refine ⟨(vo.2 j hj).1, fun i => ?_⟩
      rw [(vo.2 j hj).2 i]
      by_cases lt : j < one
      ·rw [if_pos lt, if_pos (by exact lnt fun q => lnq [_,_] [aL (tQ Z0) Z1,aL (tQ Z1) Z0] rfl q lt)]
      ·rw [if_neg lt, if_neg (by exact fun q => (Nat.lt_or_gt_of_ne e).elim (fun q0 => lnq [_,_] [aL (tQ Z0) Z1,aX (tQ Z0) Z1] rfl q0 lt) fun q0 => lnq [_,_] [aL (tQ Z0) Z1,aL (tQ Z1) (tQ Z0)] rfl q0 q)]
   ·refine e_ (Jq4 _ _ (e_ (Jt _ _ ?_)))
    have K := (K.pull (x := Str.ofString "found") (by exact lkN 2 (by kernel_rfl) rfl)).pull (x := Str.ofString "middle") (by exact lkN 2 (by kernel_rfl) rfl)
    refine ⟨_, _, _, _, _, rfl, K, ps2, _, vs, n, F, rfl, rfl, ia, fl, fun j hj => ⟨(vo.2 j hj).1, fun i => ?_⟩⟩
    rw [(vo.2 j hj).2 i]
    by_cases e : j = one
    ·subst e
     rw [if_neg (by exact fun q => lnq [_] [aL (tQ Z0) Z0] rfl q), if_pos (by exact lnt fun q => lnq [_] [aL (tQ Z0) Z0] rfl q), Via.succ]
     refine ⟨.inl, fun q => q.elim id fun q => ?_⟩
     rw [b1.mpr q.1] at hbit; refine hide fun QQ hQQ => ?_
     cases hbit
     all_goals (refine hQQ ?_; clear hQQ QQ)
    ·by_cases lt : j < one
     ·rw [if_pos lt, if_pos (by exact lnt fun q => lnq [_,_] [aL (tQ Z0) Z1,aL (tQ Z1) Z0] rfl q lt)]
     ·rw [if_neg lt, if_neg (by exact fun q => (Nat.lt_or_gt_of_ne e).elim (fun q0 => lnq [_,_] [aL (tQ Z0) Z1,aX (tQ Z0) Z1] rfl q0 lt) fun q0 => lnq [_,_] [aL (tQ Z0) Z1,aL (tQ Z1) (tQ Z0)] rfl q0 q)]

noncomputable def Gr.E0 (γ : Gr) (n j i : Nat) : Prop := ∃ r, r < n ∧ γ.left r = j ∧ (γ.right r)[0]? = some i
theorem Gr.fst_lt {γ : Gr} (ok : GrOk γ) {a b : Nat} (h : γ.Fst a b) : b < γ.names.length := by
 induction h with
 | one h1 h2 => exact ok.2.1 _ h1 _ (List.mem_of_getElem? h2)
 | step _ _ _ ih => exact ih
theorem firsts_of {γ : Gr} (ok : GrOk γ) {F : List Nat} (vo : ViaOk (γ.E0 γ.rules.length) γ.names.length γ.names.length 0 F) : FirstsOk γ F := by
 refine ⟨vo.1, fun s hs => ⟨(vo.2 s hs).1, fun i => ?_⟩⟩
 rw [(vo.2 s hs).2 i, if_neg (Nat.not_lt_zero _)]
 constructor
 ·intro h
  induction h with
  | edge e => obtain ⟨r, h1, rfl, h2⟩ := e; exact .one h1 h2
  | @step s k i h1 hk _ ih1 ih2 => exact .step (ih1 hs) (ih2 hk)
 ·intro h
  clear hs
  induction h with
  | one h1 h2 => exact .edge ⟨_, h1, rfl, h2⟩
  | @step a b c h1 _ ih1 ih2 => exact .step ih1 (Gr.fst_lt ok h1) ih2
theorem mo_symbol_count (P : Params) : methOk (KF P) 391 "symbol_count" 332 = true := by kernel_rfl
theorem so_c (P : Params) : setOk (KF P) 148 "grammar" = true ∧ setOk (KF P) 148 "firsts" = true := ⟨by kernel_rfl, by kernel_rfl⟩
theorem mk_c (P : Params) : makeOk (KF P) 148 124 = true := by kernel_rfl
theorem so_b (P : Params) : setOk (KF P) 267 "grammar" = true ∧ setOk (KF P) 267 "closer" = true ∧ setOk (KF P) 267 "states" = true ∧ setOk (KF P) 267 "numbers" = true := ⟨by kernel_rfl, by kernel_rfl, by kernel_rfl, by kernel_rfl⟩
theorem mk_b (P : Params) : makeOk (KF P) 267 243 = true := by kernel_rfl
theorem mo_built (P : Params) : methOk (KF P) 267 "built" 264 = true := by kernel_rfl
theorem LS.handed {p : PH} {v : Value} {l : List Str} (x : LS p v l) : handedIn v = true := by obtain ⟨a, _, _, rfl, _⟩ := x; rfl
theorem strs_len {vs : List Value} {xs : List Str} (h : StrsAre vs xs) : vs.length = xs.length := by
 induction h with
 | nil => rfl
 | cons _ _ _ ih => simp [ih]
theorem ints_rep (n : Nat) (u : Tok) : IntsAre (List.replicate n (Value.int 0 u)) (zs (List.replicate n 0)) := by
 induction n with
 | zero => exact .nil
 | succ n ih => rw [List.replicate_succ, List.replicate_succ]; exact .cons _ _ ih
section
variable {w : World} {p : PH} {h : Heap} {gr : Addr} {fs : AL} {γ : Gr}
theorem symbol_count_spec (G : Grd w p) (H : Holds p h) (g : GrAt p gr γ fs) : Fn w 1 (.ref 332) [.ref gr] p h [] (fun v _ _ => IntV v (γ.names.length : Nat)) := by
 intro A gg d1 t os R rm k
 refine hide fun QQ hQQ => ?_
 obtain ⟨vn, hn, ln⟩ := g.names
 refine hQQ ?_
 clear hQQ QQ
 have sm := g.small
 refine call_fn (mu := []) (fd := fnM 23 1) [(Str.ofString "self", .ref gr)] rfl (by kernel_rfl) G H rm (by simp) (by simp) (BindsTo.of_eq (by rfl)) (by kernel_rfl) (by kernel_rfl) (by rfl) (by rfl) (by rfl) fun L h₁ t₁ K => ?_
 refine wj_ (kb_ (gB_len _) G K.hold (ar_ (tn_ 0 K rfl ?_)))
 refine ga G K.hold (g.ob.mono K.hold) (ao_names _) hn ln.handed fun _ => ?_
 refine hide fun QQ hQQ => ?_
 obtain ⟨a, vs, m, rfl, b, sa⟩ := ln
 refine hQQ ?_
 clear hQQ QQ
 have sl := strs_len sa
 refine z_ ?_
 refine len_l (K.hold _ _ b) (by simp; exact Int.ofNat_lt.mpr (lnt fun q => lnq [_,_] [aL (tN 9223372036854775808) Z0,aE Z0 Z1,aL (tQ Z1) (tN 1000)] rfl q sl sm.2.2)) fun _ _ => ?_
 have e : ((vs.toArray.size : Nat) : Int) = (γ.names.length : Nat) := by simp [sl]
 rw [e]
 exact k _ _ _ _ K.gro ⟨_, rfl⟩
theorem closer_init {x dx : Addr} (G : Grd w p) (H : Holds p h) (g : GrAt p gr γ fs) (ok : GrOk γ) (hx : h.get? x = some (instObj 148 dx)) (hd : h.get? dx = some emptyDict) (pd : p dx = none) :
  Fn w 3 (.ref 124) [.ref x, .ref gr] p h [dx] (fun v p' h' => A3 (v = .none) (X3 fun o' fv F => A4 (h'.get? dx = some o') (AO 2 o' [(Str.ofString "firsts", fv), (Str.ofString "grammar", .ref gr)]) (LI p' fv (zs F)) (FirstsOk γ F)) (∃ o', h'.get? dx = some o')) := by
 intro A gg d1 t os R rm k
 refine hide fun QQ hQQ => ?_
 obtain ⟨s1, s2⟩ := so_c w.params
 refine hQQ ?_
 clear hQQ QQ
 have nl24 := ok.2.2.2.1
 refine call_fn (mu := [(dx, emptyDict)]) (fd := fnM 10 0) [(Str.ofString "grammar", .ref gr), (Str.ofString "self", .ref x)] rfl (by kernel_rfl) G H rm (by simpa using ⟨hd, pd⟩) (by simp) (BindsTo.of_eq (by rfl)) (by kernel_rfl) (by kernel_rfl) (by rfl) (by rfl) (by rfl) fun L h₁ t₁ K => ?_
 have hxX : x ∉ [(dx, emptyDict)].map (·.1) := by intro q; simp at q; rw [q, hd] at hx; cases hx
 refine xp_ fun Qq1 Jq1 => n_ 0 K rfl (n_ 1 K rfl ?_)
 refine sa (m1 := []) G K (K.keep x _ hxX hx) AO.nil (by decide) s1 fun h2 t2 o2 a2 _ K => ?_
 refine Jq1 _ _ (xv_ fun Qq2 Jq2 => o_ (List_ (r_ (m_ fun _ _ => z_ ?_))))
 refine nl K (by show 1 ≤ 2 ^ 24; decide) fun z h3 fr3 K => ?_
 refine dn_ 0 K rfl ?_
 refine gm G K.hold (g.ob.mono K.hold) (mo_symbol_count _) (g.only _ (by kernel_rfl)) ?_
 refine f_ (args0 ?_)
 refine ⟨⟨_, G, K.hold⟩, ?_⟩
 refine use_fn (symbol_count_spec G K.hold g) (rm.deeper.less (by decide)) fun v p4 h4 t4 gro hv => ?_
 refine hide fun QQ hQQ => ?_
 obtain ⟨u4, rfl⟩ := hv
 have K := K.call gro
 have G := G.mono gro.sub
 have g := g.mono gro.sub
 obtain ⟨vr, hr, ra, rvs, rn, rfl, rb, rl, rall⟩ := g.rules
 refine hQQ ?_
 clear hQQ QQ
 refine mul_l K (K.get (.head _)) (by exact lnl fun q => lnq [_] [aL (tQ (tN 16777216)) Z0,aL Z0 (tN 24)] rfl q nl24) fun a h5 fr5 K => ?_
 have K := K.led (mu' := [(a, listOf (List.replicate γ.names.length _).toArray 0), (dx, o2)]) (fun q hq => by
  simp only [List.mem_cons, List.not_mem_nil, or_false] at hq
  rcases hq with rfl | rfl
  ·exact .head _
  ·simp) (by
  have := K.nodup
  simp only [List.map_cons, List.map_nil, List.nodup_cons, List.mem_cons, List.not_mem_nil, or_false, not_or, not_false_eq_true, List.nodup_nil, and_true, List.nil_append, List.append_nil] at this ⊢
  exact this.1.2)
 refine s_ K fun h2 t2 K => Jq2 _ _ (x_ fun Qq3 Jq3 => wpAny_For (tn_ 1 K rfl ?_))
 refine ga G K.hold (g.ob.mono K.hold) (ao_rules _) hr rfl fun _ => ?_
 refine for_list (mu := [(a, listOf (List.replicate γ.names.length (Value.int 0 _)).toArray 0), (dx, o2)]) (its := []) (vs := rvs) rm.hd (.inl rfl) (.inl rfl) (fun i p' l' mu' => (PSub p4 p') ∧ (X4 fun (r : AL) (vs : List Value) (c1 : Nat) (F : List Nat) => A5 (l' = (Str.ofString "rows", .ref a) :: (Str.ofString "grammar", .ref gr) :: (Str.ofString "self", .ref x) :: r) (mu' = [(a, listOf vs.toArray c1), (dx, o2)]) (IntsAre vs (zs F)) (F.length = γ.names.length) (∀ j, j < γ.names.length → F.getD j 0 < 2 ^ γ.names.length ∧ ∀ b, (F.getD j 0).testBit b = true ↔ γ.E0 i j b)))
  K ⟨PSub.refl _, _, _, 0, List.replicate γ.names.length 0, rfl, rfl, ints_rep _ _, by simp, fun j hj => ?_⟩ ?src ?turn ?done
 ·have e : (List.replicate γ.names.length 0).getD j 0 = 0 := by simp [List.getD_eq_getElem?_getD, List.getElem?_replicate, hj]
  rw [e]
  refine ⟨Nat.two_pow_pos _, fun b => ?_⟩
  simp [Gr.E0]
 case src => rintro i p' h' l' mu' its K ⟨ps, _⟩; exact ⟨rn, K.hold _ _ (ps _ _ rb)⟩
 case done =>
  rintro p6 h6 l' mu' t6 K hx6_
  refine hide fun QQ hQQ => ?_
  obtain ⟨ps, r, vs, c1, F, rfl, rfl, ia, fl, fb⟩ := hx6_
  have G6 := G.mono ps
  obtain ⟨K, ps2, hf⟩ := K.fix (K.none_of (size_none _) |> fun _ => fr5)
  refine hQQ ?_
  clear hQQ QQ
  have G7 := G6.mono ps2
  refine Jq3 _ _ (xp_ fun Qq4 Jq4 => kg_ (gG_transitive _) G7 K.hold (arnz_ 0 K rfl ?_))
  refine ⟨⟨_, G7, K.hold⟩, ?_⟩
  refine use_fn (transitive_spec (R := F) (E := γ.E0 γ.rules.length) G7 K.hold ⟨a, vs, c1, rfl, hf, ia⟩ (by exact lnl fun q => lnq [_,_] [aL (tQ (tN 24)) Z0,aE Z0 Z1,aL Z1 (tN 24)] rfl q fl nl24) (fun j hj => by rw [fl] at hj ⊢; exact (fb j hj).1) (fun j hj b => by rw [fl] at hj; rw [← rl]; exact (fb j hj).2 b)) (rm.deeper.less (by decide)) fun v p8 h8 t8 gro8 hv => ?_
  refine hide fun QQ hQQ => ?_
  obtain ⟨F2, l2, vo⟩ := hv
  refine hQQ ?_
  clear hQQ QQ
  have K := K.call gro8
  have G8 := G7.mono gro8.sub
  refine n_ 2 K rfl ?_
  refine sa (m1 := []) G8 K (K.keep x _ hxX hx) a2 (by decide) s2 fun h9 t9 o9 a9 _ K => ?_
  refine Jq4 _ _ (e_ ?_)
  have odx := K.own (dx, o9) (by simp)
  rw [fl] at vo
  exact k _ _ _ _ K.gro ⟨rfl, ⟨o9, v, F2, odx.1, a9, l2, firsts_of ok vo⟩, o9, odx.1⟩
 case turn =>
  rintro i v p6 h6 l' mu' its t6 hv hi K hx11_ Qt Jt
  refine hide fun QQ hQQ => ?_
  obtain ⟨ps, r, vs, c1, F, rfl, rfl, ia, fl, fb⟩ := hx11_
  have G6 := G.mono ps
  have hir : i < γ.rules.length := by exact lnt fun q => lnq [_,_,_] [aL Z0 Z1,aL (tQ Z1) Z2,aE Z2 Z0] rfl q hi rl
  obtain ⟨y, fr, rfl, oy, _, ⟨tl, hl⟩, vR, hR, lR⟩ := (rall i v hv).mono ps
  have lfd : (γ.rules.getD i (0, [])).1 = γ.left i := rfl
  have rtd : (γ.rules.getD i (0, [])).2 = γ.right i := rfl
  rw [lfd] at hl
  rw [rtd] at lR
  obtain ⟨ta, tvs, tn, rfl, tb, tia, tlen⟩ := lR.len_
  refine hQQ ?_
  clear hQQ QQ
  have tl' : tvs.length = (γ.right i).length := by simpa [zs] using tlen
  have r1000 := ok.1 i hir
  have hll := ok.2.2.2.2.2 i hir
  have vl : vs.length = F.length := by rw [ia.length]; simp [zs]
  have next : ∀ j b, γ.E0 (i + 1) j b ↔ γ.E0 i j b ∨ (γ.left i = j ∧ (γ.right i)[0]? = some b) := fun j b => by
   constructor
   ·rintro hx0_
    refine hide fun QQ hQQ => ?_
    obtain ⟨r, h1, h2, h3⟩ := hx0_
    refine hQQ ?_
    clear hQQ QQ
    by_cases e : r = i
    ·subst e; exact .inr ⟨h2, h3⟩
    ·exact .inl ⟨r, by exact lnt fun q => (Nat.lt_or_gt_of_ne e).elim (fun q0 => lnq [_,_] [aL (tQ Z0) Z1,aL Z1 Z0] rfl q0 q) fun q0 => lnq [_,_] [aL (tQ Z0) Z1,aL (tQ Z1) (tQ Z0)] rfl q0 h1, h2, h3⟩
   ·rintro (⟨r, h1, h2, h3⟩ | ⟨h2, h3⟩)
    ·exact ⟨r, by exact lnt fun q => lnq [_,_] [aL (tQ Z0) Z1,aL (tQ Z1) Z0] rfl q h1, h2, h3⟩
    ·exact ⟨i, by exact lnt fun q => lnq [_] [aL (tQ Z0) Z0] rfl q, h2, h3⟩
  refine wpAny_assign_Name (s_ K fun h2 t2 K => x_ fun Qq4 Jq4 => wpAny_If (q_ (kb_ (gB_len _) G6 K.hold (ar_ (tn_ 0 K rfl ?_)))))
  refine ga G6 K.hold (oy.mono K.hold) (ao_right _) hR rfl fun _ => ?_
  refine z_ ?_
  refine len_t (K.hold _ _ tb) (by simp; exact Int.ofNat_lt.mpr (lnt fun q => lnq [_,_] [aL (tN 9223372036854775808) Z0,aL (tQ Z1) (tN 1000),aE Z0 Z1] rfl q r1000 tl')) fun _ _ => ?_
  refine m_ fun _ _ => i_gt (h_ ?_)
  refine PyProof.Rows.split_dec (fun hlt => ?_) (fun hlt => ?_)
  ·have hpos : 0 < (γ.right i).length := by simp at hlt; exact lnt fun q => lnq [_,_] [aL Z0 (tN 0),aL (tQ (tN 0)) Z1,aE Z1 Z0] rfl q hlt tl'
   refine hide fun QQ hQQ => ?_
   obtain ⟨t9, e9⟩ := ints_at tia (zs_at (getD_at (γ.right i) hpos))
   have e9' : tvs[((0 : Int)).toNat]? = some (.int ((γ.right i).getD 0 0 : Nat) t9) := by simpa using e9
   have hb := ok.2.1 i hir _ (List.mem_of_getElem? (getD_at (γ.right i) hpos))
   obtain ⟨t1, e1⟩ := ints_at ia (zs_at (getD_at F (k := γ.left i) (by exact lnt fun q => lnq [_,_,_] [aL Z0 Z1,aL (tQ Z1) Z2,aG Z0 Z2] rfl q hll fl)))
   refine hQQ ?_
   clear hQQ QQ
   have e1' : vs.toArray[((γ.left i : Nat) : Int).toNat]? = some (.int (F.getD (γ.left i) 0 : Nat) t1) := by simpa using e1
   refine x_ fun Qq5 Jq5 => wpAny_Assign_Subscript (o_ (un_ 1 K rfl (tn_ 0 K rfl ?_)))
   refine ga G6 K.hold (oy.mono K.hold) (ao_left _) hl rfl fun _ => ?_
   skip
   refine sub_list (K.get (.head _)) (by exact Int.natCast_nonneg _) (by exact Int.ofNat_lt.mpr (lnt fun q => lnq [_,_] [aL (tN 9223372036854775808) Z0,aL (tQ Z0) Z1,aL Z1 (tN 24)] rfl q hll nl24)) e1' (by rfl) ?_
   refine o_ (m_ fun _ _ => u_ (tn_ 0 K rfl ?_))
   refine ga G6 K.hold (oy.mono K.hold) (ao_right _) hR rfl fun _ => ?_
   refine m_ fun _ _ => ?_
   refine sub_tupT (K.hold _ _ tb) (by decide) (by decide) e9' (by rfl) ?_
   skip
   refine i_shl (a := 1) (by exact lnl fun q => lnq [_,_] [aL (tQ (tN 1000000)) Z0,aL (tQ Z0) Z1,aL Z1 (tN 24)] rfl q hb nl24) (by decide) fun _ _ => ?_
   refine i_or fun _ _ => ?_
   refine n_ 1 K rfl (tn_ 0 K rfl ?_)
   refine ga G6 K.hold (oy.mono K.hold) (ao_left _) hl rfl fun _ => ?_
   skip
   refine set_l (m1 := []) K (by exact lnt fun q => lnq [_,_,_,_] [aL Z0 Z1,aG Z0 Z2,aL (tQ Z1) Z3,aG Z2 Z3] rfl q vl hll fl) (by exact lnl fun q => lnq [_,_,_] [aL (tQ (tN 16777216)) Z0,aE Z0 Z1,aE Z1 Z2,aL Z2 (tN 24)] rfl q vl fl nl24) fun h8 n8 K => ?_
   refine Jq5 _ _ (e_ (Jq4 _ _ (e_ (Jt _ _ ?_))))
   have K := ((K.pull (x := Str.ofString "self") (by exact lkN 3 (by kernel_rfl) rfl)).pull (x := Str.ofString "grammar") (by exact lkN 3 (by kernel_rfl) rfl)).pull (x := Str.ofString "rows") (by exact lkN 3 (by kernel_rfl) rfl)
   refine ⟨_, _, _, [(a, _), (dx, o2)], _, rfl, K, ps, _, _, n8, F.set (γ.left i) (F.getD (γ.left i) 0 ||| 1 <<< (γ.right i).getD 0 0), rfl, rfl, ?_, by simpa using fl, fun j hj => ?_⟩
   ·rw [zs_set]; exact ints_set ia
   ·rw [getD_set _ _ _ _ (by exact lnt fun q => lnq [_,_,_] [aL Z0 Z1,aL (tQ Z1) Z2,aG Z0 Z2] rfl q hll fl)]
    by_cases e : j = γ.left i
    ·subst e
     rw [if_pos rfl]
     refine ⟨Nat.or_lt_two_pow (fb _ hj).1 (by rw [one_shl]; exact Nat.pow_lt_pow_right (by decide) hb), fun b => ?_⟩
     rw [Nat.testBit_or, Bool.or_eq_true, (fb _ hj).2 b, next, one_shl, Nat.testBit_two_pow, decide_eq_true_eq, getD_at _ hpos, Option.some_inj]
     simp
    ·rw [if_neg e]
     refine ⟨(fb j hj).1, fun b => ?_⟩
     rw [(fb j hj).2 b, next]
     exact ⟨.inl, fun q => q.elim id fun q => absurd q.1.symm e⟩
  ·have h0r : (γ.right i)[0]? = none := by
    rw [List.getElem?_eq_none_iff]; rw [List.size_toArray] at hlt; exact lnl fun q => lnq [_,_] [aL (tQ (tN 0)) Z0,aX (tQ (tN 0)) Z1,aG Z1 Z0] rfl q (fun z => hlt (Int.ofNat_lt.mpr z)) tl'
   refine e_ (Jq4 _ _ (e_ (Jt _ _ ?_)))
   have K := ((K.pull (x := Str.ofString "self") (by exact lkN 3 (by kernel_rfl) rfl)).pull (x := Str.ofString "grammar") (by exact lkN 3 (by kernel_rfl) rfl)).pull (x := Str.ofString "rows") (by exact lkN 3 (by kernel_rfl) rfl)
   refine ⟨_, _, _, [(a, _), (dx, o2)], _, rfl, K, ps, _, vs, c1, F, rfl, rfl, ia, fl, fun j hj => ⟨(fb j hj).1, fun b => ?_⟩⟩
   rw [(fb j hj).2 b, next, h0r]
   exact ⟨.inl, fun q => q.elim id fun q => by cases q.2⟩
end

noncomputable def AutAt (w : World) (γ : Gr) (p : PH) (gr : Addr) (kers : List (List It)) (v : Value) : Prop :=
 X6 fun x dx o refs ls n => A11 (v = .ref x) (p x = some (instObj 225 dx)) (p dx = some o) (AO 2 o [(Str.ofString "states", .ref ls), (Str.ofString "grammar", .ref gr)]) (p ls = some (listOf (refs : List Value).toArray n)) (refs.length = kers.length) ((∀ i u, refs[i]? = some u → DoneAt w γ p i (kers.getD i []) kers u)) ((∀ l ∈ kers, KerOk γ l)) (kers[0]? = some [(0, 0)]) (kers.length ≤ 2 ^ 24) (kers.Nodup)
theorem AutAt.mono {w : World} {γ : Gr} {p q : PH} {gr : Addr} {kers : List (List It)} {v : Value} (x : AutAt w γ p gr kers v) (s : PSub p q) : AutAt w γ q gr kers v := by
 refine hide fun QQ hQQ => ?_
 obtain ⟨y, dx, o, refs, ls, n, a, b, c, d, e, f, g, r1, r2, r3, r4⟩ := x
 refine hQQ ?_
 clear hQQ QQ
 exact ⟨y, dx, o, refs, ls, n, a, s _ _ b, s _ _ c, d, s _ _ e, f, fun i u hu => by simpa using (g i u hu).mono (more := []) s, r1, r2, r3, r4⟩
section
variable {w : World} {p : PH} {h : Heap} {gr : Addr} {fs : AL} {γ : Gr}
theorem builder_init {x dx : Addr} (G : Grd w p) (H : Holds p h) (g : GrAt p gr γ fs) (ok : GrOk γ) (hx : h.get? x = some (instObj 267 dx)) (hd : h.get? dx = some emptyDict) (pd : p dx = none) :
  Fn w 5 (.ref 243) [.ref x, .ref gr] p h [dx] (fun v p' h' => A3 (v = .none) (X7 fun o' c ls nm on F n => A13 (h'.get? dx = some o') (AO 4 o' [(Str.ofString "numbers", .ref nm), (Str.ofString "states", .ref ls), (Str.ofString "closer", .ref c), (Str.ofString "grammar", .ref gr)]) (CloAt p' c gr F) (FirstsOk γ F) (h.get? ls = none) (p' ls = none) (h'.get? ls = some (listOf ([] : List Value).toArray n)) (h.get? nm = none) (p' nm = none) (h'.get? nm = some on) (ls ≠ nm) ((nm == sysModules) = false) (DH w on [])) (∃ o', h'.get? dx = some o')) := by
 intro A gg d1 t os R rm k
 refine hide fun QQ hQQ => ?_
 obtain ⟨s1, s2, s3, s4⟩ := so_b w.params
 refine hQQ ?_
 clear hQQ QQ
 refine call_fn (mu := [(dx, emptyDict)]) (fd := fnM 15 0) [(Str.ofString "grammar", .ref gr), (Str.ofString "self", .ref x)] rfl (by kernel_rfl) G H rm (by simpa using ⟨hd, pd⟩) (by simp) (BindsTo.of_eq (by rfl)) (by kernel_rfl) (by kernel_rfl) (by rfl) (by rfl) (by rfl) fun L h₁ t₁ K => ?_
 have hxX : x ∉ [(dx, emptyDict)].map (·.1) := by intro q; simp at q; rw [q, hd] at hx; cases hx
 refine xp_ fun Qq1 Jq1 => n_ 0 K rfl (n_ 1 K rfl ?_)
 refine sa (m1 := []) G K (K.keep x _ hxX hx) AO.nil (by decide) s1 fun h2 t2 o2 a2 _ K => ?_
 refine Jq1 _ _ (xp_ fun Qq2 Jq2 => kg_ (gG_Closer _) G K.hold (arnz_ 0 K rfl ?_))
 refine ⟨⟨_, G, K.hold⟩, ?_⟩
 refine mk (n := 3) (Post := fun x dx v p' h' => X3 fun o' fv F => A4 (h'.get? dx = some o') (AO 2 o' [(Str.ofString "firsts", fv), (Str.ofString "grammar", .ref gr)]) (LI p' fv (zs F)) (FirstsOk γ F)) G K (mk_c _) (rm.deeper.less (by decide)) (fun x dx h1 G1 H1 hx hdx pdx px kp fx => ?_) (fun c dc p5 h5 t5 o5 v ps5 fx fdx K po ho5 => ?_)
 ·intro A' g' d' t' os' R' rm' k'
  refine closer_init G1 H1 g ok hx hdx pdx A' g' d' t' os' R' rm' fun v p6 h6 t6 gro po => ?_
  exact k' v p6 h6 t6 gro (let ⟨c1, c2, c3⟩ := po; ⟨c1, c2, c3⟩)
 ·refine hide fun QQ hQQ => ?_
  obtain ⟨o', fv, F, e', a', li, fo⟩ := po
  refine hQQ ?_
  clear hQQ QQ
  rw [ho5] at e'; cases e'
  refine hide fun QQ hQQ => ?_
  obtain ⟨K, ps6, hfc⟩ := K.fix fx
  obtain ⟨K, ps7, hfd⟩ := K.fix fdx
  refine hQQ ?_
  clear hQQ QQ
  have G7 := ((G.mono ps5).mono ps6).mono ps7
  have cl : CloAt _ c gr F := ⟨_, Ob.of (ps7 _ _ hfc) hfd a', by exact lkN 1 (by kernel_rfl) rfl, ⟨fv, by exact lkN 0 (by kernel_rfl) rfl, (li.mono ps6).mono ps7⟩, fun y hy => by
   simp only [List.contains_cons, List.contains_nil, Bool.or_false, Bool.or_eq_false_iff] at hy
   rw [List.lookup_cons, List.lookup_cons, hy.1, hy.2]; rfl⟩
  refine n_ 1 K rfl ?_
  refine sa (m1 := []) G7 K (K.keep x _ hxX hx) a2 (by decide) s2 fun h8 t8 o8 a8 _ K => ?_
  refine Jq2 _ _ (xp_ fun Qq3 Jq3 => List_ (z_ ?_))
  refine nl K (by decide) fun ls h9 fr9 K => ?_
  refine n_ 1 K rfl ?_
  refine sa (m1 := [(ls, listOf ([] : List Value).toArray 0)]) G7 K (K.keep x _ hxX hx) a8 (by decide) s3 fun h10 t10 o10 a10 _ K => ?_
  refine Jq3 _ _ (xp_ fun Qq4 Jq4 => ?_)
  refine ndh G7 K fun nm h11 on fr11 lo11 D11 K => ?_
  refine n_ 1 K rfl ?_
  refine sa (m1 := [(nm, on), (ls, listOf ([] : List Value).toArray 0)]) G7 K (K.keep x _ hxX hx) a10 (by decide) s4 fun h12 t12 o12 a12 _ K => ?_
  refine Jq4 _ _ (e_ ?_)
  have w1 := K.own (ls, listOf ([] : List Value).toArray 0) (by simp)
  have w2 := K.own (nm, on) (by simp)
  have w3 := K.own (dx, o12) (by simp)
  have nd9 := K.nodup
  refine k _ _ _ _ K.gro ⟨rfl, ⟨o12, c, ls, nm, on, F, 0, w3.1, a12, cl, fo, fr9, w1.2.2.1, w1.1, fr11, w2.2.2.1, w2.1, ?_, lo11, D11⟩, o12, w3.1⟩
  intro e
  simp [e] at nd9
theorem build_spec (G : Grd w p) (H : Holds p h) (g : GrAt p gr γ fs) (ok : GrOk γ) (h0r : 0 < γ.rules.length) :
  Fn w 9 (.ref 278) [.ref gr] p h [] (fun v p' _ => ∃ kers : List (List It), AutAt w γ p' gr kers v) := by
 intro A gg d1 t os R rm k
 refine call_fn (mu := []) (fd := fnT 16) [(Str.ofString "grammar", .ref gr)] rfl (by kernel_rfl) G H rm (by simp) (by simp) (BindsTo.of_eq (by rfl)) (by kernel_rfl) (by kernel_rfl) (by rfl) (by rfl) (by rfl) fun L h₁ t₁ K => ?_
 have oL := K.atL
 refine wj_ (d_ (kg_ (gG_Builder _) G K.hold (arnz_ 0 K rfl ?_)))
 refine ⟨⟨_, G, K.hold⟩, ?_⟩
 have Kb := K
 refine mk (n := 5) (Post := fun x dx v p' h' => X7 fun o' c ls nm on F n => A15 (h'.get? dx = some o') (AO 4 o' [(Str.ofString "numbers", .ref nm), (Str.ofString "states", .ref ls), (Str.ofString "closer", .ref c), (Str.ofString "grammar", .ref gr)]) (CloAt p' c gr F) (FirstsOk γ F) (ls ≠ x) (ls ≠ dx) (nm ≠ x) (nm ≠ dx) (h₁.get? ls = none) (p' ls = none) (h'.get? ls = some (listOf ([] : List Value).toArray n)) (h₁.get? nm = none) (p' nm = none) (h'.get? nm = some on) (A3 (ls ≠ nm) ((nm == sysModules) = false) (DH w on []))) G K (mk_b _) (rm.deeper.less (by decide)) (fun x dx h1 G1 H1 hx hdx pdx px kp fx => ?_) (fun x dx p5 h5 t5 o5 v ps5 fx fdx K po ho5 => ?_)
 ·intro A' g' d' t' os' R' rm' k'
  refine builder_init G1 H1 g ok hx hdx pdx A' g' d' t' os' R' rm' fun v p6 h6 t6 gro po => ?_
  refine hide fun QQ hQQ => ?_
  obtain ⟨q0, ⟨o', c, ls, nm, on, F, n, q1, q2, q3, q4, q5, q6, q7, q8, q9, q10, q11, q12, q13⟩, q14⟩ := po
  refine hQQ ?_
  clear hQQ QQ
  refine k' v p6 h6 t6 gro ⟨q0, ⟨o', c, ls, nm, on, F, n, q1, q2, q3, q4, ?_, ?_, ?_, ?_, ?_, q6, q7, ?_, q9, q10, q11, q12, q13⟩, q14⟩
  ·intro e; rw [e, hx] at q5; cases q5
  ·intro e; rw [e, hdx] at q5; cases q5
  ·intro e; rw [e, hx] at q8; cases q8
  ·intro e; rw [e, hdx] at q8; cases q8
  ·cases z : h₁.get? ls with
   | none => rfl
   | some o => rw [kp _ _ z] at q5; cases q5
  ·cases z : h₁.get? nm with
   | none => rfl
   | some o => rw [kp _ _ z] at q8; cases q8
 ·refine hide fun QQ hQQ => ?_
  obtain ⟨o', c, ls, nm, on, F, n, e', a', cl, fo, n1, n2, n3, n4, q5, q6, q7, q8, q9, q10, q11, q12, q13⟩ := po
  refine hQQ ?_
  clear hQQ QQ
  rw [ho5] at e'; cases e'
  refine hide fun QQ hQQ => ?_
  obtain ⟨K, ps6, hfx⟩ := K.fix fx
  obtain ⟨K, ps7, hfd⟩ := K.fix fdx
  have pls : ((p5.add x (instObj 267 dx)).add dx o5) ls = none := by unfold PH.add; rw [if_neg n2, if_neg n1]; exact q6
  have pnm : ((p5.add x (instObj 267 dx)).add dx o5) nm = none := by unfold PH.add; rw [if_neg n4, if_neg n3]; exact q9
  obtain ⟨oL', eL⟩ := oL
  refine hQQ ?_
  clear hQQ QQ
  have K := K.adopt q10 pnm (fun z => by rw [z, eL] at q8; cases q8) (by simp) (Kb.none_of q8)
  have K := K.adopt q7 pls (fun z => by rw [z, eL] at q5; cases q5) (by simp [Ne.symm q11]) (Kb.none_of q5)
  have G7 := ((G.mono ps5).mono ps6).mono ps7
  have g7 := ((g.mono ps5).mono ps6).mono ps7
  have ob : Ob ((p5.add x (instObj 267 dx)).add dx o5) x 267 _ := Ob.of (ps7 _ _ hfx) hfd a'
  have none4 : ∀ y, (["grammar", "closer", "states", "numbers"] : List Str).contains y = false → List.lookup y [(Str.ofString "numbers", Value.ref nm), (Str.ofString "states", .ref ls), (Str.ofString "closer", .ref c), (Str.ofString "grammar", .ref gr)] = none := fun y hy => by
   simp only [List.contains_cons, List.contains_nil, Bool.or_false, Bool.or_eq_false_iff] at hy
   refine hide fun QQ hQQ => ?_
   obtain ⟨y1, y2, y3, y4⟩ := hy
   refine hQQ ?_
   clear hQQ QQ
   rw [List.lookup_cons, List.lookup_cons, List.lookup_cons, List.lookup_cons, y1, y2, y3, y4]; rfl
  have B : BuAt ((p5.add x (instObj 267 dx)).add dx o5) x gr c ls nm := ⟨_, ob, by exact lkN 3 (by kernel_rfl) rfl, by exact lkN 2 (by kernel_rfl) rfl, by exact lkN 1 (by kernel_rfl) rfl, by exact lkN 0 (by kernel_rfl) rfl, none4⟩
  refine gm G7 K.hold (ob.mono K.hold) (mo_built _) (none4 _ (by kernel_rfl)) ?_
  refine f_ (args0 ?_)
  refine ⟨⟨_, G7, K.hold⟩, ?_⟩
  refine use_fn (built_spec G7 K.hold B g7 ok h0r ((cl.mono ps6).mono ps7) fo (K.get (.head _)) pls (K.get (.tail _ (.head _))) pnm q11 q12 q13) (rm.deeper.less (by decide)) fun v p8 h8 t8 gro hv => ?_
  refine hide fun QQ hQQ => ?_
  obtain ⟨kers, y, dy, o, refs, m, rfl, z1, z2, z3, z4, z5, z6, z7, z8, z9, z10, z11⟩ := hv
  have aln := gro.alive nm _ (K.get (.tail _ (.head _)))
  obtain ⟨onm, enm⟩ := aln
  have K := W.callX (m1 := [(ls, listOf ([] : List Value).toArray n), (nm, on)]) (m2 := []) (m1' := [(ls, listOf refs.toArray m), (nm, onm)]) K gro rfl (fun q hq => by
   rcases List.mem_cons.mp hq with rfl | hq
   ·exact z4
   ·rw [List.mem_singleton] at hq; subst hq; exact enm)
  obtain ⟨K, ps9, hf9⟩ := K.fix (Kb.none_of q5)
  refine hQQ ?_
  clear hQQ QQ
  refine k _ _ _ _ K.gro ⟨kers, y, dy, o, refs, ls, m, rfl, ps9 _ _ z1, ps9 _ _ z2, z3, hf9, z6, fun i u hu => by simpa using (z7 i u hu).mono (more := []) ps9, z8, z9, z10, z11⟩
end

noncomputable def Next (γ : Gr) (l : List It) (s : Nat) (l' : List It) : Prop := ∀ y, y ∈ l' ↔ ∃ r d, γ.Clo (· ∈ l) (r, d) ∧ (γ.right r)[d]? = some s ∧ y = (r, d + 1)
noncomputable def GoTo (γ : Gr) (kers : List (List It)) (i s : Nat) (v : Value) : Prop := ∃ l, (kers[i]? = some l) ∧ (((∃ (j : Nat) (l' : List It), IntV v (j : Nat) ∧ kers[j]? = some l' ∧ Next γ l s l' ∧ ∃ y, y ∈ l') ∨ (IntV v (-1) ∧ ¬∃ r d, γ.Clo (· ∈ l) (r, d) ∧ (γ.right r)[d]? = some s)))
noncomputable def Adq (γ : Gr) (l : List It) : Prop := ∀ r, r ≠ 0 → γ.Clo (· ∈ l) (r, (γ.right r).length) → (∀ r', r' ≠ 0 → γ.Clo (· ∈ l) (r', (γ.right r').length) → r' = r) ∧ ∀ r' d s, γ.Clo (· ∈ l) (r', d) → (γ.right r')[d]? = some s → ¬ s < γ.tc
theorem behind_iff {γ : Gr} {l its : List It} (m : ∀ x, x ∈ its ↔ γ.Clo (· ∈ l) x) (s : Nat) : γ.behind s its ≠ [] ↔ ∃ r d, γ.Clo (· ∈ l) (r, d) ∧ (γ.right r)[d]? = some s := by
 have ex : ∀ (m : List It), m ≠ [] ↔ ∃ y, y ∈ m := fun m => ⟨fun h => List.exists_mem_of_ne_nil m h, fun ⟨y, hy⟩ e => by rw [e] at hy; cases hy⟩
 rw [ex]
 constructor
 ·rintro hx0_
  refine hide fun QQ hQQ => ?_
  obtain ⟨y, hy⟩ := hx0_
  obtain ⟨x, h1, h2, _⟩ := Gr.mem_behind.mp hy
  refine hQQ ?_
  clear hQQ QQ
  exact ⟨x.1, x.2, (m _).mp h1, h2⟩
 ·rintro hx0_
  refine hide fun QQ hQQ => ?_
  obtain ⟨r, d, h1, h2⟩ := hx0_
  refine hQQ ?_
  clear hQQ QQ
  exact ⟨_, Gr.mem_behind.mpr ⟨(r, d), (m _).mpr h1, h2, rfl⟩⟩
theorem behind_next {γ : Gr} {l its l' : List It} (m : ∀ x, x ∈ its ↔ γ.Clo (· ∈ l) x) {s : Nat} (h : l'.Perm (γ.behind s its)) : Next γ l s l' := fun y => by
 rw [h.mem_iff, Gr.mem_behind]
 constructor
 ·rintro ⟨x, h1, h2, e⟩; exact ⟨x.1, x.2, (m _).mp h1, h2, e⟩
 ·rintro ⟨r, d, h1, h2, e⟩; exact ⟨(r, d), (m _).mpr h1, h2, e⟩
theorem valueAt_get {κ : Type} [DecidableEq κ] {kvs : List (κ × Value)} {k : κ} {v : Value} (h : valueAt kvs k = some v) : (k, v) ∈ kvs := by
 unfold valueAt at h
 refine hide fun QQ hQQ => ?_
 obtain ⟨⟨k', v'⟩, h1, h2⟩ := Option.map_eq_some_iff.mp h
 refine hQQ ?_
 clear hQQ QQ
 have e := List.find?_some h1
 have m := List.mem_of_find?_eq_some h1
 simp at e h2
 subst e; subst h2; exact m
theorem mo_sgoto (P : Params) : methOk (KF P) 106 "goto" 96 = true ∧ methOk (KF P) 106 "is_consistent" 103 = true ∧ methOk (KF P) 225 "goto" 194 = true ∧ attrOk (KF P) 225 "states" = true ∧ attrOk (KF P) 225 "grammar" = true := ⟨by kernel_rfl, by kernel_rfl, by kernel_rfl, by kernel_rfl, by kernel_rfl⟩
theorem st_only {x y z u v a b : Value} : ∀ n, (["is_shifting", "reductions", "moves", "items", "symbol", "kernel", "number"] : List Str).contains n = false →
  List.lookup n [(Str.ofString "is_shifting", x), (Str.ofString "reductions", y), (Str.ofString "moves", z), (Str.ofString "items", u), (Str.ofString "symbol", v), (Str.ofString "kernel", a), (Str.ofString "number", b)] = none := fun n hn => by
 simp only [List.contains_cons, List.contains_nil, Bool.or_false, Bool.or_eq_false_iff] at hn
 refine hide fun QQ hQQ => ?_
 obtain ⟨y1, y2, y3, y4, y5, y6, y7⟩ := hn
 refine hQQ ?_
 clear hQQ QQ
 rw [List.lookup_cons, List.lookup_cons, List.lookup_cons, List.lookup_cons, List.lookup_cons, List.lookup_cons, List.lookup_cons, y1, y2, y3, y4, y5, y6, y7]; rfl
section
variable {w : World} {p : PH} {h : Heap} {γ : Gr}
theorem state_goto {x : Addr} {i : Nat} {s : Nat} {t1 : Tok} {l : List It} {kers : List (List It)} (G : Grd w p) (H : Holds p h) (D : DoneAt w γ p i l kers (.ref x)) (hl : kers[i]? = some l) :
  Fn w 1 (.ref 96) [.ref x, .int (s : Nat) t1] p h [] (fun v _ _ => GoTo γ kers i s v) := by
 intro A gg d1 t os R rm k
 refine hide fun QQ hQQ => ?_
 obtain ⟨x', dx, mv, od, om, kv, e, px, pd, pm, its, iv, rv, rl, mvs, sh, ta, sy, tb, ao, li, nd, mem, lr, rp, lom, D, mp, mk, hsh⟩ := D
 cases e
 all_goals (refine hQQ ?_; clear hQQ QQ)
 refine hide fun QQ hQQ => ?_
 obtain ⟨b1, b2, b3, b4, b5, b6, b7⟩ := ao_st w.params
 refine hQQ ?_
 clear hQQ QQ
 have ob : Ob p x 106 _ := Ob.of px pd ao
 refine call_fn (mu := []) (fd := fnM 9 1) [(Str.ofString "symbol", .int (s : Nat) t1), (Str.ofString "self", .ref x)] rfl (by kernel_rfl) G H rm (by simp) (by simp) (BindsTo.of_eq (by rfl)) (by kernel_rfl) (by kernel_rfl) (by rfl) (by rfl) (by rfl) fun L h₁ t₁ K => ?_
 refine wj_ (d_ (tn_ 1 K rfl ?_))
 refine ga G K.hold (ob.mono K.hold) b5 (by exact lkN 2 (by kernel_rfl) rfl) rfl fun _ => ?_
 refine dg_m (K.hold _ _ pm) D ?_
 refine l_ (arn_ 0 K rfl (r_ (ldG (gG_NONE _) G K.hold (by kernel_rfl) rfl rfl (z_ ?_))))
 refine dg_ (k := ((s : Nat) : Int)) (K.hold _ _ pm) D lom (int_is _ _) fun _ => ?_
 refine k _ _ _ _ K.gro ⟨l, hl, ?_⟩
 cases hv : valueAt mvs ((s : Nat) : Int) with
 | none =>
  refine .inr ⟨⟨_, rfl⟩, fun q => ?_⟩
  have := mk s ((behind_iff mem s).mpr q)
  have e := valueAt_none (kvs := mvs) (k := ((s : Nat) : Int))
  rw [hv] at e
  simp at e
  refine hide fun QQ hQQ => ?_
  obtain ⟨⟨k', v'⟩, h1, h2⟩ := List.mem_map.mp this
  refine hQQ ?_
  clear hQQ QQ
  simp only at h2; subst h2
  exact e v' h1
 | some v =>
  have hm : (((s : Nat) : Int), v) ∈ mvs := valueAt_get hv
  refine hide fun QQ hQQ => ?_
  obtain ⟨s', j, tj, e1, rfl, e3, l', e4, e5⟩ := mp _ _ hm
  refine hQQ ?_
  clear hQQ QQ
  have : s' = s := by exact lne (fun q => lnq [_,_] [aL (tQ Z0) Z1,aG Z0 Z1] rfl q (Int.ofNat.inj e1)) fun q => lnq [_,_] [aL (tQ Z0) Z1,aE Z1 Z0] rfl q (Int.ofNat.inj e1)
  subst this
  refine .inl ⟨j, l', ⟨_, rfl⟩, e4, behind_next mem e5, ?_⟩
  refine hide fun QQ hQQ => ?_
  obtain ⟨y, hy⟩ := List.exists_mem_of_ne_nil _ e3
  refine hQQ ?_
  clear hQQ QQ
  exact ⟨y, e5.mem_iff.mpr hy⟩
theorem red_iff {γ : Gr} {l its : List It} (m : ∀ x, x ∈ its ↔ γ.Clo (· ∈ l) x) (r : Nat) : r ∈ γ.red its ↔ r ≠ 0 ∧ γ.Clo (· ∈ l) (r, (γ.right r).length) := by
 unfold Gr.red
 rw [List.mem_map]
 constructor
 ·rintro hx0_
  refine hide fun QQ hQQ => ?_
  obtain ⟨x, hx, rfl⟩ := hx0_
  refine hQQ ?_
  clear hQQ QQ
  rw [List.mem_filter] at hx
  have := hx.2
  simp only [Gr.done, Bool.and_eq_true, beq_iff_eq, bne_iff_ne] at this
  refine ⟨this.2, ?_⟩
  have h := (m x).mp hx.1
  rw [← this.1]; exact h
 ·rintro hx0_
  refine hide fun QQ hQQ => ?_
  obtain ⟨h1, h2⟩ := hx0_
  refine hQQ ?_
  clear hQQ QQ
  refine ⟨(r, (γ.right r).length), List.mem_filter.mpr ⟨(m _).mpr h2, ?_⟩, rfl⟩
  simp [Gr.done, h1]
theorem red_nodup {γ : Gr} {its : List It} (nd : its.Nodup) : (γ.red its).Nodup := by
 unfold Gr.red
 refine List.pairwise_map.mpr (List.Pairwise.imp_of_mem (fun {a b} ha hb hab e => hab ?_) (List.Pairwise.filter _ nd))
 have h1 := (List.mem_filter.mp ha).2
 have h2 := (List.mem_filter.mp hb).2
 simp only [Gr.done, Bool.and_eq_true, beq_iff_eq] at h1 h2
 exact Prod.ext e (by rw [h1.1, h2.1, e])
theorem adq_iff {γ : Gr} {l its : List It} {rl : List Nat} {sh : Bool} (m : ∀ x, x ∈ its ↔ γ.Clo (· ∈ l) x) (nd : its.Nodup) (hr : rl.Perm (γ.red its)) (hsh : sh = true ↔ ∃ s, s < γ.tc ∧ γ.behind s its ≠ []) : Adq γ l ↔ rl = [] ∨ (rl.length = 1 ∧ sh = false) := by
 have mr : ∀ r, r ∈ rl ↔ r ≠ 0 ∧ γ.Clo (· ∈ l) (r, (γ.right r).length) := fun r => by rw [hr.mem_iff, red_iff m]
 have nr : rl.Nodup := hr.symm.nodup (red_nodup nd)
 have hs : sh = false ↔ ∀ r' d s, γ.Clo (· ∈ l) (r', d) → (γ.right r')[d]? = some s → ¬ s < γ.tc := by
  constructor
  ·intro e r' d s h1 h2 h3
   have : sh = true := hsh.mpr ⟨s, h3, (behind_iff m s).mpr ⟨r', d, h1, h2⟩⟩
   rw [e] at this; refine hide fun QQ hQQ => ?_
   cases this
   all_goals (refine hQQ ?_; clear hQQ QQ)
  ·intro h
   cases e : sh with
   | false => rfl
   | true =>
    refine hide fun QQ hQQ => ?_
    obtain ⟨s, h1, h2⟩ := hsh.mp e
    obtain ⟨r, d, h3, h4⟩ := (behind_iff m s).mp h2
    refine hQQ ?_
    clear hQQ QQ
    exact absurd h1 (h r d s h3 h4)
 constructor
 ·intro h
  match rl, mr, nr with
  | [], _, _ => exact .inl rfl
  | [r], mr, _ =>
   have := (mr r).mp (List.mem_cons_self ..)
   exact .inr ⟨rfl, hs.mpr (h r this.1 this.2).2⟩
  | a :: b :: rest, mr, nr =>
   have ha := (mr a).mp (List.mem_cons_self ..)
   have hb := (mr b).mp (.tail _ (List.mem_cons_self ..))
   have := (h a ha.1 ha.2).1 b hb.1 hb.2
   rw [List.nodup_cons] at nr
   exact absurd (by rw [this]; exact List.mem_cons_self ..) nr.1
 ·rintro (e | ⟨e, e2⟩) r h1 h2
  ·have := (mr r).mpr ⟨h1, h2⟩
   rw [e] at this; refine hide fun QQ hQQ => ?_
   cases this
   all_goals (refine hQQ ?_; clear hQQ QQ)
  ·refine hide fun QQ hQQ => ?_
   obtain ⟨a, rfl⟩ := List.length_eq_one_iff.mp e
   refine hQQ ?_
   clear hQQ QQ
   have h3 := (mr r).mpr ⟨h1, h2⟩
   refine ⟨fun r' h4 h5 => ?_, hs.mp e2⟩
   have h6 := (mr r').mpr ⟨h4, h5⟩
   rw [List.mem_singleton] at h3 h6
   rw [h3, h6]
theorem is_consistent_spec {x : Addr} {i : Nat} {l : List It} {kers : List (List It)} (G : Grd w p) (H : Holds p h) (ok : GrOk γ) (kl : KerOk γ l) (D : DoneAt w γ p i l kers (.ref x)) :
  Fn w 1 (.ref 103) [.ref x] p h [] (fun v _ _ => ∃ b : Bool, v = .bool b ∧ (b = true ↔ Adq γ l)) := by
 intro A gg d1 t os R rm k
 refine hide fun QQ hQQ => ?_
 obtain ⟨x', dx, mv, od, om, kv, e, px, pd, pm, its, iv, rv, rl, mvs, sh, ta, sy, tb, ao, li, nd, mem, lr, rp, lom, D, mp, mk, hsh⟩ := D
 cases e
 all_goals (refine hQQ ?_; clear hQQ QQ)
 refine hide fun QQ hQQ => ?_
 obtain ⟨b1, b2, b3, b4, b5, b6, b7⟩ := ao_st w.params
 have ob : Ob p x 106 _ := Ob.of px pd ao
 have ad := adq_iff mem nd rp hsh
 obtain ⟨ra, rvs, rn, rfl, rb, ria⟩ := lr
 refine hQQ ?_
 clear hQQ QQ
 have rlen : rvs.length = rl.length := by rw [ria.length]; simp [zs]
 refine call_fn (mu := []) (fd := fnM 9 2) [(Str.ofString "self", .ref x)] rfl (by kernel_rfl) G H rm (by simp) (by simp) (BindsTo.of_eq (by rfl)) (by kernel_rfl) (by kernel_rfl) (by rfl) (by rfl) (by rfl) fun L h₁ t₁ K => ?_
 refine x_ fun Qq1 Jq1 => wpAny_If (q_ (tn_ 0 K rfl ?_))
 refine ga G K.hold (ob.mono K.hold) b6 (by exact lkN 1 (by kernel_rfl) rfl) rfl fun _ => ?_
 refine List_ (z_ ?_)
 refine nl K (by decide) fun a h2 fr K => ?_
 refine eq_l0 (vs := rvs) rm.deeper (K.hold _ _ rb) (K.get (.head _)) ?_
 refine h_ ?_
 refine split_b (fun hb => ?_) (fun hb => ?_)
 ·refine wj_ (wpAny_Constant_bool (Jq1 _ _ ?_))
  refine k _ _ _ _ K.gro ⟨true, rfl, ⟨fun _ => ad.mpr (.inl ?_), fun _ => rfl⟩⟩
  cases rl with
  | nil => rfl
  | cons => cases rvs with
   | nil => cases rlen
   | cons => cases hb
 ·have hne : rl ≠ [] := fun e => by
   rw [e] at rlen
   cases rvs with
   | nil => cases hb
   | cons => cases rlen
  have hbig : rvs.length ≤ 24 := by
   have h1 := Gr.its_len (γ := γ) (l := its) (fun y hy => Gr.Clo.ok kl.1 ((mem y).mp hy)) nd
   have h2 : (γ.red its).length ≤ its.length := by unfold Gr.red; rw [List.length_map]; exact List.length_filter_le ..
   have h3 := rp.length_eq
   have h4 := ok.2.2.1
   exact lnl fun q => lnq [_,_,_,_,_] [aL (tQ (tN 24)) Z0,aL Z1 (tN 24),aE Z2 Z3,aL Z3 Z4,aL Z4 Z1,aE Z0 Z2] rfl q h4 h3 h2 h1 rlen
  refine e_ (Jq1 _ _ (wj_ (BoolOp_and (wpAny_Compare1 (kb_ (gB_len _) G K.hold (ar_ (tn_ 0 K rfl ?_)))))))
  refine ga G K.hold (ob.mono K.hold) b6 (by exact lkN 1 (by kernel_rfl) rfl) rfl fun _ => ?_
  refine z_ ?_
  refine len_l (K.hold _ _ rb) (by simp; exact Int.ofNat_lt.mpr (lnt fun q => lnq [_] [aL (tN 9223372036854775808) Z0,aL Z0 (tN 24)] rfl q hbig)) fun _ _ => ?_
  refine m_ fun _ _ => i_eq (h_ ?_)
  refine split_b (fun h1 => ?_) (fun h1 => ?_)
  ·have e1 : rl.length = 1 := by
    rw [beq_iff_eq, List.size_toArray] at h1; exact lne (fun q => lnq [_,_] [aL (tQ (tN 1)) Z0,aE Z1 (tN 1),aG Z1 Z0] rfl q (Int.ofNat.inj h1) rlen) fun q => lnq [_,_] [aL (tQ Z0) (tN 1),aG Z1 (tN 1),aE Z1 Z0] rfl q (Int.ofNat.inj h1) rlen
   refine BoolOp_one (wpAny_UnaryOp (tn_ 0 K rfl ?_))
   refine ga G K.hold (ob.mono K.hold) b7 (by exact lkN 0 (by kernel_rfl) rfl) rfl fun _ => ?_
   refine not_of (h_ ?_)
   refine k _ _ _ _ K.gro ⟨!sh, rfl, ?_⟩
   rw [ad]
   cases sh with
   | true => exact ⟨fun q => (nomatch q), fun q => q.elim (fun e => absurd e hne) fun e => (nomatch e.2)⟩
   | false => exact ⟨fun _ => .inr ⟨e1, rfl⟩, fun _ => rfl⟩
  ·have e1 : rl.length ≠ 1 := fun e => by
    rw [beq_eq_false_iff_ne, List.size_toArray] at h1; omega
   skip
   refine k _ _ _ _ K.gro ⟨_, rfl, ?_⟩
   rw [ad, h1]
   exact ⟨fun q => (nomatch q), fun q => q.elim (fun e => absurd e hne) fun e => absurd e.1 e1⟩
noncomputable def bad (γ : Gr) (kers : List (List It)) (i : Nat) : Bool := @decide (¬ Adq γ (kers.getD i [])) (Classical.propDecidable _)
theorem bad_iff {γ : Gr} {kers : List (List It)} {i : Nat} : bad γ kers i = true ↔ ¬ Adq γ (kers.getD i []) := @decide_eq_true_iff _ (Classical.propDecidable _)
noncomputable def dueOf (γ : Gr) (kers : List (List It)) (n : Nat) : List Nat := (List.range n).filter (bad γ kers)
theorem dueOf_succ (γ : Gr) (kers : List (List It)) (n : Nat) : dueOf γ kers (n + 1) = dueOf γ kers n ++ if bad γ kers n = true then [n] else [] := by
 unfold dueOf
 rw [List.range_succ, List.filter_append]
 congr 1
 rw [List.filter_cons]; split <;> rfl
theorem dueOf_len (γ : Gr) (kers : List (List It)) (n : Nat) : (dueOf γ kers n).length ≤ n := by
 unfold dueOf
 have := List.length_filter_le (bad γ kers) (List.range n)
 simpa using this
theorem inadequate_spec {gr : Addr} {kers : List (List It)} {mv : Value} (G : Grd w p) (H : Holds p h) (ok : GrOk γ) (M : AutAt w γ p gr kers mv) :
  Fn w 2 (.ref 283) [mv] p h [] (fun v p' _ => LI p' v (zs (dueOf γ kers kers.length))) := by
 intro A gg d1 t os R rm k
 refine hide fun QQ hQQ => ?_
 obtain ⟨x, dx, o, refs, ls, n, rfl, px, pd, ao, pls, rlen, dn, ko, _, kb⟩ := M
 obtain ⟨m1, m2, m3, m4, m5⟩ := mo_sgoto w.params
 obtain ⟨b1, b2, b3, b4, b5, b6, b7⟩ := ao_st w.params
 refine hQQ ?_
 clear hQQ QQ
 have ob : Ob p x 225 _ := Ob.of px pd ao
 refine call_fn (mu := []) (fd := fnT 17) [(Str.ofString "automaton", .ref x)] rfl (by kernel_rfl) G H rm (by simp) (by simp) (BindsTo.of_eq (by rfl)) (by kernel_rfl) (by kernel_rfl) (by rfl) (by rfl) (by rfl) fun L h₁ t₁ K => ?_
 refine wj_ ?_
 refine comp_eval (cl := []) (by rfl) (fun _ => by rfl) (by rfl) (by decide) ?_
 refine tn_ 0 K rfl ?_
 refine ga G K.hold (ob.mono K.hold) m4 (by exact lkN 0 (by kernel_rfl) rfl) rfl fun _ => ?_
 refine cl_list (mu := []) (its := []) (vs := refs) (.inl rfl) (.inl rfl) (K.hold _ _ pls) (fun _ _ _ => turn1 ..) (by decide) (by rfl) rm.hd
  (fun D i p' l' mu' => (PSub p p') ∧ (X2 fun (vs : List Value) (c : Nat) => (mu' = [(D, listOf vs.toArray c)]) ∧ (IntsAre vs (zs (dueOf γ kers i))))) K (fun D _ => ⟨PSub.refl _, [], 0, rfl, .nil⟩) ?src ?turn ?done
 case src => rintro D C i p' h' lc mu' its K ⟨ps, _⟩; exact ⟨n, K.hold _ _ (ps _ _ pls)⟩
 case done =>
  rintro D C oC p' h' lc mu' t' K nC hC hx11_
  refine hide fun QQ hQQ => ?_
  obtain ⟨ps, vs, c, rfl, ia⟩ := hx11_
  refine hQQ ?_
  clear hQQ QQ
  refine comp_val K nC hC fun h2 K => ?_
  refine hide fun QQ hQQ => ?_
  obtain ⟨K, ps2, hf⟩ := K.fix ((K.own (D, listOf vs.toArray c) (by simp)).2.2.2.resolve_left (by simp))
  refine hQQ ?_
  clear hQQ QQ
  refine k _ _ _ _ K.gro ?_
  rw [← rlen]
  exact ⟨D, vs, c, rfl, hf, ia⟩
 case turn =>
  rintro D C i v p' h' lc mu' its t' hv hi K hx13_ Qt Jt
  refine hide fun QQ hQQ => ?_
  obtain ⟨ps, vs, c, rfl, ia⟩ := hx13_
  have G1 := G.mono ps
  have D1 := (dn i v hv).mono (more := []) ps
  rw [List.append_nil] at D1
  have D2 := D1
  obtain ⟨x', dx', mv', od', om', kv', rfl, px', pd', pm', its', iv', rv', rl', mvs', sh', ta', sy', tb', ao', li', nd', mem', lr', rp', lom', Dm', mp', mk', hsh'⟩ := D2
  refine hQQ ?_
  clear hQQ QQ
  have obs : Ob p' x' 106 _ := Ob.of px' pd' ao'
  have kk : KerOk γ (kers.getD i []) := ko _ (by
   have : i < kers.length := by exact lnt fun q => lnq [_,_,_] [aL Z0 Z1,aL (tQ Z1) Z2,aE Z2 Z0] rfl q hi rlen
   rw [List.getD_eq_getElem?_getD, List.getElem?_eq_getElem this]; exact List.getElem_mem this)
  have vl : vs.length ≤ i := by
   have := dueOf_len γ kers i
   rw [ia.length]; simpa [zs] using this
  refine wpAny_assign_Name (s_ K fun h2 t2 K => ?_)
  refine tests1 ?_
  refine isTrue_not (isTrue_plain (dn_ 0 K rfl ?_))
  refine gm G1 K.hold (obs.mono K.hold) m2 (st_only _ (by kernel_rfl)) ?_
  refine f_ (args0 ?_)
  refine ⟨⟨_, G1, K.hold⟩, ?_⟩
  refine use_fn (is_consistent_spec G1 K.hold ok kk D1) (rm.deeper.less (by decide)) fun v3 p3 h3 t3 gro hv3 => ?_
  refine hide fun QQ hQQ => ?_
  obtain ⟨b, rfl, hb⟩ := hv3
  refine hQQ ?_
  clear hQQ QQ
  have K := K.call gro
  have G3 := G1.mono gro.sub
  have obs := obs.mono gro.sub
  refine h_ ?_
  refine split_b (fun h1 => ?_) (fun h1 => ?_)
  ·have e : bad γ kers i = true := bad_iff.mpr fun q => by rw [hb.mpr q] at h1; cases h1
   refine emit_ ?_
   refine tn_ 0 K rfl ?_
   refine ga G3 K.hold (obs.mono K.hold) b1 (by exact lkN 6 (by kernel_rfl) rfl) rfl fun _ => ?_
   refine app_ (m1 := []) K (by show vs.length ≤ 2 ^ 24; exact lnl fun q => lnq [_,_,_,_] [aL (tQ (tN 16777216)) Z0,aL Z0 Z1,aL (tQ Z1) Z2,aL Z3 (tN 16777216),aE Z2 Z3] rfl q vl hi kb rlen) fun h8 n8 K => ?_
   refine Jt _ ⟨_, _, _, _, _, rfl, K, ps.trans gro.sub, _, n8, rfl, ?_⟩
   rw [dueOf_succ, if_pos e, zs_app]
   exact ints_app ia ⟨_, rfl⟩
  ·have e : ¬ bad γ kers i = true := fun q => bad_iff.mp q (hb.mp (by cases b with
    | true => rfl
    | false => cases h1))
   refine Jt _ ⟨_, _, _, _, _, rfl, K, ps.trans gro.sub, _, c, rfl, ?_⟩
   rw [dueOf_succ, if_neg e, List.append_nil]
   exact ia
theorem is_lr_zero_spec {gr : Addr} {kers : List (List It)} {mv : Value} (G : Grd w p) (H : Holds p h) (ok : GrOk γ) (M : AutAt w γ p gr kers mv) :
  Fn w 3 (.ref 290) [mv] p h [] (fun v _ _ => v = .bool (dueOf γ kers kers.length).isEmpty) := by
 intro A gg d1 t os R rm k
 have M0 := M
 refine hide fun QQ hQQ => ?_
 obtain ⟨x, dx, o, refs, ls, n, rfl, px, pd, ao, pls, rlen, dn, ko, _, kb⟩ := M
 refine hQQ ?_
 clear hQQ QQ
 refine call_fn (mu := []) (fd := fnT 18) [(Str.ofString "automaton", .ref x)] rfl (by kernel_rfl) G H rm (by simp) (by simp) (BindsTo.of_eq (by rfl)) (by kernel_rfl) (by kernel_rfl) (by rfl) (by rfl) (by rfl) fun L h₁ t₁ K => ?_
 refine wj_ (wpAny_Compare1 (kg_ (gG_inadequate_states _) G K.hold (arnz_ 0 K rfl ?_)))
 refine ⟨⟨_, G, K.hold⟩, ?_⟩
 refine use_fn (inadequate_spec G K.hold ok M0) (rm.deeper.less (by decide)) fun v3 p3 h3 t3 gro hv3 => ?_
 have K := K.call gro
 refine hide fun QQ hQQ => ?_
 obtain ⟨a, vs, c, rfl, hf, ia⟩ := hv3
 refine hQQ ?_
 clear hQQ QQ
 have vl := ia.length
 refine List_ (z_ ?_)
 refine nl K (by decide) fun b h2 fr K => ?_
 refine eq_l0 (vs := vs) rm.deeper (K.hold _ _ hf) (K.get (.head _)) ?_
 have e : vs.isEmpty = (dueOf γ kers kers.length).isEmpty := by
  rw [Bool.eq_iff_iff, List.isEmpty_iff_length_eq_zero, List.isEmpty_iff_length_eq_zero, vl]; simp [zs]
 rw [e]
 exact k _ _ _ _ K.gro rfl
theorem aut_goto {gr : Addr} {kers : List (List It)} {mv : Value} {i s : Nat} {t1 t2 : Tok} (G : Grd w p) (H : Holds p h) (M : AutAt w γ p gr kers mv) (hi : i < kers.length) :
  Fn w 2 (.ref 194) [mv, .int (i : Nat) t1, .int (s : Nat) t2] p h [] (fun v _ _ => GoTo γ kers i s v) := by
 intro A gg d1 t os R rm k
 refine hide fun QQ hQQ => ?_
 obtain ⟨x, dx, o, refs, ls, n, rfl, px, pd, ao, pls, rlen, dn, ko, _, kb⟩ := M
 obtain ⟨m1, m2, m3, m4, m5⟩ := mo_sgoto w.params
 have ob : Ob p x 225 _ := Ob.of px pd ao
 obtain ⟨v, hv⟩ : ∃ v, refs[i]? = some v := ⟨_, List.getElem?_eq_getElem (by exact lnt fun q => lnq [_,_,_] [aL Z0 Z1,aG Z0 Z2,aL (tQ Z1) Z2] rfl q rlen hi)⟩
 have D1 := dn i v hv
 have D2 := D1
 obtain ⟨x', dx', mv', od', om', kv', rfl, px', pd', pm', its', iv', rv', rl', mvs', sh', ta', sy', tb', ao', li', nd', mem', lr', rp', lom', Dm', mp', mk', hsh'⟩ := D2
 refine hQQ ?_
 clear hQQ QQ
 have obs : Ob p x' 106 _ := Ob.of px' pd' ao'
 have hk : kers[i]? = some (kers.getD i []) := by rw [List.getD_eq_getElem?_getD, List.getElem?_eq_getElem hi]; rfl
 refine call_fn (mu := []) (fd := fnM 14 1) [(Str.ofString "symbol", .int (s : Nat) t2), (Str.ofString "state", .int (i : Nat) t1), (Str.ofString "self", .ref x)] rfl (by kernel_rfl) G H rm (by simp) (by simp) (BindsTo.of_eq (by rfl)) (by kernel_rfl) (by kernel_rfl) (by rfl) (by rfl) (by rfl) fun L h₁ t₁ K => ?_
 refine wj_ (d_ (u_ (tn_ 2 K rfl ?_)))
 refine ga G K.hold (ob.mono K.hold) m4 (by exact lkN 0 (by kernel_rfl) rfl) rfl fun _ => ?_
 refine n_ 1 K rfl ?_
 refine sub_list (K.hold _ _ pls) (by exact Int.natCast_nonneg _) (by exact Int.ofNat_lt.mpr (lnt fun q => lnq [_,_] [aL (tN 9223372036854775808) Z0,aL Z1 (tN 16777216),aL (tQ Z0) Z1] rfl q kb hi)) (v := .ref x') (by simpa using hv) (by rfl) ?_
 refine gm G K.hold (obs.mono K.hold) m1 (st_only _ (by kernel_rfl)) ?_
 refine f_ (arnz_ 0 K rfl ?_)
 refine ⟨⟨_, G, K.hold⟩, ?_⟩
 refine use_fn (state_goto G K.hold D1 hk) (rm.deeper.less (by decide)) fun v3 p3 h3 t3 gro hv3 => ?_
 exact k _ _ _ _ (K.call gro).gro hv3
end

section
variable {w : World} {A : Around} {E : Value → Shared → Prop} {g : Array GenState} {d : Drawn} {t : Nat} {os : OsState} {env : Env}
variable {p0 p : PH} {h0 h h' : Heap} {X : List Addr} {L : Addr} {l : AL} {mu m1 m2 more : Led}
theorem strs_at {vs : List Value} {xs : List Str} (h : StrsAre vs xs) : ∀ {k : Nat} {x : Str}, xs[k]? = some x → ∃ t, vs[k]? = some (.str x t) := by
 induction h with
 | nil => intro k i e; simp at e
 | cons n t _ ih => intro k i e; cases k with
  | zero => simp at e; subst e; exact ⟨_, rfl⟩
  | succ k => simp at e; exact ih e
theorem strs_app {vs us : List Value} {xs ys : List Str} (h : StrsAre vs xs) (h2 : StrsAre us ys) : StrsAre (vs ++ us) (xs ++ ys) := by
 induction h with
 | nil => exact h2
 | cons n t _ ih => exact .cons _ _ ih
theorem strs_any {vs : List Value} {xs : List Str} (h : StrsAre vs xs) (x : Str) : (vs.toArray.any fun y => match y with | .str z _ => z == x | _ => false) = decide (x ∈ xs) := by
 rw [List.any_toArray]
 induction h with
 | nil => rfl
 | cons n t _ ih =>
  rw [List.any_cons, ih, Bool.eq_iff_iff]
  simp only [Bool.or_eq_true, beq_iff_eq, decide_eq_true_eq, List.mem_cons]
  exact ⟨fun q => q.elim (fun e => .inl e.symm) .inr, fun q => q.elim (fun e => .inl e.symm) .inr⟩
theorem strs_eq {vs : List Value} {xs : List Str} (h : StrsAre vs xs) (x : Str) (u : Tok) (A : Around) (s : Shared) : ∀ y, y ∈ vs.toArray → PySem.SeqAt.EqAt A s y (.str x u) (match y with | .str z _ => z == x | _ => false) := fun y hy' => by
 have hy : y ∈ vs := by simpa using hy'
 clear hy'
 induction h with
 | nil => cases hy
 | cons n t _ ih =>
  rcases List.mem_cons.mp hy with rfl | hy
  ·exact PySem.SeqAt.EqAt.str_str n t x u
  ·exact ih hy
theorem in_ls {a : Addr} {vs : List Value} {n : Nat} {x : Str} {u : Tok} {xs : List Str} {Q : Value → Shared → Prop} (ha : h.get? a = some (listOf vs.toArray n)) (hs : StrsAre vs xs)
  (q : Q (.bool (decide (x ∈ xs))) ⟨h, g, d, t, os⟩) : wpAny (model PR w) A (compareOp .In (.str x u) (.ref a)) Q E ⟨h, g, d, t, os⟩ := by
 refine PySem.SeqAt.in_listAt (s := ⟨h, g, d, t, os⟩) _ ⟨_, ha, rfl, _, rfl⟩ (strs_eq hs x u _ _) ?_
 rw [strs_any hs]; exact q
theorem nin_ls {a : Addr} {vs : List Value} {n : Nat} {x : Str} {u : Tok} {xs : List Str} {Q : Value → Shared → Prop} (ha : h.get? a = some (listOf vs.toArray n)) (hs : StrsAre vs xs)
  (q : Q (.bool (!decide (x ∈ xs))) ⟨h, g, d, t, os⟩) : wpAny (model PR w) A (compareOp .NotIn (.str x u) (.ref a)) Q E ⟨h, g, d, t, os⟩ := by
 refine PySem.SeqAt.notIn_listAt (s := ⟨h, g, d, t, os⟩) _ ⟨_, ha, rfl, _, rfl⟩ (strs_eq hs x u _ _) ?_
 rw [strs_any hs]; exact q
theorem in_ts {a : Addr} {vs : List Value} {n : Nat} {x : Str} {u : Tok} {xs : List Str} {Q : Value → Shared → Prop} (ha : h.get? a = some (tupOf vs.toArray n)) (hs : StrsAre vs xs)
  (q : Q (.bool (decide (x ∈ xs))) ⟨h, g, d, t, os⟩) : wpAny (model PR w) A (compareOp .In (.str x u) (.ref a)) Q E ⟨h, g, d, t, os⟩ := by
 refine PySem.SeqAt.in_tupleAt (s := ⟨h, g, d, t, os⟩) _ ⟨_, ha, rfl, _, rfl⟩ (strs_eq hs x u _ _) ?_
 rw [strs_any hs]; exact q
theorem idx_m {a : Addr} {vs : Array Value} {n : Nat} {pl : Sem Bool} {Q : Value × List Value → Shared → Prop} (ha : h.get? a = some (listOf vs n))
  (q : Q (.builtin "list.index", [.ref a]) ⟨h, g, d, t, os⟩) : wpAny (model PR w) A (getMethod (.ref a) (Str.ofString "index") pl) Q E ⟨h, g, d, t, os⟩ :=
 getMethod_builtin (s := ⟨h, g, d, t, os⟩) ⟨_, ha, rfl⟩ F.plainAttrs_list F.slot_list_index F.type_list_index (fun b e => by cases e; exact ⟨_, ha, rfl⟩) q
theorem idx_ {a : Addr} {vs : List Value} {n : Nat} {x : Str} {u : Tok} {xs : List Str} {Q : Value → Shared → Prop} (ha : h.get? a = some (listOf vs.toArray n)) (hs : StrsAre vs xs) (hx : x ∈ xs) (hb : xs.length < 1000)
  (q : ∀ u t', Q (.int (xs.idxOf x : Nat) u) ⟨h, g, d, t', os⟩) : wpAny (model PR w) A (call (.builtin "list.index") [.ref a, .str x u]) Q E ⟨h, g, d, t, os⟩ := by
 have hl := strs_len hs
 have hj : xs.idxOf x < xs.length := List.idxOf_lt_length_iff.mpr hx
 have gen : ∀ (m : Nat) (hm : m < vs.toArray.size), (match vs.toArray[m] with | .str z _ => z == x | _ => false) = (xs.getD m default == x) := fun m hm => by
  rw [List.size_toArray] at hm
  obtain ⟨t1, e1⟩ := strs_at hs (List.getElem?_eq_getElem (show m < xs.length by exact lnt fun q => lnq [_,_,_] [aL Z0 Z1,aL (tQ Z1) Z2,aE Z2 Z0] rfl q hm hl))
  have : vs.toArray[m]'(by simpa using hm) = .str xs[m] t1 := by
   rw [List.getElem?_eq_getElem hm] at e1; injection e1
  rw [this]
  simp [List.getD_eq_getElem?_getD, show m < xs.length by exact lnt fun q => lnq [_,_,_] [aL Z0 Z1,aL (tQ Z1) Z2,aE Z2 Z0] rfl q hm hl]
 refine call_meets (s := ⟨h, g, d, t, os⟩) F.slot_list_index ⟨_, ha, rfl⟩ F.entry_list_index (F.args_list_index_2 _ _)
  (PySem.MeetsSeq.list_index a vs.toArray n (.str x u) (fun y => match y with | .str z _ => z == x | _ => false) (fun y hy => ?_) (xs.idxOf x) (by simp; exact lnt fun q => lnq [_,_,_] [aL Z0 Z1,aL (tQ Z1) Z2,aG Z0 Z2] rfl q hj hl) (by omega) ?_ (fun m hm hmj => ?_)) ⟨ha, q _ _⟩
 ·have hy' : y ∈ vs := by simpa using hy
  clear gen ha q hj hb hl hx hy
  induction hs with
  | nil => cases hy'
  | cons n t _ ih =>
   rcases List.mem_cons.mp hy' with rfl | hy'
   ·have := PySem.SeqRoads2.EqGives.str n x t u
    rw [toList_beq] at this
    exact this
   ·exact ih hy'
 ·rw [gen]
  rw [List.getD_eq_getElem?_getD, List.getElem?_eq_getElem hj]
  simp
 ·rw [gen, List.size_toArray] at *
  rw [List.getD_eq_getElem?_getD, List.getElem?_eq_getElem (by exact lnt fun q => lnq [_,_,_] [aL Z0 Z1,aL (tQ Z1) Z2,aL (tQ Z2) Z0] rfl q hmj hj), Option.getD_some]
  have := List.not_of_lt_findIdx (p := (· == x)) (xs := xs) (i := m) hmj
  simpa using this
theorem as_t2 {x y : Str} {px py pos : Pos} {k : Nat} {a : Addr} {v1 v2 : Value} {n : Nat} {Q : Unit → Shared → Prop} (K : W p0 h0 X L p h l mu) (hh : A.handled = none) (ha : h.get? a = some (tupOf [v1, v2].toArray n))
  (hx : env.kindOf x = some .local) (hy : env.kindOf y = some .local) (hk : env.scope.kind = .function) (he : env.locals = L)
  (q : ∀ h' t', W p0 h0 X L p h' ((y, v2) :: (x, v1) :: l) mu → Q () ⟨h', g, d, t', os⟩) : wpAny (model PR w) A (assign (.Tuple [.Name x px, .Name y py] k pos) env (.ref a)) Q E ⟨h, g, d, t, os⟩ := by
 refine wpAny_assign_Tuple (s := ⟨h, g, d, t, os⟩) (items := [v1, v2].toArray) hh ⟨_, ha, rfl, _, rfl⟩ rfl rfl fun h2 hs => ?_
 have K2 := K.grow fun b o e => hs b o (Nat.ne_of_lt (Heap.lt_size e)) e
 show wpAny _ _ (assignInOrder [assign (.Name x px) env, assign (.Name y py) env] [v1, v2]) _ _ _
 unfold assignInOrder
 refine wpAny_bind (wpAny_holding (wpAny_assign_Name (st K2 hx hk he fun h3 t3 K3 => ?_)))
 unfold assignInOrder
 refine wpAny_bind (wpAny_holding (wpAny_assign_Name (st K3 hy hk he fun h4 t4 K4 => ?_)))
 unfold assignInOrder
 exact wpAny_pure (q _ _ K4)
theorem W.fixAll (more : Led) : ∀ {p : PH}, W p0 h0 X L p h l (more ++ mu) → (∀ q ∈ more, h0.get? q.1 = none) → ∃ p', PSub p p' ∧ (∀ q ∈ more, p' q.1 = some q.2) ∧ W p0 h0 X L p' h l mu := by
 induction more with
 | nil => intro p K _; exact ⟨p, PSub.refl _, by simp, K⟩
 | cons x more ih =>
  intro p K hn
  obtain ⟨K1, ps1, e1⟩ := K.fix (hn x (List.mem_cons_self ..))
  obtain ⟨p', ps2, e2, K2⟩ := ih K1 fun q hq => hn q (List.mem_cons_of_mem _ hq)
  refine ⟨p', ps1.trans ps2, fun q hq => ?_, K2⟩
  rcases List.mem_cons.mp hq with rfl | hq
  ·exact ps2 _ _ e1
  ·exact e2 q hq
theorem ext_m {a : Addr} {vs : Array Value} {n : Nat} {pl : Sem Bool} {Q : Value × List Value → Shared → Prop} (ha : h.get? a = some (listOf vs n))
  (q : Q (.builtin "list.extend", [.ref a]) ⟨h, g, d, t, os⟩) : wpAny (model PR w) A (getMethod (.ref a) (Str.ofString "extend") pl) Q E ⟨h, g, d, t, os⟩ :=
 getMethod_builtin (s := ⟨h, g, d, t, os⟩) ⟨_, ha, rfl⟩ F.plainAttrs_list F.slot_list_extend F.type_list_extend (fun b e => by cases e; exact ⟨_, ha, rfl⟩) q
theorem ext_ {a b : Addr} {vs us : List Value} {n m : Nat} {Q : Value → Shared → Prop} (K : W p0 h0 X L p h l (m1 ++ (a, listOf vs.toArray n) :: m2)) (hb : h.get? b = some (listOf us.toArray m)) (hs : vs.length + us.length ≤ 2 ^ 23)
  (q : ∀ h' n', W p0 h0 X L p h' l (m1 ++ (a, listOf (vs ++ us).toArray n') :: m2) → Q .none ⟨h', g, d, t, os⟩) : wpAny (model PR w) A (call (.builtin "list.extend") [.ref a, .ref b]) Q E ⟨h, g, d, t, os⟩ := by
 have ha : h.get? a = some (listOf vs.toArray n) := K.get (by simp)
 have c1 : vs.toArray.size ≤ sizeLine := by rw [List.size_toArray]; show vs.length ≤ 2 ^ 24; exact lnl fun q => lnq [_,_] [aL (tQ (tN 16777216)) Z0,aL (tA Z0 Z1) (tN 8388608)] rfl q hs
 have c2 : vs.toArray.size + us.toArray.size ≤ sizeLine + 1 := by rw [List.size_toArray, List.size_toArray]; show vs.length + us.length ≤ 2 ^ 24 + 1; exact lnl fun q => lnq [_,_] [aL (tA (tQ (tN 16777216)) (tN 1)) (tA Z0 Z1),aL (tA Z0 Z1) (tN 8388608)] rfl q hs
 have c0 : ¬(!vs.toArray.isEmpty && Builtin.List.listTooLong (vs.toArray.size + us.toArray.size)) = true := by
  have : Builtin.List.listTooLong (vs.toArray.size + us.toArray.size) = false := by
   unfold Builtin.List.listTooLong
   rw [List.size_toArray, List.size_toArray]
   exact decide_eq_false (by show ¬ vs.length + us.length > 2 ^ 24; omega)
  rw [this]; simp
 have K' := K.upd (Obj.mapSeq fun xs => xs ++ us.toArray) rfl
 have e : (vs ++ us).toArray = vs.toArray ++ us.toArray := by simp
 exact call_meets (s := ⟨h, g, d, t, os⟩) F.slot_list_extend ⟨_, ha, rfl⟩ F.entry_list_extend (F.args_list_extend_2 _ _) (PySem.AutoSeq1.list_extend_list_list_0 a vs.toArray n b us.toArray m c0 c1 c2) ⟨ha, hb, q _ _ (by rw [e]; exact K')⟩
theorem sl_l {value slice : PySem.Expr} {a : Addr} {vs : List Value} {n b : Nat} {u : Tok} {ops : List Value} {Q : Value → Shared → Prop} (K : W p0 h0 X L p h l mu) (ha : h.get? a = some (listOf vs.toArray n)) (hb : b ≤ vs.length) (hs : vs.length ≤ 2 ^ 24)
  (hsub : subscripted slice false (.ref a) (.ref h.objs.size) = operate ops (getItem (.ref a) (.ref h.objs.size)))
  (q : ∀ c h', h0.get? c = none → W p0 h0 X L p h' l ((c, listOf (vs.take b).toArray 0) :: mu) → Q (.ref c) ⟨h', g, d, t, os⟩) :
  wpAny (model PR w) A (subscriptTail value slice (.ref a) (.ref h.objs.size)) Q E ⟨h.push { cls := .type "slice", data := .fields #[.none, .int (b : Nat) u, .none] }, g, d, t, os⟩ := by
 have K1 := (K.push { cls := .type "slice", data := .fields #[.none, .int (b : Nat) u, .none] } rfl)
 have K2 := K1.push (listOf (vs.take b).toArray 0) rfl
 have K3 := K2.led (mu' := ((h.push { cls := .type "slice", data := .fields #[.none, .int (b : Nat) u, .none] }).objs.size, listOf (vs.take b).toArray 0) :: mu) (fun q hq => by
  rcases List.mem_cons.mp hq with rfl | hq
  ·exact .head _
  ·exact .tail _ (.tail _ hq)) (by
  have := K2.nodup
  rw [List.map_cons, List.map_cons, List.nodup_cons, List.nodup_cons] at this
  rw [List.map_cons, List.nodup_cons]
  exact ⟨fun z => this.1 (List.mem_cons_of_mem _ z), this.2.2⟩)
 refine tail_any (s := ⟨_, g, d, t, os⟩) ⟨_, (Heap.get?_push_of_some _ ha), rfl⟩ slot_list_getitem.lookup (wpAny_getItem_list_slice (items := vs.toArray) ⟨_, Heap.get?_push_of_some _ ha, rfl, _, rfl⟩ (Heap.IsSliceOf.new ..) .none (.int _ _) .none (by simp) ?_ (by rw [List.size_toArray]; exact hs)) hsub
 rw [slicePick_upto vs.toArray b (by simpa using hb)]
 exact q _ _ K1.new_none K3
theorem sl_s {value slice : PySem.Expr} {x : Str} {t1 u : Tok} {j : Int} {ops : List Value} {Q : Value → Shared → Prop} (K : W p0 h0 X L p h l mu) (hs : x.length ≤ 2 ^ 24)
  (hsub : subscripted slice false (.str x t1) (.ref h.objs.size) = operate ops (getItem (.str x t1) (.ref h.objs.size))) (ht : ∀ r, letTemporaryGo value (.str x t1) r = pure ())
  (q : ∀ t' h' k, W p0 h0 X L p h' l mu → Q (.str (Txt.slice x none (some j)) t') ⟨h', g, d, k, os⟩) :
  wpAny (model PR w) A (subscriptTail value slice (.str x t1) (.ref h.objs.size)) Q E ⟨h.push { cls := .type "slice", data := .fields #[.none, .int j u, .none] }, g, d, t, os⟩ :=
 tail_of_ItemOn (SBH.sliceItem_ns (s := ⟨h, g, d, t, os⟩) (P := fun h' => ∀ b o, h.get? b = some o → h'.get? b = some o) (fun _ _ kk b o e => Heap.get?_push_of_some _ (kk b o e)) (fun _ _ e => e) (fun h' t' k kk => q t' h' k (K.grow kk)) hs) hsub ht
end

theorem so_r (P : Params) : setOk (KF P) 309 "number" = true ∧ setOk (KF P) 309 "left" = true ∧ setOk (KF P) 309 "right" = true ∧ setOk (KF P) 309 "level_of" = true ∧ setOk (KF P) 309 "action" = true ∧ setOk (KF P) 309 "line" = true ∧ setOk (KF P) 309 "before" = true :=
 ⟨by kernel_rfl, by kernel_rfl, by kernel_rfl, by kernel_rfl, by kernel_rfl, by kernel_rfl, by kernel_rfl⟩
theorem mk_r (P : Params) : makeOk (KF P) 309 306 = true := by kernel_rfl
section
variable {w : World} {p : PH} {h : Heap}
theorem rule_init {x dx : Addr} {n l v : Int} {t1 t2 t3 : Tok} {rv : Value} (G : Grd w p) (H : Holds p h) (hx : h.get? x = some (instObj 309 dx)) (hd : h.get? dx = some emptyDict) (pd : p dx = none) :
  Fn w 1 (.ref 306) [.ref x, .int n t1, .int l t2, rv, .int v t3] p h [dx] (fun r p' h' => r = .none ∧ (∃ o' vl va, h'.get? dx = some o' ∧ AO 7 o' [(Str.ofString "before", .int 0 vl), (Str.ofString "line", .int 0 va), (Str.ofString "action", .none), (Str.ofString "level_of", .int v t3), (Str.ofString "right", rv), (Str.ofString "left", .int l t2), (Str.ofString "number", .int n t1)]) ∧ ∃ o', h'.get? dx = some o') := by
 intro A gg d1 t os R rm k
 refine hide fun QQ hQQ => ?_
 obtain ⟨s1, s2, s3, s4, s5, s6, s7⟩ := so_r w.params
 refine hQQ ?_
 clear hQQ QQ
 have h299 : h.get? 299 = some ⟨.type "tuple", none, .seq #[.int (-1) 596, .none, .int 0 597, .int 0 598] 0, #[]⟩ := H _ _ (G.k 299 _ (by kernel_rfl))
 refine call_fn (mu := [(dx, emptyDict)]) (fd := fnM 22 0) [(Str.ofString "before", .int 0 598), (Str.ofString "line", .int 0 597), (Str.ofString "action", .none), (Str.ofString "level_of", .int v t3), (Str.ofString "right", rv), (Str.ofString "left", .int l t2), (Str.ofString "number", .int n t1), (Str.ofString "self", .ref x)] rfl (by kernel_rfl) G H rm (by simpa using ⟨hd, pd⟩) (by simp)
  (by exact BindsTo.of_defaults (T := 299) rfl h299 rfl rfl rfl) (by kernel_rfl) (by kernel_rfl) (by rfl) (by rfl) (by rfl) fun L h₁ t₁ K => ?_
 have hxX : x ∉ [(dx, emptyDict)].map (·.1) := by intro q; simp at q; rw [q, hd] at hx; cases hx
 refine xp_ fun Qq1 Jq1 => n_ 6 K rfl (n_ 7 K rfl ?_)
 refine sa (m1 := []) G K (K.keep x _ hxX hx) AO.nil (by decide) s1 fun h2 t2 o2 a2 _ K => ?_
 refine Jq1 _ _ (xp_ fun Qq2 Jq2 => n_ 5 K rfl (n_ 7 K rfl ?_))
 refine sa (m1 := []) G K (K.keep x _ hxX hx) a2 (by decide) s2 fun h3 t3 o3 a3 _ K => ?_
 refine Jq2 _ _ (xp_ fun Qq3 Jq3 => n_ 4 K rfl (n_ 7 K rfl ?_))
 refine sa (m1 := []) G K (K.keep x _ hxX hx) a3 (by decide) s3 fun h4 t4 o4 a4 _ K => ?_
 refine Jq3 _ _ (xp_ fun Qq4 Jq4 => n_ 3 K rfl (n_ 7 K rfl ?_))
 refine sa (m1 := []) G K (K.keep x _ hxX hx) a4 (by decide) s4 fun h5 t5 o5 a5 _ K => ?_
 refine Jq4 _ _ (xp_ fun Qq5 Jq5 => n_ 2 K rfl (n_ 7 K rfl ?_))
 refine sa (m1 := []) G K (K.keep x _ hxX hx) a5 (by decide) s5 fun h6 t6 o6 a6 _ K => ?_
 refine Jq5 _ _ (xp_ fun Qq6 Jq6 => n_ 1 K rfl (n_ 7 K rfl ?_))
 refine sa (m1 := []) G K (K.keep x _ hxX hx) a6 (by decide) s6 fun h7 t7 o7 a7 _ K => ?_
 refine Jq6 _ _ (xp_ fun Qq7 Jq7 => n_ 0 K rfl (n_ 7 K rfl ?_))
 refine sa (m1 := []) G K (K.keep x _ hxX hx) a7 (by decide) s7 fun h8 t8 o8 a8 _ K => ?_
 refine Jq7 _ _ (e_ ?_)
 have odx := K.own (dx, o8) (by simp)
 exact k _ _ _ _ K.gro ⟨rfl, ⟨o8, _, _, odx.1, a8⟩, o8, odx.1⟩
theorem last_terminal_spec {rv : Value} {is : List Nat} {c : Nat} {uc : Tok} (G : Grd w p) (H : Holds p h) (hr : TI p rv (zs is)) :
  Fn w 1 (.ref 402) [rv, .int (c : Nat) uc] p h [] (fun v _ _ => ∃ i : Int, IntV v i) := by
 intro A gg d1 t os R rm k
 refine hide fun QQ hQQ => ?_
 obtain ⟨ta, tvs, tn, rfl, tb, tia, tlen⟩ := hr.len_
 refine hQQ ?_
 clear hQQ QQ
 refine call_fn (mu := []) (fd := fnT 24) [(Str.ofString "terminal_count", .int (c : Nat) uc), (Str.ofString "right", .ref ta)] rfl (by kernel_rfl) G H rm (by simp) (by simp) (BindsTo.of_eq (by rfl)) (by kernel_rfl) (by kernel_rfl) (by rfl) (by rfl) (by rfl) fun L h₁ t₁ K => ?_
 refine xv_ fun Qq1 Jq1 => wpAny_UnaryOp (m_ fun _ _ => i_neg fun _ _ => s_ K fun h2 t2 K => Jq1 _ _ (x_ fun Qq2 Jq2 => wpAny_For (n_ 2 K rfl ?_)))
 refine for_tup (mu := []) (its := []) (vs := tvs) rm.hd rfl (fun i p' l' mu' => A3 (PSub p p') (mu' = []) (X3 fun (r : AL) (j : Int) (u : Tok) => l' = (Str.ofString "found", .int j u) :: (Str.ofString "terminal_count", .int (c : Nat) uc) :: r))
  K ⟨PSub.refl _, rfl, _, _, _, rfl⟩ ?src ?turn ?done
 case src => rintro i p' h' l' mu' its K ⟨ps, _⟩; exact ⟨tn, K.hold _ _ (ps _ _ tb)⟩
 case done =>
  rintro p' h' l' mu' t' K hx6_
  refine hide fun QQ hQQ => ?_
  obtain ⟨ps, rfl, r, j, u, rfl⟩ := hx6_
  refine hQQ ?_
  clear hQQ QQ
  refine Jq2 _ _ (wj_ (n_ 0 K rfl ?_))
  exact k _ _ _ _ K.gro ⟨j, _, rfl⟩
 case turn =>
  rintro i v p' h' l' mu' its t' hv hi K hx11_ Qt Jt
  refine hide fun QQ hQQ => ?_
  obtain ⟨ps, rfl, r, j, u, rfl⟩ := hx11_
  have G1 := G.mono ps
  obtain ⟨n, un, rfl⟩ := tia.all v (List.mem_of_getElem? hv)
  refine hQQ ?_
  clear hQQ QQ
  refine wpAny_assign_Name (s_ K fun h2 t2 K => x_ fun Qq3 Jq3 => wpAny_If (qn_ 0 K rfl (n_ 2 K rfl (i_lt (h_ ?_)))))
  refine PyProof.Rows.split_dec (fun _ => ?_) (fun _ => ?_)
  ·refine xv_ fun Qq4 Jq4 => n_ 0 K rfl (s_ K fun h2 t2 K => Jq4 _ _ (e_ (Jq3 _ _ (e_ (Jt _ _ ?_)))))
   have K := (K.pull (x := Str.ofString "terminal_count") (by exact lkN 3 (by kernel_rfl) rfl)).pull (x := Str.ofString "found") (by exact lkN 1 (by kernel_rfl) rfl)
   exact ⟨_, _, _, _, _, rfl, K, ps, rfl, _, _, _, rfl⟩
  ·refine e_ (Jq3 _ _ (e_ (Jt _ _ ?_)))
   have K := (K.pull (x := Str.ofString "terminal_count") (by exact lkN 2 (by kernel_rfl) rfl)).pull (x := Str.ofString "found") (by exact lkN 2 (by kernel_rfl) rfl)
   exact ⟨_, _, _, _, _, rfl, K, ps, rfl, _, _, _, rfl⟩
theorem number_spec {gr : Addr} {fs : AL} {γ : Gr} {x : Str} {u : Tok} (G : Grd w p) (H : Holds p h) (g : GrAt p gr γ fs) :
  Fn w 1 (.ref 353) [.ref gr, .str x u] p h [] (fun v _ _ => IntV v (if x ∈ γ.names then (γ.names.idxOf x : Nat) else -1)) := by
 intro A gg d1 t os R rm k
 refine hide fun QQ hQQ => ?_
 obtain ⟨vn, hn, a, vs, m, rfl, b, sa⟩ := g.names
 refine hQQ ?_
 clear hQQ QQ
 have sm := g.small
 refine call_fn (mu := []) (fd := fnM 23 4) [(Str.ofString "name", .str x u), (Str.ofString "self", .ref gr)] rfl (by kernel_rfl) G H rm (by simp) (by simp) (BindsTo.of_eq (by rfl)) (by kernel_rfl) (by kernel_rfl) (by rfl) (by rfl) (by rfl) fun L h₁ t₁ K => ?_
 refine wj_ (wpAny_IfExp (qn_ 0 K rfl (tn_ 1 K rfl ?_)))
 refine ga G K.hold (g.ob.mono K.hold) (ao_names _) hn rfl fun _ => ?_
 skip
 refine in_ls (K.hold _ _ b) sa ?_
 refine h_ ?_
 refine PyProof.Rows.split_dec (fun hx => ?_) (fun hx => ?_)
 ·refine d_ (tn_ 1 K rfl ?_)
  refine ga G K.hold (g.ob.mono K.hold) (ao_names _) hn rfl fun _ => ?_
  refine idx_m (K.hold _ _ b) ?_
  refine l_ (arnz_ 0 K rfl ?_)
  refine idx_ (K.hold _ _ b) sa hx sm.2.2 fun _ _ => ?_
  exact k _ _ _ _ K.gro ⟨_, by rw [if_pos hx]⟩
 ·refine wpAny_UnaryOp (m_ fun _ _ => i_neg fun _ _ => ?_)
  exact k _ _ _ _ K.gro ⟨_, by rw [if_neg hx]⟩
end

theorem offsF_snoc (r : Nat × List Nat) : ∀ (l : List (Nat × List Nat)) (o i : Nat), offsF o (l ++ [r]) = offsF o l ++ [o + (ownF i l).length]
 | [], o, i => by simp [offsF, ownF]
 | a :: l, o, i => by
  show o :: offsF (o + a.2.length + 1) (l ++ [r]) = _
  rw [offsF_snoc r l _ (i + 1)]
  simp only [offsF, ownF, List.length_append, List.length_replicate, List.cons_append]
  rw [show o + a.2.length + 1 + (ownF (i + 1) l).length = o + (a.2.length + 1 + (ownF (i + 1) l).length) by exact lne (fun q => lnq [_,_,_] [aL (tA (tA Z0 (tA (tQ Z1) Z2)) (tN 1)) (tA (tQ (tA Z0 Z1)) Z2)] rfl q) fun q => lnq [_,_,_] [aL (tA (tA (tQ (tA Z0 Z1)) Z2) (tN 1)) (tA Z0 (tA (tQ Z1) Z2))] rfl q]
theorem ownF_snoc (r : Nat × List Nat) : ∀ (l : List (Nat × List Nat)) (i : Nat), ownF i (l ++ [r]) = ownF i l ++ List.replicate (r.2.length + 1) (i + l.length)
 | [], i => by simp [ownF]
 | a :: l, i => by
  show List.replicate (a.2.length + 1) i ++ ownF (i + 1) (l ++ [r]) = _
  rw [ownF_snoc r l (i + 1)]
  simp only [ownF, List.append_assoc, List.length_cons]
  rw [show i + 1 + l.length = i + (l.length + 1) by exact lne (fun q => lnq [_,_] [aL (tA (tA Z0 (tQ Z1)) (tN 1)) (tA (tQ Z0) Z1)] rfl q) fun q => lnq [_,_] [aL (tA (tA (tQ Z0) Z1) (tN 1)) (tA Z0 (tQ Z1))] rfl q]
theorem ints_repl (n : Nat) (m : Nat) (u : Tok) : IntsAre (List.replicate n (Value.int (m : Nat) u)) (zs (List.replicate n m)) := by
 induction n with
 | zero => exact .nil
 | succ n ih => rw [List.replicate_succ, List.replicate_succ]; exact .cons _ _ ih
theorem zs_append (l m : List Nat) : zs (l ++ m) = zs l ++ zs m := by simp [zs]
theorem so_g (P : Params) : setOk (KF P) 391 "names" = true ∧ setOk (KF P) 391 "terminal_count" = true ∧ setOk (KF P) 391 "rules" = true ∧ setOk (KF P) 391 "levels" = true ∧ setOk (KF P) 391 "expect" = true ∧ setOk (KF P) 391 "start" = true ∧ setOk (KF P) 391 "by_left" = true ∧ setOk (KF P) 391 "offsets" = true ∧ setOk (KF P) 391 "owners" = true ∧ setOk (KF P) 391 "item_count" = true :=
 ⟨by kernel_rfl, by kernel_rfl, by kernel_rfl, by kernel_rfl, by kernel_rfl, by kernel_rfl, by kernel_rfl, by kernel_rfl, by kernel_rfl, by kernel_rfl⟩
theorem mk_g (P : Params) : makeOk (KF P) 391 325 = true := by kernel_rfl
theorem W.perm {p0 p : PH} {h0 h : Heap} {X : List Addr} {L : Addr} {l : AL} {mu mu' : Led} (K : W p0 h0 X L p h l mu) (hp : mu.Perm mu') : W p0 h0 X L p h l mu' :=
 K.led (fun _ hq => hp.mem_iff.mpr hq) ((hp.map _).nodup_iff.mp K.nodup)
noncomputable abbrev BL := List (Addr × List Value × Nat)
noncomputable def blL (e : Addr × List Value × Nat) : Addr × Obj := (e.1, listOf e.2.1.toArray e.2.2)
section
variable {w : World} {p : PH} {h : Heap}
set_option maxHeartbeats 2000000 in
theorem grammar_init {x dx lv : Addr} {γ : Gr} {tc st : Int} {u1 u2 : Tok} {nv rv : Value} (G : Grd w p) (H : Holds p h) (hx : h.get? x = some (instObj 391 dx)) (hd : h.get? dx = some emptyDict) (pd : p dx = none)
  (ln : LS p nv γ.names) (lr : LO p rv γ.rules.length (fun i r => RuleAt p i (γ.rules.getD i (0, [])) r)) (htc : tc = (γ.tc : Nat)) (ok : GrOk γ) :
  Fn w 1 (.ref 325) [.ref x, nv, .int tc u1, rv, .ref lv, .none, .int st u2] p h [dx] (fun r p' h' => r = .none ∧ (∃ o' fs, h'.get? dx = some o' ∧ AO 10 o' fs ∧ ∀ q, PSub p' q → q x = some (instObj 391 dx) → q dx = some o' → GrAt q x γ fs) ∧ ∃ o', h'.get? dx = some o') := by
 intro A gg d1 t os R rm k
 refine hide fun QQ hQQ => ?_
 obtain ⟨s1, s2, s3, s4, s5, s6, s7, s8, s9, s10⟩ := so_g w.params
 refine hQQ ?_
 clear hQQ QQ
 have ol := ok.2.2.1
 have nl24 := ok.2.2.2.1
 have rl24 := ok.2.2.2.2.1
 refine call_fn (mu := [(dx, emptyDict)]) (fd := fnM 23 0) [(Str.ofString "start", .int st u2), (Str.ofString "expect", .none), (Str.ofString "levels", .ref lv), (Str.ofString "rules", rv), (Str.ofString "terminal_count", .int tc u1), (Str.ofString "names", nv), (Str.ofString "self", .ref x)] rfl (by kernel_rfl) G H rm (by simpa using ⟨hd, pd⟩) (by simp) (BindsTo.of_eq (by rfl)) (by kernel_rfl) (by kernel_rfl) (by rfl) (by rfl) (by rfl) fun L h₁ t₁ K => ?_
 have hxX : x ∉ [(dx, emptyDict)].map (·.1) := by intro q; simp at q; rw [q, hd] at hx; cases hx
 refine xp_ fun Qq1 Jq1 => n_ 5 K rfl (n_ 6 K rfl ?_)
 refine sa (m1 := []) G K (K.keep x _ hxX hx) AO.nil (by decide) s1 fun h2 t2 o2 a2 _ K => ?_
 refine Jq1 _ _ (xp_ fun Qq2 Jq2 => n_ 4 K rfl (n_ 6 K rfl ?_))
 refine sa (m1 := []) G K (K.keep x _ hxX hx) a2 (by decide) s2 fun h3 t3 o3 a3 _ K => ?_
 refine Jq2 _ _ (xp_ fun Qq3 Jq3 => n_ 3 K rfl (n_ 6 K rfl ?_))
 refine sa (m1 := []) G K (K.keep x _ hxX hx) a3 (by decide) s3 fun h4 t4 o4 a4 _ K => ?_
 refine Jq3 _ _ (xp_ fun Qq4 Jq4 => n_ 2 K rfl (n_ 6 K rfl ?_))
 refine sa (m1 := []) G K (K.keep x _ hxX hx) a4 (by decide) s4 fun h5 t5 o5 a5 _ K => ?_
 refine Jq4 _ _ (xp_ fun Qq5 Jq5 => n_ 1 K rfl (n_ 6 K rfl ?_))
 refine sa (m1 := []) G K (K.keep x _ hxX hx) a5 (by decide) s5 fun h6 t6 o6 a6 _ K => ?_
 refine Jq5 _ _ (xp_ fun Qq6 Jq6 => n_ 0 K rfl (n_ 6 K rfl ?_))
 refine sa (m1 := []) G K (K.keep x _ hxX hx) a6 (by decide) s6 fun h7 t7 o7 a7 _ K => ?_
 refine Jq6 _ _ (xp_ fun Qq7 Jq7 => ?_)
 refine comp_eval (cl := []) (by rfl) (fun _ => by rfl) (by rfl) (by decide) ?_
 refine tn_ 6 K rfl ?_
 refine ga G K.hold (Ob.of (K.keep x _ hxX hx) (K.get (.head _)) a7) (ao_names _) (by exact lkN 5 (by kernel_rfl) rfl) ln.handed fun _ => ?_
 have ln0 := ln
 refine hide fun QQ hQQ => ?_
 obtain ⟨na, nvs, nn, rfl, nb, nsa⟩ := ln
 refine hQQ ?_
 clear hQQ QQ
 have nlen := strs_len nsa
 refine cl_list (mu := []) (its := [(dx, o7)]) (vs := nvs) (.inl rfl) (.inl rfl) (K.hold _ _ nb) (fun _ _ _ => turn1 ..) (by decide) (by rfl) rm.hd
  (fun D i p' l' mu' => (p' = p) ∧ (X2 fun (as : List Addr) (c : Nat) => A3 (mu' = (D, listOf (as.map Value.ref).toArray c) :: as.map (fun a => (a, listOf ([] : List Value).toArray 0))) (as.length = i) (∀ a ∈ as, h.get? a = none))) K (fun D _ => ⟨rfl, [], 0, rfl, rfl, by simp⟩) ?src ?turn ?done
 case src => rintro D C i p' h' lc mu' its K ⟨rfl, _⟩; exact ⟨nn, K.hold _ _ nb⟩
 case turn =>
  rintro D C i v p' h' lc mu' its t' hv hi K hx13_ Qt Jt
  refine hide fun QQ hQQ => ?_
  obtain ⟨rfl, as, c, rfl, al, af⟩ := hx13_
  refine hQQ ?_
  clear hQQ QQ
  refine wpAny_assign_Name (s_ K fun h2 t2 K => ?_)
  refine tests0 ?_
  rw [if_pos rfl]
  refine emit_ ?_
  refine List_ (z_ ?_)
  refine nl K (by decide) fun b h8 fb K => ?_
  refine app_ (m1 := [(b, listOf ([] : List Value).toArray 0)]) K (by show (as.map Value.ref).length ≤ 2 ^ 24; rw [List.length_map]; exact lnl fun q => lnq [_,_,_,_] [aL (tQ (tN 16777216)) Z0,aE Z0 Z1,aL (tQ Z1) Z2,aE Z2 Z3,aL Z3 (tN 24)] rfl q al hi nlen nl24) fun h9 n9 K => ?_
  have e9 : ((D, listOf ((as ++ [b]).map Value.ref).toArray n9) :: (as ++ [b]).map (fun a => (a, listOf ([] : List Value).toArray 0))) ++ its = (D, listOf (as.map Value.ref ++ [Value.ref b]).toArray n9) :: (as.map (fun a => (a, listOf ([] : List Value).toArray 0)) ++ (b, listOf ([] : List Value).toArray 0) :: its) := by simp
  have K := K.perm (mu' := ((D, listOf ((as ++ [b]).map Value.ref).toArray n9) :: (as ++ [b]).map (fun a => (a, listOf ([] : List Value).toArray 0))) ++ its) (by
   rw [e9]
   exact (List.Perm.swap _ _ _).trans (List.Perm.cons _ List.perm_middle.symm))
  exact Jt _ ⟨_, _, _, _, _, rfl, K, rfl, as ++ [b], n9, rfl, by simp [al], fun a ha => by
   rcases List.mem_append.mp ha with z | z
   ·exact af a z
   ·rw [List.mem_singleton] at z; subst z; exact fb⟩
 case done =>
  rintro D C oC p' h' lc mu' t' K nC hC hx11_
  refine hide fun QQ hQQ => ?_
  obtain ⟨rfl, as, c, rfl, al, af⟩ := hx11_
  refine hQQ ?_
  clear hQQ QQ
  refine comp_val K nC hC fun h8 K => ?_
  have hD : h.get? D = none := (K.own (D, listOf (as.map Value.ref).toArray c) (by simp)).2.2.2.resolve_left (fun z => by
   have z : D = dx := by simpa using z
   have nd := K.nodup
   simp [z] at nd)
  refine hide fun QQ hQQ => ?_
  obtain ⟨K, psD, hfD⟩ := K.fix hD
  refine hQQ ?_
  clear hQQ QQ
  have G := G.mono psD
  have ln0 := ln0.mono psD
  have al' : as.length = γ.names.length := by exact lne (fun q => lnq [_,_,_] [aL (tQ Z0) Z1,aE Z1 Z2,aE Z2 Z0] rfl q al nlen) fun q => lnq [_,_,_] [aL (tQ Z0) Z1,aG Z0 Z2,aG Z2 Z1] rfl q al nlen
  have K := K.perm (mu' := (dx, o7) :: (as.map (fun a => (a, listOf ([] : List Value).toArray 0)))) (List.perm_append_comm (l₁ := as.map (fun a => (a, listOf ([] : List Value).toArray 0))) (l₂ := [(dx, o7)]))
  refine n_ 6 K rfl ?_
  refine sa (m1 := []) G K (K.keep x _ hxX hx) a7 (by decide) s7 fun h9 t9 o9 a9 _ K => ?_
  refine Jq7 _ _ (xp_ fun Qq8 Jq8 => List_ (z_ ?_))
  refine nl K (by decide) fun of h10 fof K => ?_
  refine n_ 6 K rfl ?_
  refine sa (m1 := [(of, listOf ([] : List Value).toArray 0)]) G K (K.keep x _ hxX hx) a9 (by decide) s8 fun h11 t11 o11 a11 _ K => ?_
  refine Jq8 _ _ (xp_ fun Qq9 Jq9 => List_ (z_ ?_))
  refine nl K (by decide) fun ow h12 fow K => ?_
  refine n_ 6 K rfl ?_
  refine sa (m1 := [(ow, listOf ([] : List Value).toArray 0), (of, listOf ([] : List Value).toArray 0)]) G K (K.keep x _ hxX hx) a11 (by decide) s9 fun h13 t13 o13 a13 _ K => ?_
  refine Jq9 _ _ (x_ fun Qq10 Jq10 => wpAny_For (tn_ 6 K rfl ?_))
  have lr0 := lr.mono (P' := fun i r => RuleAt (p'.add D (listOf (as.map Value.ref).toArray c)) i (γ.rules.getD i (0, [])) r) psD fun _ _ z => z.mono psD
  refine ga G K.hold (Ob.of (K.keep x _ hxX hx) (K.get (.tail _ (.tail _ (.head _)))) a13) (ao_rules _) (by exact lkN 6 (by kernel_rfl) rfl) lr0.handed fun _ => ?_
  have lr1 := lr0
  refine hide fun QQ hQQ => ?_
  obtain ⟨ra, rvs, rn, rfl, rb, rlen, rall⟩ := lr0
  refine hQQ ?_
  clear hQQ QQ
  generalize hpD : p'.add D (listOf (as.map Value.ref).toArray c) = pD at *
  refine for_list (mu := (ow, listOf ([] : List Value).toArray 0) :: (of, listOf ([] : List Value).toArray 0) :: (dx, o13) :: (as.map fun a => (a, ([] : List Value), 0)).map blL) (its := []) (vs := rvs) rm.hd (.inl rfl) (.inl rfl) (fun i q l' mu' => (PSub pD q) ∧ (X6 fun (r : AL) (vow vof : List Value) (n1 n2 : Nat) (bl : BL) => A6 (l' = (Str.ofString "self", .ref x) :: r) (mu' = (ow, listOf vow.toArray n1) :: (of, listOf vof.toArray n2) :: (dx, o13) :: bl.map blL) (IntsAre vof (zs (offsF 0 (γ.rules.take i)))) (IntsAre vow (zs (ownF 0 (γ.rules.take i)))) (bl.map (·.1) = as) (∀ j e, bl[j]? = some e → IntsAre e.2.1 (zs ((List.range i).filter fun k => γ.left k == j)))))
   (by
    have K := K.pull (x := Str.ofString "self") (by exact lkN 6 (by kernel_rfl) rfl)
    have e : ((ow, listOf ([] : List Value).toArray 0) :: (of, listOf ([] : List Value).toArray 0) :: (dx, o13) :: (as.map fun a => (a, ([] : List Value), 0)).map blL) ++ [] = [(ow, listOf ([] : List Value).toArray 0), (of, listOf ([] : List Value).toArray 0)] ++ (dx, o13) :: as.map (fun a => (a, listOf ([] : List Value).toArray 0)) := by
     simp only [List.map_map, List.append_nil, List.cons_append, List.nil_append]; rfl
    rw [e]; exact K)
   ⟨PSub.refl _, _, [], [], 0, 0, _, rfl, rfl, .nil, .nil, (by rw [List.map_map]; exact List.map_id as), fun j e he => by
    rw [List.getElem?_map] at he
    refine hide fun QQ hQQ => ?_
    obtain ⟨a, _, rfl⟩ := Option.map_eq_some_iff.mp he
    refine hQQ ?_
    clear hQQ QQ
    exact .nil⟩ ?src ?turn ?done
  case src => rintro i q h' l' mu' its K ⟨ps, _⟩; exact ⟨rn, K.hold _ _ (ps _ _ rb)⟩
  case turn =>
   rintro i v q h' l' mu' its t' hv hi K hx11_ Qt Jt
   refine hide fun QQ hQQ => ?_
   obtain ⟨ps, r, vow, vof, n1, n2, bl, rfl, rfl, iof, iow, ba, bb⟩ := hx11_
   have G1 := G.mono ps
   have hir : i < γ.rules.length := by exact lnt fun q => lnq [_,_,_] [aL Z0 Z1,aL (tQ Z1) Z2,aE Z2 Z0] rfl q hi rlen
   obtain ⟨y, fr, rfl, oy, ⟨tk, hnum⟩, ⟨tl, hl⟩, vR, hR, lR⟩ := (rall i v hv).mono ps
   have lfd : (γ.rules.getD i (0, [])).1 = γ.left i := rfl
   have rtd : (γ.rules.getD i (0, [])).2 = γ.right i := rfl
   rw [lfd] at hl
   rw [rtd] at lR
   obtain ⟨ta, tvs, tn, rfl, tb, tia, tlen⟩ := lR.len_
   refine hQQ ?_
   clear hQQ QQ
   have tl' : tvs.length = (γ.right i).length := by simpa [zs] using tlen
   have r1000 := ok.1 i hir
   have hll := ok.2.2.2.2.2 i hir
   have bll : bl.length = γ.names.length := by
    have := congrArg List.length ba
    rw [List.length_map] at this; exact lne (fun q => lnq [_,_,_] [aL (tQ Z0) Z1,aE Z1 Z2,aE Z2 Z0] rfl q this al') fun q => lnq [_,_,_] [aL (tQ Z0) Z1,aG Z0 Z2,aG Z2 Z1] rfl q this al'
   have hjb : γ.left i < bl.length := by exact lnt fun q => lnq [_,_,_] [aL Z0 Z1,aG Z0 Z2,aL (tQ Z1) Z2] rfl q bll hll
   have hsp : bl = bl.take (γ.left i) ++ bl[γ.left i] :: bl.drop (γ.left i + 1) := by
    rw [← List.drop_eq_getElem_cons hjb, List.take_append_drop]
   have hbe : bl[γ.left i]? = some bl[γ.left i] := List.getElem?_eq_getElem hjb
   have hae : as[γ.left i]? = some (bl[γ.left i]).1 := by rw [← ba, List.getElem?_map, hbe]; rfl
   generalize bl[γ.left i] = e at hsp hbe hae
   refine hide fun QQ hQQ => ?_
   obtain ⟨aj, vj, nj⟩ := e
   refine hQQ ?_
   clear hQQ QQ
   have ivj := bb _ _ hbe
   simp only at ivj hae
   have lvj : vj.length ≤ i := by
    rw [ivj.length]
    have := List.length_filter_le (fun k => γ.left k == γ.left i) (List.range i)
    simpa [zs] using this
   have lvo : vof.length ≤ 24 := by
    rw [iof.length]
    have : ∀ (l : List (Nat × List Nat)) (o : Nat), (offsF o l).length = l.length := fun l => by
     induction l with
     | nil => intro o; rfl
     | cons a l ih => intro o; simp [offsF, ih]
    simp only [zs, List.length_map, this, List.length_take]; exact lnl fun q => lnq [_,_,_] [aL (tQ (tN 24)) Z0,aL Z0 Z1,aL (tQ Z1) Z2,aL Z2 (tN 24)] rfl q (Nat.min_le_left _ _) hir rl24
   have hsr : γ.rules.take (i + 1) = γ.rules.take i ++ [(γ.left i, γ.right i)] := by
    rw [List.take_add_one, List.getElem?_eq_getElem hir]
    have : γ.rules[i] = (γ.left i, γ.right i) := by
     unfold Gr.left Gr.right
     rw [List.getD_eq_getElem?_getD, List.getElem?_eq_getElem hir]; rfl
    rw [this]; rfl
   have lti : (γ.rules.take i).length = i := by rw [List.length_take]; exact lne (fun q => lnq [_,_] [aL (tQ Z0) Z1,aL Z1 Z0] rfl q (Nat.min_le_left _ _)) fun q => lnq [_,_] [aG Z0 Z1,aL (tQ Z0) Z1] rfl (Nat.min_eq_left (lnl fun q => lnq [_,_] [aL (tQ Z0) Z1,aL (tQ Z1) Z0] rfl q hir)) q
   have lvw : vow.length + (γ.right i).length + 1 ≤ 24 := by
    have e1 : vow.length = (ownF 0 (γ.rules.take i)).length := by rw [iow.length]; simp [zs]
    have e2 : ∀ (l m : List (Nat × List Nat)) (j : Nat), (ownF j l).length ≤ (ownF j (l ++ m)).length := fun l m => by
     induction l with
     | nil => intro j; exact Nat.zero_le _
     | cons a l ih => intro j; simp only [ownF, List.cons_append, List.length_append]; have := ih (j + 1); exact lnl fun q => lnq [_,_,_] [aL (tQ (tA Z0 Z1)) (tA Z0 Z2),aL Z2 Z1] rfl q this
    have e3 := e2 (γ.rules.take (i + 1)) (γ.rules.drop (i + 1)) 0
    rw [List.take_append_drop] at e3
    have e4 : (ownF 0 (γ.rules.take (i + 1))).length = (ownF 0 (γ.rules.take i)).length + ((γ.right i).length + 1) := by
     rw [hsr, ownF_snoc, List.length_append, List.length_replicate]
    have e5 : (ownF 0 γ.rules).length = γ.own.length := rfl
    exact lnl fun q => lnq [_,_,_,_,_,_] [aL (tQ (tN 24)) (tQ (tA Z0 Z1)),aE Z2 Z3,aG Z4 (tA Z5 (tQ Z1)),aL Z4 Z2,aE Z0 Z5,aL Z3 (tN 24)] rfl q e5 e4 e3 e1 ol
   refine wpAny_assign_Name (s_ K fun h2 t2 K => x_ fun Qq11 Jq11 => wpAny_Expr_any (d_ (u_ (tn_ 1 K rfl ?_))))
   refine ga G1 K.hold (Ob.of (K.keep x _ hxX hx) (K.get (o := o13) (by simp)) a13) (ao_byl _) (by exact lkN 2 (by kernel_rfl) rfl) rfl fun _ => ?_
   refine tn_ 0 K rfl ?_
   refine ga G1 K.hold (oy.mono K.hold) (ao_left _) hl rfl fun _ => ?_
   skip
   refine sub_list (K.hold _ _ (ps _ _ hfD)) (by exact Int.natCast_nonneg _) (by exact Int.ofNat_lt.mpr (lnt fun q => lnq [_,_] [aL (tN 9223372036854775808) Z0,aL (tQ Z0) Z1,aL Z1 (tN 24)] rfl q hll nl24)) (v := .ref aj) (by simp [hae]) (by rfl) ?_
   have eL : (ow, listOf vow.toArray n1) :: (of, listOf vof.toArray n2) :: (dx, o13) :: bl.map blL ++ its = ((ow, listOf vow.toArray n1) :: (of, listOf vof.toArray n2) :: (dx, o13) :: (bl.take (γ.left i)).map blL) ++ (aj, listOf vj.toArray nj) :: ((bl.drop (γ.left i + 1)).map blL ++ its) := by
    conv => lhs; rw [hsp]
    simp [blL]
   rw [eL] at K
   refine app_m (K.get (o := listOf vj.toArray nj) (by simp)) ?_
   refine l_ (ar_ (tn_ 0 K rfl ?_))
   refine ga G1 K.hold (oy.mono K.hold) (ao_number _) hnum rfl fun _ => ?_
   refine z_ ?_
   refine app_ (m1 := (ow, listOf vow.toArray n1) :: (of, listOf vof.toArray n2) :: (dx, o13) :: (bl.take (γ.left i)).map blL) K (by show vj.length ≤ 2 ^ 24; exact lnl fun q => lnq [_,_,_] [aL (tQ (tN 16777216)) Z0,aL Z0 Z1,aL (tQ Z1) Z2,aL Z2 (tN 24)] rfl q lvj hir rl24) fun h15 n15 K => ?_
   refine Jq11 _ _ (x_ fun Qq12 Jq12 => wpAny_Expr_any (d_ (tn_ 1 K rfl ?_)))
   refine ga G1 K.hold (Ob.of (K.keep x _ hxX hx) (K.get (o := o13) (by simp)) a13) (ao_offs _) (by exact lkN 1 (by kernel_rfl) rfl) rfl fun _ => ?_
   refine app_m (K.get (.tail _ (.head _))) ?_
   refine l_ (ar_ (kb_ (gB_len _) G1 K.hold (ar_ (tn_ 1 K rfl ?_))))
   refine ga G1 K.hold (Ob.of (K.keep x _ hxX hx) (K.get (o := o13) (by simp)) a13) (ao_own _) (by exact lkN 0 (by kernel_rfl) rfl) rfl fun _ => ?_
   refine z_ ?_
   refine len_l (K.get (.head _)) (by simp; exact Int.ofNat_lt.mpr (lnt fun q => lnq [_,_] [aL (tN 9223372036854775808) Z0,aL (tQ (tA Z0 Z1)) (tN 24)] rfl q lvw)) fun uo _ => ?_
   refine z_ ?_
   refine app_ (m1 := [(ow, listOf vow.toArray n1)]) (m2 := (dx, o13) :: ((bl.take (γ.left i)).map blL ++ (aj, listOf (vj ++ [Value.int (i : Nat) tk]).toArray n15) :: ((bl.drop (γ.left i + 1)).map blL ++ its))) K (by show vof.length ≤ 2 ^ 24; exact lnl fun q => lnq [_] [aL (tQ (tN 16777216)) Z0,aL Z0 (tN 24)] rfl q lvo) fun h16 n16 K => ?_
   refine Jq12 _ _ (x_ fun Qq13 Jq13 => wpAny_Expr_any (d_ (tn_ 1 K rfl ?_)))
   refine ga G1 K.hold (Ob.of (K.keep x _ hxX hx) (K.get (o := o13) (by simp)) a13) (ao_own _) (by exact lkN 0 (by kernel_rfl) rfl) rfl fun _ => ?_
   refine ext_m (K.get (o := listOf vow.toArray n1) (by simp)) ?_
   refine l_ (ar_ (o_ (List_ (r_ (tn_ 0 K rfl ?_)))))
   refine ga G1 K.hold (oy.mono K.hold) (ao_number _) hnum rfl fun _ => ?_
   refine z_ ?_
   refine nl K (by show 1 ≤ 2 ^ 24; decide) fun z1 h17 fz1 K => ?_
   refine o_ (kb_ (gB_len _) G1 K.hold (ar_ (tn_ 0 K rfl ?_)))
   refine ga G1 K.hold (oy.mono K.hold) (ao_right _) hR rfl fun _ => ?_
   refine z_ ?_
   refine len_t (K.hold _ _ tb) (by simp; exact Int.ofNat_lt.mpr (lnt fun q => lnq [_,_,_] [aL (tN 9223372036854775808) Z0,aL (tQ (tA Z1 Z2)) (tN 24),aE Z0 Z2] rfl q lvw tl')) fun _ _ => ?_
   refine m_ fun _ _ => i_add fun _ _ => ?_
   have elen : ((tvs.toArray.size : Nat) : Int) + 1 = (((γ.right i).length + 1 : Nat) : Int) := by rw [List.size_toArray]; exact congrArg Int.ofNat (lne (fun q => lnq [_,_] [aL (tA (tQ Z0) (tN 1)) (tQ Z1),aE Z1 Z0] rfl q tl') fun q => lnq [_,_] [aL (tA (tQ Z0) (tN 1)) (tQ Z1),aG Z0 Z1] rfl q tl')
   rw [elen]
   refine mul_l K (K.get (.head _)) (by exact lnl fun q => lnq [_,_] [aL (tQ (tN 16777216)) (tQ Z0),aL (tQ (tA Z1 Z0)) (tN 24)] rfl q lvw) fun z2 h18 fz2 K => ?_
   refine z_ ?_
   refine ext_ (m1 := [(z2, listOf (List.replicate ((γ.right i).length + 1) (Value.int (i : Nat) tk)).toArray 0), (z1, listOf [Value.int (i : Nat) tk].toArray 0)]) (m2 := (of, listOf (vof ++ [Value.int (vow.toArray.size : Nat) uo]).toArray n16) :: (dx, o13) :: ((bl.take (γ.left i)).map blL ++ (aj, listOf (vj ++ [Value.int (i : Nat) tk]).toArray n15) :: ((bl.drop (γ.left i + 1)).map blL ++ its))) K (K.get (.head _)) (by rw [List.length_replicate]; exact lnl fun q => lnq [_,_] [aL (tQ (tN 8388608)) (tA Z0 (tQ Z1)),aL (tQ (tA Z0 Z1)) (tN 24)] rfl q lvw) fun h19 n19 K => ?_
   refine Jq13 _ _ (e_ (Jt _ _ ?_))
   have K := K.pull (x := Str.ofString "self") (by exact lkN 1 (by kernel_rfl) rfl)
   have hset : ∀ (e' : Addr × List Value × Nat), bl.set (γ.left i) e' = bl.take (γ.left i) ++ e' :: bl.drop (γ.left i + 1) := fun e' => by
    rw [List.set_eq_take_append_cons_drop, if_pos hjb]
   have eS : ((ow, listOf (vow ++ List.replicate ((γ.right i).length + 1) (Value.int (i : Nat) tk)).toArray n19) :: (of, listOf (vof ++ [Value.int (vow.toArray.size : Nat) uo]).toArray n16) :: (dx, o13) :: (bl.set (γ.left i) (aj, vj ++ [Value.int (i : Nat) tk], n15)).map blL) ++ its = (ow, listOf (vow ++ List.replicate ((γ.right i).length + 1) (Value.int (i : Nat) tk)).toArray n19) :: (of, listOf (vof ++ [Value.int (vow.toArray.size : Nat) uo]).toArray n16) :: (dx, o13) :: ((bl.take (γ.left i)).map blL ++ (aj, listOf (vj ++ [Value.int (i : Nat) tk]).toArray n15) :: ((bl.drop (γ.left i + 1)).map blL ++ its)) := by
    rw [hset]; simp [blL]
   have K := K.led (mu' := ((ow, listOf (vow ++ List.replicate ((γ.right i).length + 1) (Value.int (i : Nat) tk)).toArray n19) :: (of, listOf (vof ++ [Value.int (vow.toArray.size : Nat) uo]).toArray n16) :: (dx, o13) :: (bl.set (γ.left i) (aj, vj ++ [Value.int (i : Nat) tk], n15)).map blL) ++ its) (fun z hz => by
    rw [eS] at hz
    exact .tail _ (.tail _ hz)) (by
    have := K.nodup
    rw [eS]
    rw [List.cons_append, List.cons_append, List.nil_append, List.map_cons, List.map_cons, List.nodup_cons, List.nodup_cons] at this
    exact this.2.2)
   refine ⟨_, _, _, _, _, rfl, K, ps, _, _, _, n19, n16, _, rfl, rfl, ?_, ?_, ?_, fun j e he => ?_⟩
   ·rw [hsr, offsF_snoc _ _ _ 0, zs_append]
    refine ints_append iof ?_
    have e1 : vow.toArray.size = 0 + (ownF 0 (γ.rules.take i)).length := by
     rw [List.size_toArray, iow.length]; simp [zs]
    rw [e1]
    exact .cons _ _ .nil
   ·rw [hsr, ownF_snoc, zs_append, lti, Nat.zero_add]
    exact ints_append iow (ints_repl _ _ _)
   ·rw [List.map_set, ba]
    show as.set (γ.left i) aj = as
    refine List.ext_getElem? fun k => ?_
    rw [List.getElem?_set]
    split
    ·rename_i ek
     subst ek
     rw [if_pos (by have := congrArg List.length ba; rw [List.length_map] at this; exact lnt fun q => lnq [_,_,_] [aL Z0 Z1,aE Z2 Z0,aL (tQ Z1) Z2] rfl q this hjb), hae]
    ·rfl
   ·rw [List.getElem?_set] at he
    have hf : ∀ j, (List.range (i + 1)).filter (fun k => γ.left k == j) = (List.range i).filter (fun k => γ.left k == j) ++ if γ.left i = j then [i] else [] := fun j => by
     rw [List.range_succ, List.filter_append]
     congr 1
     by_cases e : γ.left i = j
     ·rw [if_pos e, List.filter_cons, if_pos (by simpa using e)]; rfl
     ·rw [if_neg e, List.filter_cons, if_neg (by simpa using e)]; rfl
    rw [hf]
    split at he
    ·rename_i ej
     subst ej
     injection he with he; subst he
     rw [if_pos rfl, zs_append]
     exact ints_append ivj (.cons _ _ .nil)
    ·rename_i ej
     rw [if_neg ej, List.append_nil]
     exact bb j e he
  case done =>
   rintro q h' l' mu' t' K hx6_
   refine hide fun QQ hQQ => ?_
   obtain ⟨ps, r, vow, vof, n1, n2, bl, rfl, rfl, iof, iow, ba, bb⟩ := hx6_
   refine hQQ ?_
   clear hQQ QQ
   have G1 := G.mono ps
   have etk : γ.rules.take rvs.length = γ.rules := List.take_of_length_le (by exact lnl fun q => lnq [_,_] [aL (tQ Z0) Z1,aG Z0 Z1] rfl q rlen)
   rw [etk] at iof iow
   rw [rlen] at bb
   have low : vow.length ≤ 24 := by
    rw [iow.length]
    have : (ownF 0 γ.rules).length = γ.own.length := rfl
    simp only [zs, List.length_map]; exact lnl fun q => lnq [_,_] [aL (tQ (tN 24)) Z0,aE Z0 Z1,aL Z1 (tN 24)] rfl q this ol
   refine Jq10 _ _ (xp_ fun Qq11 Jq11 => kb_ (gB_len _) G1 K.hold (ar_ (tn_ 0 K rfl ?_)))
   refine ga G1 K.hold (Ob.of (K.keep x _ hxX hx) (K.get (o := o13) (by simp)) a13) (ao_own _) (by exact lkN 0 (by kernel_rfl) rfl) rfl fun _ => ?_
   refine z_ ?_
   refine len_l (K.get (.head _)) (by simp; exact Int.ofNat_lt.mpr (lnt fun q => lnq [_] [aL (tN 9223372036854775808) Z0,aL Z0 (tN 24)] rfl q low)) fun _ _ => ?_
   refine n_ 0 K rfl ?_
   refine sa (m1 := [(ow, listOf vow.toArray n1), (of, listOf vof.toArray n2)]) G1 K (K.keep x _ hxX hx) a13 (by decide) s10 fun h20 t20 o20 a20 _ K => ?_
   refine Jq11 _ _ (e_ ?_)
   have K := K.perm (mu' := ((ow, listOf vow.toArray n1) :: (of, listOf vof.toArray n2) :: bl.map blL) ++ [(dx, o20)]) (by
    have e : [(ow, listOf vow.toArray n1), (of, listOf vof.toArray n2)] ++ (dx, o20) :: List.append (bl.map blL) [] = (ow, listOf vow.toArray n1) :: (of, listOf vof.toArray n2) :: (dx, o20) :: bl.map blL := by
     show _ ++ (dx, o20) :: (bl.map blL ++ []) = _
     rw [List.append_nil]; rfl
    refine List.Perm.trans (.of_eq e) ?_
    exact List.Perm.cons _ (List.Perm.cons _ (List.perm_append_singleton _ _).symm))
   have hno : ∀ z ∈ (ow, listOf vow.toArray n1) :: (of, listOf vof.toArray n2) :: bl.map blL, h.get? z.1 = none := fun z hz => by
    rcases List.mem_cons.mp hz with rfl | hz
    ·exact fow
    rcases List.mem_cons.mp hz with rfl | hz
    ·exact fof
    refine hide fun QQ hQQ => ?_
    obtain ⟨e, he, rfl⟩ := List.mem_map.mp hz
    refine hQQ ?_
    clear hQQ QQ
    exact af _ (by rw [← ba]; exact List.mem_map_of_mem he)
   refine hide fun QQ hQQ => ?_
   obtain ⟨q2, psq, hfx, K⟩ := K.fixAll _ hno
   refine hQQ ?_
   clear hQQ QQ
   have odx := K.own (dx, o20) (by simp)
   have f1 := hfx (ow, listOf vow.toArray n1) (.head _)
   have f2 := hfx (of, listOf vof.toArray n2) (.tail _ (.head _))
   refine k _ _ _ _ K.gro ⟨rfl, ⟨o20, _, odx.1, a20, fun q3 ps3 qx qd => ?_⟩, o20, odx.1⟩
   have psD3 : PSub pD q3 := (ps.trans psq).trans ps3
   refine ⟨Ob.of qx qd a20, ⟨.ref na, by exact lkN 9 (by kernel_rfl) rfl, ln0.mono psD3⟩, ⟨u1, by rw [← htc]; exact lkN 8 (by kernel_rfl) rfl⟩, ⟨.ref ra, by exact lkN 7 (by kernel_rfl) rfl, lr1.mono psD3 fun _ _ z => z.mono psD3⟩, ⟨.ref of, by exact lkN 2 (by kernel_rfl) rfl, ⟨of, vof, n2, rfl, ps3 _ _ f2, iof⟩⟩, ⟨.ref ow, by exact lkN 1 (by kernel_rfl) rfl, ⟨ow, vow, n1, rfl, ps3 _ _ f1, iow⟩⟩,
    ⟨.ref D, by exact lkN 3 (by kernel_rfl) rfl, ⟨D, as.map Value.ref, c, rfl, psD3 _ _ hfD, by rw [List.length_map]; exact al', fun j u hu => ?_⟩⟩, fun y hy => ?_, ⟨by exact lnt fun q => lnq [_] [aL (tN 1000) Z0,aL Z0 (tN 24)] rfl q ol, by exact lnt fun q => lnq [_] [aL (tN 1000) Z0,aL Z0 (tN 24)] rfl q rl24, by exact lnt fun q => lnq [_] [aL (tN 1000) Z0,aL Z0 (tN 24)] rfl q nl24⟩⟩
   ·rw [List.getElem?_map] at hu
    refine hide fun QQ hQQ => ?_
    obtain ⟨a, ha, rfl⟩ := Option.map_eq_some_iff.mp hu
    rw [← ba, List.getElem?_map] at ha
    obtain ⟨e, he, rfl⟩ := Option.map_eq_some_iff.mp ha
    refine hQQ ?_
    clear hQQ QQ
    exact ⟨e.1, e.2.1, e.2.2, rfl, ps3 _ _ (hfx (blL e) (.tail _ (.tail _ (List.mem_map_of_mem (List.mem_of_getElem? he))))), bb j e he⟩
   ·unfold grAttrs at hy
    simp only [List.contains_cons, List.contains_nil, Bool.or_false, Bool.or_eq_false_iff] at hy
    refine hide fun QQ hQQ => ?_
    obtain ⟨y1, y2, y3, y4, y5, y6, y7, y8, y9, y10⟩ := hy
    refine hQQ ?_
    clear hQQ QQ
    simp only [List.lookup_cons, y1, y2, y3, y4, y5, y6, y7, y8, y9, y10]
    rfl
end

section
variable {w : World} {A : Around} {g : Array GenState} {d : Drawn} {t : Nat} {os : OsState} {p : PH} {h : Heap} {mu : Led} {R : Result → Shared → Prop}
theorem call_fnD {f : Addr} {fd : FD} {q : Str} {dV pm cdv : Value} {args : List Value} (binds : List (Str × Value)) (l : AL) {n : Nat}
  (ho : (KF w.params).lookup f = some (fO fd q dV pm cdv)) (hcd : codeIn (KF w.params) cdv q = true)
  (G : Grd w p) (H : Holds p h) (r : Rm A (n + 1)) (hm : ∀ x ∈ mu, h.get? x.1 = some x.2 ∧ p x.1 = none) (hnd : (mu.map (·.1)).Nodup)
  (hbind : BindsTo ⟨h, g, d, t, os⟩ (fnOf fd.name q fd.params fd.body fd.scope dV .none .none pm none cdv .none) ⟨args, []⟩ binds)
  (hl : (binds.filter fun b => fd.scope.names.lookup b.1 == some .local).reverse = l)
  (hkind : ∀ L, (binds.all fun x => fd.scope.names.lookup x.1 == some .local || (fd.scope.names.lookup x.1 == some .cell && ((cellsFrom (L + 1) fd.scope.names []).lookup x.1).isSome)) = true)
  (hco : fd.scope.isCoroutine = false) (hgen : fd.scope.isGenerator = false) (hk : fd.scope.kind = .function)
  (B : ∀ L h₁ t', (∀ a, L ≤ a → h.get? a = none) → (∀ b o, h.get? b = some o → h₁.get? b = some o) → W p h (mu.map (·.1)) L p h₁ l mu →
   (∀ n c, (cellsFrom (L + 1) fd.scope.names []).lookup n = some c → h₁.IsCell c ((binds.filter fun b => fd.scope.names.lookup b.1 != some .local).reverse.lookup n)) →
   wpAny (model PR w) (A.deeper (callEnvC (fnOf fd.name q fd.params fd.body fd.scope dV .none .none pm none cdv .none) L f)) (execs fd.body (callEnvC (fnOf fd.name q fd.params fd.body fd.scope dV .none .none pm none cdv .none) L f))
    (fun fl s' => R (.ok (.ret (match fl with | .ret v => v | _ => .none))) s') (fun _ _ => False) ⟨h₁, g, d, t', os⟩) :
  codeAny (model PR w) A (.call (.ref f) ⟨args, []⟩) R ⟨h, g, d, t, os⟩ := by
 have KI := G.inn H
 have hkk := hkind h.objs.size
 refine codeAny_call_function (fd := fnOf fd.name q fd.params fd.body fd.scope dV .none .none pm none cdv .none) (body := fd.body) r.depth (KI _ _ ho) rfl hco hgen rfl (codeRec_of KI hcd) (hbind _ _ _ _ ?_)
 refine wpAny_newFunctionEnv_cells hk (fun x hx => by have := List.all_eq_true.mp hkk x hx; simpa using this) fun env he s₁ x => ?_
 subst he
 refine ⟨(G.lim H).keeps x.toInCall.keep, codeAny_func ?_⟩
 have hL : ∀ b o, h.get? b = some o → b ≠ h.objs.size := fun b o e => Nat.ne_of_lt (Heap.lt_size e)
 obtain ⟨h₁, tk, rfl⟩ := x.toInCall.same
 have hk₁ := x.toInCall.keep
 have hns := x.toInCall.ns
 rw [show (fun _ : Str => (none : Option Value)) = fun x => List.lookup x ([] : AL) from rfl, bindL_fn, List.append_nil] at hns
 have hl' : (binds.filter fun b => (callEnvC (fnOf fd.name q fd.params fd.body fd.scope dV .none .none pm none cdv .none) h.objs.size f).kindOf b.1 == some .local).reverse = l := hl
 change h₁.Ns _ (fun x => List.lookup x (binds.filter fun b => (callEnvC (fnOf fd.name q fd.params fd.body fd.scope dV .none .none pm none cdv .none) h.objs.size f).kindOf b.1 == some .local).reverse) at hns
 rw [hl'] at hns
 have K : W p h (mu.map (·.1)) h.objs.size p h₁ l mu := by
  refine ⟨hns, PSub.refl _, fun a o e => hk₁ a o (H a o e), fun b o _ e => hk₁ b o e, fun b o e => ⟨o, hk₁ b o e⟩, (fun b o e e' => by rw [e] at e'; cases e'), ?_, ?_, fun x hx => ?_, hnd⟩
  ·cases e : p h.objs.size with
   | none => rfl
   | some o => exact absurd rfl (hL _ _ (H _ _ e))
  ·cases e : h.get? h.objs.size with
   | none => rfl
   | some o => exact absurd rfl (hL _ _ e)
  ·obtain ⟨a1, a2⟩ := hm x hx
   exact ⟨hk₁ _ _ a1, hL _ _ a1, a2, .inl (List.mem_map_of_mem hx)⟩
 refine wpAny_mono (B h.objs.size h₁ tk (fun a ha => ?_) hk₁ K fun n c hc => ?_) (fun _ _ x => x) (fun _ _ x => x.elim)
 ·cases e : h.get? a with
  | none => rfl
  | some o => exact absurd (Heap.lt_size e) (Nat.not_lt.mpr ha)
 ·have := x.cell n c hc
  rw [show (fun _ : Str => (none : Option Value)) = fun x => List.lookup x ([] : AL) from rfl, bindC_fn, List.append_nil] at this
  exact this
theorem W.cellOf {p0 p : PH} {h0 h : Heap} {X : List Addr} {L c : Addr} {l : AL} {mu : Led} {v : Option Value} (K : W p0 h0 X L p h l mu) (e : h.IsCell c v) (hp : p c = none) (hL : c ≠ L) (hm : ∀ q ∈ mu, q.1 ≠ c) (h0n : h0.get? c = none) : ∃ o : Obj, o.data = .cell v ∧ W p0 h0 X L p h l ((c, o) :: mu) := K.cell e hp hL hm h0n
theorem Holds.none {p : PH} {h : Heap} {a : Addr} (H : Holds p h) (e : h.get? a = none) : p a = none := by
 cases q : p a with
 | none => rfl
 | some o => rw [H _ _ q] at e; cases e
end

noncomputable abbrev Raw := List (Str × List Str)
noncomputable def S3 : List Str := ["S", "T", "U"]
noncomputable def S5 : List Str := ["S", "T", "U", "a", "b"]
noncomputable def OWN : List Str := ["$end", "error", "$undefined"]
structure RawOk (R : Raw) : Prop where
 left : ∀ x ∈ R, x.1 ∈ S3
 right : ∀ x ∈ R, ∀ y ∈ x.2, y ∈ S5
 head : ∃ r, R.head? = some ((("S" : Str)), r)
 len : R.length ≤ 6
 rlen : ∀ x ∈ R, x.2.length ≤ 3
 sum : (R.map fun x => x.2.length + 1).sum ≤ 21
noncomputable def leftStep (acc : List Str) (x : Str × List Str) : List Str := if x.1 ∈ acc then acc else acc ++ [x.1]
theorem leftStep_new {acc : List Str} {x : Str × List Str} (h : x.1 ∉ acc) : leftStep acc x = acc ++ [x.1] := if_neg h
theorem leftStep_old {acc : List Str} {x : Str × List Str} (h : x.1 ∈ acc) : leftStep acc x = acc := if_pos h
noncomputable def lefts (R : Raw) : List Str := R.foldl leftStep []
noncomputable def nameStep (ls acc : List Str) (n : Str) : List Str := if n ∉ ls ∧ n ∉ acc then acc ++ [n] else acc
noncomputable def termStep (ls : List Str) (acc : List Str) (x : Str × List Str) : List Str := x.2.foldl (nameStep ls) acc
noncomputable def terms (R : Raw) : List Str := R.foldl (termStep (lefts R)) OWN
noncomputable def namesOf (R : Raw) : List Str := terms R ++ (["$accept"] : List Str) ++ lefts R
noncomputable def symOf (R : Raw) (x : Str) : Nat := (namesOf R).idxOf x
noncomputable def grOf (R : Raw) : Gr := ⟨namesOf R, (terms R).length, ((terms R).length, [symOf R "S", 0]) :: R.map (fun x => (symOf R x.1, x.2.map (symOf R))), symOf R "S"⟩
theorem S3_ne : ∀ x ∈ S3, (x == Str.ofString "error") = false ∧ decide (Txt.slice x none (some 1) ∈ (["", "$", "'"] : List Str)) = false ∧ x.length ≤ 2 ^ 24 := fun x hx => by
 simp only [S3, List.mem_cons, List.not_mem_nil, or_false] at hx
 rcases hx with rfl | rfl | rfl <;> exact ⟨by kernel_rfl, by kernel_rfl, by decide⟩
theorem S5_ne : ∀ x ∈ S5, decide (Txt.slice x none (some 1) ∈ (["", "$"] : List Str)) = false ∧ x.length ≤ 2 ^ 24 := fun x hx => by
 simp only [S5, List.mem_cons, List.not_mem_nil, or_false] at hx
 rcases hx with rfl | rfl | rfl | rfl | rfl <;> exact ⟨by kernel_rfl, by decide⟩
theorem mem_leftF (x : Str) : ∀ (l : Raw) (acc : List Str), x ∈ l.foldl leftStep acc ↔ x ∈ acc ∨ ∃ y ∈ l, y.1 = x
 | [], acc => by simp
 | a :: l, acc => by
  rw [List.foldl_cons, mem_leftF x l]
  have : x ∈ leftStep acc a ↔ x ∈ acc ∨ a.1 = x := by
   unfold leftStep
   split
   ·rename_i h
    exact ⟨.inl, fun q => q.elim id fun e => e ▸ h⟩
   ·rw [List.mem_append, List.mem_singleton]
    exact or_congr_right eq_comm
  rw [this, or_assoc]
  simp
theorem leftF_nodup : ∀ (l : Raw) (acc : List Str), acc.Nodup → (l.foldl leftStep acc).Nodup
 | [], _, h => h
 | a :: l, acc, h => by
  rw [List.foldl_cons]
  refine leftF_nodup l _ ?_
  unfold leftStep
  split
  ·exact h
  ·rename_i hn
   rw [List.nodup_append]
   exact ⟨h, by simp, fun x hx y hy e => hn (by rw [List.mem_singleton] at hy; rw [← hy, ← e]; exact hx)⟩
theorem leftF_pre : ∀ (l : Raw) (acc : List Str), acc <+: l.foldl leftStep acc
 | [], _ => List.prefix_rfl
 | a :: l, acc => by
  rw [List.foldl_cons]
  refine List.IsPrefix.trans ?_ (leftF_pre l _)
  unfold leftStep
  split
  ·exact List.prefix_rfl
  ·exact List.prefix_append _ _
theorem mem_lefts {R : Raw} {x : Str} : x ∈ lefts R ↔ ∃ y ∈ R, y.1 = x := by
 unfold lefts; rw [mem_leftF]; simp
theorem lefts_nodup (R : Raw) : (lefts R).Nodup := leftF_nodup R [] List.nodup_nil
theorem lefts_head {R : Raw} (ok : RawOk R) : ∃ m, lefts R = (("S" : Str)) :: m := by
 obtain ⟨r, hr⟩ := ok.head
 cases R with
 | nil => cases hr
 | cons a l =>
  simp at hr; subst hr
  obtain ⟨m, hm⟩ := leftF_pre l [(("S" : Str))]
  exact ⟨m, hm.symm⟩
theorem mem_nameF (ls : List Str) (x : Str) : ∀ (l acc : List Str), x ∈ l.foldl (nameStep ls) acc ↔ x ∈ acc ∨ (x ∉ ls ∧ x ∈ l)
 | [], acc => by simp
 | a :: l, acc => by
  rw [List.foldl_cons, mem_nameF ls x l]
  have : x ∈ nameStep ls acc a ↔ x ∈ acc ∨ (x ∉ ls ∧ x = a) := by
   unfold nameStep
   split
   ·rename_i h
    rw [List.mem_append, List.mem_singleton]
    exact or_congr_right ⟨fun e => ⟨by rw [e]; exact h.1, e⟩, fun e => e.2⟩
   ·rename_i h
    refine ⟨.inl, fun q => q.elim id fun ⟨h1, h2⟩ => ?_⟩
    subst h2
    by_cases hm : x ∈ acc
    ·exact hm
    ·exact absurd ⟨h1, hm⟩ h
  rw [this, or_assoc, List.mem_cons]
  constructor
  ·rintro (a | a | a)
   ·exact .inl a
   ·exact .inr ⟨a.1, .inl a.2⟩
   ·exact .inr ⟨a.1, .inr a.2⟩
  ·rintro (a | ⟨a, b | b⟩)
   ·exact .inl a
   ·exact .inr (.inl ⟨a, b⟩)
   ·exact .inr (.inr ⟨a, b⟩)
theorem nameF_nodup (ls : List Str) : ∀ (l acc : List Str), acc.Nodup → (l.foldl (nameStep ls) acc).Nodup
 | [], _, h => h
 | a :: l, acc, h => by
  rw [List.foldl_cons]
  refine nameF_nodup ls l _ ?_
  unfold nameStep
  split
  ·rename_i hn
   rw [List.nodup_append]
   exact ⟨h, by simp, fun x hx y hy e => hn.2 (by rw [List.mem_singleton] at hy; rw [← hy, ← e]; exact hx)⟩
  ·exact h
theorem nameF_pre (ls : List Str) : ∀ (l acc : List Str), acc <+: l.foldl (nameStep ls) acc
 | [], _ => List.prefix_rfl
 | a :: l, acc => by
  rw [List.foldl_cons]
  refine List.IsPrefix.trans ?_ (nameF_pre ls l _)
  unfold nameStep
  split
  ·exact List.prefix_append _ _
  ·exact List.prefix_rfl
theorem mem_termF (ls : List Str) (x : Str) : ∀ (l : Raw) (acc : List Str), x ∈ l.foldl (termStep ls) acc ↔ x ∈ acc ∨ (x ∉ ls ∧ ∃ y ∈ l, x ∈ y.2)
 | [], acc => by simp
 | a :: l, acc => by
  rw [List.foldl_cons, mem_termF ls x l]
  unfold termStep
  rw [mem_nameF, or_assoc]
  simp only [List.mem_cons, exists_eq_or_imp, and_or_left]
theorem termF_nodup (ls : List Str) : ∀ (l : Raw) (acc : List Str), acc.Nodup → (l.foldl (termStep ls) acc).Nodup
 | [], _, h => h
 | a :: l, acc, h => termF_nodup ls l _ (nameF_nodup ls a.2 acc h)
theorem termF_pre (ls : List Str) : ∀ (l : Raw) (acc : List Str), acc <+: l.foldl (termStep ls) acc
 | [], _ => List.prefix_rfl
 | a :: l, acc => (nameF_pre ls a.2 acc).trans (termF_pre ls l _)
theorem mem_terms {R : Raw} {x : Str} : x ∈ terms R ↔ x ∈ OWN ∨ (x ∉ lefts R ∧ ∃ y ∈ R, x ∈ y.2) := by
 unfold terms; rw [mem_termF]
theorem OWN_nodup : OWN.Nodup := by decide
theorem terms_nodup (R : Raw) : (terms R).Nodup := termF_nodup _ R _ OWN_nodup
theorem terms_pre (R : Raw) : OWN <+: terms R := termF_pre _ R _
noncomputable def U9 : List Str := ["$end", "error", "$undefined", "a", "b", "S", "T", "U", "$accept"]
theorem terms_sub {R : Raw} (ok : RawOk R) : ∀ x ∈ terms R, x ∈ OWN ∨ (x ∈ S5 ∧ x ∉ lefts R) := fun x hx => by
 rcases mem_terms.mp hx with h | ⟨h, y, hy, hm⟩
 ·exact .inl h
 ·exact .inr ⟨ok.right y hy x hm, h⟩
theorem lefts_sub {R : Raw} (ok : RawOk R) : ∀ x ∈ lefts R, x ∈ S3 := fun x hx => by
 obtain ⟨y, hy, rfl⟩ := mem_lefts.mp hx
 exact ok.left y hy
theorem own_not : ∀ x ∈ OWN, x ∉ S5 ∧ x ∉ S3 ∧ x ≠ (("$accept" : Str)) ∧ x ∈ U9 := by decide
theorem s5_not : ∀ x ∈ S5, x ≠ (("$accept" : Str)) ∧ x ∈ U9 := by decide
theorem s3_not : ∀ x ∈ S3, x ≠ (("$accept" : Str)) ∧ x ∈ U9 ∧ x ∈ S5 := by decide
theorem names_nodup {R : Raw} (ok : RawOk R) : (namesOf R).Nodup := by
 unfold namesOf
 rw [List.nodup_append, List.nodup_append]
 refine ⟨⟨terms_nodup R, by simp, fun x hx y hy e => ?_⟩, lefts_nodup R, fun x hx y hy e => ?_⟩
 ·rw [List.mem_singleton] at hy; subst hy; subst e
  rcases terms_sub ok _ hx with h | h
  ·exact (own_not _ h).2.2.1 rfl
  ·exact (s5_not _ h.1).1 rfl
 ·subst e
  rcases List.mem_append.mp hx with hx | hx
  ·rcases terms_sub ok _ hx with h | h
   ·exact (own_not _ h).2.1 (lefts_sub ok _ hy)
   ·exact h.2 hy
  ·rw [List.mem_singleton] at hx; subst hx
   exact (s3_not _ (lefts_sub ok _ hy)).1 rfl
theorem names_sub {R : Raw} (ok : RawOk R) : ∀ x ∈ namesOf R, x ∈ U9 := fun x hx => by
 unfold namesOf at hx
 rcases List.mem_append.mp hx with hx | hx
 ·rcases List.mem_append.mp hx with hx | hx
  ·rcases terms_sub ok _ hx with h | h
   ·exact (own_not _ h).2.2.2
   ·exact (s5_not _ h.1).2
  ·rw [List.mem_singleton] at hx; subst hx; decide
 ·exact (s3_not _ (lefts_sub ok _ hx)).2.1
theorem nodup_str_le {l U : List Str} (nd : l.Nodup) (h : ∀ x ∈ l, x ∈ U) : l.length ≤ U.length := by
 have := nodup_le U.length (l := l.map U.idxOf) (List.pairwise_map.mpr (List.Pairwise.imp_of_mem (fun {a b} ha hb hab e => hab (by
  have h1 := List.getElem_idxOf (List.idxOf_lt_length_iff.mpr (h a ha))
  have h2 := List.getElem_idxOf (List.idxOf_lt_length_iff.mpr (h b hb))
  rw [← h1, ← h2]; simp only [e])) nd)) fun x hx => by
  obtain ⟨y, hy, rfl⟩ := List.mem_map.mp hx
  exact List.idxOf_lt_length_iff.mpr (h y hy)
 simpa using this
theorem names_len {R : Raw} (ok : RawOk R) : (namesOf R).length ≤ 9 := nodup_str_le (names_nodup ok) (names_sub ok)
theorem sym_lt {R : Raw} {x : Str} (h : x ∈ namesOf R) : symOf R x < (namesOf R).length := List.idxOf_lt_length_iff.mpr h
theorem sym_inj {R : Raw} {x y : Str} (hx : x ∈ namesOf R) (hy : y ∈ namesOf R) (e : symOf R x = symOf R y) : x = y := by
 have h1 := List.getElem_idxOf (List.idxOf_lt_length_iff.mpr hx)
 have h2 := List.getElem_idxOf (List.idxOf_lt_length_iff.mpr hy)
 unfold symOf at e
 rw [← h1, ← h2]; simp only [e]
theorem sym_term {R : Raw} {x : Str} (hx : x ∈ namesOf R) : symOf R x < (terms R).length ↔ x ∈ terms R := by
 unfold symOf namesOf at *
 rw [List.append_assoc] at *
 by_cases h : x ∈ terms R
 ·rw [List.idxOf_append, if_pos h]
  exact ⟨fun _ => h, fun _ => List.idxOf_lt_length_iff.mpr h⟩
 ·rw [List.idxOf_append, if_neg h]
  exact ⟨fun q => by exact (lnq [_,_] [aL (tQ (tA Z0 Z1)) Z1] rfl q : False).elim, fun q => absurd q h⟩
theorem left_name {R : Raw} {x : Str} (h : x ∈ lefts R) : x ∈ namesOf R := List.mem_append_right _ h
theorem term_name {R : Raw} {x : Str} (h : x ∈ terms R) : x ∈ namesOf R := List.mem_append_left _ (List.mem_append_left _ h)
theorem right_name {R : Raw} {y : Str × List Str} (hy : y ∈ R) {x : Str} (hx : x ∈ y.2) : x ∈ namesOf R := by
 by_cases h : x ∈ lefts R
 ·exact left_name h
 ·exact term_name (mem_terms.mpr (.inr ⟨h, y, hy, hx⟩))
theorem left_of {R : Raw} {y : Str × List Str} (hy : y ∈ R) : y.1 ∈ lefts R := mem_lefts.mpr ⟨y, hy, rfl⟩
theorem s_left {R : Raw} (ok : RawOk R) : (("S" : Str)) ∈ lefts R := by obtain ⟨m, e⟩ := lefts_head ok; rw [e]; exact List.mem_cons_self ..
theorem sym_end (R : Raw) : symOf R (("$end" : Str)) = 0 := by
 obtain ⟨m, hm⟩ := terms_pre R
 unfold symOf namesOf
 rw [← hm]; rfl
theorem sym_accept {R : Raw} (ok : RawOk R) : symOf R (("$accept" : Str)) = (terms R).length := by
 unfold symOf namesOf
 rw [List.append_assoc, List.idxOf_append, if_neg]
 ·show List.idxOf _ (_ :: _) + _ = _
  rw [List.idxOf_cons_self]; exact lne (fun q => lnq [_] [aL (tQ Z0) (tA (tN 0) Z0)] rfl q) fun q => lnq [_] [aL (tA (tA (tN 0) Z0) (tN 1)) Z0] rfl q
 ·intro h
  rcases terms_sub ok _ h with h | h
  ·exact (own_not _ h).2.2.1 rfl
  ·exact (s5_not _ h.1).1 rfl
theorem accept_name (R : Raw) : (("$accept" : Str)) ∈ namesOf R := List.mem_append_left _ (List.mem_append_right _ (List.mem_cons_self ..))
theorem own_len (f : Str × List Str → Nat × List Nat) (hf : ∀ x, (f x).2.length = x.2.length) : ∀ (R : Raw) (i : Nat), (ownF i (R.map f)).length = (R.map fun x => x.2.length + 1).sum
 | [], _ => rfl
 | a :: l, i => by
  rw [List.map_cons, List.map_cons, List.sum_cons, ← own_len f hf l (i + 1)]
  simp only [ownF, List.length_append, List.length_replicate, hf]
theorem gr_ok {R : Raw} (ok : RawOk R) : GrOk (grOf R) := by
 have nl := names_len ok
 have rules : ∀ r, r < (grOf R).rules.length → ((grOf R).left r, (grOf R).right r) = ((terms R).length, [symOf R "S", 0]) ∨ ∃ x ∈ R, ((grOf R).left r, (grOf R).right r) = (symOf R x.1, x.2.map (symOf R)) := fun r hr => by
  cases r with
  | zero => exact .inl rfl
  | succ r =>
   have hr' : r < R.length := by simpa [grOf] using hr
   refine .inr ⟨R[r], List.getElem_mem hr', ?_⟩
   unfold Gr.left Gr.right
   have : (grOf R).rules.getD (r + 1) (0, []) = (symOf R R[r].1, R[r].2.map (symOf R)) := by
    show ((_ :: R.map _ : List (Nat × List Nat))).getD (r + 1) _ = _
    simp [List.getD_eq_getElem?_getD, hr']
   rw [this]
 have snames := left_name (s_left ok)
 refine ⟨fun r hr => ?_, fun r hr y hy => ?_, ?_, by show (namesOf R).length ≤ 24; exact lnl fun q => lnq [_] [aL (tQ (tN 24)) Z0,aL Z0 (tN 9)] rfl q nl, ?_, fun r hr => ?_⟩
 ·rcases rules r hr with h | ⟨x, hx, h⟩
  ·have := congrArg Prod.snd h; simp only at this; rw [this]; show 2 < 1000; decide
  ·have := congrArg Prod.snd h; simp only at this; rw [this]
   have := ok.rlen x hx
   simp; exact lnt fun q => lnq [_] [aL (tN 1000) Z0,aL Z0 (tN 3)] rfl q this
 ·show y < (namesOf R).length
  rcases rules r hr with h | ⟨x, hx, h⟩
  ·have := congrArg Prod.snd h; simp only at this; rw [this] at hy
   simp only [List.mem_cons, List.not_mem_nil, or_false] at hy
   have h0 := sym_lt snames
   rcases hy with rfl | rfl
   ·exact h0
   ·exact lnt fun q => lnq [_,_] [aL Z0 (tN 0),aL (tQ Z1) Z0] rfl q h0
  ·have := congrArg Prod.snd h; simp only at this; rw [this] at hy
   obtain ⟨z, hz, rfl⟩ := List.mem_map.mp hy
   exact sym_lt (right_name hx hz)
 ·show (ownF 0 (_ :: _)).length ≤ 24
  simp only [ownF, List.length_append, List.length_replicate]
  rw [own_len _ (fun x => by simp)]
  have := ok.sum
  simp; exact lnl fun q => lnq [_] [aL (tQ (tN 24)) (tA (tN 3) Z0),aL Z0 (tN 21)] rfl q this
 ·have := ok.len
  show (_ :: R.map _ : List (Nat × List Nat)).length ≤ 24
  simp; exact lnl fun q => lnq [_] [aL (tQ (tN 23)) Z0,aL Z0 (tN 6)] rfl q this
 ·show _ < (namesOf R).length
  rcases rules r hr with h | ⟨x, hx, h⟩
  ·have := congrArg Prod.fst h; simp only at this; rw [this]
   have h1 := sym_lt (accept_name R)
   rwa [sym_accept ok] at h1
  ·have := congrArg Prod.fst h; simp only at this; rw [this]
   exact sym_lt (left_name (left_of hx))

noncomputable def PairAt (p : PH) (x : Str × List Str) (u : Value) : Prop := X4 fun a t lv n => A3 (u = .ref a) (p a = some (tupOf [.str x.1 t, lv].toArray n)) (LS p lv x.2)
theorem PairAt.mono {p q : PH} {x : Str × List Str} {u : Value} (h : PairAt p x u) (s : PSub p q) : PairAt q x u := let ⟨a, t, lv, n, e, b, c⟩ := h; ⟨a, t, lv, n, e, s _ _ b, c.mono s⟩
noncomputable def PairsAt (p : PH) (v : Value) (R : Raw) : Prop := X3 fun a vs n => A4 (v = .ref a) (p a = some (listOf (vs : List Value).toArray n)) (vs.length = R.length) (∀ (i : Nat) u x, vs[i]? = some u → R[i]? = some x → PairAt p x u)
theorem PairsAt.mono {p q : PH} {v : Value} {R : Raw} (h : PairsAt p v R) (s : PSub p q) : PairsAt q v R := let ⟨a, vs, n, e, b, c, d⟩ := h; ⟨a, vs, n, e, s _ _ b, c, fun i u x h1 h2 => (d i u x h1 h2).mono s⟩
section
variable {w : World} {p : PH} {h : Heap}
theorem mk_rule {A : Around} {E : Value → Shared → Prop} {g : Array GenState} {d : Drawn} {t : Nat} {os : OsState} {p0 : PH} {h0 : Heap} {X : List Addr} {L : Addr} {l : AL} {mu : Led} {n lf : Nat} {v : Int} {u1 u2 u3 : Tok} {rv : Value} {is : List Nat} {Q : Value → Shared → Prop} (G : Grd w p) (K : W p0 h0 X L p h l mu) (r : Rm A 2) (hr : TI p rv (zs is))
  (q : ∀ x p' h' t', PSub p p' → W p0 h0 X L p' h' l mu → RuleAt p' n (lf, is) (.ref x) → Q (.ref x) ⟨h', g, d, t', os⟩) : wpAny (model PR w) A (call (.ref 309) [.int (n : Nat) u1, .int (lf : Nat) u2, rv, .int v u3] []) Q E ⟨h, g, d, t, os⟩ := by
 refine mk (n := 1) (Post := fun x dx v' p' h' => X3 fun o' vl va => (h'.get? dx = some o') ∧ (AO 7 o' [(Str.ofString "before", .int 0 vl), (Str.ofString "line", .int 0 va), (Str.ofString "action", .none), (Str.ofString "level_of", .int v u3), (Str.ofString "right", rv), (Str.ofString "left", .int (lf : Nat) u2), (Str.ofString "number", .int (n : Nat) u1)])) G K (mk_r _) r (fun x dx h1 G1 H1 hx hdx pdx px kp fx => ?_) (fun x dx p7 h7 t7 o7 v ps7 fx fdx K po ho7 => ?_)
 ·intro A' g' d' t' os' R' rm' k'
  refine rule_init G1 H1 hx hdx pdx A' g' d' t' os' R' rm' fun v p8 h8 t8 gro po => ?_
  exact k' v p8 h8 t8 gro (let ⟨c1, ⟨o', vl, va, e1, e2⟩, c3⟩ := po; ⟨c1, ⟨o', vl, va, e1, e2⟩, c3⟩)
 ·refine hide fun QQ hQQ => ?_
  obtain ⟨o8, vl, vva, e8, ao8⟩ := po
  refine hQQ ?_
  clear hQQ QQ
  rw [ho7] at e8; refine hide fun QQ hQQ => ?_
  cases e8
  all_goals (refine hQQ ?_; clear hQQ QQ)
  refine hide fun QQ hQQ => ?_
  obtain ⟨K, ps8, hf8⟩ := K.fix fx
  obtain ⟨K, ps9, hf9⟩ := K.fix fdx
  refine hQQ ?_
  clear hQQ QQ
  exact q _ _ _ _ ((ps7.trans ps8).trans ps9) K ⟨x, _, rfl, Ob.of (ps9 _ _ hf8) hf9 ao8, ⟨_, by exact lkN 6 (by kernel_rfl) rfl⟩, ⟨_, by exact lkN 5 (by kernel_rfl) rfl⟩, rv, by exact lkN 4 (by kernel_rfl) rfl, ((hr.mono ps7).mono ps8).mono ps9⟩
set_option maxHeartbeats 4000000 in
theorem plain_spec {v : Value} {R : Raw} (G : Grd w p) (H : Holds p h) (hv : PairsAt p v R) (ok : RawOk R) :
  Fn w 6 (.ref 408) [v] p h [] (fun r p' _ => ∃ gr fs, r = .ref gr ∧ GrAt p' gr (grOf R) fs) := by
 intro A gg d1 t os RR rm k
 have h403 : h.get? 403 = some ⟨.type "tuple", none, .seq #[.none] 0, #[]⟩ := H _ _ (G.k 403 _ (by kernel_rfl))
 refine call_fnD (mu := []) (fd := fnT 25) [(Str.ofString "pairs", v), (Str.ofString "start", .none)] [(Str.ofString "start", .none), (Str.ofString "pairs", v)] rfl (by kernel_rfl) G H rm (by simp) (by simp) (by exact BindsTo.of_defaults (T := 403) rfl h403 rfl rfl rfl) (by rfl) (fun _ => by rfl) (by rfl) (by rfl) (by rfl) fun L h₁ t₁ hab kp K hcells => ?_
 refine hide fun QQ hQQ => ?_
 obtain ⟨oN, hoN, K⟩ := K.cell (hcells (Str.ofString "names") (L + 1) (by rfl)) (H.none (hab (L + 1) (Nat.le_succ L))) (Nat.succ_ne_self L) (by simp) (hab (L + 1) (Nat.le_succ L))
 have cN : (callEnvC (fnOf (fnT 25).name (Str.ofString "plain_grammar") (fnT 25).params (fnT 25).body (fnT 25).scope (.ref 403) .none .none (.str "grammarmill.grammar" 575) none (.ref 407) .none) L 408).cells.lookup (Str.ofString "names") = some (L + 1) := by rfl
 obtain ⟨va, vvs, vn, rfl, vb, vlen, vall⟩ := hv
 refine hQQ ?_
 clear hQQ QQ
 refine xv_ fun Qq1 Jq1 => List_ (z_ ?_)
 refine nl K (by decide) fun la h2 fl K => ?_
 refine s_ K fun h2 t2 K => Jq1 _ _ (x_ fun Qq2 Jq2 => wpAny_For (n_ 2 K rfl ?_))
 refine for_list (mu := [(la, listOf ([] : List Value).toArray 0)]) (its := [(L + 1, oN)]) (vs := vvs) rm.hd (.inr ⟨_, _, _, rfl⟩) (.inr fun v hv => by
   refine hide fun QQ hQQ => ?_
   obtain ⟨i, hi⟩ := List.mem_iff_getElem?.mp hv
   have hlt := (List.getElem?_eq_some_iff.mp hi).1
   obtain ⟨a, _, _, _, e, _⟩ := vall i v R[i] hi (List.getElem?_eq_getElem (by exact lnt fun q => lnq [_,_,_] [aL Z0 Z1,aL (tQ Z1) Z2,aE Z2 Z0] rfl q hlt vlen))
   refine hQQ ?_
   clear hQQ QQ
   exact ⟨a, e⟩) (fun i q l' mu' => (PSub p q) ∧ (X3 fun (r : AL) (ls : List Value) (n : Nat) => A3 (l' = (Str.ofString "lefts", .ref la) :: (Str.ofString "start", .none) :: (Str.ofString "pairs", .ref va) :: r) (mu' = [(la, listOf ls.toArray n)]) (StrsAre ls ((R.take i).foldl leftStep []))))
  K ⟨PSub.refl _, _, [], 0, rfl, rfl, .nil⟩ ?src ?turn ?done
 case src => rintro i q h' l' mu' its K ⟨ps, _⟩; exact ⟨vn, K.hold _ _ (ps _ _ vb)⟩
 case turn =>
  rintro i v q h' l' mu' its t' hv hi K hx11_ Qt Jt
  refine hide fun QQ hQQ => ?_
  obtain ⟨ps, r, ls, n, rfl, rfl, ils⟩ := hx11_
  refine hQQ ?_
  clear hQQ QQ
  have hir : i < R.length := by exact lnt fun q => lnq [_,_,_] [aL Z0 Z1,aL (tQ Z1) Z2,aE Z2 Z0] rfl q hi vlen
  have hx : R[i]? = some R[i] := List.getElem?_eq_getElem hir
  have hmem : R[i] ∈ R := List.getElem_mem hir
  generalize R[i] = x at hx hmem
  refine hide fun QQ hQQ => ?_
  obtain ⟨xl, xr⟩ := x
  obtain ⟨pa, pt, lv, pn, rfl, pb, pl⟩ := (vall i v _ hv hx).mono ps
  refine hQQ ?_
  clear hQQ QQ
  have hxl := ok.left _ hmem
  simp only at pb pl hxl
  have G1 := G.mono ps
  refine as_t2 K rm.hd (K.hold _ _ pb) (by kernel_rfl) (by kernel_rfl) (by rfl) (by rfl) fun h3 t3 K => ?_
  refine hide fun QQ hQQ => ?_
  obtain ⟨e1, e2, e3⟩ := S3_ne xl hxl
  refine hQQ ?_
  clear hQQ QQ
  refine x_ fun Qq3 Jq3 => wpAny_If (isTrue_or (qn_ 1 K rfl (g_ fun _ _ => PyProof.Rows.eq_str (h_ ?_))))
  refine split_b (fun z => by rw [e1] at z; cases z) (fun _ => ?_)
  refine isTrue_or (q_ (un_ 1 K rfl (wpAny_Slice (evalPart_none_step (evalPart_some_step (m_ fun _ _ => evalPart_none_step ?_))))))
  refine sl_s (j := 1) K e3 (by rfl) (fun _ => by rfl) fun t4 h4 k4 K => ?_
  refine Tuple_ (r_ (g_ fun _ _ => r_ (g_ fun _ _ => r_ (g_ fun _ _ => z_ ?_))))
  refine nt K (by show 3 ≤ 2 ^ 24; decide) fun tq h5 q5 ps5 htq K => ?_
  have G5 := G1.mono ps5
  refine in_ts (xs := (["", "$", "'"] : List Str)) (K.hold _ _ htq) (.cons _ _ (.cons _ _ (.cons _ _ .nil))) ?_
  rw [e2]
  refine h_ ?_
  refine split_b (fun z => by cases z) (fun _ => ?_)
  refine isTrue_or_nil ?_
  refine split_b (fun z => by cases z) (fun _ => ?_)
  refine e_ (Jq3 _ _ (x_ fun Qq4 Jq4 => wpAny_If (qn_ 1 K rfl (n_ 2 K rfl ?_))))
  refine nin_ls (K.get (.head _)) ils ?_
  refine h_ ?_
  refine hide fun QQ hQQ => ?_
  obtain ⟨pla, pvs, pn2, rfl, pb2, pstr⟩ := pl
  refine hQQ ?_
  clear hQQ QQ
  have plen := strs_len pstr
  have hrr := ok.right _ hmem
  simp only at hrr
  have hstep : (R.take (i + 1)).foldl leftStep [] = leftStep ((R.take i).foldl leftStep []) (xl, xr) := by
   rw [List.take_add_one, hx, List.foldl_append]; rfl
  have lsl := strs_len ils
  have lbound : ((R.take i).foldl leftStep []).length ≤ i := by
   have : ∀ (l : Raw) (acc : List Str), (l.foldl leftStep acc).length ≤ acc.length + l.length := fun l => by
    induction l with
    | nil => intro acc; exact Nat.le_refl _
    | cons a l ih =>
     intro acc
     rw [List.foldl_cons]
     have h1 := ih (leftStep acc a)
     have h2 : (leftStep acc a).length ≤ acc.length + 1 := by
      unfold leftStep; split
      ·exact lnl fun q => lnq [_] [aL (tA (tQ Z0) (tN 1)) Z0] rfl q
      ·simp
     simp only [List.length_cons]; exact lnl fun q => lnq [_,_,_,_] [aL (tA (tA Z0 (tQ Z1)) (tN 1)) Z2,aL Z3 (tQ Z0),aL Z2 (tA Z3 Z1)] rfl q h2 h1
   have := this (R.take i) []
   rw [List.length_take] at this
   simp only [List.length_nil] at this; exact lnl fun q => lnq [_,_,_] [aL (tQ Z0) Z1,aL Z1 (tA (tN 0) Z2),aL Z2 Z0] rfl q this (Nat.min_le_left _ _)
  have rl6 := ok.len
  refine cut (fun f s' => (f = .next) ∧ (X4 fun (h6 : Heap) (t6 : Nat) (ls6 : List Value) (n6 : Nat) => A3 (s' = ⟨h6, gg, d1, t6, os⟩) (W p h [] L q5 h6 ((Str.ofString "parts", .ref pla) :: (Str.ofString "left", .str xl pt) :: (Str.ofString "lefts", .ref la) :: (Str.ofString "start", .none) :: (Str.ofString "pairs", .ref va) :: r) ([(la, listOf ls6.toArray n6)] ++ its)) (StrsAre ls6 (leftStep ((R.take i).foldl leftStep []) (xl, xr))))) (fun hb => ?_) (fun hb => ?_) ?_
  ·have hnot : xl ∉ (R.take i).foldl leftStep [] := by simpa using hb
   refine x_ fun Qq5 Jq5 => wpAny_Expr_any (dn_ 2 K rfl ?_)
   refine app_m (K.get (.head _)) ?_
   refine l_ (arnz_ 1 K rfl ?_)
   refine app_ (m1 := []) K (by show ls.length ≤ 2 ^ 24; exact lnl fun q => lnq [_,_,_,_] [aL (tQ (tN 16777216)) Z0,aL Z1 (tN 6),aL Z2 Z3,aE Z0 Z2,aL (tQ Z3) Z1] rfl q rl6 lbound lsl hir) fun h6 n6 K => ?_
   refine Jq5 _ _ (e_ ?_)
   refine ⟨rfl, _, _, _, n6, rfl, K, ?_⟩
   rw [leftStep_new hnot]
   exact strs_app ils (.cons _ _ .nil)
  ·have hin : xl ∈ (R.take i).foldl leftStep [] := by simpa using hb
   refine e_ ?_
   refine ⟨rfl, _, _, ls, n, rfl, K, ?_⟩
   rw [leftStep_old hin]; exact ils
  ·rintro f s' hx2_
   refine hide fun QQ hQQ => ?_
   obtain ⟨rfl, h6, t6, ls6, n6, rfl, K, ils6⟩ := hx2_
   refine hQQ ?_
   clear hQQ QQ
   try dsimp only
   refine Jq4 _ _ (x_ fun Qq5 Jq5 => wpAny_For (n_ 0 K rfl ?_))
   refine for_list (mu := [(la, listOf ls6.toArray n6)]) (its := its) (vs := pvs) rm.hd (.inl rfl) (.inl rfl) (fun j q' l' mu' => (PSub q5 q') ∧ (∃ (r : AL), (l' = (Str.ofString "lefts", .ref la) :: (Str.ofString "start", .none) :: (Str.ofString "pairs", .ref va) :: r) ∧ (mu' = [(la, listOf ls6.toArray n6)])))
    (((K.pull (x := Str.ofString "pairs") (by exact lkN 4 (by kernel_rfl) rfl)).pull (x := Str.ofString "start") (by exact lkN 4 (by kernel_rfl) rfl)).pull (x := Str.ofString "lefts") (by exact lkN 4 (by kernel_rfl) rfl)) ⟨PSub.refl _, _, rfl, rfl⟩ ?src2 ?turn2 ?done2
   case src2 => rintro j q' h' l' mu' its K ⟨ps, _⟩; exact ⟨pn2, K.hold _ _ (ps _ _ (ps5 _ _ pb2))⟩
   case done2 =>
    rintro q' h' l' mu' t' K hx6_
    refine hide fun QQ hQQ => ?_
    obtain ⟨ps6, r, rfl, rfl⟩ := hx6_
    refine hQQ ?_
    clear hQQ QQ
    refine Jq5 _ _ (e_ (Jt _ _ ?_))
    refine ⟨_, _, _, _, _, rfl, K, (ps.trans ps5).trans ps6, _, ls6, n6, rfl, rfl, ?_⟩
    rw [hstep]; exact ils6
   case turn2 =>
    rintro j v q' h' l' mu' its t' hv hj K hx11_ Qt Jt
    refine hide fun QQ hQQ => ?_
    obtain ⟨ps6, r, rfl, rfl⟩ := hx11_
    refine hQQ ?_
    clear hQQ QQ
    have hjx : xr[j]? = some xr[j] := List.getElem?_eq_getElem (by exact lnt fun q => lnq [_,_,_] [aL Z0 Z1,aL (tQ Z1) Z2,aE Z2 Z0] rfl q hj plen)
    have hym := hrr xr[j] (List.getElem_mem _)
    generalize xr[j] = y at hjx hym
    refine hide fun QQ hQQ => ?_
    obtain ⟨yt, hyv⟩ := strs_at pstr hjx
    refine hQQ ?_
    clear hQQ QQ
    rw [hyv] at hv; refine hide fun QQ hQQ => ?_
    cases hv
    all_goals (refine hQQ ?_; clear hQQ QQ)
    refine hide fun QQ hQQ => ?_
    obtain ⟨f1, f2⟩ := S5_ne y hym
    refine hQQ ?_
    clear hQQ QQ
    have G6 := G5.mono ps6
    refine wpAny_assign_Name (s_ K fun h2 t2 K => x_ fun Qq6 Jq6 => wpAny_If (q_ (un_ 0 K rfl (wpAny_Slice (evalPart_none_step (evalPart_some_step (m_ fun _ _ => evalPart_none_step ?_)))))))
    refine sl_s (j := 1) K f2 (by rfl) (fun _ => by rfl) fun t7 h7 k7 K => ?_
    refine Tuple_ (r_ (g_ fun _ _ => r_ (g_ fun _ _ => z_ ?_)))
    refine nt K (by show 2 ≤ 2 ^ 24; decide) fun tq2 h8 q8 ps8 htq2 K => ?_
    refine in_ts (xs := (["", "$"] : List Str)) (K.hold _ _ htq2) (.cons _ _ (.cons _ _ .nil)) ?_
    rw [f1]
    refine h_ ?_
    refine split_b (fun z => by cases z) (fun _ => ?_)
    refine e_ (Jq6 _ _ (e_ (Jt _ _ ?_)))
    have K := ((K.pull (x := Str.ofString "pairs") (by exact lkN 3 (by kernel_rfl) rfl)).pull (x := Str.ofString "start") (by exact lkN 3 (by kernel_rfl) rfl)).pull (x := Str.ofString "lefts") (by exact lkN 3 (by kernel_rfl) rfl)
    exact ⟨_, _, _, _, _, rfl, K, ps6.trans ps8, _, rfl, rfl⟩
 case done =>
  rintro q h' l' mu' t' K hx6_
  refine hide fun QQ hQQ => ?_
  obtain ⟨ps, r, ls, n, rfl, rfl, ils⟩ := hx6_
  refine hQQ ?_
  clear hQQ QQ
  have G1 := G.mono ps
  rw [vlen, List.take_length] at ils
  have hR : R ≠ [] := fun e => by
   refine hide fun QQ hQQ => ?_
   obtain ⟨r, hr⟩ := ok.head
   refine hQQ ?_
   clear hQQ QQ
   rw [e] at hr; refine hide fun QQ hQQ => ?_
   cases hr
   all_goals (refine hQQ ?_; clear hQQ QQ)
  refine Jq2 _ _ (xv_ fun Qq3 Jq3 => wpAny_IfExp (isTrue_or (qn_ 1 K rfl (wpAny_Constant_none ?_))))
  refine wpAny_isNot_self (by rfl) ?_
  refine h_ ?_
  refine split_b (fun z => by cases z) (fun _ => ?_)
  refine isTrue_or (qn_ 0 K rfl (List_ (z_ ?_)))
  refine nl K (by decide) fun z1 h3 fz1 K => ?_
  refine eq_l0 rm.deeper (K.get (.tail _ (.head _))) (K.get (.head _)) ?_
  have eLs : R.foldl leftStep [] = lefts R := rfl
  rw [eLs] at ils
  refine hide fun QQ hQQ => ?_
  obtain ⟨lm, hlm⟩ := lefts_head ok
  refine hQQ ?_
  clear hQQ QQ
  have lsl := strs_len ils
  have ne : ls.isEmpty = false := by
   cases ls with
   | nil => rw [hlm] at lsl; cases lsl
   | cons => rfl
  rw [ne]
  have nl9 := names_len ok
  have ll9 : (lefts R).length ≤ 9 := by
   have : (namesOf R).length = (terms R).length + 1 + (lefts R).length := by unfold namesOf; simp only [List.length_append, List.length_cons, List.length_nil]
   exact lnl fun q => lnq [_,_,_] [aL (tQ (tN 9)) Z0,aG Z1 (tA (tQ Z2) Z0),aL Z1 (tN 9)] rfl q this nl9
  have tl9 : (terms R).length ≤ 9 := by
   have : (namesOf R).length = (terms R).length + 1 + (lefts R).length := by unfold namesOf; simp only [List.length_append, List.length_cons, List.length_nil]
   exact lnl fun q => lnq [_,_,_] [aL (tQ (tN 9)) Z0,aG Z1 (tA (tQ Z0) Z2),aL Z1 (tN 9)] rfl q this nl9
  refine h_ ?_
  refine split_b (fun z => by cases z) (fun _ => ?_)
  refine isTrue_or_nil ?_
  refine split_b (fun z => by cases z) (fun _ => ?_)
  refine un_ 0 K rfl (m_ fun _ _ => ?_)
  refine hide fun QQ hQQ => ?_
  obtain ⟨sT, hsT⟩ := strs_at ils (k := 0) (x := (("S" : Str))) (by rw [hlm]; rfl)
  refine hQQ ?_
  clear hQQ QQ
  refine sub_list (K.get (.tail _ (.head _))) (by decide) (by decide) (v := .str (("S" : Str)) sT) (by simpa using hsT) (by rfl) ?_
  refine s_ K fun h2 t2 K => Jq3 _ _ (x_ fun Qq4 Jq4 => wpAny_If (qn_ 0 K rfl (n_ 1 K rfl ?_)))
  refine nin_ls (K.get (.tail _ (.head _))) ils ?_
  have hS : decide ((("S" : Str)) ∈ lefts R) = true := decide_eq_true (s_left ok)
  rw [hS]
  refine h_ ?_
  refine split_b (fun z => by cases z) (fun _ => ?_)
  refine e_ (Jq4 _ _ (xv_ fun Qq5 Jq5 => kt_ (gB_list _) G1 K.hold (ar_ (ldG (gG_OWN_TERMINALS _) G1 K.hold (by kernel_rfl) rfl rfl (z_ ?_)))))
  have h291 : q 291 = some (tupOf [.str "$end" 579, .str "error" 580, .str "$undefined" 581].toArray 0) := G1.k 291 _ (by kernel_rfl)
  refine lst_tup K (K.hold _ _ h291) (by decide) fun n1 h4 c4 fn1 K => ?_
  refine stC (m1 := [(n1, _), (z1, _), (la, _)]) (m2 := []) K hoN (by kernel_rfl) (by rfl) cN fun h5 oN2 hoN2 K => ?_
  refine Jq5 _ _ (x_ fun Qq6 Jq6 => wpAny_For (n_ 3 K rfl ?_))
  have K := K.perm (mu' := (la, listOf ls.toArray n) :: [(n1, listOf [.str "$end" 579, .str "error" 580, .str "$undefined" 581].toArray c4), (z1, listOf ([] : List Value).toArray 0), (L + 1, oN2)]) (List.perm_middle (l₁ := [(n1, _), (z1, _)]) (l₂ := [(L + 1, oN2)]))
  refine hide fun QQ hQQ => ?_
  obtain ⟨K, psl, hfl⟩ := K.fix fl
  refine hQQ ?_
  clear hQQ QQ
  have G2 := G1.mono psl
  have hN1 : h.get? (L + 1) = none := hab (L + 1) (Nat.le_succ L)
  refine for_list (mu := [(n1, listOf [.str "$end" 579, .str "error" 580, .str "$undefined" 581].toArray c4), (L + 1, oN2)]) (its := []) (vs := vvs) rm.hd (.inr ⟨_, _, _, rfl⟩) (.inr fun v hv => by
    refine hide fun QQ hQQ => ?_
    obtain ⟨i, hi⟩ := List.mem_iff_getElem?.mp hv
    have hlt := (List.getElem?_eq_some_iff.mp hi).1
    obtain ⟨a, _, _, _, e, _⟩ := vall i v R[i] hi (List.getElem?_eq_getElem (by exact lnt fun q => lnq [_,_,_] [aL Z0 Z1,aL (tQ Z1) Z2,aE Z2 Z0] rfl q hlt vlen))
    refine hQQ ?_
    clear hQQ QQ
    exact ⟨a, e⟩) (fun i q2 l' mu' => (PSub (q.add la (listOf ls.toArray n)) q2) ∧ (X3 fun (r : AL) (ns : List Value) (c : Nat) => A3 (l' = (Str.ofString "begin", .str (("S" : Str)) sT) :: (Str.ofString "lefts", .ref la) :: (Str.ofString "pairs", .ref va) :: r) (mu' = [(n1, listOf ns.toArray c), (L + 1, oN2)]) (StrsAre ns ((R.take i).foldl (termStep (lefts R)) OWN))))
   (((K.perm (mu' := (z1, _) :: [(n1, _), (L + 1, oN2)]) (List.perm_middle (l₁ := [(n1, _)]) (l₂ := [(L + 1, oN2)]))).drop fz1 (fun b x _ e => e) |>.pull (x := Str.ofString "pairs") (by exact lkN 3 (by kernel_rfl) rfl)).pull (x := Str.ofString "lefts") (by exact lkN 2 (by kernel_rfl) rfl) |>.pull (x := Str.ofString "begin") (by exact lkN 2 (by kernel_rfl) rfl))
   ⟨PSub.refl _, _, _, c4, rfl, rfl, .cons _ _ (.cons _ _ (.cons _ _ .nil))⟩ ?src3 ?turn3 ?done3
  case src3 => rintro i q2 h' l' mu' its K ⟨ps2, _⟩; exact ⟨vn, K.hold _ _ (ps2 _ _ (psl _ _ (ps _ _ vb)))⟩
  case turn3 =>
   rintro i v q2 h' l' mu' its t' hv hi K hx11_ Qt Jt
   refine hide fun QQ hQQ => ?_
   obtain ⟨ps2, r, ns, c, rfl, rfl, ins⟩ := hx11_
   refine hQQ ?_
   clear hQQ QQ
   have hir : i < R.length := by exact lnt fun q => lnq [_,_,_] [aL Z0 Z1,aL (tQ Z1) Z2,aE Z2 Z0] rfl q hi vlen
   have hx : R[i]? = some R[i] := List.getElem?_eq_getElem hir
   have hmem : R[i] ∈ R := List.getElem_mem hir
   generalize R[i] = x at hx hmem
   refine hide fun QQ hQQ => ?_
   obtain ⟨xl, xr⟩ := x
   obtain ⟨pa, pt, lv, pn, rfl, pb, pl⟩ := (vall i v _ hv hx).mono ((ps.trans psl).trans ps2)
   refine hQQ ?_
   clear hQQ QQ
   simp only at pb pl
   have G3 := G2.mono ps2
   have hstep : (R.take (i + 1)).foldl (termStep (lefts R)) OWN = xr.foldl (nameStep (lefts R)) ((R.take i).foldl (termStep (lefts R)) OWN) := by
    rw [List.take_add_one, hx, List.foldl_append]; rfl
   refine as_t2 K rm.hd (K.hold _ _ pb) (by kernel_rfl) (by kernel_rfl) (by rfl) (by rfl) fun h3 t3 K => ?_
   refine x_ fun Qq7 Jq7 => wpAny_For (n_ 0 K rfl ?_)
   refine hide fun QQ hQQ => ?_
   obtain ⟨pla, pvs, pn2, rfl, pb2, pstr⟩ := pl
   refine hQQ ?_
   clear hQQ QQ
   have plen := strs_len pstr
   have hpre : (R.take i).foldl (termStep (lefts R)) OWN <+: terms R := by
    have e : terms R = (R.drop i).foldl (termStep (lefts R)) ((R.take i).foldl (termStep (lefts R)) OWN) := by
     rw [← List.foldl_append, List.take_append_drop]; rfl
    rw [e]; exact termF_pre _ _ _
   refine for_list (mu := [(n1, listOf ns.toArray c), (L + 1, oN2)]) (its := its) (vs := pvs) rm.hd (.inl rfl) (.inl rfl) (fun j q3 l' mu' => (PSub q2 q3) ∧ (X3 fun (r : AL) (ns : List Value) (c : Nat) => A3 (l' = (Str.ofString "begin", .str (("S" : Str)) sT) :: (Str.ofString "lefts", .ref la) :: (Str.ofString "pairs", .ref va) :: r) (mu' = [(n1, listOf ns.toArray c), (L + 1, oN2)]) (StrsAre ns ((xr.take j).foldl (nameStep (lefts R)) ((R.take i).foldl (termStep (lefts R)) OWN)))))
    (((K.pull (x := Str.ofString "pairs") (by exact lkN 4 (by kernel_rfl) rfl)).pull (x := Str.ofString "lefts") (by exact lkN 4 (by kernel_rfl) rfl)).pull (x := Str.ofString "begin") (by exact lkN 4 (by kernel_rfl) rfl)) ⟨PSub.refl _, _, ns, c, rfl, rfl, ins⟩ ?src4 ?turn4 ?done4
   case src4 => rintro j q3 h' l' mu' its K ⟨ps3, _⟩; exact ⟨pn2, K.hold _ _ (ps3 _ _ pb2)⟩
   case done4 =>
    rintro q3 h' l' mu' t' K hx6_
    refine hide fun QQ hQQ => ?_
    obtain ⟨ps3, r, ns, c, rfl, rfl, ins⟩ := hx6_
    refine hQQ ?_
    clear hQQ QQ
    refine Jq7 _ _ (e_ (Jt _ _ ?_))
    refine ⟨_, _, _, _, _, rfl, K, ps2.trans ps3, _, ns, c, rfl, rfl, ?_⟩
    rw [hstep]
    rw [plen, List.take_length] at ins
    exact ins
   case turn4 =>
    rintro j v q3 h' l' mu' its t' hv hj K hx11_ Qt Jt
    refine hide fun QQ hQQ => ?_
    obtain ⟨ps3, r, ns, c, rfl, rfl, ins⟩ := hx11_
    refine hQQ ?_
    clear hQQ QQ
    have hjx : xr[j]? = some xr[j] := List.getElem?_eq_getElem (by exact lnt fun q => lnq [_,_,_] [aL Z0 Z1,aL (tQ Z1) Z2,aE Z2 Z0] rfl q hj plen)
    generalize xr[j] = y at hjx
    refine hide fun QQ hQQ => ?_
    obtain ⟨yt, hyv⟩ := strs_at pstr hjx
    refine hQQ ?_
    clear hQQ QQ
    rw [hyv] at hv; refine hide fun QQ hQQ => ?_
    cases hv
    all_goals (refine hQQ ?_; clear hQQ QQ)
    have G4 := G3.mono ps3
    have hstep2 : (xr.take (j + 1)).foldl (nameStep (lefts R)) ((R.take i).foldl (termStep (lefts R)) OWN) = nameStep (lefts R) ((xr.take j).foldl (nameStep (lefts R)) ((R.take i).foldl (termStep (lefts R)) OWN)) y := by
     rw [List.take_add_one, hjx, List.foldl_append]; rfl
    have nsl := strs_len ins
    have hb24 : ns.length ≤ 24 := by
     have h1 := (nameF_pre (lefts R) (xr.drop j) ((xr.take j).foldl (nameStep (lefts R)) ((R.take i).foldl (termStep (lefts R)) OWN))).length_le
     rw [← List.foldl_append, List.take_append_drop] at h1
     have h2 : (R.take (i + 1)).foldl (termStep (lefts R)) OWN <+: terms R := by
      have e : terms R = (R.drop (i + 1)).foldl (termStep (lefts R)) ((R.take (i + 1)).foldl (termStep (lefts R)) OWN) := by
       rw [← List.foldl_append, List.take_append_drop]; rfl
      rw [e]; exact termF_pre _ _ _
     rw [hstep] at h2
     have h3 := h2.length_le
     exact lnl fun q => lnq [_,_,_,_] [aL (tQ (tN 24)) Z0,aL Z1 Z2,aL Z3 Z1,aE Z0 Z3,aL Z2 (tN 9)] rfl q h3 h1 nsl tl9
    refine wpAny_assign_Name (s_ K fun h2 t2 K => x_ fun Qq8 Jq8 => wpAny_If (isTrue_and (qn_ 0 K rfl (n_ 2 K rfl ?_))))
    refine nin_ls (K.hold _ _ (ps3 _ _ (ps2 _ _ hfl))) ils ?_
    refine h_ ?_
    refine split_b (fun z1 => ?_) (fun z1 => ?_)
    ·have y1 : y ∉ lefts R := by simpa using z1
     refine isTrue_and (qn_ 0 K rfl ?_)
     refine ldC (K.get (.tail _ (.head _))) hoN2 (by kernel_rfl) (by rfl) cN (by kernel_rfl) ?_
     refine nin_ls (K.get (.head _)) ins ?_
     refine h_ ?_
     refine split_b (fun z2 => ?_) (fun z2 => ?_)
     ·have y2 : y ∉ (xr.take j).foldl (nameStep (lefts R)) ((R.take i).foldl (termStep (lefts R)) OWN) := by simpa using z2
      refine isTrue_and_nil ?_
      refine split_b (fun _ => ?_) (fun q => by cases q)
      refine x_ fun Qq9 Jq9 => wpAny_Expr_any (d_ ?_)
      refine ldC (K.get (.tail _ (.head _))) hoN2 (by kernel_rfl) (by rfl) cN (by kernel_rfl) ?_
      refine app_m (K.get (.head _)) ?_
      refine l_ (arnz_ 0 K rfl ?_)
      refine app_ (m1 := []) K (by show ns.length ≤ 2 ^ 24; exact lnl fun q => lnq [_] [aL (tQ (tN 16777216)) Z0,aL Z0 (tN 24)] rfl q hb24) fun h6 n6 K => ?_
      refine Jq9 _ _ (e_ (Jq8 _ _ (e_ (Jt _ _ ?_))))
      have K := ((K.pull (x := Str.ofString "pairs") (by exact lkN 3 (by kernel_rfl) rfl)).pull (x := Str.ofString "lefts") (by exact lkN 3 (by kernel_rfl) rfl)).pull (x := Str.ofString "begin") (by exact lkN 3 (by kernel_rfl) rfl)
      refine ⟨_, _, _, [(n1, _), (L + 1, oN2)], _, rfl, K, ps3, _, _, n6, rfl, rfl, ?_⟩
      rw [hstep2]
      unfold nameStep
      rw [if_pos ⟨y1, y2⟩]
      exact strs_app ins (.cons _ _ .nil)
     ·have y2 : y ∈ (xr.take j).foldl (nameStep (lefts R)) ((R.take i).foldl (termStep (lefts R)) OWN) := by simpa using z2
      skip
      refine split_b (fun q => by cases q) (fun _ => ?_)
      refine e_ (Jq8 _ _ (e_ (Jt _ _ ?_)))
      have K := ((K.pull (x := Str.ofString "pairs") (by exact lkN 3 (by kernel_rfl) rfl)).pull (x := Str.ofString "lefts") (by exact lkN 3 (by kernel_rfl) rfl)).pull (x := Str.ofString "begin") (by exact lkN 3 (by kernel_rfl) rfl)
      refine ⟨_, _, _, [(n1, _), (L + 1, oN2)], _, rfl, K, ps3, _, ns, c, rfl, rfl, ?_⟩
      rw [hstep2]
      unfold nameStep
      rw [if_neg fun q => q.2 y2]
      exact ins
    ·have y1 : y ∈ lefts R := by simpa using z1
     skip
     refine split_b (fun q => by cases q) (fun _ => ?_)
     refine e_ (Jq8 _ _ (e_ (Jt _ _ ?_)))
     have K := ((K.pull (x := Str.ofString "pairs") (by exact lkN 3 (by kernel_rfl) rfl)).pull (x := Str.ofString "lefts") (by exact lkN 3 (by kernel_rfl) rfl)).pull (x := Str.ofString "begin") (by exact lkN 3 (by kernel_rfl) rfl)
     refine ⟨_, _, _, [(n1, _), (L + 1, oN2)], _, rfl, K, ps3, _, ns, c, rfl, rfl, ?_⟩
     rw [hstep2]
     unfold nameStep
     rw [if_neg fun q => q.1 y1]
     exact ins
  case done3 =>
   rintro q2 h' l' mu' t' K hx6_
   refine hide fun QQ hQQ => ?_
   obtain ⟨ps2, r, ns, c, rfl, rfl, ins⟩ := hx6_
   refine hQQ ?_
   clear hQQ QQ
   have G3 := G2.mono ps2
   rw [vlen, List.take_length] at ins
   have eTs : R.foldl (termStep (lefts R)) OWN = terms R := rfl
   rw [eTs] at ins
   have nsl := strs_len ins
   refine Jq6 _ _ (xv_ fun Qq7 Jq7 => kb_ (gB_len _) G3 K.hold (ar_ ?_))
   refine ldC (K.get (.tail _ (.head _))) hoN2 (by kernel_rfl) (by rfl) cN (by kernel_rfl) ?_
   refine z_ ?_
   refine len_l (K.get (.head _)) (by simp; exact Int.ofNat_lt.mpr (lnt fun q => lnq [_,_] [aL (tN 9223372036854775808) Z0,aE Z0 Z1,aL Z1 (tN 9)] rfl q nsl tl9)) fun uc _ => ?_
   refine s_ K fun h2 t2 K => Jq7 _ _ (xv_ fun Qq8 Jq8 => o_ (o_ ?_))
   refine ldC (K.get (.tail _ (.head _))) hoN2 (by kernel_rfl) (by rfl) cN (by kernel_rfl) ?_
   refine List_ (r_ (g_ fun _ _ => z_ ?_))
   rename_i ua ta
   refine nl K (by show 1 ≤ 2 ^ 24; decide) fun z2 h7 fz2 K => ?_
   refine add_lists K (K.get (.tail _ (.head _))) (K.get (.head _)) (by show ns.length + 1 ≤ 2 ^ 24; exact lnl fun q => lnq [_,_] [aL (tQ (tN 16777216)) (tQ Z0),aE Z0 Z1,aL Z1 (tN 9)] rfl q nsl tl9) fun z3 h8 fz3 K => ?_
   refine n_ 2 K rfl ?_
   refine add_lists K (K.get (.head _)) (K.hold _ _ (ps2 _ _ hfl)) (by rw [List.length_append]; show ns.length + 1 + ls.length ≤ 2 ^ 24; exact lnl fun q => lnq [_,_,_,_] [aL (tQ (tN 16777216)) (tA (tQ Z0) Z1),aE Z0 Z2,aL Z2 (tN 9),aL Z3 (tN 9),aE Z1 Z3] rfl q nsl tl9 ll9 lsl) fun n2 h9 fn2 K => ?_
   refine stC (m1 := [(n2, _), (z3, _), (z2, _), (n1, _)]) (m2 := []) K hoN2 (by kernel_rfl) (by rfl) cN fun h10 oN3 hoN3 K => ?_
   have hns : StrsAre (ns ++ [Value.str "$accept" ua] ++ ls) (namesOf R) := strs_app (strs_app ins (.cons _ _ .nil)) ils
   refine hide fun QQ hQQ => ?_
   obtain ⟨K, psn, hfn⟩ := K.fix fn2
   refine hQQ ?_
   clear hQQ QQ
   have G4 := G3.mono psn
   have lnm : LS (q2.add n2 (listOf (ns ++ [Value.str "$accept" ua] ++ ls).toArray 0)) (.ref n2) (namesOf R) := ⟨n2, _, 0, rfl, hfn, hns⟩
   generalize hq4 : q2.add n2 (listOf (ns ++ [Value.str "$accept" ua] ++ ls).toArray 0) = q4 at *
   have K := K.led (mu' := [(L + 1, oN3)]) (fun z hz => List.mem_append_right [(z3, _), (z2, _), (n1, _)] hz) (by simp)
   refine hide fun QQ hQQ => ?_
   obtain ⟨K, psc, hfc⟩ := K.fix hN1
   refine hQQ ?_
   clear hQQ QQ
   have G4 := G4.mono psc
   have hfn := psc _ _ hfn
   have lnm := lnm.mono psc
   generalize hq4c : q4.add (L + 1) oN3 = q4c at *
   refine Jq8 _ _ (xv_ fun Qq9 Jq9 => List_ (r_ (kg_ (gG_Rule _) G4 K.hold (ar_ (m_ fun _ _ => rn_ 0 K rfl (r_ (Tuple_ (r_ (d_ ?_)))))))))
   refine ldC (K.hold _ _ hfc) hoN3 (by kernel_rfl) (by rfl) cN (by kernel_rfl) ?_
   refine idx_m (K.hold _ _ hfn) ?_
   refine l_ (arnz_ 1 K rfl ?_)
   have snm := left_name (s_left ok)
   refine idx_ (K.hold _ _ hfn) hns snm (by exact lnt fun q => lnq [_] [aL (tN 1000) Z0,aL Z0 (tN 9)] rfl q nl9) fun ui _ => ?_
   refine r_ (ldG (gG_END _) G4 K.hold (by kernel_rfl) rfl rfl (z_ ?_))
   refine nt K (by show 2 ≤ 2 ^ 24; decide) fun tu h11 q5 ps5 htu K => ?_
   have G5 := G4.mono ps5
   refine r_ (ldG (gG_END _) G5 K.hold (by kernel_rfl) rfl rfl (z_ ?_))
   refine ⟨⟨_, G5, K.hold⟩, ?_⟩
   refine mk_rule (n := 0) (lf := ns.toArray.size) (is := [symOf R "S", 0]) G5 K (rm.deeper.less (by decide)) ⟨tu, _, 0, rfl, htu, .cons _ _ (.cons _ _ .nil)⟩ fun x0 q6 h12 t12 ps6 K hr0 => ?_
   have G6 := G5.mono ps6
   refine z_ ?_
   refine nl K (by show 1 ≤ 2 ^ 24; decide) fun ru h13 fru K => ?_
   refine s_ K fun h2 t2 K => Jq9 _ _ (x_ fun Qq10 Jq10 => wpAny_For (n_ 4 K rfl ?_))
   have enl : ns.toArray.size = (terms R).length := by rw [List.size_toArray]; exact nsl
   rw [enl] at K hr0
   have psV : PSub q q6 := (((((psl.trans ps2).trans psn).trans psc).trans ps5).trans ps6)
   refine for_list (mu := [(ru, listOf [Value.ref x0].toArray 0)]) (its := []) (vs := vvs) rm.hd (.inr ⟨_, _, _, rfl⟩) (.inr fun v hv => by
     refine hide fun QQ hQQ => ?_
     obtain ⟨i, hi⟩ := List.mem_iff_getElem?.mp hv
     have hlt := (List.getElem?_eq_some_iff.mp hi).1
     obtain ⟨a, _, _, _, e, _⟩ := vall i v R[i] hi (List.getElem?_eq_getElem (by exact lnt fun q => lnq [_,_,_] [aL Z0 Z1,aL (tQ Z1) Z2,aE Z2 Z0] rfl q hlt vlen))
     refine hQQ ?_
     clear hQQ QQ
     exact ⟨a, e⟩) (fun i q7 l' mu' => (PSub q6 q7) ∧ (X3 fun (r : AL) (rs : List Value) (c : Nat) => A4 (l' = (Str.ofString "rules", .ref ru) :: (Str.ofString "count", .int ((terms R).length : Nat) uc) :: (Str.ofString "begin", .str (("S" : Str)) sT) :: r) (mu' = [(ru, listOf rs.toArray c)]) (rs.length = i + 1) (∀ j u, rs[j]? = some u → RuleAt q7 j ((grOf R).rules.getD j (0, [])) u)))
    K ⟨PSub.refl _, _, [.ref x0], 0, rfl, rfl, rfl, fun j u hu => by
     cases j with
     | zero => simp at hu; subst hu; exact hr0
     | succ j => simp at hu⟩ ?src5 ?turn5 ?done5
   case src5 => rintro i q7 h' l' mu' its K ⟨ps7, _⟩; exact ⟨vn, K.hold _ _ (ps7 _ _ (psV _ _ (ps _ _ vb)))⟩
   case turn5 =>
    rintro i v q7 h' l' mu' its t' hv hi K hx11_ Qt Jt
    refine hide fun QQ hQQ => ?_
    obtain ⟨ps7, r, rs, c, rfl, rfl, rlen, rall⟩ := hx11_
    refine hQQ ?_
    clear hQQ QQ
    have hir : i < R.length := by exact lnt fun q => lnq [_,_,_] [aL Z0 Z1,aL (tQ Z1) Z2,aE Z2 Z0] rfl q hi vlen
    have hx : R[i]? = some R[i] := List.getElem?_eq_getElem hir
    have hmem : R[i] ∈ R := List.getElem_mem hir
    generalize R[i] = x at hx hmem
    refine hide fun QQ hQQ => ?_
    obtain ⟨xl, xr⟩ := x
    obtain ⟨pa, pt, lv, pn, rfl, pb, pl⟩ := (vall i v _ hv hx).mono ((ps.trans psV).trans ps7)
    refine hQQ ?_
    clear hQQ QQ
    simp only at pb pl
    have G7 := G6.mono ps7
    have hxlen := ok.rlen _ hmem
    simp only at hxlen
    refine as_t2 K rm.hd (K.hold _ _ pb) (by kernel_rfl) (by kernel_rfl) (by rfl) (by rfl) fun h3 t3 K => ?_
    refine xv_ fun Qq11 Jq11 => kt_ (gB_tuple _) G7 K.hold (ar_ ?_)
    refine comp_eval (cl := [(Str.ofString "names", L + 1)]) (by rfl) (fun _ => by rfl) (by rfl) (by decide) ?_
    refine n_ 0 K rfl ?_
    refine hide fun QQ hQQ => ?_
    obtain ⟨pla, pvs, pn2, rfl, pb2, pstr⟩ := pl
    refine hQQ ?_
    clear hQQ QQ
    have plen := strs_len pstr
    have hcell7 := ps7 _ _ (ps6 _ _ (ps5 _ _ hfc))
    have hfn7 := ps7 _ _ (ps6 _ _ (ps5 _ _ hfn))
    refine cl_list (mu := []) (its := [(ru, listOf rs.toArray c)] ++ its) (vs := pvs) (.inl rfl) (.inl rfl) (K.hold _ _ pb2) (fun _ _ _ => turn1 ..) (by decide) (by rfl) rm.hd
     (fun D j q8 l' mu' => (PSub q7 q8) ∧ (X2 fun (vs : List Value) (c : Nat) => (mu' = [(D, listOf vs.toArray c)]) ∧ (IntsAre vs (zs ((xr.take j).map (symOf R)))))) K (fun D _ => ⟨PSub.refl _, [], 0, rfl, .nil⟩) ?src6 ?turn6 ?done6
    case src6 => rintro D C j q8 h' lc mu' its K ⟨ps8, _⟩; exact ⟨pn2, K.hold _ _ (ps8 _ _ pb2)⟩
    case turn6 =>
     rintro D C j v q8 h' lc mu' its t' hv hj K hx13_ Qt Jt
     refine hide fun QQ hQQ => ?_
     obtain ⟨ps8, vs, c, rfl, iv⟩ := hx13_
     refine hQQ ?_
     clear hQQ QQ
     have hjx : xr[j]? = some xr[j] := List.getElem?_eq_getElem (by exact lnt fun q => lnq [_,_,_] [aL Z0 Z1,aL (tQ Z1) Z2,aE Z2 Z0] rfl q hj plen)
     have hym : xr[j] ∈ xr := List.getElem_mem _
     generalize xr[j] = y at hjx hym
     refine hide fun QQ hQQ => ?_
     obtain ⟨yt, hyv⟩ := strs_at pstr hjx
     refine hQQ ?_
     clear hQQ QQ
     rw [hyv] at hv; refine hide fun QQ hQQ => ?_
     cases hv
     all_goals (refine hQQ ?_; clear hQQ QQ)
     have G8 := G7.mono ps8
     have vl : vs.length ≤ 24 := by
      rw [iv.length]; simp [zs]; exact lnl fun q => lnq [_,_] [aL (tQ (tN 24)) Z0,aL Z0 Z1,aL Z1 (tN 3)] rfl q (Nat.min_le_right _ _) hxlen
     refine wpAny_assign_Name (s_ K fun h2 t2 K => ?_)
     refine tests0 ?_
     rw [if_pos rfl]
     refine emit_ ?_
     refine d_ ?_
     refine ldC (K.hold _ _ (ps8 _ _ hcell7)) hoN3 (by kernel_rfl) (by rfl) (by rfl) (by kernel_rfl) ?_
     refine idx_m (K.hold _ _ (ps8 _ _ hfn7)) ?_
     refine l_ (arnz_ 0 K rfl ?_)
     refine idx_ (K.hold _ _ (ps8 _ _ hfn7)) hns (right_name hmem hym) (by exact lnt fun q => lnq [_] [aL (tN 1000) Z0,aL Z0 (tN 9)] rfl q nl9) fun uj _ => ?_
     refine app_ (m1 := []) K (by show vs.length ≤ 2 ^ 24; exact lnl fun q => lnq [_] [aL (tQ (tN 16777216)) Z0,aL Z0 (tN 24)] rfl q vl) fun h6 n6 K => ?_
     refine Jt _ ⟨_, _, _, _, _, rfl, K, ps8, _, n6, rfl, ?_⟩
     rw [List.take_add_one, hjx, List.map_append, zs_append]
     exact ints_append iv (.cons _ _ .nil)
    case done6 =>
     rintro D C oC q8 h' lc mu' t' K nC hC hx11_
     refine hide fun QQ hQQ => ?_
     obtain ⟨ps8, vs, c2, rfl, iv⟩ := hx11_
     refine hQQ ?_
     clear hQQ QQ
     rw [plen, List.take_length] at iv
     have vl : vs.length ≤ 24 := by
      rw [iv.length]; simp [zs]; exact lnl fun q => lnq [_] [aL (tQ (tN 24)) Z0,aL Z0 (tN 3)] rfl q hxlen
     have G8 := G7.mono ps8
     refine comp_val K nC hC fun h5 K => ?_
     refine z_ ?_
     refine tup_list K (K.get (.head _)) (by show vs.length ≤ 2 ^ 24; exact lnl fun q => lnq [_] [aL (tQ (tN 16777216)) Z0,aL Z0 (tN 24)] rfl q vl) fun tr h6 q9 ps9 htr K => ?_
     have G9 := G8.mono ps9
     have K := K.led (mu' := [(ru, listOf rs.toArray c)] ++ its) (fun z hz => .tail _ hz) (by have := K.nodup; rw [List.cons_append, List.map_cons, List.nodup_cons] at this; exact this.2)
     refine s_ K fun h2 t2 K => Jq11 _ _ (x_ fun Qq12 Jq12 => wpAny_Expr_any (dn_ 3 K rfl ?_))
     refine app_m (K.get (.head _)) ?_
     refine l_ (ar_ (kg_ (gG_Rule _) G9 K.hold (ar_ (kb_ (gB_len _) G9 K.hold (arnz_ 3 K rfl ?_)))))
     refine len_l (K.get (.head _)) (by have := ok.len; simp; exact Int.ofNat_lt.mpr (lnt fun q => lnq [_,_,_] [aL (tN 9223372036854775808) Z0,aL Z1 (tN 6),aL (tQ Z2) Z1,aE Z0 (tQ Z2)] rfl q this hir rlen)) fun ul _ => ?_
     refine r_ (d_ ?_)
     refine ldC (K.hold _ _ (ps9 _ _ (ps8 _ _ hcell7))) hoN3 (by kernel_rfl) (by rfl) cN (by kernel_rfl) ?_
     refine idx_m (K.hold _ _ (ps9 _ _ (ps8 _ _ hfn7))) ?_
     refine l_ (arnz_ 2 K rfl ?_)
     refine idx_ (K.hold _ _ (ps9 _ _ (ps8 _ _ hfn7))) hns (left_name (left_of hmem)) (by exact lnt fun q => lnq [_] [aL (tN 1000) Z0,aL Z0 (tN 9)] rfl q nl9) fun ux _ => ?_
     refine rn_ 0 K rfl (r_ (kg_ (gG_last_terminal _) G9 K.hold (arn_ 0 K rfl (rnz_ 4 K rfl ?_))))
     refine ⟨⟨_, G9, K.hold⟩, ?_⟩
     have hright : TI q9 (.ref tr) (zs (xr.map (symOf R))) := ⟨tr, vs, 0, rfl, htr, iv⟩
     refine use_fn (last_terminal_spec G9 K.hold hright) (rm.deeper.less (by decide)) fun v10 q10 h10 t10 gro hv10 => ?_
     refine hide fun QQ hQQ => ?_
     obtain ⟨i10, u10, rfl⟩ := hv10
     refine hQQ ?_
     clear hQQ QQ
     have K := K.call gro
     have G10 := G9.mono gro.sub
     refine z_ ?_
     refine ⟨⟨_, G10, K.hold⟩, ?_⟩
     refine mk_rule (n := rs.toArray.size) (lf := (namesOf R).idxOf xl) (is := xr.map (symOf R)) G10 K (rm.deeper.less (by decide)) (hright.mono gro.sub) fun x1 q11 h11 t11 ps11 K hr1 => ?_
     refine z_ ?_
     refine app_ (m1 := []) K (by have := ok.len; show rs.length ≤ 2 ^ 24; exact lnl fun q => lnq [_,_,_] [aL (tQ (tN 16777216)) Z0,aL Z1 (tN 6),aL (tQ Z2) Z1,aE Z0 (tQ Z2)] rfl q this hir rlen) fun h12 n12 K => ?_
     refine Jq12 _ _ (e_ (Jt _ _ ?_))
     have K := ((K.pull (x := Str.ofString "begin") (by exact lkN 5 (by kernel_rfl) rfl)).pull (x := Str.ofString "count") (by exact lkN 5 (by kernel_rfl) rfl)).pull (x := Str.ofString "rules") (by exact lkN 5 (by kernel_rfl) rfl)
     have ps12 : PSub q7 q11 := ((ps8.trans ps9).trans gro.sub).trans ps11
     refine ⟨_, _, _, _, _, rfl, K, ps7.trans ps12, _, _, n12, rfl, rfl, by simp [rlen], fun j u hu => ?_⟩
     rw [List.getElem?_append] at hu
     split at hu
     ·exact (rall j u hu).mono ps12
     ·rename_i hge
      have hj0 : j - rs.length = 0 := by have := (List.getElem?_eq_some_iff.mp hu).1; simp at this; exact sbZ fun q => lnq [_,_,_] [aL (tQ Z0) Z1,aE Z2 (tN 0),aL Z1 (tA Z2 Z0)] rfl q this (sbL _ _)
      rw [hj0] at hu
      simp at hu; subst hu
      have hj : j = i + 1 := by exact lne (fun q => lnq [_,_,_,_] [aL (tA (tQ Z0) (tN 1)) Z1,aE Z2 (tN 0),aL Z1 (tA Z2 Z3),aE Z3 (tQ Z0)] rfl q hj0 (sbL _ _) rlen) fun q => lnq [_,_,_] [aL (tQ Z0) (tQ Z1),aX (tQ Z0) Z2,aG Z2 (tQ Z1)] rfl q hge rlen
      subst hj
      have e1 : rs.toArray.size = i + 1 := by rw [List.size_toArray]; exact rlen
      rw [e1] at hr1
      have e2 : (grOf R).rules.getD (i + 1) (0, []) = ((namesOf R).idxOf xl, xr.map (symOf R)) := by
       show ((_ :: R.map _ : List (Nat × List Nat))).getD (i + 1) _ = _
       simp [List.getD_eq_getElem?_getD, hx]; rfl
      rw [e2]
      exact hr1
   case done5 =>
    rintro q7 h' l' mu' t' K hx6_
    refine hide fun QQ hQQ => ?_
    obtain ⟨ps7, r, rs, c, rfl, rfl, rlen, rall⟩ := hx6_
    have G7 := G6.mono ps7
    obtain ⟨K, psr, hfr⟩ := K.fix fru
    refine hQQ ?_
    clear hQQ QQ
    have G8 := G7.mono psr
    have ps8 := ((ps5.trans ps6).trans ps7).trans psr
    have hcell8 := ps8 _ _ hfc
    have hfn8 := ps8 _ _ hfn
    have rl7 : (grOf R).rules.length = R.length + 1 := by show (_ :: R.map _ : List (Nat × List Nat)).length = _; simp
    have lrr : LO (q7.add ru (listOf rs.toArray c)) (.ref ru) (grOf R).rules.length (fun i r => RuleAt (q7.add ru (listOf rs.toArray c)) i ((grOf R).rules.getD i (0, [])) r) := ⟨ru, rs, c, rfl, hfr, by exact lne (fun q => lnq [_,_,_,_] [aL (tQ Z0) Z1,aG Z0 (tQ Z2),aE Z1 (tQ Z3),aE Z3 Z2] rfl q rl7 rlen vlen) fun q => lnq [_,_,_,_] [aL (tQ Z0) Z1,aE Z1 (tQ Z2),aG Z0 (tQ Z3),aG Z3 Z2] rfl q rl7 rlen vlen, fun j u hu => (rall j u hu).mono psr⟩
    refine Jq10 _ _ (wj_ (kg_ (gG_Grammar _) G8 K.hold (ar_ ?_)))
    refine ldC (K.hold _ _ hcell8) hoN3 (by kernel_rfl) (by rfl) cN (by kernel_rfl) ?_
    refine rn_ 1 K rfl (rn_ 0 K rfl (r_ ?_))
    refine nd (knd := PySem.intKind PR w) G8 K fun lv h9 olv flv _ _ K => ?_
    refine r_ (wpAny_Constant_none (r_ (d_ ?_)))
    refine ldC (K.hold _ _ hcell8) hoN3 (by kernel_rfl) (by rfl) cN (by kernel_rfl) ?_
    refine idx_m (K.hold _ _ hfn8) ?_
    refine l_ (arnz_ 2 K rfl ?_)
    refine idx_ (K.hold _ _ hfn8) hns snm (by exact lnt fun q => lnq [_] [aL (tN 1000) Z0,aL Z0 (tN 9)] rfl q nl9) fun ug _ => ?_
    refine z_ ?_
    refine ⟨⟨_, G8, K.hold⟩, ?_⟩
    refine mk (n := 1) (Post := fun x dx v p' h' => X2 fun o' fs => A3 (h'.get? dx = some o') (AO 10 o' fs) (∀ q, PSub p' q → q x = some (instObj 391 dx) → q dx = some o' → GrAt q x (grOf R) fs)) G8 K (mk_g _) (rm.deeper.less (by decide)) (fun x dx h1 G1 H1 hx hdx pdx px kp fx => ?_) (fun x dx p9 h9 t9 o9 v ps9 fx fdx K po ho9 => ?_)
    ·intro A' g' d' t' os' R' rm' k'
     refine grammar_init G1 H1 hx hdx pdx (lnm.mono ps8) lrr rfl (gr_ok ok) A' g' d' t' os' R' rm' fun v p10 h10 t10 gro po => ?_
     exact k' v p10 h10 t10 gro (let ⟨c1, ⟨o', fs, e1, e2, e3⟩, c3⟩ := po; ⟨c1, ⟨o', fs, e1, e2, e3⟩, c3⟩)
    ·refine hide fun QQ hQQ => ?_
     obtain ⟨o10, fs, e10, _, hg⟩ := po
     refine hQQ ?_
     clear hQQ QQ
     rw [ho9] at e10; refine hide fun QQ hQQ => ?_
     cases e10
     all_goals (refine hQQ ?_; clear hQQ QQ)
     refine hide fun QQ hQQ => ?_
     obtain ⟨K, ps10, hf10⟩ := K.fix fx
     obtain ⟨K, ps11, hf11⟩ := K.fix fdx
     refine hQQ ?_
     clear hQQ QQ
     exact k _ _ _ _ K.gro ⟨x, fs, rfl, hg _ (ps10.trans ps11) (ps11 _ _ hf10) hf11⟩
end

noncomputable def TapeO (o : Obj) (n : Nat) : Prop := X7 fun (a s : Int) (c : Nat) (u1 u2 u3 : Tok) (m : Nat) => A4 (o = listOf [.int a u1, .int s u2, .int (c : Nat) u3].toArray m) (0 ≤ s) (s < 1000000007) (c ≤ n)
section
variable {w : World} {A : Around} {E : Value → Shared → Prop} {g : Array GenState} {d : Drawn} {t : Nat} {os : OsState} {p : PH} {h : Heap}
theorem i_mod {a b : Int} {u v : Tok} {Q : Value → Shared → Prop} (hb : b ≠ 0) (q : ∀ u t', Q (.int (a.fmod b) u) ⟨h, g, d, t', os⟩) : wpAny (model PR w) A (binaryOp .Mod (.int a u) (.int b v)) Q E ⟨h, g, d, t, os⟩ := PyProof.Rows.mod_int hb (q _ _)
theorem i_fdiv {a b : Int} {u v : Tok} {Q : Value → Shared → Prop} (hb : b ≠ 0) (hs : b.natAbs < 1073741824) (q : ∀ u t', Q (.int (a.fdiv b) u) ⟨h, g, d, t', os⟩) : wpAny (model PR w) A (binaryOp .FloorDiv (.int a u) (.int b v)) Q E ⟨h, g, d, t, os⟩ := PyProof.Rows.floordiv_int hb (q _ _) (.inl (PyProof.noPylong_small hs))
theorem i_mul {a b : Int} {u v : Tok} {Q : Value → Shared → Prop} (hm : IntMulOk a b) (q : ∀ u t', Q (.int (a * b) u) ⟨h, g, d, t', os⟩) : wpAny (model PR w) A (binaryOp .Mult (.int a u) (.int b v)) Q E ⟨h, g, d, t, os⟩ := PyProof.Rows.mul_int (q _ _) hm
theorem i_pow {a : Int} {n : Nat} {u v : Tok} {Q : Value → Shared → Prop} (hn : n ≤ 1000000) (ha : a.natAbs < 2 ^ 64) (q : ∀ u t', Q (.int (a ^ n) u) ⟨h, g, d, t', os⟩) : wpAny (model PR w) A (binaryOp .Pow (.int a u) (.int (n : Nat) v)) Q E ⟨h, g, d, t, os⟩ :=
 PyProof.Rows.pow_int_small (by exact Int.natCast_nonneg _) (by exact Int.ofNat_le.mpr (lnl fun q => lnq [_] [aL (tQ (tN 1000000)) Z0,aL Z0 (tN 1000000)] rfl q hn)) ha (q _ _)
theorem draw_spec {a : Addr} {o : Obj} {n many : Nat} {u : Tok} (G : Grd w p) (H : Holds p h) (ha : h.get? a = some o) (pa : p a = none) (T : TapeO o n) (hn : n < 1000) (hm : 0 < many) (hmb : many < 1000) :
  Fn w 1 (.ref 422) [.ref a, .int (many : Nat) u] p h [a] (fun v p' h' => ∃ k : Nat, IntV v (k : Nat) ∧ k < many ∧ p' a = none ∧ ∃ o', h'.get? a = some o' ∧ TapeO o' (n + 1)) := by
 intro A gg d1 t os R rm k
 refine hide fun QQ hQQ => ?_
 obtain ⟨ta, ts, tc, u1, u2, u3, m, rfl, s0, s1, c1⟩ := T
 refine hQQ ?_
 clear hQQ QQ
 refine call_fn (mu := [(a, listOf [.int ta u1, .int ts u2, .int (tc : Nat) u3].toArray m)]) (fd := fnT 28) [(Str.ofString "many", .int (many : Nat) u), (Str.ofString "tape", .ref a)] rfl (by kernel_rfl) G H rm (by simpa using ⟨ha, pa⟩) (by simp) (BindsTo.of_eq (by rfl)) (by kernel_rfl) (by kernel_rfl) (by rfl) (by rfl) (by rfl) fun L h₁ t₁ K => ?_
 refine x_ fun Qq1 Jq1 => wpAny_If (q_ (un_ 1 K rfl (m_ fun _ _ => ?_)))
 refine sub_list (K.get (.head _)) (by decide) (by decide) (v := .int ta u1) (by rfl) (by rfl) ?_
 refine m_ fun _ _ => i_eq (h_ ?_)
 refine cut (fun f s' => (f = .next) ∧ (X7 fun (h3 : Heap) (t3 : Nat) (a3 : Int) (c3 : Nat) (v1 v3 : Tok) (m3 : Nat) => A3 (s' = ⟨h3, gg, d1, t3, os⟩) (c3 ≤ n + 1) (W p h [a] L p h3 [(Str.ofString "many", .int (many : Nat) u), (Str.ofString "tape", .ref a)] [(a, listOf [.int a3 v1, .int ts u2, .int (c3 : Nat) v3].toArray m3)]))) (fun _ => ?_) (fun _ => ?_) ?_
 ·refine x_ fun Qq2 Jq2 => wpAny_Assign_Subscript (o_ (un_ 1 K rfl (m_ fun _ _ => ?_)))
  refine sub_list (K.get (.head _)) (by decide) (by decide) (v := .int (tc : Nat) u3) (by rfl) (by rfl) ?_
  refine m_ fun _ _ => i_add fun _ _ => n_ 1 K rfl (m_ fun _ _ => ?_)
  refine set_l (m1 := []) (k := 2) (vs := [.int ta u1, .int ts u2, .int (tc : Nat) u3]) K (show 2 < 3 by decide) (show 3 ≤ 2 ^ 24 by decide) fun h4 n4 K => ?_
  refine Jq2 _ _ (x_ fun Qq3 Jq3 => wpAny_Assign_Subscript (o_ (o_ (o_ (un_ 1 K rfl (m_ fun _ _ => ?_))))))
  refine sub_list (K.get (.head _)) (by decide) (by decide) (v := .int ts u2) (by rfl) (by rfl) ?_
  refine o_ (m_ fun _ _ => un_ 1 K rfl (m_ fun _ _ => ?_))
  refine sub_list (K.get (.head _)) (by decide) (by decide) (v := .int ((tc : Int) + 1) _) (by rfl) (by rfl) ?_
  skip
  refine i_mul (.of_left (by decide +kernel)) fun _ _ => ?_
  refine i_add fun _ _ => m_ fun _ _ => ?_
  refine i_pow (n := 3) (by decide) (by omega) fun _ _ => ?_
  refine m_ fun _ _ => ?_
  refine i_mod (by decide) fun _ _ => ?_
  refine n_ 1 K rfl (m_ fun _ _ => ?_)
  refine set_l (m1 := []) (k := 0) K (show 0 < 3 by decide) (show 3 ≤ 2 ^ 24 by decide) fun h5 n5 K => ?_
  refine Jq3 _ _ (e_ ?_)
  exact ⟨rfl, _, _, _, tc + 1, _, _, _, rfl, by exact lnl fun q => lnq [_,_] [aL (tA (tQ Z0) (tN 1)) (tQ Z1),aL Z1 Z0] rfl q c1, K⟩
 ·refine e_ ?_
  exact ⟨rfl, _, _, ta, tc, u1, u3, m, rfl, by exact lnl fun q => lnq [_,_] [aL (tA (tQ Z0) (tN 1)) Z1,aL Z1 Z0] rfl q c1, K⟩
 ·rintro f s' hx2_
  refine hide fun QQ hQQ => ?_
  obtain ⟨rfl, h3, t3, a3, c3, v1, v3, m3, rfl, hc3, K⟩ := hx2_
  refine hQQ ?_
  clear hQQ QQ
  try dsimp only
  refine Jq1 _ _ (xv_ fun Qq2 Jq2 => o_ (un_ 1 K rfl (m_ fun _ _ => ?_)))
  refine sub_list (K.get (.head _)) (by decide) (by decide) (v := .int a3 v1) (by rfl) (by rfl) ?_
  refine n_ 0 K rfl ?_
  refine i_mod (by omega) fun _ _ => ?_
  refine s_ K fun h2 t2 K => Jq2 _ _ (x_ fun Qq3 Jq3 => wpAny_Assign_Subscript (o_ (un_ 2 K rfl (m_ fun _ _ => ?_))))
  refine sub_list (K.get (.head _)) (by decide) (by decide) (v := .int a3 v1) (by rfl) (by rfl) ?_
  refine n_ 1 K rfl ?_
  refine i_fdiv (by omega) (by omega) fun _ _ => ?_
  refine n_ 2 K rfl (m_ fun _ _ => ?_)
  refine set_l (m1 := []) (k := 0) (vs := [.int a3 v1, .int ts u2, .int (c3 : Nat) v3]) K (show 0 < 3 by decide) (show 3 ≤ 2 ^ 24 by decide) fun h5 n5 K => ?_
  refine Jq3 _ _ (wj_ (n_ 0 K rfl ?_))
  have h0 := Int.fmod_nonneg_of_pos a3 (show (0 : Int) < (many : Nat) by exact Int.ofNat_lt.mpr (lnt fun q => lnq [_] [aL Z0 (tN 0),aL (tQ (tN 0)) Z0] rfl q hm))
  have h1 := Int.fmod_lt_of_pos a3 (show (0 : Int) < (many : Nat) by exact Int.ofNat_lt.mpr (lnt fun q => lnq [_] [aL Z0 (tN 0),aL (tQ (tN 0)) Z0] rfl q hm))
  refine k _ _ _ _ K.gro ⟨(a3.fmod (many : Nat)).toNat, ⟨_, by rw [Int.toNat_of_nonneg h0]⟩, by omega, pa, _, K.get (.head _), _, ts, c3, _, u2, v3, n5, rfl, s0, s1, hc3⟩
end

theorem slicePick_mem {items : Array Value} {lo hi st : Option Int} {x : Value} (h : x ∈ (slicePick items lo hi st).toList) : x ∈ items.toList := by
 unfold slicePick at h
 simp only [List.mem_filterMap] at h
 refine hide fun QQ hQQ => ?_
 obtain ⟨i, _, hi⟩ := h
 refine hQQ ?_
 clear hQQ QQ
 have := Array.mem_of_getElem? hi
 simpa using this
noncomputable def AllInt (vs : List Value) : Prop := ∀ v ∈ vs, ∃ i, IntV v i
section
variable {w : World} {p : PH} {h : Heap}
theorem sl_any {A : Around} {E : Value → Shared → Prop} {g : Array GenState} {d : Drawn} {t : Nat} {os : OsState} {p0 : PH} {h0 : Heap} {X : List Addr} {L : Addr} {l : AL} {mu : Led} {value slice : PySem.Expr} {a : Addr} {vs : List Value} {n : Nat} {b : Int} {u : Tok} {ops : List Value} {Q : Value → Shared → Prop} (K : W p0 h0 X L p h l mu) (ha : h.get? a = some (listOf vs.toArray n)) (hs : vs.length ≤ 2 ^ 24)
  (hsub : subscripted slice false (.ref a) (.ref h.objs.size) = operate ops (getItem (.ref a) (.ref h.objs.size)))
  (q : ∀ c h' (us : List Value), (∀ x ∈ us, x ∈ vs) → us.length ≤ vs.length → h0.get? c = none → W p0 h0 X L p h' l ((c, listOf us.toArray 0) :: mu) → Q (.ref c) ⟨h', g, d, t, os⟩) :
  wpAny (model PR w) A (subscriptTail value slice (.ref a) (.ref h.objs.size)) Q E ⟨h.push { cls := .type "slice", data := .fields #[.none, .int b u, .none] }, g, d, t, os⟩ := by
 have K1 := (K.push { cls := .type "slice", data := .fields #[.none, .int b u, .none] } rfl)
 have K2 := K1.push (listOf (slicePick vs.toArray none (some b) none).toList.toArray 0) rfl
 have K3 := K2.led (mu' := ((h.push { cls := .type "slice", data := .fields #[.none, .int b u, .none] }).objs.size, listOf (slicePick vs.toArray none (some b) none).toList.toArray 0) :: mu) (fun q hq => by
  rcases List.mem_cons.mp hq with rfl | hq
  ·exact .head _
  ·exact .tail _ (.tail _ hq)) (by
  have := K2.nodup
  rw [List.map_cons, List.map_cons, List.nodup_cons, List.nodup_cons] at this
  rw [List.map_cons, List.nodup_cons]
  exact ⟨fun z => this.1 (List.mem_cons_of_mem _ z), this.2.2⟩)
 refine tail_any (s := ⟨_, g, d, t, os⟩) ⟨_, (Heap.get?_push_of_some _ ha), rfl⟩ slot_list_getitem.lookup (wpAny_getItem_list_slice (items := vs.toArray) ⟨_, Heap.get?_push_of_some _ ha, rfl, _, rfl⟩ (Heap.IsSliceOf.new ..) .none (.int _ _) .none (by simp) ?_ (by rw [List.size_toArray]; exact hs)) hsub
 have e : listOf (slicePick vs.toArray none (some b) none) 0 = listOf (slicePick vs.toArray none (some b) none).toList.toArray 0 := by simp
 have key := q _ _ (slicePick vs.toArray none (some b) none).toList (fun x hx => by simpa using slicePick_mem hx) (by have := slicePick_size_le vs.toArray none (some b) none; simpa using this) K1.new_none K3
 rw [← e] at key
 exact key
theorem tape_spec {sv : Value} {is : List Int} (G : Grd w p) (H : Holds p h) (hs : LI p sv is) (hl : is.length ≤ 63) :
  Fn w 1 (.ref 415) [sv] p h [] (fun v p' h' => X2 fun a o => A5 (v = .ref a) (h.get? a = none) (p' a = none) (h'.get? a = some o) (TapeO o 0)) := by
 intro A gg d1 t os R rm k
 refine hide fun QQ hQQ => ?_
 obtain ⟨sa, svs, sn, rfl, sb, sia⟩ := hs
 refine hQQ ?_
 clear hQQ QQ
 have sl := sia.length
 refine call_fn (mu := []) (fd := fnT 27) [(Str.ofString "script", .ref sa)] rfl (by kernel_rfl) G H rm (by simp) (by simp) (BindsTo.of_eq (by rfl)) (by kernel_rfl) (by kernel_rfl) (by rfl) (by rfl) (by rfl) fun L h₁ t₁ K => ?_
 refine x_ fun Qq1 Jq1 => ?_
 refine Assign_Tuple ?_
 refine Tuple_ (r_ (m_ fun _ _ => r_ (m_ fun _ _ => z_ ?_)))
 refine nt K (by show 2 ≤ 2 ^ 24; decide) fun ta h2 q2 ps2 hta K => ?_
 refine as_t2 K rm.hd (K.hold _ _ hta) (by kernel_rfl) (by kernel_rfl) (by rfl) (by rfl) fun h3 t3 K => ?_
 have G2 := G.mono ps2
 refine Jq1 _ _ (x_ fun Qq2 Jq2 => wpAny_For (un_ 2 K rfl (wpAny_Slice (evalPart_none_step (evalPart_some_step (m_ fun _ _ => evalPart_none_step ?_))))))
 refine sl_any K (K.hold _ _ (ps2 _ _ sb)) (by exact lnl fun q => lnq [_,_] [aL (tQ (tN 16777216)) Z0,aE Z0 Z1,aL Z1 (tN 63)] rfl q sl hl) (by rfl) fun c h4 us hus hul fc K => ?_
 skip
 refine hide fun QQ hQQ => ?_
 obtain ⟨K, psc, hfc⟩ := K.fix fc
 refine hQQ ?_
 clear hQQ QQ
 have G2 := G2.mono psc
 refine for_list (mu := []) (its := []) (vs := us) rm.hd (.inl rfl) (.inl rfl) (fun i q l' mu' => A3 (PSub (q2.add c (listOf us.toArray 0)) q) (mu' = []) (X5 fun (r : AL) (dg sd : Int) (u1 u2 : Tok) => A3 (l' = (Str.ofString "seed", .int sd u2) :: (Str.ofString "digits", .int dg u1) :: r) (0 ≤ sd) (sd < 1000000007)))
  K ⟨PSub.refl _, rfl, _, _, _, _, _, rfl, by decide, by decide⟩ ?src ?turn ?done
 case src => rintro i q h' l' mu' its K ⟨ps, _⟩; exact ⟨0, K.hold _ _ (ps _ _ hfc)⟩
 case done =>
  rintro q h' l' mu' t' K hx6_
  refine hide fun QQ hQQ => ?_
  obtain ⟨ps, rfl, r, dg, sd, u1, u2, rfl, s0, s1⟩ := hx6_
  refine hQQ ?_
  clear hQQ QQ
  refine Jq2 _ _ (wj_ (List_ (rn_ 1 K rfl (rn_ 0 K rfl (r_ (m_ fun _ _ => z_ ?_))))))
  refine nl K (by show 3 ≤ 2 ^ 24; decide) fun a h6 fa K => ?_
  have oa := K.own (a, listOf [.int dg u1, .int sd u2, .int ((0 : Nat) : Int) _].toArray 0) (.head _)
  exact k _ _ _ _ K.gro ⟨a, _, rfl, fa, oa.2.2.1, oa.1, dg, sd, 0, u1, u2, _, 0, rfl, s0, s1, Nat.zero_le _⟩
 case turn =>
  rintro i v q h' l' mu' its t' hv hi K hx11_ Qt Jt
  refine hide fun QQ hQQ => ?_
  obtain ⟨ps, rfl, r, dg, sd, u1, u2, rfl, s0, s1⟩ := hx11_
  have G1 := G2.mono ps
  obtain ⟨n, un, rfl⟩ := sia.all v (hus v (List.mem_of_getElem? hv))
  refine hQQ ?_
  clear hQQ QQ
  refine wpAny_assign_Name (s_ K fun h2 t2 K => xv_ fun Qq3 Jq3 => o_ (on_ 2 K rfl (m_ fun _ _ => ?_)))
  refine i_mul (.of_right (by decide +kernel)) fun _ _ => ?_
  refine kb_ (gB_abs _) G1 K.hold (ar_ (kt_ (gB_int _) G1 K.hold (arnz_ 0 K rfl ?_)))
  refine call_int_int ?_
  refine z_ ?_
  refine PyProof.Rows.call_abs_int fun _ _ => ?_
  refine i_add fun _ _ => s_ K fun h2 t2 K => Jq3 _ _ (xv_ fun Qq4 Jq4 => o_ (o_ (on_ 2 K rfl (m_ fun _ _ => ?_))))
  refine i_mul (.of_right (by decide +kernel)) fun _ _ => ?_
  refine kt_ (gB_int _) G1 K.hold (arnz_ 1 K rfl ?_)
  refine call_int_int ?_
  refine i_add fun _ _ => m_ fun _ _ => ?_
  refine i_mod (by decide) fun _ _ => ?_
  refine s_ K fun h2 t2 K => Jq4 _ _ (e_ (Jt _ _ ?_))
  have h0 := Int.fmod_nonneg_of_pos (sd * 523 + n) (show (0 : Int) < 1000000007 by decide)
  have h1 := Int.fmod_lt_of_pos (sd * 523 + n) (show (0 : Int) < 1000000007 by decide)
  have K := (K.pull (x := Str.ofString "digits") (by exact lkN 1 (by kernel_rfl) rfl)).pull (x := Str.ofString "seed") (by exact lkN 1 (by kernel_rfl) rfl)
  exact ⟨_, _, _, _, _, rfl, K, ps, rfl, _, _, _, _, _, rfl, h0, h1⟩
end

theorem TapeO.mono {o : Obj} {n m : Nat} (h : TapeO o n) (hm : n ≤ m) : TapeO o m := let ⟨a, s, c, u1, u2, u3, k, e, h0, h1, hc⟩ := h; ⟨a, s, c, u1, u2, u3, k, e, h0, h1, by exact lnl fun q => lnq [_,_,_] [aL (tQ Z0) Z1,aL Z1 Z2,aL Z2 Z0] rfl q hc hm⟩
noncomputable def AB : List Str := ["a", "b"]
structure LawRaw (R : Raw) (k : Nat) (F E : Raw) : Prop where
 pos : 1 ≤ k
 le : k ≤ 3
 cat : R = F ++ E
 first : F.map (·.1) = S3.take k
 f3 : ∀ x ∈ F, x.2.length ≤ 3
 elen : E.length ≤ 3
 e1 : ∀ x ∈ E, x.1 ∈ S3.take k
 e2 : ∀ x ∈ E, x.2.length ≤ 2
 syms : ∀ x ∈ R, ∀ y ∈ x.2, y ∈ S3.take k ∨ y ∈ AB
theorem strs_take {vs : List Value} {xs : List Str} (h : StrsAre vs xs) (n : Nat) : StrsAre (vs.take n) (xs.take n) := by
 induction h generalizing n with
 | nil => simp; exact .nil
 | cons y t _ ih => cases n with
  | zero => exact .nil
  | succ n => exact .cons _ _ (ih n)
theorem W.tl {p0 p : PH} {h0 h : Heap} {X : List Addr} {L : Addr} {l : AL} {mu : Led} {x : Addr × Obj} (K : W p0 h0 X L p h l (x :: mu)) : W p0 h0 X L p h l mu := K.led (fun _ hz => .tail _ hz) (by have := K.nodup; rw [List.map_cons, List.nodup_cons] at this; exact this.2)
noncomputable def LetOk (k : Nat) (y : Str) : Prop := y ∈ S3.take k ∨ y ∈ AB
theorem let_ab {k i : Nat} {y : Str} (h : (AB ++ S3.take k)[i]? = some y) : LetOk k y := by
 rcases List.mem_append.mp (List.mem_of_getElem? h) with z | z
 ·exact .inr z
 ·exact .inl z
theorem let_ba {k i : Nat} {y : Str} (h : (S3.take k ++ AB)[i]? = some y) : LetOk k y := by
 rcases List.mem_append.mp (List.mem_of_getElem? h) with z | z
 ·exact .inl z
 ·exact .inr z
section
variable {w : World} {p : PH} {h : Heap}
theorem draw_ {A : Around} {E : Value → Shared → Prop} {g : Array GenState} {d : Drawn} {t : Nat} {os : OsState} {p0 : PH} {h0 : Heap} {X : List Addr} {L : Addr} {l : AL} {m1 m2 : Led} {a : Addr} {o : Obj} {n many : Nat} {u : Tok} {Q : Value → Shared → Prop} (G : Grd w p) (K : W p0 h0 X L p h l (m1 ++ (a, o) :: m2)) (r : Rm A 1) (T : TapeO o n) (hn : n < 1000) (hm : 0 < many) (hmb : many < 1000)
  (q : ∀ (k : Nat) v p' h' t' o', PSub p p' → k < many → TapeO o' (n + 1) → W p0 h0 X L p' h' l (m1 ++ (a, o') :: m2) → Q (.int (k : Nat) v) ⟨h', g, d, t', os⟩) : wpAny (model PR w) A (call (.ref 422) [.ref a, .int (many : Nat) u] []) Q E ⟨h, g, d, t, os⟩ := by
 have K1 := K.mid'
 have oa := K1.own (a, o) (.head _)
 refine use_fn (draw_spec G K.hold oa.1 oa.2.2.1 T hn hm hmb) r fun v p' h' t' gro hv => ?_
 refine hide fun QQ hQQ => ?_
 obtain ⟨k, ⟨uk, rfl⟩, hk, pa, o', eo, T'⟩ := hv
 refine hQQ ?_
 clear hQQ QQ
 have K2 := W.callX (m1 := [(a, o)]) (m1' := [(a, o')]) (m2 := m1 ++ m2) K1 gro rfl (fun z hz => by rw [List.mem_singleton] at hz; subst hz; exact eo)
 exact q k uk p' h' t' o' gro.sub hk T' (W.mid (m1 := m1) (m2 := m2) K2)
set_option maxHeartbeats 4000000 in
theorem pairs_spec {a : Addr} {o : Obj} (G : Grd w p) (H : Holds p h) (ha : h.get? a = some o) (pa : p a = none) (T : TapeO o 0) :
  Fn w 3 (.ref 427) [.ref a] p h [a] (fun v p' _ => X4 fun R k F E => (PairsAt p' v R) ∧ (LawRaw R k F E)) := by
 intro A gg d1 t os RR rm kk
 refine call_fnD (mu := [(a, o)]) (fd := fnT 29) [(Str.ofString "tape", .ref a)] [] rfl (by kernel_rfl) G H rm (by simpa using ⟨ha, pa⟩) (by simp) (BindsTo.of_eq (by rfl)) (by rfl) (fun _ => by rfl) (by rfl) (by rfl) (by rfl) fun L h₁ t₁ hab kp K hcells => ?_
 have hn1 := hab (L + 1) (Nat.le_succ L)
 have hn2 := hab (L + 2) (Nat.le_trans (Nat.le_succ L) (Nat.le_succ _))
 have na1 : a ≠ L + 1 := fun e => by rw [← e, ha] at hn1; cases hn1
 have na2 : a ≠ L + 2 := fun e => by rw [← e, ha] at hn2; cases hn2
 refine hide fun QQ hQQ => ?_
 obtain ⟨oN, hoN, K⟩ := K.cell (hcells (Str.ofString "names") (L + 2) (by rfl)) (H.none hn2) (Nat.ne_of_gt (show L < L + 2 from Nat.lt_succ_of_lt (Nat.lt_succ_self L))) (by simpa using na2) hn2
 obtain ⟨oT, hoT, K⟩ := K.cell (hcells (Str.ofString "tape") (L + 1) (by rfl)) (H.none hn1) (Nat.succ_ne_self L) (by
  intro q hq
  rcases List.mem_cons.mp hq with rfl | hq
  ·exact Nat.succ_ne_self (L + 1)
  ·rw [List.mem_singleton] at hq; subst hq; exact na1) hn1
 have cN : (callEnvC (fnOf (fnT 29).name (Str.ofString "_law_pairs") (fnT 29).params (fnT 29).body (fnT 29).scope .none .none .none (.str "law_qd0062_01" 754) none (.ref 426) .none) L 427).cells.lookup (Str.ofString "names") = some (L + 2) := by rfl
 have cT : (callEnvC (fnOf (fnT 29).name (Str.ofString "_law_pairs") (fnT 29).params (fnT 29).body (fnT 29).scope .none .none .none (.str "law_qd0062_01" 754) none (.ref 426) .none) L 427).cells.lookup (Str.ofString "tape") = some (L + 1) := by rfl
 have hoT : oT.data = .cell (some (.ref a)) := hoT
 obtain ⟨K, psT, hfT⟩ := K.fix hn1
 refine hQQ ?_
 clear hQQ QQ
 have G := G.mono psT
 refine xv_ fun Qq1 Jq1 => u_ (List_ (r_ (g_ fun _ _ => r_ (g_ fun _ _ => r_ (g_ fun _ _ => z_ ?_)))))
 rename_i uS tS uT tT uU tU
 refine nl K (by show 3 ≤ 2 ^ 24; decide) fun z0 h2 fz0 K => ?_
 refine wpAny_Slice (evalPart_none_step (evalPart_some_step (o_ (m_ fun _ _ => kg_ (gG_law_draw _) G K.hold (ar_ ?_)))))
 refine ldC (K.hold _ _ hfT) hoT (by kernel_rfl) (by rfl) cT (by kernel_rfl) ?_
 refine r_ (m_ fun _ _ => z_ ?_)
 refine ⟨⟨_, G, K.hold⟩, ?_⟩
 refine draw_ (m1 := [(z0, _), (L + 2, oN)]) (m2 := []) (many := 3) G K (rm.deeper.less (by decide)) T (by decide) (by decide) (by decide) fun k1 uk q3 h3 t3 o3 ps3 hk1 T3 K => ?_
 have G3 := G.mono ps3
 refine i_add fun _ _ => evalPart_none_step ?_
 rw [show (1 : Int) + (k1 : Nat) = ((1 + k1 : Nat) : Int) by exact congrArg Int.ofNat (lne (fun q => lnq [_] [aL (tA (tA (tN 1) Z0) (tN 1)) (tA (tN 1) Z0)] rfl q) fun q => lnq [_] [aL (tA (tA (tN 1) Z0) (tN 1)) (tA (tN 1) Z0)] rfl q)]
 refine sl_l (b := 1 + k1) K (K.get (.head _)) (by show 1 + k1 ≤ 3; exact lnl fun q => lnq [_] [aL (tQ (tN 3)) (tA (tN 1) Z0),aL (tQ Z0) (tN 3)] rfl q hk1) (by show 3 ≤ 2 ^ 24; decide) (by rfl) fun nm h4 fnm K => ?_
 refine stC (m1 := [(nm, _), (z0, _)]) (m2 := [(a, o3)]) K hoN (by kernel_rfl) (by rfl) cN fun h5 oN2 hoN2 K => ?_
 refine hide fun QQ hQQ => ?_
 obtain ⟨K, psn, hfn⟩ := K.fix fnm
 have K := K.perm (mu' := (L + 2, oN2) :: [(z0, _), (a, o3)]) (List.Perm.swap _ _ _)
 obtain ⟨K, psc, hfc⟩ := K.fix hn2
 refine hQQ ?_
 clear hQQ QQ
 have K := K.led (mu' := [(a, o3)]) (fun z hz => .tail _ hz) (by simp)
 have G5 := (G3.mono psn).mono psc
 have hfn := psc _ _ hfn
 have hfT5 := psc _ _ (psn _ _ (ps3 _ _ hfT))
 have ps5 : PSub p _ := (psT.trans ps3).trans (psn.trans psc)
 generalize hq5 : (q3.add nm _).add (L + 2) oN2 = q5 at K G5 hfn hfT5 hfc ps5
 have hNs : StrsAre ([Value.str "S" uS, .str "T" uT, .str "U" uU].take (1 + k1)) (S3.take (1 + k1)) := strs_take (.cons _ _ (.cons _ _ (.cons _ _ .nil))) _
 have hNl : (S3.take (1 + k1)).length = 1 + k1 := by rw [List.length_take]; show min (1 + k1) 3 = _; exact lne (fun q => lnq [_,_] [aL (tA (tA (tN 1) Z0) (tN 1)) Z1,aL Z1 (tA (tN 1) Z0)] rfl q (Nat.min_le_left _ _)) fun q => lnq [_,_] [aG Z0 (tA (tN 1) Z1),aL (tQ Z0) (tA (tN 1) Z1)] rfl (Nat.min_eq_left (lnl fun q => lnq [_] [aL (tQ (tN 3)) (tA (tN 1) Z0),aL (tQ Z0) (tN 3)] rfl q hk1)) q
 generalize hnv : [Value.str "S" uS, .str "T" uT, .str "U" uU].take (1 + k1) = nv at K hfn hNs
 have hnl : nv.length = 1 + k1 := by rw [strs_len hNs, hNl]
 refine Jq1 _ _ (x_ fun Qq2 Jq2 => ?_)
 refine comp_asg (cl := [(Str.ofString "tape", L + 1), (Str.ofString "names", L + 2)]) (by rfl) (by rfl) (fun _ => by rfl) (by rfl) (by decide) ?_
 refine ldC (K.hold _ _ hfc) hoN2 (by kernel_rfl) (by rfl) cN (by kernel_rfl) ?_
 refine cl_list (mu := [(a, o3)]) (its := []) (vs := nv) (.inl rfl) (.inl rfl) (K.hold _ _ hfn) (fun _ _ _ => turn1 ..) (by decide) (by rfl) rm.hd
  (fun D i q lc mu' => (PSub q5 q) ∧ (X4 fun (vs : List Value) (c : Nat) (oT' : Obj) (F : Raw) => A7 (mu' = [(D, listOf vs.toArray c), (a, oT')]) (TapeO oT' (1 + 5 * i)) (vs.length = i) (F.length = i) ((∀ (j : Nat) u x, vs[j]? = some u → F[j]? = some x → PairAt q x u)) (F.map (·.1) = (S3.take (1 + k1)).take i) (∀ x ∈ F, x.2.length ≤ 3 ∧ ∀ y ∈ x.2, LetOk (1 + k1) y)))
  K (fun D _ => ⟨PSub.refl _, [], 0, o3, [], rfl, T3, rfl, rfl, by simp, rfl, by simp⟩) ?src ?turn ?done
 case src => rintro D C i q h' lc mu' its K ⟨ps, _⟩; exact ⟨0, K.hold _ _ (ps _ _ hfn)⟩
 case turn =>
  rintro D C i v q h' lc mu' its t' hv hi K hx13_ Qt Jt
  refine hide fun QQ hQQ => ?_
  obtain ⟨ps, vs, c, oT', F, rfl, T', vl, fl, fall, fm, fok⟩ := hx13_
  refine hQQ ?_
  clear hQQ QQ
  have hx : (S3.take (1 + k1))[i]? = some (S3.take (1 + k1))[i] := List.getElem?_eq_getElem (by exact lnt fun q => lnq [_,_,_,_] [aL Z0 Z1,aL (tQ Z1) Z2,aE Z2 (tA (tN 1) Z3),aG Z0 (tA (tN 1) Z3)] rfl q hi hnl hNl)
  generalize (S3.take (1 + k1))[i] = x at hx
  refine hide fun QQ hQQ => ?_
  obtain ⟨xt, hxv⟩ := strs_at hNs hx
  refine hQQ ?_
  clear hQQ QQ
  rw [hxv] at hv; refine hide fun QQ hQQ => ?_
  cases hv
  all_goals (refine hQQ ?_; clear hQQ QQ)
  have Gq := G5.mono ps
  refine wpAny_assign_Name (s_ K fun h2 t2 K => ?_)
  refine tests0 ?_
  rw [if_pos rfl]
  refine emit_ ?_
  refine Tuple_ (rn_ 0 K rfl (r_ ?_))
  refine comp_eval (cl := [(Str.ofString "tape", L + 1), (Str.ofString "names", L + 2)]) (by rfl) (fun _ => by rfl) (by rfl) (by decide) ?_
  refine kt_ (gB_range _) Gq K.hold (ar_ (kg_ (gG_law_draw _) Gq K.hold (ar_ ?_)))
  refine ldC (K.hold _ _ (ps _ _ hfT5)) hoT (by kernel_rfl) (by rfl) (by rfl) (by kernel_rfl) ?_
  refine r_ (m_ fun _ _ => z_ ?_)
  refine ⟨⟨_, Gq, K.hold⟩, ?_⟩
  refine draw_ (m1 := [(D, listOf vs.toArray c)]) (m2 := its) (many := 4) Gq K (rm.deeper.less (by decide)) T' (by exact lnt fun q => lnq [_,_,_] [aL (tN 1000) (tA (tN 1) (tM 5 Z0)),fL 5 (tQ Z0) Z1,fE 5 Z1 (tA (tN 1) Z2),fL 5 (tQ Z2) (tN 3)] rfl q hi hnl hk1) (by decide) (by decide) fun k2 uk2 q6 h6 t6 o6 ps6 hk2 T6 K => ?_
  have G6 := Gq.mono ps6
  have ps56 := ps.trans ps6
  refine z_ ?_
  refine rg K fun r h7 t7 a7 b7 c7 K hr _ => ?_
  have K := K.perm (mu' := [(a, o6)] ++ ((D, listOf vs.toArray c) :: its)) (List.Perm.swap _ _ _)
  refine cl_rg (mu := [(a, o6)]) (its := (D, listOf vs.toArray c) :: its) rfl hr (by exact lnt fun q => lnq [_] [aL (tN 4611686018427387904) Z0,aL (tQ Z0) (tN 4)] rfl q hk2) (fun _ _ _ => turn1 ..) (by decide) (by rfl) rm.hd
   (fun D2 j q lc mu' => (PSub q6 q) ∧ (X4 fun (us : List Value) (c : Nat) (oT' : Obj) (ys : List Str) => A5 (mu' = [(D2, listOf us.toArray c), (a, oT')]) (TapeO oT' (1 + 5 * i + 1 + j)) (ys.length = j) (StrsAre us ys) (∀ y ∈ ys, LetOk (1 + k1) y)))
   K (fun D2 _ => ⟨PSub.refl _, [], 0, o6, [], rfl, T6, rfl, .nil, by simp⟩) ?turn2 ?done2
  case turn2 =>
   rintro D2 C2 j v q h' lc2 mu' its t' hx10_ hj K hx13_ Qt Jt
   refine hide fun QQ hQQ => ?_
   obtain ⟨u8, rfl⟩ := hx10_
   obtain ⟨ps8, us, c8, oT8, ys, rfl, T8, yl, ysa, yok⟩ := hx13_
   refine hQQ ?_
   clear hQQ QQ
   have G8 := G6.mono ps8
   have ul := strs_len ysa
   refine wpAny_assign_Name (s_ K fun h2 t2 K => ?_)
   refine tests0 ?_
   rw [if_pos rfl]
   refine emit_ ?_
   refine u_ (o_ (List_ (r_ (g_ fun _ _ => r_ (g_ fun _ _ => z_ ?_)))))
   rename_i ua ta ub tb
   refine nl K (by show 2 ≤ 2 ^ 24; decide) fun ab h9 fab K => ?_
   skip
   refine ldC (K.hold _ _ (ps8 _ _ (ps56 _ _ hfc))) hoN2 (by kernel_rfl) (by rfl) (by rfl) (by kernel_rfl) ?_
   refine add_lists K (K.get (.head _)) (K.hold _ _ (ps8 _ _ (ps56 _ _ hfn))) (by show 2 + nv.length ≤ 2 ^ 24; exact lnl fun q => lnq [_,_] [aL (tQ (tN 16777216)) (tA (tN 2) Z0),aE Z0 (tA (tN 1) Z1),aL (tQ Z1) (tN 3)] rfl q hnl hk1) fun sg h10 fsg K => ?_
   have hsg : StrsAre ([Value.str "a" ua, .str "b" ub] ++ nv) (AB ++ S3.take (1 + k1)) := .cons _ _ (.cons _ _ hNs)
   have hsgl : (AB ++ S3.take (1 + k1)).length = 2 + (1 + k1) := by rw [List.length_append, hNl]; rfl
   generalize [Value.str "a" ua, .str "b" ub] ++ nv = sgv at hsg K
   refine kg_ (gG_law_draw _) G8 K.hold (ar_ ?_)
   refine ldC (K.hold _ _ (ps8 _ _ (ps56 _ _ hfT5))) hoT (by kernel_rfl) (by rfl) (by rfl) (by kernel_rfl) ?_
   refine r_ (o_ (m_ fun _ _ => kb_ (gB_len _) G8 K.hold (ar_ ?_)))
   refine ldC (K.hold _ _ (ps8 _ _ (ps56 _ _ hfc))) hoN2 (by kernel_rfl) (by rfl) (by rfl) (by kernel_rfl) ?_
   refine z_ ?_
   refine len_l (K.hold _ _ (ps8 _ _ (ps56 _ _ hfn))) (by simp [hnl]; exact Int.ofNat_lt.mpr (lnt fun q => lnq [_] [aL (tN 9223372036854775808) (tA (tN 1) Z0),aL (tQ Z0) (tN 3)] rfl q hk1)) fun uln _ => ?_
   refine i_add fun _ _ => z_ ?_
   rw [show (2 : Int) + (nv.toArray.size : Nat) = ((3 + k1 : Nat) : Int) by simp [hnl]; exact congrArg Int.ofNat (lne (fun q => lnq [_] [aL (tA (tA (tN 3) Z0) (tN 1)) (tA (tN 2) (tA (tN 1) Z0))] rfl q) fun q => lnq [_] [aL (tA (tA (tN 2) (tA (tN 1) Z0)) (tN 1)) (tA (tN 3) Z0)] rfl q)]
   refine ⟨⟨_, G8, K.hold⟩, ?_⟩
   refine draw_ (m1 := [(sg, _), (ab, _), (D2, _)]) (m2 := its) (many := 3 + k1) G8 K (rm.deeper.less (by decide)) T8 (by exact lnt fun q => lnq [_,_,_,_,_] [aL (tN 1000) (tA (tA (tA (tN 1) (tM 5 Z0)) (tN 1)) Z1),aL (tQ Z1) Z2,aL (tQ Z2) (tN 4),fL 5 (tQ Z0) Z3,fE 5 Z3 (tA (tN 1) Z4),fL 5 (tQ Z4) (tN 3)] rfl q hj hk2 hi hnl hk1) (by exact lnt fun q => lnq [_] [aL (tA (tN 3) Z0) (tN 0)] rfl q) (by exact lnt fun q => lnq [_] [aL (tN 1000) (tA (tN 3) Z0),aL (tQ Z0) (tN 3)] rfl q hk1) fun k3 uk3 q9 h11 t11 o9 ps9 hk3 T9 K => ?_
   have hy : (AB ++ S3.take (1 + k1))[k3]? = some (AB ++ S3.take (1 + k1))[k3] := List.getElem?_eq_getElem (by exact lnt fun q => lnq [_,_,_] [aL Z0 Z1,aL (tQ Z1) (tA (tN 3) Z2),aG Z0 (tA (tN 2) (tA (tN 1) Z2))] rfl q hk3 hsgl)
   generalize (AB ++ S3.take (1 + k1))[k3] = y at hy
   refine hide fun QQ hQQ => ?_
   obtain ⟨yt, hyv⟩ := strs_at hsg hy
   refine hQQ ?_
   clear hQQ QQ
   skip
   refine sub_list (K.get (.head _)) (by exact Int.natCast_nonneg _) (by exact Int.ofNat_lt.mpr (lnt fun q => lnq [_,_] [aL (tN 9223372036854775808) Z0,aL (tQ Z0) (tA (tN 3) Z1),aL (tQ Z1) (tN 3)] rfl q hk3 hk1)) (v := .str y yt) (by simpa using hyv) (by rfl) ?_
   refine app_ (m1 := [(sg, _), (ab, _)]) K (by show us.length ≤ 2 ^ 24; exact lnl fun q => lnq [_,_,_,_] [aL (tQ (tN 16777216)) Z0,aE Z0 Z1,aE Z1 Z2,aL (tQ Z2) Z3,aL (tQ Z3) (tN 4)] rfl q ul yl hj hk2) fun h12 n12 K => ?_
   exact Jt _ ⟨_, _, _, _, _, rfl, K.tl.tl, ps8.trans ps9, us ++ [.str y yt], n12, o9, ys ++ [y], rfl, T9, by simp [yl], strs_app ysa (.cons _ _ .nil), fun z hz => by
    rcases List.mem_append.mp hz with z | z
    ·exact yok _ z
    ·rw [List.mem_singleton] at z; subst z; exact let_ab hy⟩
  case done2 =>
   rintro D2 C2 oC q h' lc2 mu' t' K nC hC hx11_
   refine hide fun QQ hQQ => ?_
   obtain ⟨ps8, us, c8, oT8, ys, rfl, T8, yl, ysa, yok⟩ := hx11_
   refine hQQ ?_
   clear hQQ QQ
   have ul := strs_len ysa
   refine comp_val K nC hC fun h8 K => ?_
   have hD2 : h.get? D2 = none := (K.own (D2, listOf us.toArray c8) (.head _)).2.2.2.resolve_left (fun z => by
    have z : D2 = a := by simpa using z
    have nd := K.nodup
    simp [z] at nd)
   refine hide fun QQ hQQ => ?_
   obtain ⟨K, psD, hfD⟩ := K.fix hD2
   refine hQQ ?_
   clear hQQ QQ
   generalize q.add D2 (listOf us.toArray c8) = qD at K psD hfD
   refine z_ ?_
   refine nt K (by show 2 ≤ 2 ^ 24; decide) fun ta h9 q9 ps9 hta K => ?_
   have K := K.perm (mu' := (D, listOf vs.toArray c) :: (a, oT8) :: its) (List.Perm.swap _ _ _)
   refine app_ (m1 := []) K (by show vs.length ≤ 2 ^ 24; exact lnl fun q => lnq [_,_,_,_] [aL (tQ (tN 16777216)) Z0,aE Z0 Z1,aL (tQ Z1) Z2,aE Z2 (tA (tN 1) Z3),aL (tQ Z3) (tN 3)] rfl q vl hi hnl hk1) fun h12 n12 K => ?_
   have psq : PSub q6 q9 := (ps8.trans psD).trans ps9
   refine Jt _ ⟨_, _, _, _, _, rfl, K, ps56.trans psq, vs ++ [.ref ta], n12, oT8, F ++ [(x, ys)], rfl, T8.mono (by exact lnl fun q => lnq [_,_] [aL (tA (tA (tN 1) (tM 5 (tQ Z0))) (tN 1)) (tA (tA (tA (tN 1) (tM 5 Z0)) (tN 1)) Z1),aL (tQ Z1) (tN 4)] rfl q hk2), by simp [vl], by simp [fl], fun z u xx h1 h2 => ?_, ?_, fun xx hxx => ?_⟩
   ·rw [List.getElem?_append] at h1 h2
    split at h1
    ·rw [if_pos (by exact lnt fun q => lnq [_,_,_,_] [aL Z0 Z1,aL (tQ Z1) Z2,aG Z0 Z3,aE Z2 Z3] rfl q (by assumption) fl vl)] at h2
     exact (fall z u xx h1 h2).mono (ps6.trans psq)
    ·rw [if_neg (by exact fun q => lnq [_,_,_,_] [aL (tQ Z0) Z1,aX (tQ Z0) Z2,aE Z1 Z3,aG Z2 Z3] rfl q (by assumption) fl vl)] at h2
     have hz : z - vs.length = 0 := by have := (List.getElem?_eq_some_iff.mp h1).1; simp at this; exact sbZ fun q => lnq [_,_,_] [aL (tQ Z0) Z1,aE Z2 (tN 0),aL Z1 (tA Z2 Z0)] rfl q this (sbL _ _)
     rw [hz] at h1
     rw [show z - F.length = 0 by exact sbZ fun q => lnq [_,_,_,_,_] [aL (tQ Z0) Z1,aE Z2 (tN 0),aL Z1 (tA Z2 Z3),aG Z0 Z4,aE Z3 Z4] rfl q hz (sbL _ _) fl vl] at h2
     cases h1; cases h2
     exact ⟨ta, xt, .ref D2, 0, rfl, hta, D2, us, c8, rfl, ps9 _ _ hfD, ysa⟩
   ·rw [List.map_append, fm, List.take_add_one, hx]; rfl
   ·rcases List.mem_append.mp hxx with z | z
    ·exact fok xx z
    ·rw [List.mem_singleton] at z; subst z; exact ⟨by show ys.length ≤ 3; exact lnl fun q => lnq [_,_] [aL (tQ (tN 3)) Z0,aE Z0 Z1,aL (tQ Z1) (tN 4)] rfl q yl hk2, yok⟩
 case done =>
  rintro D C oC q h' lc mu' t' K nC hC hx11_
  refine hide fun QQ hQQ => ?_
  obtain ⟨ps, vs, c, oT', F, rfl, T', vl, fl, fall, fm, fok⟩ := hx11_
  refine hQQ ?_
  clear hQQ QQ
  rw [hnl] at vl fl fm T'
  rw [List.take_of_length_le (by exact lnl fun q => lnq [_,_] [aL (tA (tA (tN 1) Z0) (tN 1)) Z1,aE Z1 (tA (tN 1) Z0)] rfl q hNl)] at fm
  refine comp_use K nC hC (by kernel_rfl) (by rfl) (by rfl) fun h6 t6 K => ?_
  have Gq := G5.mono ps
  refine Jq2 _ _ (x_ fun Qq3 Jq3 => wpAny_For (kt_ (gB_range _) Gq K.hold (ar_ (kg_ (gG_law_draw _) Gq K.hold (ar_ ?_)))))
  refine ldC (K.hold _ _ (ps _ _ hfT5)) hoT (by kernel_rfl) (by rfl) cT (by kernel_rfl) ?_
  refine r_ (m_ fun _ _ => z_ ?_)
  refine ⟨⟨_, Gq, K.hold⟩, ?_⟩
  have hDk : h.get? D = none := (K.own (D, listOf vs.toArray c) (.head _)).2.2.2.resolve_left (fun z => by
    have z : D = a := by simpa using z
    have nd := K.nodup
    simp [z] at nd)
  refine draw_ (m1 := [(D, listOf vs.toArray c)]) (m2 := []) (many := 4) Gq K (rm.deeper.less (by decide)) T' (by exact lnt fun q => lnq [_] [aL (tN 1000) (tA (tN 1) (tM 5 (tA (tN 1) Z0))),fL 5 (tQ Z0) (tN 3)] rfl q hk1) (by decide) (by decide) fun k2 uk2 q6 h6 t6 o6 ps6 hk2 T6 K => ?_
  have G6 := Gq.mono ps6
  have ps56 := ps.trans ps6
  refine z_ ?_
  refine rg K fun r h7 t7 a7 b7 c7 K hr _ => ?_
  refine for_rg (mu := [(D, listOf vs.toArray c), (a, o6)]) (its := []) rm.hd rfl hr (by exact lnt fun q => lnq [_] [aL (tN 4611686018427387904) Z0,aL (tQ Z0) (tN 4)] rfl q hk2)
   (fun i q l' mu' => (PSub q6 q) ∧ (X4 fun (us : List Value) (c : Nat) (oT' : Obj) (E : Raw) => A7 (∃ r, l' = (Str.ofString "pairs", .ref D) :: r) (mu' = [(D, listOf us.toArray c), (a, oT')]) (TapeO oT' (1 + 5 * (1 + k1) + 1 + 5 * i)) (E.length = i) (us.length = (F ++ E).length) ((∀ (j : Nat) u x, us[j]? = some u → (F ++ E)[j]? = some x → PairAt q x u)) (∀ x ∈ E, x.1 ∈ S3.take (1 + k1) ∧ x.2.length ≤ 2 ∧ ∀ y ∈ x.2, LetOk (1 + k1) y)))
   K ⟨PSub.refl _, vs, c, o6, [], ⟨_, rfl⟩, rfl, T6, rfl, by simp [vl, fl], fun j u x h1 h2 => (fall j u x h1 (by simpa using h2)).mono ps6, by simp⟩ ?turn ?done
  case done =>
   rintro q9 h' l' mu' t' K hx6_
   refine hide fun QQ hQQ => ?_
   obtain ⟨ps9, us, c9, oT9, E, ⟨r9, rfl⟩, rfl, T9, el, ul, eall, eok⟩ := hx6_
   obtain ⟨K, psD, hfD⟩ := K.fix hDk
   refine hQQ ?_
   clear hQQ QQ
   generalize q9.add D (listOf us.toArray c9) = qD at K psD hfD
   refine Jq3 _ _ (wj_ (n_ 0 K rfl ?_))
   refine kk _ _ _ _ K.gro ⟨F ++ E, 1 + k1, F, E, ⟨D, us, c9, rfl, hfD, ul, fun j u x h1 h2 => (eall j u x h1 h2).mono psD⟩, by exact lnl fun q => lnq [_] [aL (tA (tA (tN 1) Z0) (tN 1)) (tN 1)] rfl q, by exact lnl fun q => lnq [_] [aL (tQ (tN 3)) (tA (tN 1) Z0),aL (tQ Z0) (tN 3)] rfl q hk1, rfl, fm, fun x hx => (fok x hx).1, by exact lnl fun q => lnq [_,_] [aL (tQ (tN 3)) Z0,aE Z0 Z1,aL (tQ Z1) (tN 4)] rfl q el hk2, fun x hx => (eok x hx).1, fun x hx => (eok x hx).2.1, fun x hx y hy => ?_⟩
   rcases List.mem_append.mp hx with z | z
   ·exact (fok x z).2 y hy
   ·exact (eok x z).2.2 y hy
  case turn =>
   rintro i q9 h' l' mu' its t' u hi K hx10_ Qt Jt
   refine hide fun QQ hQQ => ?_
   obtain ⟨ps9, us, c9, oT9, E, ⟨r9, rfl⟩, rfl, T9, el, ul, eall, eok⟩ := hx10_
   refine hQQ ?_
   clear hQQ QQ
   have G9 := G6.mono ps9
   refine wpAny_assign_Name (s_ K fun h2 t2 K => x_ fun Qq4 Jq4 => wpAny_Expr_any (dn_ 1 K rfl ?_))
   refine app_m (K.get (.head _)) ?_
   refine l_ (ar_ (Tuple_ (r_ (u_ ?_))))
   refine ldC (K.hold _ _ (ps9 _ _ (ps56 _ _ hfc))) hoN2 (by kernel_rfl) (by rfl) cN (by kernel_rfl) ?_
   refine kg_ (gG_law_draw _) G9 K.hold (ar_ ?_)
   refine ldC (K.hold _ _ (ps9 _ _ (ps56 _ _ hfT5))) hoT (by kernel_rfl) (by rfl) cT (by kernel_rfl) ?_
   refine r_ (kb_ (gB_len _) G9 K.hold (ar_ ?_))
   refine ldC (K.hold _ _ (ps9 _ _ (ps56 _ _ hfc))) hoN2 (by kernel_rfl) (by rfl) cN (by kernel_rfl) ?_
   refine z_ ?_
   refine len_l (K.hold _ _ (ps9 _ _ (ps56 _ _ hfn))) (by simp [hnl]; exact Int.ofNat_lt.mpr (lnt fun q => lnq [_] [aL (tN 9223372036854775808) (tA (tN 1) Z0),aL (tQ Z0) (tN 3)] rfl q hk1)) fun uln _ => ?_
   refine z_ ?_
   rw [show ((nv.toArray.size : Nat) : Int) = ((1 + k1 : Nat) : Int) by simp [hnl]]
   refine ⟨⟨_, G9, K.hold⟩, ?_⟩
   refine draw_ (m1 := [(D, listOf us.toArray c9)]) (m2 := its) (many := 1 + k1) G9 K (rm.deeper.less (by decide)) T9 (by exact lnt fun q => lnq [_,_,_] [aL (tN 1000) (tA (tA (tA (tN 1) (tM 5 (tA (tN 1) Z0))) (tN 1)) (tM 5 Z1)),fL 5 (tQ Z1) Z2,fL 5 (tQ Z2) (tN 4),fL 5 (tQ Z0) (tN 3)] rfl q hi hk2 hk1) (by exact lnt fun q => lnq [_] [aL (tA (tN 1) Z0) (tN 0)] rfl q) (by exact lnt fun q => lnq [_] [aL (tN 1000) (tA (tN 1) Z0),aL (tQ Z0) (tN 3)] rfl q hk1) fun k3 uk3 q10 h10 t10 o10 ps10 hk3 T10 K => ?_
   have G10 := G9.mono ps10
   have hx : (S3.take (1 + k1))[k3]? = some (S3.take (1 + k1))[k3] := List.getElem?_eq_getElem (by exact lnt fun q => lnq [_,_,_] [aL Z0 Z1,aL (tQ Z1) (tA (tN 1) Z2),aG Z0 (tA (tN 1) Z2)] rfl q hk3 hNl)
   generalize (S3.take (1 + k1))[k3] = x at hx
   refine hide fun QQ hQQ => ?_
   obtain ⟨xt, hxv⟩ := strs_at hNs hx
   refine hQQ ?_
   clear hQQ QQ
   have ps510 : PSub q5 q10 := (ps56.trans ps9).trans ps10
   skip
   refine sub_list (K.hold _ _ (ps510 _ _ hfn)) (by exact Int.natCast_nonneg _) (by exact Int.ofNat_lt.mpr (lnt fun q => lnq [_,_] [aL (tN 9223372036854775808) Z0,aL (tQ Z0) (tA (tN 1) Z1),aL (tQ Z1) (tN 3)] rfl q hk3 hk1)) (v := .str x xt) (by simpa using hxv) (by rfl) ?_
   refine r_ ?_
   refine comp_eval (cl := [(Str.ofString "tape", L + 1), (Str.ofString "names", L + 2)]) (by rfl) (fun _ => by rfl) (by rfl) (by decide) ?_
   refine kt_ (gB_range _) G10 K.hold (ar_ (kg_ (gG_law_draw _) G10 K.hold (ar_ ?_)))
   refine ldC (K.hold _ _ (ps510 _ _ hfT5)) hoT (by kernel_rfl) (by rfl) cT (by kernel_rfl) ?_
   refine r_ (m_ fun _ _ => z_ ?_)
   refine ⟨⟨_, G10, K.hold⟩, ?_⟩
   refine draw_ (m1 := [(D, listOf us.toArray c9)]) (m2 := its) (many := 3) G10 K (rm.deeper.less (by decide)) T10 (by exact lnt fun q => lnq [_,_,_] [aL (tN 1000) (tA (tA (tA (tA (tN 1) (tM 5 (tA (tN 1) Z0))) (tN 1)) (tM 5 Z1)) (tN 1)),fL 5 (tQ Z1) Z2,fL 5 (tQ Z2) (tN 4),fL 5 (tQ Z0) (tN 3)] rfl q hi hk2 hk1) (by decide) (by decide) fun k4 uk4 q11 h11 t11 o11 ps11 hk4 T11 K => ?_
   have G11 := G10.mono ps11
   have ps511 : PSub q5 q11 := ps510.trans ps11
   refine z_ ?_
   refine rg K fun r2 h12 t12 a12 b12 c12 K hr2 _ => ?_
   have K := K.perm (mu' := [(a, o11)] ++ ((D, listOf us.toArray c9) :: its)) (List.Perm.swap _ _ _)
   refine cl_rg (mu := [(a, o11)]) (its := (D, listOf us.toArray c9) :: its) rfl hr2 (by exact lnt fun q => lnq [_] [aL (tN 4611686018427387904) Z0,aL (tQ Z0) (tN 3)] rfl q hk4) (fun _ _ _ => turn1 ..) (by decide) (by rfl) rm.hd
    (fun D2 j q lc mu' => (PSub q11 q) ∧ (X4 fun (us : List Value) (c : Nat) (oT' : Obj) (ys : List Str) => A5 (mu' = [(D2, listOf us.toArray c), (a, oT')]) (TapeO oT' (1 + 5 * (1 + k1) + 1 + 5 * i + 2 + j)) (ys.length = j) (StrsAre us ys) (∀ y ∈ ys, LetOk (1 + k1) y)))
    K (fun D2 _ => ⟨PSub.refl _, [], 0, o11, [], rfl, T11, rfl, .nil, by simp⟩) ?turn2 ?done2
   case turn2 =>
    rintro D2 C2 j v q h' lc2 mu' its t' hx10_ hj K hx13_ Qt Jt
    refine hide fun QQ hQQ => ?_
    obtain ⟨u8, rfl⟩ := hx10_
    obtain ⟨ps8, us, c8, oT8, ys, rfl, T8, yl, ysa, yok⟩ := hx13_
    refine hQQ ?_
    clear hQQ QQ
    have G8 := G11.mono ps8
    have ul := strs_len ysa
    refine wpAny_assign_Name (s_ K fun h2 t2 K => ?_)
    refine tests0 ?_
    rw [if_pos rfl]
    refine emit_ ?_
    refine u_ (o_ ?_)
    refine ldC (K.hold _ _ (ps8 _ _ (ps511 _ _ hfc))) hoN2 (by kernel_rfl) (by rfl) (by rfl) (by kernel_rfl) ?_
    refine List_ (r_ (g_ fun _ _ => r_ (g_ fun _ _ => z_ ?_)))
    rename_i ua ta ub tb
    refine nl K (by show 2 ≤ 2 ^ 24; decide) fun ab h9 fab K => ?_
    skip
    refine add_lists K (K.hold _ _ (ps8 _ _ (ps511 _ _ hfn))) (K.get (.head _)) (by show nv.length + 2 ≤ 2 ^ 24; exact lnl fun q => lnq [_,_] [aL (tQ (tN 16777216)) (tA Z0 (tN 2)),aE Z0 (tA (tN 1) Z1),aL (tQ Z1) (tN 3)] rfl q hnl hk1) fun sg h10 fsg K => ?_
    have hsg : StrsAre (nv ++ [Value.str "a" ua, .str "b" ub]) (S3.take (1 + k1) ++ AB) := strs_app hNs (.cons _ _ (.cons _ _ .nil))
    have hsgl : (S3.take (1 + k1) ++ AB).length = (1 + k1) + 2 := by rw [List.length_append, hNl]; rfl
    generalize nv ++ [Value.str "a" ua, .str "b" ub] = sgv at hsg K
    refine kg_ (gG_law_draw _) G8 K.hold (ar_ ?_)
    refine ldC (K.hold _ _ (ps8 _ _ (ps511 _ _ hfT5))) hoT (by kernel_rfl) (by rfl) (by rfl) (by kernel_rfl) ?_
    refine r_ (o_ (m_ fun _ _ => kb_ (gB_len _) G8 K.hold (ar_ ?_)))
    refine ldC (K.hold _ _ (ps8 _ _ (ps511 _ _ hfc))) hoN2 (by kernel_rfl) (by rfl) (by rfl) (by kernel_rfl) ?_
    refine z_ ?_
    refine len_l (K.hold _ _ (ps8 _ _ (ps511 _ _ hfn))) (by simp [hnl]; exact Int.ofNat_lt.mpr (lnt fun q => lnq [_] [aL (tN 9223372036854775808) (tA (tN 1) Z0),aL (tQ Z0) (tN 3)] rfl q hk1)) fun uln _ => ?_
    refine i_add fun _ _ => z_ ?_
    rw [show (2 : Int) + (nv.toArray.size : Nat) = ((3 + k1 : Nat) : Int) by simp [hnl]; exact congrArg Int.ofNat (lne (fun q => lnq [_] [aL (tA (tA (tN 3) Z0) (tN 1)) (tA (tN 2) (tA (tN 1) Z0))] rfl q) fun q => lnq [_] [aL (tA (tA (tN 2) (tA (tN 1) Z0)) (tN 1)) (tA (tN 3) Z0)] rfl q)]
    refine ⟨⟨_, G8, K.hold⟩, ?_⟩
    refine draw_ (m1 := [(sg, _), (ab, _), (D2, _)]) (m2 := its) (many := 3 + k1) G8 K (rm.deeper.less (by decide)) T8 (by exact lnt fun q => lnq [_,_,_,_,_] [aL (tN 1000) (tA (tA (tA (tA (tA (tN 1) (tM 5 (tA (tN 1) Z0))) (tN 1)) (tM 5 Z1)) (tN 2)) Z2),aL (tQ Z2) Z3,aL (tQ Z3) (tN 3),fL 5 (tQ Z1) Z4,fL 5 (tQ Z4) (tN 4),fL 5 (tQ Z0) (tN 3)] rfl q hj hk4 hi hk2 hk1) (by exact lnt fun q => lnq [_] [aL (tA (tN 3) Z0) (tN 0)] rfl q) (by exact lnt fun q => lnq [_] [aL (tN 1000) (tA (tN 3) Z0),aL (tQ Z0) (tN 3)] rfl q hk1) fun k3 uk3 q9 h11 t11 o9 ps9 hk3 T9 K => ?_
    have hy : (S3.take (1 + k1) ++ AB)[k3]? = some (S3.take (1 + k1) ++ AB)[k3] := List.getElem?_eq_getElem (by exact lnt fun q => lnq [_,_,_] [aL Z0 Z1,aL (tQ Z1) (tA (tN 3) Z2),aG Z0 (tA (tA (tN 1) Z2) (tN 2))] rfl q hk3 hsgl)
    generalize (S3.take (1 + k1) ++ AB)[k3] = y at hy
    refine hide fun QQ hQQ => ?_
    obtain ⟨yt, hyv⟩ := strs_at hsg hy
    refine hQQ ?_
    clear hQQ QQ
    skip
    refine sub_list (K.get (.head _)) (by exact Int.natCast_nonneg _) (by exact Int.ofNat_lt.mpr (lnt fun q => lnq [_,_] [aL (tN 9223372036854775808) Z0,aL (tQ Z0) (tA (tN 3) Z1),aL (tQ Z1) (tN 3)] rfl q hk3 hk1)) (v := .str y yt) (by simpa using hyv) (by rfl) ?_
    refine app_ (m1 := [(sg, _), (ab, _)]) K (by show us.length ≤ 2 ^ 24; exact lnl fun q => lnq [_,_,_,_] [aL (tQ (tN 16777216)) Z0,aE Z0 Z1,aE Z1 Z2,aL (tQ Z2) Z3,aL (tQ Z3) (tN 3)] rfl q ul yl hj hk4) fun h12 n12 K => ?_
    exact Jt _ ⟨_, _, _, _, _, rfl, K.tl.tl, ps8.trans ps9, us ++ [.str y yt], n12, o9, ys ++ [y], rfl, T9, by simp [yl], strs_app ysa (.cons _ _ .nil), fun z hz => by
     rcases List.mem_append.mp hz with z | z
     ·exact yok _ z
     ·rw [List.mem_singleton] at z; subst z; exact let_ba hy⟩
   case done2 =>
    rintro D2 C2 oC q h' lc2 mu' t' K nC hC hx11_
    refine hide fun QQ hQQ => ?_
    obtain ⟨ps8, us2, c8, oT8, ys, rfl, T8, yl, ysa, yok⟩ := hx11_
    refine hQQ ?_
    clear hQQ QQ
    refine comp_val K nC hC fun h8 K => ?_
    have hD2 : h.get? D2 = none := (K.own (D2, listOf us2.toArray c8) (.head _)).2.2.2.resolve_left (fun z => by
     have z : D2 = a := by simpa using z
     have nd := K.nodup
     simp [z] at nd)
    refine hide fun QQ hQQ => ?_
    obtain ⟨K, psD, hfD⟩ := K.fix hD2
    refine hQQ ?_
    clear hQQ QQ
    generalize q.add D2 (listOf us2.toArray c8) = qD at K psD hfD
    refine z_ ?_
    refine nt K (by show 2 ≤ 2 ^ 24; decide) fun ta h9 q9' ps9' hta K => ?_
    have K := K.perm (mu' := (D, listOf us.toArray c9) :: (a, oT8) :: its) (List.Perm.swap _ _ _)
    refine z_ ?_
    have hFl : (F ++ E).length ≤ 10 := by rw [List.length_append]; exact lnl fun q => lnq [_,_,_,_,_] [aL (tQ (tN 10)) (tA Z0 Z1),aE Z1 Z2,aL (tQ Z2) Z3,aL (tQ Z3) (tN 4),aE Z0 (tA (tN 1) Z4),aL (tQ Z4) (tN 3)] rfl q el hi hk2 fl hk1
    refine app_ (m1 := []) K (by show us.length ≤ 2 ^ 24; exact lnl fun q => lnq [_,_] [aL (tQ (tN 16777216)) Z0,aL Z1 (tN 10),aE Z0 Z1] rfl q hFl ul) fun h12 n12 K => ?_
    refine Jq4 _ _ (e_ (Jt _ _ ?_))
    have K := K.pull (x := Str.ofString "pairs") (by exact lkN 1 (by kernel_rfl) rfl)
    have psq : PSub q11 q9' := (ps8.trans psD).trans ps9'
    have psq9 : PSub q9 q9' := (ps10.trans ps11).trans psq
    refine ⟨_, _, _, _, _, rfl, K, ps9.trans psq9, us ++ [.ref ta], n12, oT8, E ++ [(x, ys)], ⟨_, rfl⟩, rfl, T8.mono (by exact lnl fun q => lnq [_,_,_] [aL (tA (tA (tA (tA (tN 1) (tM 5 (tA (tN 1) Z0))) (tN 1)) (tM 5 (tQ Z1))) (tN 1)) (tA (tA (tA (tA (tA (tN 1) (tM 5 (tA (tN 1) Z0))) (tN 1)) (tM 5 Z1)) (tN 2)) Z2),aL (tQ Z2) (tN 3)] rfl q hk4), by simp [el], by rw [List.length_append, ul, ← List.append_assoc, List.length_append (as := F ++ E)]; rfl, fun z u xx h1 h2 => ?_, fun xx hxx => ?_⟩
    ·rw [← List.append_assoc] at h2
     rw [List.getElem?_append] at h1 h2
     split at h1
     ·rw [if_pos (by exact lnt fun q => lnq [_,_,_] [aL Z0 Z1,aL (tQ Z1) Z2,aE Z2 Z0] rfl q (by assumption) ul)] at h2
      exact (eall z u xx h1 h2).mono psq9
     ·rw [if_neg (by exact fun q => lnq [_,_,_] [aL (tQ Z0) Z1,aX (tQ Z0) Z2,aG Z2 Z1] rfl q (by assumption) ul)] at h2
      have hz : z - us.length = 0 := by have := (List.getElem?_eq_some_iff.mp h1).1; simp at this; exact sbZ fun q => lnq [_,_,_] [aL (tQ Z0) Z1,aE Z2 (tN 0),aL Z1 (tA Z2 Z0)] rfl q this (sbL _ _)
      rw [hz] at h1
      rw [show z - (F ++ E).length = 0 by exact sbZ fun q => lnq [_,_,_,_] [aL (tQ Z0) Z1,aE Z2 (tN 0),aL Z1 (tA Z2 Z3),aE Z3 Z0] rfl q hz (sbL _ _) ul] at h2
      cases h1; cases h2
      exact ⟨ta, xt, .ref D2, 0, rfl, hta, D2, us2, c8, rfl, ps9' _ _ hfD, ysa⟩
    ·rcases List.mem_append.mp hxx with z | z
     ·exact eok xx z
     ·rw [List.mem_singleton] at z; subst z; exact ⟨List.mem_of_getElem? hx, by show ys.length ≤ 2; exact lnl fun q => lnq [_,_] [aL (tQ (tN 2)) Z0,aE Z0 Z1,aL (tQ Z1) (tN 3)] rfl q yl hk4, yok⟩
end

noncomputable def ItsAt (p : PH) (v : Value) (its : List It) : Prop := X3 fun a vs n => A4 (v = .ref a) (p a = some (listOf (vs : List Value).toArray n)) (vs.length = its.length) (∀ (i : Nat) u (x : It), vs[i]? = some u → its[i]? = some x → ∃ b n t1 t2, u = .ref b ∧ p b = some (tupOf [.int (x.1 : Nat) t1, .int (x.2 : Nat) t2].toArray n))
theorem ItsAt.mono {p q : PH} {v : Value} {its : List It} (h : ItsAt p v its) (s : PSub p q) : ItsAt q v its := let ⟨a, vs, n, e, b, c, d⟩ := h; ⟨a, vs, n, e, s _ _ b, c, fun i u x h1 h2 => let ⟨b, n, t1, t2, e1, e2⟩ := d i u x h1 h2; ⟨b, n, t1, t2, e1, s _ _ e2⟩⟩
noncomputable def SGN : List Str := ["a", "b", "$end"]
noncomputable def rhs (R : Raw) (r : Nat) : List Str := (R.getD r ("", [])).2
noncomputable def wholeB (R : Raw) (x : It) : Bool := decide (x.2 = (rhs R x.1).length) && decide (0 < x.1)
noncomputable def wholeOf (R : Raw) (its : List It) : List Nat := (its.filter (wholeB R)).map (·.1)
noncomputable def behindOf (R : Raw) (its : List It) : List Str := its.filterMap fun x => (rhs R x.1)[x.2]?
noncomputable def needsB (R : Raw) (its : List It) : Bool := decide (1 < (wholeOf R its).length) || (!(wholeOf R its).isEmpty && !((behindOf R its).filter (· ∈ SGN)).isEmpty)
theorem wholeOf_t {R : Raw} {x : It} {l : List It} (h : wholeB R x = true) : wholeOf R (l ++ [x]) = wholeOf R l ++ [x.1] := by
 unfold wholeOf; rw [List.filter_append, List.map_append, List.filter_cons, if_pos h]; rfl
theorem wholeOf_f {R : Raw} {x : It} {l : List It} (h : ¬ wholeB R x = true) : wholeOf R (l ++ [x]) = wholeOf R l := by
 unfold wholeOf; rw [List.filter_append, List.map_append, List.filter_cons, if_neg h]; exact List.append_nil _
theorem behindOf_t {R : Raw} {x : It} {y : Str} {l : List It} (h : (rhs R x.1)[x.2]? = some y) : behindOf R (l ++ [x]) = behindOf R l ++ [y] := by
 unfold behindOf; rw [List.filterMap_append, List.filterMap_cons, h]; rfl
theorem behindOf_f {R : Raw} {x : It} {l : List It} (h : (rhs R x.1)[x.2]? = none) : behindOf R (l ++ [x]) = behindOf R l := by
 unfold behindOf; rw [List.filterMap_append, List.filterMap_cons, h]; exact List.append_nil _
theorem take_snoc {α : Type} {l : List α} {i : Nat} {x : α} (h : l[i]? = some x) : l.take (i + 1) = l.take i ++ [x] := by rw [List.take_add_one, h]; rfl
section
variable {w : World} {p : PH} {h : Heap}
theorem needs_spec {R : Raw} {its : List It} {rv iv : Value} (G : Grd w p) (H : Holds p h) (PR' : PairsAt p rv R) (I : ItsAt p iv its) (hits : ∀ x ∈ its, x.1 < R.length ∧ x.2 ≤ (rhs R x.1).length) (hR : R.length ≤ 1000) (hil : its.length ≤ 1000) (hrl : ∀ r, (rhs R r).length ≤ 1000) :
  Fn w 2 (.ref 437) [rv, iv] p h [] (fun v _ _ => v = .bool (needsB R its)) := by
 intro A gg d1 t os RR rm kk
 refine hide fun QQ hQQ => ?_
 obtain ⟨ra, rvs, rn, rfl, rb, rl, rall⟩ := PR'
 obtain ⟨ia, ivs, nn, rfl, ib, il, iall⟩ := I
 refine hQQ ?_
 clear hQQ QQ
 refine call_fnD (mu := []) (fd := fnT 31) [(Str.ofString "rules", .ref ra), (Str.ofString "items", .ref ia)] [(Str.ofString "items", .ref ia)] rfl (by kernel_rfl) G H rm (by simp) (by simp) (BindsTo.of_eq (by rfl)) (by rfl) (fun _ => by rfl) (by rfl) (by rfl) (by rfl) fun L h₁ t₁ hab kp K hcells => ?_
 have hn1 := hab (L + 1) (Nat.le_succ L)
 refine hide fun QQ hQQ => ?_
 obtain ⟨oT, hoT, K⟩ := K.cell (hcells (Str.ofString "rules") (L + 1) (by rfl)) (H.none hn1) (Nat.succ_ne_self L) (by simp) hn1
 have hoT : oT.data = .cell (some (.ref ra)) := hoT
 obtain ⟨K, psT, hfT⟩ := K.fix hn1
 refine hQQ ?_
 clear hQQ QQ
 have G := G.mono psT
 refine x_ fun Qq1 Jq1 => ?_
 have itAt : ∀ {i : Nat} {v : Value}, ivs[i]? = some v → i < ivs.length → ∃ (x : It) (b : Addr) (n : Nat) (t1 t2 : Tok), its[i]? = some x ∧ v = .ref b ∧ p b = some (tupOf [.int (x.1 : Nat) t1, .int (x.2 : Nat) t2].toArray n) ∧ x.1 < R.length ∧ x.2 ≤ (rhs R x.1).length := by
  intro i v hv hi
  have hx : its[i]? = some its[i] := List.getElem?_eq_getElem (by exact lnt fun q => lnq [_,_,_] [aL Z0 Z1,aL (tQ Z1) Z2,aE Z2 Z0] rfl q hi il)
  generalize its[i] = x at hx
  refine hide fun QQ hQQ => ?_
  obtain ⟨b, n, t1, t2, e1, e2⟩ := iall i v x hv hx
  refine hQQ ?_
  clear hQQ QQ
  exact ⟨x, b, n, t1, t2, hx, e1, e2, hits x (List.mem_of_getElem? hx)⟩
 have ruleAt : ∀ {r : Nat}, r < R.length → ∃ v b t lv n, rvs[r]? = some v ∧ v = .ref b ∧ p b = some (tupOf [.str (R.getD r ("", [])).1 t, lv].toArray n) ∧ LS p lv (rhs R r) := by
  intro r hr
  have hx : R[r]? = some (R.getD r ("", [])) := by rw [List.getD_eq_getElem?_getD, List.getElem?_eq_getElem hr]; rfl
  have hv : rvs[r]? = some rvs[r] := List.getElem?_eq_getElem (by exact lnt fun q => lnq [_,_,_] [aL Z0 Z1,aL (tQ Z1) Z2,aG Z0 Z2] rfl q hr rl)
  refine hide fun QQ hQQ => ?_
  obtain ⟨b, t, lv, n, e1, e2, e3⟩ := rall r _ _ hv hx
  refine hQQ ?_
  clear hQQ QQ
  exact ⟨_, b, t, lv, n, hv, e1, e2, e3⟩
 refine comp_asg (cl := [(Str.ofString "rules", L + 1)]) (by rfl) (by rfl) (fun _ => by rfl) (by rfl) (by decide) ?_
 refine n_ 0 K rfl ?_
 refine cl_list (mu := []) (its := []) (vs := ivs) (.inr ⟨_, _, _, rfl⟩) (.inr fun v hv => ?href) (K.hold _ _ (psT _ _ ib)) (fun _ _ _ => turn1 ..) (by decide) (by rfl) rm.hd
  (fun D i q lc mu' => (q = p.add (L + 1) oT) ∧ (X2 fun (vs : List Value) (c : Nat) => A3 (mu' = [(D, listOf vs.toArray c)]) (vs.length ≤ i) (IntsAre vs (zs (wholeOf R (its.take i))))))
  K (fun D _ => ⟨rfl, [], 0, rfl, Nat.le_refl _, .nil⟩) ?src ?turn ?done
 case href =>
  refine hide fun QQ hQQ => ?_
  obtain ⟨i, hi⟩ := List.getElem?_of_mem hv
  obtain ⟨x, b, n, t1, t2, _, e, _⟩ := itAt hi (List.getElem?_eq_some_iff.mp hi).1
  refine hQQ ?_
  clear hQQ QQ
  exact ⟨b, e⟩
 case src => rintro D C i q h' lc mu' its K ⟨rfl, _⟩; exact ⟨nn, K.hold _ _ (psT _ _ ib)⟩
 case turn =>
  rintro D C i v q h' lc mu' its' t' hv hi K hx13_ Qt Jt
  refine hide fun QQ hQQ => ?_
  obtain ⟨rfl, vs, c, rfl, vl, viv⟩ := hx13_
  obtain ⟨⟨xr, xd⟩, b, n, t1, t2, hx, rfl, pb, hxr, hxd⟩ := itAt hv hi
  dsimp only at hxr hxd pb
  obtain ⟨rv, rb', rt, lv, n2, hrv, rfl, prb, la, lvs, ln, rfl, plb, lsa⟩ := ruleAt hxr
  refine hQQ ?_
  clear hQQ QQ
  have hlen := strs_len lsa
  have hrl' := hrl xr
  refine as_t2 K rm.hd (K.hold _ _ (psT _ _ pb)) (by kernel_rfl) (by kernel_rfl) (by rfl) (by rfl) fun h3 t3 K => ?_
  refine tests1 ?_
  refine isTrue_and (qn_ 0 K rfl (kb_ (gB_len _) G K.hold (ar_ (u_ (u_ ?_)))))
  refine ldC (K.hold _ _ hfT) hoT (by kernel_rfl) (by rfl) (by rfl) (by kernel_rfl) ?_
  refine n_ 1 K rfl ?_
  refine sub_list (K.hold _ _ (psT _ _ rb)) (by exact Int.natCast_nonneg _) (by exact Int.ofNat_lt.mpr (lnt fun q => lnq [_,_] [aL (tN 9223372036854775808) Z0,aL (tQ Z0) Z1,aL Z1 (tN 1000)] rfl q hxr hR)) (by simpa using hrv) (by rfl) ?_
  refine m_ fun _ _ => ?_
  refine sub_tupT (k := 1) (K.hold _ _ (psT _ _ prb)) (by decide) (by decide) (by rfl) (by rfl) ?_
  refine z_ ?_
  refine len_l (K.hold _ _ (psT _ _ plb)) (by simp; exact Int.ofNat_lt.mpr (lnt fun q => lnq [_,_] [aL (tN 9223372036854775808) Z0,aL Z1 (tN 1000),aE Z0 Z1] rfl q hrl' hlen)) fun uln _ => ?_
  refine i_eq (h_ ?_)
  have hRx : (rhs R xr).length = lvs.length := hlen.symm
  refine split_b (fun h1 => ?_) (fun h1 => ?_)
  ·have e1 : xd = (rhs R xr).length := by
    have : (xd : Int) = (lvs.toArray.size : Nat) := by simpa using h1
    rw [List.size_toArray] at this; exact lne (fun q => lnq [_,_] [aL (tQ Z0) Z1,aL Z1 Z0] rfl q hxd) fun q => lnq [_,_,_] [aL (tQ Z0) Z1,aG Z0 Z2,aE Z1 Z2] rfl q (Int.ofNat.inj this) hRx
   refine isTrue_and (qn_ 1 K rfl (m_ fun _ _ => i_gt (h_ ?_)))
   refine PyProof.Rows.split_dec (fun h2 => ?_) (fun h2 => ?_)
   ·refine isTrue_and_nil ?_
    have e2 : wholeB R (xr, xd) = true := by
     unfold wholeB
     rw [decide_eq_true e1, decide_eq_true (show 0 < xr by exact lnt fun q => lnq [_] [aL Z0 (tN 0),aL (tQ (tN 0)) Z0] rfl q (Int.ofNat_lt.mp h2))]; rfl
    refine emit_ ?_
    refine n_ 1 K rfl ?_
    refine app_ (m1 := []) K (by show vs.length ≤ 2 ^ 24; exact lnl fun q => lnq [_,_,_,_] [aL (tQ (tN 16777216)) Z0,aL Z0 Z1,aL (tQ Z1) Z2,aE Z2 Z3,aL Z3 (tN 1000)] rfl q vl hi il hil) fun h4 n4 K => ?_
    refine Jt _ ⟨_, _, _, _, _, rfl, K, rfl, _, n4, rfl, by simp; exact lnl fun q => lnq [_,_] [aL (tQ Z0) Z1,aL Z1 Z0] rfl q vl, ?_⟩
    rw [take_snoc hx, wholeOf_t e2, zs_app]
    exact ints_app viv ⟨_, rfl⟩
   ·have e2 : ¬ wholeB R (xr, xd) = true := by
     unfold wholeB
     rw [decide_eq_false (show ¬ 0 < xr by exact fun q => lnq [_] [aL (tQ (tN 0)) Z0,aX (tQ (tN 0)) Z0] rfl q (fun z => h2 (Int.ofNat_lt.mpr z))), Bool.and_false]; simp
    refine Jt _ ⟨_, _, _, _, _, rfl, K, rfl, vs, c, rfl, by exact lnl fun q => lnq [_,_] [aL (tA (tQ Z0) (tN 1)) Z1,aL Z1 Z0] rfl q vl, ?_⟩
    rw [take_snoc hx, wholeOf_f e2]; exact viv
  ·have e1 : ¬ xd = (rhs R xr).length := fun e => by
    rw [hRx] at e
    rw [e] at h1
    simp at h1
   have e2 : ¬ wholeB R (xr, xd) = true := by
    unfold wholeB
    rw [decide_eq_false e1, Bool.false_and]; simp
   refine Jt _ ⟨_, _, _, _, _, rfl, K, rfl, vs, c, rfl, by exact lnl fun q => lnq [_,_] [aL (tA (tQ Z0) (tN 1)) Z1,aL Z1 Z0] rfl q vl, ?_⟩
   rw [take_snoc hx, wholeOf_f e2]; exact viv
 case done =>
  rintro D C oC q h' lc mu' t' K nC hC hx11_
  refine hide fun QQ hQQ => ?_
  obtain ⟨rfl, vs, c, rfl, vl, viv⟩ := hx11_
  refine hQQ ?_
  clear hQQ QQ
  rw [il, List.take_length] at viv
  refine comp_use K nC hC (by kernel_rfl) (by rfl) (by rfl) fun h6 t6 K => ?_
  have hD : h.get? D = none := (K.own (D, listOf vs.toArray c) (.head _)).2.2.2.resolve_left (by simp)
  refine hide fun QQ hQQ => ?_
  obtain ⟨K, psD, hfD⟩ := K.fix hD
  refine hQQ ?_
  clear hQQ QQ
  have psT := psT.trans psD
  have GD := G.mono psD
  refine Jq1 _ _ (x_ fun Qq2 Jq2 => ?_)
  refine comp_asg (cl := [(Str.ofString "rules", L + 1)]) (by rfl) (by rfl) (fun _ => by rfl) (by rfl) (by decide) ?_
  refine n_ 1 K rfl ?_
  refine cl_list (mu := []) (its := []) (vs := ivs) (.inr ⟨_, _, _, rfl⟩) (.inr fun v hv => ?href) (K.hold _ _ (psT _ _ ib)) (fun _ _ _ => turn1 ..) (by decide) (by rfl) rm.hd
   (fun D' i q l' mu' => (q = (p.add (L + 1) oT).add D (listOf vs.toArray c)) ∧ (X2 fun (us : List Value) (c : Nat) => A3 (mu' = [(D', listOf us.toArray c)]) (us.length ≤ i) (StrsAre us (behindOf R (its.take i)))))
   K (fun D _ => ⟨rfl, [], 0, rfl, Nat.le_refl _, .nil⟩) ?src ?turn ?done
  case href =>
   refine hide fun QQ hQQ => ?_
   obtain ⟨i, hi⟩ := List.getElem?_of_mem hv
   obtain ⟨x, b, n, t1, t2, _, e, _⟩ := itAt hi (List.getElem?_eq_some_iff.mp hi).1
   refine hQQ ?_
   clear hQQ QQ
   exact ⟨b, e⟩
  case src => rintro D C i q h' lc mu' its K ⟨rfl, _⟩; exact ⟨nn, K.hold _ _ (psT _ _ ib)⟩
  case turn =>
   rintro D C i v q h' lc mu' its' t' hv hi K hx13_ Qt Jt
   refine hide fun QQ hQQ => ?_
   obtain ⟨rfl, us, c, rfl, vl, viv⟩ := hx13_
   obtain ⟨⟨xr, xd⟩, b, n, t1, t2, hx, rfl, pb, hxr, hxd⟩ := itAt hv hi
   dsimp only at hxr hxd pb
   obtain ⟨rv, rb', rt, lv, n2, hrv, rfl, prb, la, lvs, ln, rfl, plb, lsa⟩ := ruleAt hxr
   refine hQQ ?_
   clear hQQ QQ
   have hlen := strs_len lsa
   have hrl' := hrl xr
   refine as_t2 K rm.hd (K.hold _ _ (psT _ _ pb)) (by kernel_rfl) (by kernel_rfl) (by rfl) (by rfl) fun h3 t3 K => ?_
   refine tests1 ?_
   refine qn_ 0 K rfl (kb_ (gB_len _) GD K.hold (ar_ (u_ (u_ ?_))))
   refine ldC (K.hold _ _ (psD _ _ hfT)) hoT (by kernel_rfl) (by rfl) (by rfl) (by kernel_rfl) ?_
   refine n_ 1 K rfl ?_
   refine sub_list (k := (xr : Nat)) (K.hold _ _ (psT _ _ rb)) (by exact Int.natCast_nonneg _) (by exact Int.ofNat_lt.mpr (lnt fun q => lnq [_,_] [aL (tN 9223372036854775808) Z0,aL (tQ Z0) Z1,aL Z1 (tN 1000)] rfl q hxr hR)) (by simpa using hrv) (by rfl) ?_
   refine m_ fun _ _ => ?_
   refine sub_tupT (k := 1) (K.hold _ _ (psT _ _ prb)) (by decide) (by decide) (by rfl) (by rfl) ?_
   refine z_ ?_
   refine len_l (K.hold _ _ (psT _ _ plb)) (by simp; exact Int.ofNat_lt.mpr (lnt fun q => lnq [_,_] [aL (tN 9223372036854775808) Z0,aL Z1 (tN 1000),aE Z0 Z1] rfl q hrl' hlen)) fun uln _ => ?_
   refine i_lt (h_ ?_)
   refine PyProof.Rows.split_dec (fun h1 => ?_) (fun h1 => ?_)
   ·have e1 : xd < (rhs R xr).length := by
     have : (xd : Int) < (lvs.toArray.size : Nat) := h1
     rw [List.size_toArray] at this; exact lnt fun q => lnq [_,_,_] [aL Z0 Z1,aL (tQ Z1) Z2,aE Z2 Z0] rfl q (Int.ofNat_lt.mp this) hlen
    have hy : (rhs R xr)[xd]? = some (rhs R xr)[xd] := List.getElem?_eq_getElem e1
    generalize (rhs R xr)[xd] = y at hy
    refine hide fun QQ hQQ => ?_
    obtain ⟨yt, hyv⟩ := strs_at lsa hy
    refine hQQ ?_
    clear hQQ QQ
    refine emit_ ?_
    refine u_ (u_ (u_ ?_))
    refine ldC (K.hold _ _ (psD _ _ hfT)) hoT (by kernel_rfl) (by rfl) (by rfl) (by kernel_rfl) ?_
    refine n_ 1 K rfl ?_
    refine sub_list (k := (xr : Nat)) (K.hold _ _ (psT _ _ rb)) (by exact Int.natCast_nonneg _) (by exact Int.ofNat_lt.mpr (lnt fun q => lnq [_,_] [aL (tN 9223372036854775808) Z0,aL (tQ Z0) Z1,aL Z1 (tN 1000)] rfl q hxr hR)) (by simpa using hrv) (by rfl) ?_
    refine m_ fun _ _ => ?_
    refine sub_tupT (k := 1) (K.hold _ _ (psT _ _ prb)) (by decide) (by decide) (by rfl) (by rfl) ?_
    refine n_ 0 K rfl ?_
    refine sub_list (k := (xd : Nat)) (v := .str y yt) (K.hold _ _ (psT _ _ plb)) (by exact Int.natCast_nonneg _) (by exact Int.ofNat_lt.mpr (lnt fun q => lnq [_,_] [aL (tN 9223372036854775808) Z0,aL (tQ Z0) Z1,aL Z1 (tN 1000)] rfl q e1 hrl')) (by simpa using hyv) (by rfl) ?_
    refine app_ (m1 := []) K (by show us.length ≤ 2 ^ 24; exact lnl fun q => lnq [_,_,_,_] [aL (tQ (tN 16777216)) Z0,aL Z0 Z1,aL (tQ Z1) Z2,aE Z2 Z3,aL Z3 (tN 1000)] rfl q vl hi il hil) fun h4 n4 K => ?_
    refine Jt _ ⟨_, _, _, _, _, rfl, K, rfl, _, n4, rfl, by simp; exact lnl fun q => lnq [_,_] [aL (tQ Z0) Z1,aL Z1 Z0] rfl q vl, ?_⟩
    rw [take_snoc hx, behindOf_t hy]
    exact strs_app viv (.cons _ _ .nil)
   ·have e1 : (rhs R xr)[xd]? = none := List.getElem?_eq_none (by
     have : ¬ (xd : Int) < (lvs.toArray.size : Nat) := h1
     rw [List.size_toArray] at this; exact lnl fun q => lnq [_,_,_] [aL (tQ Z0) Z1,aX (tQ Z0) Z2,aG Z2 Z1] rfl q (fun z => this (Int.ofNat_lt.mpr z)) hlen)
    refine Jt _ ⟨_, _, _, _, _, rfl, K, rfl, us, c, rfl, by exact lnl fun q => lnq [_,_] [aL (tA (tQ Z0) (tN 1)) Z1,aL Z1 Z0] rfl q vl, ?_⟩
    rw [take_snoc hx, behindOf_f e1]; exact viv
  case done =>
   rintro D' C oC q h' lc mu' t' K nC hC hx11_
   refine hide fun QQ hQQ => ?_
   obtain ⟨rfl, us, c', rfl, ul, uiv⟩ := hx11_
   refine hQQ ?_
   clear hQQ QQ
   rw [il, List.take_length] at uiv
   refine comp_use K nC hC (by kernel_rfl) (by rfl) (by rfl) fun h6 t6 K => ?_
   have hD' : h.get? D' = none := (K.own (D', listOf us.toArray c') (.head _)).2.2.2.resolve_left (by simp)
   refine hide fun QQ hQQ => ?_
   obtain ⟨K, psD', hfD'⟩ := K.fix hD'
   refine hQQ ?_
   clear hQQ QQ
   have psT := psT.trans psD'
   have GD := GD.mono psD'
   have wl : vs.length = (wholeOf R its).length := by rw [viv.length]; simp [zs]
   refine Jq2 _ _ (wj_ (BoolOp_or (wpAny_Compare1 (kb_ (gB_len _) GD K.hold (arnz_ 1 K rfl ?_)))))
   refine len_l (K.hold _ _ (psD' _ _ hfD)) (by simp; exact Int.ofNat_lt.mpr (lnt fun q => lnq [_,_,_] [aL (tN 9223372036854775808) Z0,aL Z0 Z1,aE Z1 Z2,aL Z2 (tN 1000)] rfl q vl il hil)) fun uln _ => ?_
   refine m_ fun _ _ => i_gt (h_ ?_)
   refine PyProof.Rows.split_dec (fun h1 => ?_) (fun h1 => ?_)
   ·have e1 : 1 < (wholeOf R its).length := by
     have : ((vs.toArray.size : Nat) : Int) > 1 := h1
     rw [List.size_toArray] at this; exact lnt fun q => lnq [_,_] [aL Z0 (tN 1),aL (tQ (tN 1)) Z1,aE Z1 Z0] rfl q (Int.ofNat_lt.mp this) wl
    have e2 : needsB R its = true := by unfold needsB; rw [decide_eq_true e1, Bool.true_or]
    refine kk _ _ _ _ K.gro ?_
    rw [e2, decide_eq_true h1]
   ·have e1 : ¬ 1 < (wholeOf R its).length := by
     have : ¬ ((vs.toArray.size : Nat) : Int) > 1 := h1
     rw [List.size_toArray] at this; exact fun q => lnq [_,_] [aL (tQ (tN 1)) Z0,aX (tQ (tN 1)) Z1,aG Z1 Z0] rfl q (fun z => this (Int.ofNat_lt.mpr z)) wl
    refine BoolOp_one (BoolOp_and (wpAny_Compare1 (n_ 1 K rfl (List_ (z_ ?_)))))
    refine nl K (by show 0 ≤ 2 ^ 24; decide) fun b0 h7 fb0 K => ?_
    refine ne_l0 (vs := vs) rm.deeper (K.hold _ _ (psD' _ _ hfD)) (K.get (.head _)) ?_
    refine h_ ?_
    refine split_b (fun h2 => ?_) (fun h2 => ?_)
    ·have e2 : (wholeOf R its).isEmpty = false := by
      cases hq : (wholeOf R its) with
      | nil => rw [hq] at wl; rw [List.eq_nil_of_length_eq_zero wl] at h2; cases h2
      | cons => rfl
     refine BoolOp_one (wpAny_Compare1 ?_)
     refine comp_eval (cl := []) (by rfl) (fun _ => by rfl) (by rfl) (by decide) ?_
     refine n_ 0 K rfl ?_
     refine cl_list (mu := []) (its := [(b0, listOf ([] : List Value).toArray 0)]) (vs := us) (.inl rfl) (.inl rfl) (K.hold _ _ hfD') (fun _ _ _ => turn1 ..) (by decide) (by rfl) rm.hd
      (fun D2 i q l' mu' => (PSub (((p.add (L + 1) oT).add D (listOf vs.toArray c)).add D' (listOf us.toArray c')) q) ∧ (X2 fun (xs : List Value) (c : Nat) => A3 (mu' = [(D2, listOf xs.toArray c)]) (xs.length = (((behindOf R its).take i).filter (· ∈ SGN)).length) (xs.length ≤ i)))
      K (fun D _ => ⟨PSub.refl _, [], 0, rfl, rfl, Nat.le_refl _⟩) ?src ?turn ?done
     case src => rintro D C i q h' lc mu' its K ⟨ps, _⟩; exact ⟨c', K.hold _ _ (ps _ _ hfD')⟩
     case turn =>
      rintro D2 C i v q h' lc mu' its' t' hv hi K hx13_ Qt Jt
      refine hide fun QQ hQQ => ?_
      obtain ⟨ps, xs, cx, rfl, xl, xi⟩ := hx13_
      refine hQQ ?_
      clear hQQ QQ
      have hib : i < (behindOf R its).length := by rw [← strs_len uiv]; exact hi
      have hy : (behindOf R its)[i]? = some (behindOf R its)[i] := List.getElem?_eq_getElem hib
      generalize (behindOf R its)[i] = y at hy
      refine hide fun QQ hQQ => ?_
      obtain ⟨yt, hyv⟩ := strs_at uiv hy
      refine hQQ ?_
      clear hQQ QQ
      rw [hyv] at hv; refine hide fun QQ hQQ => ?_
      cases hv
      all_goals (refine hQQ ?_; clear hQQ QQ)
      refine wpAny_assign_Name (s_ K fun h2 t2 K => ?_)
      refine tests1 ?_
      refine qn_ 0 K rfl (Tuple_ (r_ (g_ fun _ _ => r_ (g_ fun _ _ => r_ (g_ fun _ _ => z_ ?_)))))
      rename_i ua ta ub tb uc tc
      refine nt K (by show 3 ≤ 2 ^ 24; decide) fun tp h9 q9 ps9 htp K => ?_
      refine in_ts (xs := SGN) (K.hold _ _ htp) (.cons _ _ (.cons _ _ (.cons _ _ .nil))) ?_
      refine h_ ?_
      refine PyProof.Rows.split_dec (fun h3 => ?_) (fun h3 => ?_)
      ·refine emit_ ?_
       refine n_ 0 K rfl ?_
       refine app_ (m1 := []) K (by show xs.length ≤ 2 ^ 24; exact lnl fun q => lnq [_,_,_,_,_] [aL (tQ (tN 16777216)) Z0,aL Z0 Z1,aL (tQ Z1) Z2,aL Z2 Z3,aE Z3 Z4,aL Z4 (tN 1000)] rfl q xi hi ul il hil) fun h4 n4 K => ?_
       refine Jt _ ⟨_, _, _, _, _, rfl, K, ps.trans ps9, _, n4, rfl, ?_, by simp; exact lnl fun q => lnq [_,_] [aL (tQ Z0) Z1,aL Z1 Z0] rfl q xi⟩
       rw [take_snoc hy, List.filter_append, List.filter_cons, if_pos (by simpa using h3), List.length_append, List.length_append, xl]; rfl
      ·refine Jt _ ⟨_, _, _, _, _, rfl, K, ps.trans ps9, _, cx, rfl, ?_, by exact lnl fun q => lnq [_,_] [aL (tA (tQ Z0) (tN 1)) Z1,aL Z1 Z0] rfl q xi⟩
       rw [take_snoc hy, List.filter_append, List.filter_cons, if_neg (by simpa using h3), xl]; simp
     case done =>
      rintro D2 C oC q h' lc mu' t' K nC hC hx11_
      refine hide fun QQ hQQ => ?_
      obtain ⟨ps, xs, cx, rfl, xl, xi⟩ := hx11_
      refine hQQ ?_
      clear hQQ QQ
      rw [strs_len uiv, List.take_length] at xl
      refine comp_val K nC hC fun h5 K => ?_
      refine List_ (z_ ?_)
      refine nl K (by show 0 ≤ 2 ^ 24; decide) fun b1 h7 fb1 K => ?_
      refine ne_l0 (vs := xs) rm.deeper (K.get (.tail _ (.head _))) (K.get (.head _)) ?_
      skip
      refine kk _ _ _ _ K.gro ?_
      have e3 : xs.isEmpty = ((behindOf R its).filter (· ∈ SGN)).isEmpty := by
       rw [Bool.eq_iff_iff, List.isEmpty_iff_length_eq_zero, List.isEmpty_iff_length_eq_zero, xl]
      unfold needsB
      rw [decide_eq_false e1, e2, e3]; rfl
    ·have e2 : (wholeOf R its).isEmpty = true := by
      cases hq : (wholeOf R its) with
      | nil => rfl
      | cons a b => rw [hq] at wl; cases vs with
       | nil => cases wl
       | cons => cases h2
     skip
     refine kk _ _ _ _ K.gro ?_
     unfold needsB
     rw [decide_eq_false e1, e2, h2]; rfl
end

theorem list_keys_none : typeLookup (.type "list") "keys" = pure none := by rw [typeLookup_type, builtinLookup_eq_fast]; kernel_rfl
theorem entry_dict_update_loop : entryFor table "dict.update.loop" = some Builtin.«dict.update.loop» := entryFor_of_tree (by kernel_rfl)
theorem plain_dict_update_loop : plainId "dict.update.loop" = true := by decide +kernel
section
variable {w : World} {A : Around} {E : Value → Shared → Prop} {g : Array GenState} {d : Drawn} {t : Nat} {os : OsState}
variable {p0 p : PH} {h0 h : Heap} {X : List Addr} {L : Addr} {l : AL} {mu : Led}
theorem miss_keys {a : Addr} {vs : Array Value} {n : Nat} {Q : Option Value → Shared → Prop} (hx : h.get? a = some (listOf vs n)) (hA : A.handled = none)
  (q : ∀ h' tk, (∀ b o, h.get? b = some o → h'.get? b = some o) → Q none ⟨h', g, d, tk, os⟩) : wpAny (model PR w) A (getAttr? (.ref a) "keys") Q E ⟨h, g, d, t, os⟩ := by
 have hT : ∀ tk', (⟨h, g, d, tk', os⟩ : Shared).TypeIs (.ref a) "list" := fun _ => ⟨_, hx, rfl⟩
 have f1 := sub_AttributeError
 have f3 := F.slot_list_getattribute.lookup
 have f4 := F.slot_list_getattribute.bind (.ref a)
 have f5 := am_list_getattr_none
 unfold getAttr? getAttrBy? getAttrBy
 repeat (any_goals (first | assumption | exact hT _ | ((with_reducible show wpAny _ _ (call (Value.builtin "list.__getattribute__") _ _) _ _ _); refine call_meets F.slot_list_getattribute (hT _) am_entry_list_getattribute (F.args_list_getattribute_2 _ _) (meets_getattribute_miss_list a vs n #[] "keys" _ list_keys_none (by decide +kernel) (by decide +kernel)) ⟨hx, hA, fun h' tk' e hx' => ?_⟩) | wp_step))
 obtain ⟨t', u', he⟩ := hx'.there
 show wpAny _ _ (getattributeRaised _ _ _ _ _ _ _) _ _ _
 unfold getattributeRaised
 repeat (any_goals (first | assumption | wp_step))
 exact q _ _ hx'.of.keeps
theorem str_is (x : Str) (t : Tok) : (PySem.strKind PR w).is x (.str x t) = true := beq_self_eq_true x
theorem stored_len (kvs : List (Str × Value)) (k : Str) (v : Value) : (stored kvs k v).length ≤ kvs.length + 1 := by
 have : ∀ kvs : List (Str × Value), (stored kvs k v).length ≤ kvs.length + 1 := by
  intro kvs
  unfold stored
  split
  ·simp
  ·simp
 exact this kvs
theorem typeCall_dict_1 (a : Value) : checkTypeCall "dict" ⟨[a], []⟩ = pure () := by kernel_rfl
noncomputable def storedAll (kvs : List (Str × Value)) (prs : List (Str × Value)) : List (Str × Value) := prs.foldl (fun acc x => stored acc x.1 x.2) kvs
noncomputable def PrAt (p : PH) (u : Value) (x : Str × Value) : Prop := ∃ b t n, u = .ref b ∧ p b = some (tupOf [.str x.1 t, x.2].toArray n)
theorem dict_loop {a it pl : Addr} {us : List Value} {prs : List (Str × Value)} {n : Nat} {R : Result → Shared → Prop} (hA : A.handled = none) (hpl : p pl = some (listOf us.toArray n)) (hlen : us.length = prs.length)
  (hpr : ∀ (i : Nat) u x, us[i]? = some u → prs[i]? = some x → PrAt p u x) (hb : prs.length ≤ 1000) (hit : h0.get? it = none) :
  ∀ (k i : Nat) (h : Heap) (t : Nat) (o oi : Obj) (u : Tok) (kvs : List (Str × Value)), us.length - i = k → i ≤ us.length → W p0 h0 X L p h l ((it, oi) :: (a, o) :: mu) → listItO pl oi i → DO (PySem.strKind PR w) o kvs → kvs.length ≤ i →
   (∀ h' t' o', W p0 h0 X L p h' l ((a, o') :: mu) → DO (PySem.strKind PR w) o' (storedAll kvs (prs.drop i)) → R (.ok (.ret .none)) ⟨h', g, d, t', os⟩) →
   codeAny (model PR w) A (.builtin "dict.update.loop" ⟨[.ref a, .ref it, .int i u, .none], []⟩) R ⟨h, g, d, t, os⟩ := by
 intro k
 induction k with
 | zero =>
  intro i h t o oi u kvs hk hi K ok D hkv q
  have e : i = us.length := by exact lne (fun q => lnq [_,_] [aL (tQ Z0) Z1,aL Z1 Z0] rfl q hi) fun q => lnq [_,_,_] [aL (tQ Z0) Z1,aE Z2 (tN 0),aL Z1 (tA Z2 Z0)] rfl q hk (sbL _ _)
  subst e
  refine codeAny_builtin entry_dict_update_loop ?_
  rw [Around.under_plainId plain_dict_update_loop _]
  show wpAny _ A.in1 (pyNext (.ref it) >>= _) _ _ _
  have T := its_list (w := w) (A := A.in1) (g := g) (d := d) (os := os) (target := .Name "x" ⟨0, 0, 0, 0⟩) hA (.inl rfl) it pl us (.inl rfl)
  refine wpAny_bind (T.fin h t oi _ _ (K.get (.head _)) ok ⟨n, K.hold _ _ hpl⟩ fun h' t' hs => ?_)
  show wpAny _ _ (Builtin.Dict.addKeywords a [] >>= _) _ _ _
  refine wpAny_bind (wpAny_pure (wpAny_pure ?_))
  refine q h' t' o (K.drop hit hs) ?_
  rw [hlen, List.drop_length]
  exact D
 | succ k ih =>
  intro i h t o oi u kvs hk hi K ok D hkv q
  have hlt : i < us.length := by exact lnt fun q => lnq [_,_,_,_] [aE (tA Z0 Z1) Z2,aL Z2 Z1,aG Z0 (tQ Z3)] rfl (sbC fun q => lnq [_,_] [aL (tQ Z0) Z1,aL Z1 Z0] rfl q hi) q hk
  refine codeAny_builtin entry_dict_update_loop ?_
  rw [Around.under_plainId plain_dict_update_loop _]
  show wpAny _ A.in1 (pyNext (.ref it) >>= _) _ _ _
  have T := its_list (w := w) (A := A.in1) (g := g) (d := d) (os := os) (target := .Name "x" ⟨0, 0, 0, 0⟩) hA (.inl rfl) it pl us (.inl rfl)
  refine wpAny_bind (T.item h t oi i _ _ (K.get (.head _)) ok ⟨n, K.hold _ _ hpl⟩ hlt fun v h' o' t' hv hi' ok' hs => ?_)
  have hx : prs[i]? = some prs[i] := List.getElem?_eq_getElem (by exact lnt fun q => lnq [_,_,_] [aL Z0 Z1,aL (tQ Z1) Z2,aE Z2 Z0] rfl q hlt hlen)
  have hdr : prs.drop i = prs[i] :: prs.drop (i + 1) := List.drop_eq_getElem_cons (by exact lnt fun q => lnq [_,_,_] [aL Z0 Z1,aL (tQ Z1) Z2,aE Z2 Z0] rfl q hlt hlen)
  generalize prs[i] = x at hx hdr
  obtain ⟨b, tx, nb, rfl, pb⟩ := hpr i v x hv hx
  have K := K.turned hs hi'
  try dsimp only
  refine wpAny_bind (wpAny_holding (wpAny_bind (wpAny_tryCatch ?_)))
  unfold Builtin.Dict.pairItems
  refine wpAny_bind (wpAny_typeOf_ref (K.hold _ _ pb) ?_)
  rw [if_pos (by rfl)]
  refine wpAny_bind (wpAny_seqItems (K.hold _ _ pb) rfl (wpAny_pure ?_))
  show wpAny _ _ (holding [Value.str x.1 tx, x.2] (dictSet a (Value.str x.1 tx) x.2)) _ _ _
  refine wpAny_holding ?_
  have kl : kvs.length ≤ sizeLine := by show kvs.length ≤ 2 ^ 24; exact lnl fun q => lnq [_,_,_,_] [aL (tQ (tN 16777216)) Z0,aL (tQ Z1) Z2,aL Z0 Z1,aL Z3 (tN 1000),aE Z2 Z3] rfl q hlt hkv hb hlen
  refine wpAny_dictSet_pairs (knd := PySem.strKind PR w) (s := ⟨h', g, d, t', os⟩) (k := x.1) (str_is _ _) (D.at (K.get (.tail _ (.head _)))) (fun h2 hd hs2 => ?_) kl
  obtain ⟨o2, e2, D2⟩ := DO.of hd
  have K := (K.mid' (m1 := [(it, o')])).turned (fun b x nb e => (hs2.2 b nb).trans e) e2
  have K := K.mid (m1 := [(it, o')])
  refine wpAny_pure ⟨plainId_quiet plain_dict_update_loop _, ih (i + 1) h2 _ o2 o' _ (stored kvs x.1 x.2) (by exact lne (fun q => lnq [_,_,_,_,_] [aE (tA Z0 (tQ Z1)) Z2,aG (tA Z3 Z1) Z2,aL (tQ Z4) Z0,aE Z3 (tQ Z4)] rfl (sbC fun q => lnq [_,_] [aL (tQ Z0) (tQ Z1),aL (tQ Z1) Z0] rfl q hlt) (sbC fun q => lnq [_,_] [aL (tQ Z0) Z1,aL (tQ Z1) Z0] rfl q hlt) q hk) fun q => lnq [_,_,_,_,_] [aG (tA Z0 (tQ Z1)) Z2,aE (tA Z3 Z1) Z2,aL (tQ Z0) Z4,aG Z3 (tQ Z4)] rfl (sbC fun q => lnq [_,_] [aL (tQ Z0) (tQ Z1),aL (tQ Z1) Z0] rfl q hlt) (sbC fun q => lnq [_,_] [aL (tQ Z0) Z1,aL (tQ Z1) Z0] rfl q hlt) q hk) (by exact lnl fun q => lnq [_,_] [aL (tQ Z0) (tQ Z1),aL (tQ Z1) Z0] rfl q hlt) K ok' D2 ?_ fun h3 t3 o3 K3 D3 => q h3 t3 o3 K3 ?_⟩
  ·have := stored_len kvs x.1 x.2
   exact lnl fun q => lnq [_,_,_] [aL (tA (tQ Z0) (tN 1)) Z1,aL Z1 (tQ Z2),aL Z2 Z0] rfl q this hkv
  ·rw [hdr]; exact D3
theorem dict_of {pl : Addr} {us : List Value} {prs : List (Str × Value)} {n : Nat} {Q : Value → Shared → Prop} (G : Grd w p) (K : W p0 h0 X L p h l mu) (hA : A.handled = none) (hpl : p pl = some (listOf us.toArray n)) (hlen : us.length = prs.length)
  (hpr : ∀ (i : Nat) u x, us[i]? = some u → prs[i]? = some x → PrAt p u x) (hb : prs.length ≤ 1000)
  (q : ∀ a h' t' o, h0.get? a = none → (a == sysModules) = false → W p0 h0 X L p h' l ((a, o) :: mu) → DO (PySem.strKind PR w) o (storedAll [] prs) → Q (.ref a) ⟨h', g, d, t', os⟩) :
  wpAny (model PR w) A (call (.type "dict") [.ref pl]) Q E ⟨h, g, d, t, os⟩ := by
 refine callType_codes (Q₁ := fun obj s₁ => obj = .ref h.objs.size ∧ s₁ = ⟨h.push { cls := .type "dict", data := .dict #[] }, g, d, t, os⟩) F.kt_called_dict (typeCall_dict_1 _) F.entry_dict_init (kt_code_dict_new _ ⟨rfl, rfl⟩) ?_
 rintro obj s₁ ⟨rfl, rfl⟩
 have hn0 := K.new_none
 have hsz : (h.objs.size == sysModules) = false := beq_false_of_ne (Nat.ne_of_gt (G.big K.hold))
 have K1 := K.push { cls := .type "dict", data := .dict #[] } rfl
 have hTd : ∀ t', (⟨h.push { cls := .type "dict", data := .dict #[] }, g, d, t', os⟩ : Shared).TypeIs (.ref h.objs.size) "dict" := fun _ => ⟨_, K1.get (.head _), rfl⟩
 have hTl : ∀ t', (⟨h.push { cls := .type "dict", data := .dict #[] }, g, d, t', os⟩ : Shared).TypeIs (.ref pl) "list" := fun _ => ⟨_, K1.hold _ _ hpl, rfl⟩
 refine ⟨hTd _, F.args_dict_init_2 _ _, ?_⟩
 unfold Builtin.«dict.__init__»
 refine wpAny_bind ?_
 unfold Builtin.Dict.selfAndRest
 refine wpAny_bind (wpAny_notOrdered_dict (hTd _) ?_)
 show wpAny _ _ (pure (h.objs.size, [Value.ref pl])) _ _ _
 refine wpAny_pure ?_
 show wpAny _ _ (Builtin.Dict.updateFrom "dict.__init__" h.objs.size (.ref pl) [] .none) _ _ _
 unfold Builtin.Dict.updateFrom
 refine wpAny_bind (wpAny_typeOf (hTl _) ?_)
 rw [if_pos (by decide)]
 refine wpAny_bind (miss_keys (K1.hold _ _ hpl) hA fun h2 t2 kp => ?_)
 rw [if_pos (by rfl)]
 have K2 := K1.grow kp
 refine wpAny_bind (wpAny_rule (wpAny_bind (wpAny_pyIter_list (s := ⟨h2, g, d, t2, os⟩) (items := us.toArray) ⟨_, K2.hold _ _ hpl, rfl, _, rfl⟩ ?_)))
 have K3 := K2.push { cls := .type "list_iterator", data := .fields #[.ref pl, .int 0 0] } rfl
 refine wpAny_pure ⟨plainId_quiet plain_dict_update_loop _, ?_⟩
 refine dict_loop (R := wants (fun r s₂ => r = .none ∧ Q (.ref h.objs.size) s₂) E) (A := A.in1) (a := h.objs.size) (it := h2.objs.size) (prs := prs) (n := n) hA hpl hlen hpr hb (K.none_of (by
  cases e : h.get? h2.objs.size with
  | none => rfl
  | some o => exact absurd (Heap.lt_size (kp _ _ (Heap.get?_push_of_some _ e))) (Nat.lt_irrefl _))) us.length 0 _ t2 _ _ 0 [] (by exact lne (fun q => lnq [_,_] [aL (tQ Z0) Z1,aL Z1 Z0] rfl q (Nat.sub_le _ _)) fun q => lnq [_,_] [aL (tQ Z0) Z1,aL Z1 (tA Z0 (tN 0))] rfl q (sbL _ _)) (by exact lnl fun q => lnq [_] [aL (tQ Z0) (tN 0)] rfl q) K3 ⟨rfl, rfl⟩ ⟨⟨rfl, rfl, rfl⟩, #[], 0, rfl, fun _ hx => by simp at hx, .nil, List.nodup_nil⟩ (Nat.le_refl _) fun h3 t3 o3 K4 D4 => ?_
 exact ⟨rfl, q _ _ _ _ hn0 hsz K4 D4⟩
end

structure CF where
 R : Nat
 left : Nat → Nat
 right : Nat → List Nat
 tc : Nat
 s : Nat
structure CFok (g : CF) : Prop where
 r0 : g.right 0 = [g.s, 0]
 pos : 0 < g.R
 tc0 : 0 < g.tc
 s0 : g.tc ≤ g.s
 lt : ∀ r, r < g.R → g.tc ≤ g.left r
 fin : ∀ r, r < g.R → r ≠ 0 → 0 ∉ g.right r
 acc : ∀ r, r < g.R → g.left 0 ∉ g.right r
inductive Fo
 | nil
 | leaf (a : Nat) (f : Fo)
 | node (r : Nat) (k f : Fo)
namespace Fo
noncomputable def syms (g : CF) : Fo → List Nat
 | nil => []
 | leaf a f => a :: syms g f
 | node r _ f => g.left r :: syms g f
noncomputable def yield : Fo → List Nat
 | nil => []
 | leaf a f => a :: yield f
 | node _ k f => yield k ++ yield f
noncomputable def good (g : CF) : Fo → Prop
 | nil => True
 | leaf a f => a < g.tc ∧ good g f
 | node r k f => r < g.R ∧ r ≠ 0 ∧ syms g k = g.right r ∧ good g k ∧ good g f
noncomputable def size : Fo → Nat
 | nil => 0
 | leaf _ f => size f + 1
 | node _ k f => size k + 1 + size f
noncomputable def app : Fo → Fo → Fo
 | nil, h => h
 | leaf a f, h => leaf a (app f h)
 | node r k f, h => node r k (app f h)
theorem app_nil : ∀ f : Fo, app f nil = f
 | nil => rfl
 | leaf a f => by rw [app, app_nil f]
 | node r k f => by rw [app, app_nil f]
theorem app_assoc : ∀ f h k : Fo, app (app f h) k = app f (app h k)
 | nil, _, _ => rfl
 | leaf a f, h, k => by rw [app, app, app, app_assoc f]
 | node r c f, h, k => by rw [app, app, app, app_assoc f]
theorem syms_app (g : CF) : ∀ f h : Fo, syms g (app f h) = syms g f ++ syms g h
 | nil, _ => rfl
 | leaf a f, h => by rw [app, syms, syms, syms_app g f, List.cons_append]
 | node r c f, h => by rw [app, syms, syms, syms_app g f, List.cons_append]
theorem yield_app : ∀ f h : Fo, yield (app f h) = yield f ++ yield h
 | nil, _ => rfl
 | leaf a f, h => by rw [app, yield, yield, yield_app f, List.cons_append]
 | node r c f, h => by rw [app, yield, yield, yield_app f, List.append_assoc]
theorem good_app (g : CF) : ∀ f h : Fo, good g (app f h) ↔ good g f ∧ good g h
 | nil, _ => by simp [app, good]
 | leaf a f, h => by rw [app, good, good, good_app g f, and_assoc]
 | node r c f, h => by rw [app, good, good, good_app g f]; simp only [and_assoc]
end Fo
structure LR (g : CF) where
 items : Nat → Nat → Nat → Prop
 next : Nat → Nat → Option Nat
 red : Nat → Option Nat
structure LRok {g : CF} (m : LR g) : Prop where
 start : m.items 0 0 0
 rng : ∀ q r d, m.items q r d → r < g.R
 zero : ∀ r d, m.items 0 r d → d = 0
 closed : ∀ q r d a r', m.items q r d → (g.right r)[d]? = some a → r' < g.R → g.left r' = a → m.items q r' 0
 fwd : ∀ q r d a, m.items q r d → (g.right r)[d]? = some a → ∃ j, m.next q a = some j ∧ m.items j r (d + 1)
 back : ∀ q a j r d, m.next q a = some j → m.items j r (d + 1) → m.items q r d ∧ (g.right r)[d]? = some a
 goto : ∀ q a j, m.next q a = some j → ∃ r d, m.items j r (d + 1)
 first : ∀ q a j, m.next q a = some j → ¬ m.items j 0 0
 some_ : ∀ q a j, m.next q a = some j → ∃ r d, m.items q r d ∧ (g.right r)[d]? = some a
 red1 : ∀ q r, r ≠ 0 → m.items q r (g.right r).length → m.red q = some r
 red2 : ∀ q r, m.red q = some r → r ≠ 0 ∧ m.items q r (g.right r).length
 shift : ∀ q r d a, m.items q r d → (g.right r)[d]? = some a → a < g.tc → m.red q = none
noncomputable abbrev Stk := List (Nat × Fo)
noncomputable def joinR (S : Stk) : Fo := S.foldl (fun acc e => e.2.app acc) .nil
theorem joinR_cons (e : Nat × Fo) (S : Stk) : joinR (e :: S) = (joinR S).app e.2 := by
 have : ∀ (S : Stk) (acc : Fo), S.foldl (fun acc e => e.2.app acc) acc = (joinR S).app acc := by
  intro S
  induction S with
  | nil => intro acc; rfl
  | cons a S ih =>
   intro acc
   unfold joinR
   rw [List.foldl_cons, List.foldl_cons, ih, ih, Fo.app_assoc, Fo.app_assoc]; rfl
 unfold joinR
 rw [List.foldl_cons, this, Fo.app_nil]; rfl
theorem joinR_append (S T : Stk) : joinR (S ++ T) = (joinR T).app (joinR S) := by
 induction S with
 | nil => rw [List.nil_append]; exact (Fo.app_nil _).symm
 | cons a S ih => rw [List.cons_append, joinR_cons, joinR_cons, ih, Fo.app_assoc]
section
variable {g : CF} (m : LR g)
noncomputable def gstep : Stk × List Nat → Option (Stk × List Nat)
 | ([], _) => none
 | (e :: S, w) => match m.red e.1 with
  | some r => match (e :: S).drop (g.right r).length with
   | [] => none
   | p :: S' => (m.next p.1 (g.left r)).map fun j => ((j, Fo.node r (joinR ((e :: S).take (g.right r).length)) .nil) :: p :: S', w)
  | none => match w with
   | [] => none
   | a :: w => (m.next e.1 a).map fun j => ((j, Fo.leaf a .nil) :: e :: S, w)
noncomputable def gsteps : Nat → Stk × List Nat → Option (Stk × List Nat)
 | 0, c => some c
 | n + 1, c => (gstep m c).bind (gsteps n)
theorem gsteps_add (n k : Nat) (c : Stk × List Nat) : gsteps m (n + k) c = (gsteps m n c).bind (gsteps m k) := by
 induction n generalizing c with
 | zero => rw [Nat.zero_add]; rfl
 | succ n ih =>
  rw [Nat.succ_add]
  show (gstep m c).bind (gsteps m (n + k)) = ((gstep m c).bind (gsteps m n)).bind (gsteps m k)
  cases gstep m c with
  | none => rfl
  | some c' => exact ih c'
variable {m} (ok : LRok m)
include ok
theorem run_f : ∀ (f : Fo), f.good g → ∀ (q : Nat) (t : Fo) (S : Stk) (w : List Nat) (r d : Nat) (rest : List Nat), m.items q r d → (g.right r).drop d = f.syms g ++ rest →
  ∃ S1 : Stk, gsteps m f.size ((q, t) :: S, f.yield ++ w) = some (S1 ++ (q, t) :: S, w) ∧ S1.length = (f.syms g).length ∧ joinR S1 = f ∧ ∃ e S', S1 ++ (q, t) :: S = e :: S' ∧ m.items e.1 r (d + (f.syms g).length)
 | .nil, _, q, t, S, w, r, d, rest, hi, _ => ⟨[], rfl, rfl, rfl, (q, t), S, rfl, hi⟩
 | .leaf a f, hg, q, t, S, w, r, d, rest, hi, hd => by
  have ha : (g.right r)[d]? = some a := by
   have := congrArg (fun l : List Nat => l[0]?) hd
   simpa [Fo.syms] using this
  have hd' : (g.right r).drop (d + 1) = f.syms g ++ rest := by
   have := congrArg List.tail hd
   simpa [Fo.syms] using this
  obtain ⟨j, hj, hij⟩ := ok.fwd q r d a hi ha
  obtain ⟨S1, h1, h2, h3, e, S', h4, h5⟩ := run_f f hg.2 j (.leaf a .nil) ((q, t) :: S) w r (d + 1) rest hij hd'
  refine ⟨S1 ++ [(j, .leaf a .nil)], ?_, by simp [h2, Fo.syms], ?_, e, S', by simpa using h4, ?_⟩
  ·show (gstep m ((q, t) :: S, a :: (f.yield ++ w))).bind (gsteps m f.size) = _
   have : gstep m ((q, t) :: S, a :: (f.yield ++ w)) = some ((j, Fo.leaf a .nil) :: (q, t) :: S, f.yield ++ w) := by
    simp only [gstep, ok.shift q r d a hi ha hg.1, hj, Option.map_some]
   rw [this]
   show gsteps m f.size _ = _
   rw [h1]; simp
  ·rw [joinR_append, h3]; rfl
  ·have : d + 1 + (f.syms g).length = d + ((Fo.leaf a f).syms g).length := by simp [Fo.syms]; exact lne (fun q => lnq [_,_] [aL (tA (tA Z0 (tQ Z1)) (tN 1)) (tA (tQ Z0) Z1)] rfl q) fun q => lnq [_,_] [aL (tA (tA (tQ Z0) Z1) (tN 1)) (tA Z0 (tQ Z1))] rfl q
   rw [← this]; exact h5
 | .node r' k f, hg, q, t, S, w, r, d, rest, hi, hd => by
  obtain ⟨hr, hr0, hk, hgk, hgf⟩ := hg
  have ha : (g.right r)[d]? = some (g.left r') := by
   have := congrArg (fun l : List Nat => l[0]?) hd
   simpa [Fo.syms] using this
  have hd' : (g.right r).drop (d + 1) = f.syms g ++ rest := by
   have := congrArg List.tail hd
   simpa [Fo.syms] using this
  have hc := ok.closed q r d _ r' hi ha hr rfl
  obtain ⟨Sk, k1, k2, k3, e, S', k4, k5⟩ := run_f k hgk q t S (f.yield ++ w) r' 0 [] hc (by simp [hk])
  rw [hk, Nat.zero_add] at k5
  have hred := ok.red1 e.1 r' hr0 k5
  obtain ⟨j, hj, hij⟩ := ok.fwd q r d _ hi ha
  obtain ⟨S1, h1, h2, h3, e2, S2, h4, h5⟩ := run_f f hgf j (.node r' k .nil) ((q, t) :: S) w r (d + 1) rest hij hd'
  have hlen : Sk.length = (g.right r').length := by rw [k2, hk]
  refine ⟨S1 ++ [(j, .node r' k .nil)], ?_, by simp [h2, Fo.syms], ?_, e2, S2, by simpa using h4, ?_⟩
  ·have hst : gstep m (Sk ++ (q, t) :: S, f.yield ++ w) = some ((j, Fo.node r' k .nil) :: (q, t) :: S, f.yield ++ w) := by
    have e1 : (Sk ++ (q, t) :: S).drop (g.right r').length = (q, t) :: S := by rw [← hlen]; simp
    have e2 : (Sk ++ (q, t) :: S).take (g.right r').length = Sk := by rw [← hlen]; simp
    rw [k4] at e1 e2 ⊢
    simp only [gstep, hred, e1, e2, hj, Option.map_some, k3]
   show gsteps m (k.size + 1 + f.size) ((q, t) :: S, k.yield ++ f.yield ++ w) = _
   rw [List.append_assoc, Nat.add_assoc, gsteps_add, k1]
   show gsteps m (1 + f.size) _ = _
   rw [Nat.add_comm 1]
   show (gstep m _).bind (gsteps m f.size) = _
   rw [hst]
   show gsteps m f.size _ = _
   rw [h1]; simp
  ·rw [joinR_append, h3]; rfl
  ·have : d + 1 + (f.syms g).length = d + ((Fo.node r' k f).syms g).length := by simp [Fo.syms]; exact lne (fun q => lnq [_,_] [aL (tA (tA Z0 (tQ Z1)) (tN 1)) (tA (tQ Z0) Z1)] rfl q) fun q => lnq [_,_] [aL (tA (tA (tQ Z0) Z1) (tN 1)) (tA Z0 (tQ Z1))] rfl q
   rw [← this]; exact h5
omit ok in
theorem gstep_len {c c' : Stk × List Nat} (h : gstep m c = some c') : c'.2.length ≤ c.2.length := by
 obtain ⟨S, w⟩ := c
 cases S with
 | nil => cases h
 | cons e S =>
  simp only [gstep] at h
  split at h
  ·split at h
   ·cases h
   ·obtain ⟨j, _, rfl⟩ := Option.map_eq_some_iff.mp h
    exact Nat.le_refl _
  ·split at h
   ·cases h
   ·obtain ⟨j, _, rfl⟩ := Option.map_eq_some_iff.mp h
    simp
omit ok in
theorem gsteps_len : ∀ (n : Nat) {c c' : Stk × List Nat}, gsteps m n c = some c' → c'.2.length ≤ c.2.length
 | 0, c, c', h => by cases h; exact Nat.le_refl _
 | n + 1, c, c', h => by
  obtain ⟨c1, h1, h2⟩ := Option.bind_eq_some_iff.mp h
  exact Nat.le_trans (gsteps_len n h2) (gstep_len h1)
variable (go : CFok g)
include go
theorem run_word {f : Fo} (hf : f.good g) (hs : f.syms g = [g.s]) : ∃ S1 e : Stk, gsteps m f.size ([(0, .nil)], f.yield ++ [0]) = some (S1 ++ [(0, .nil)], [0]) ∧ joinR S1 = f ∧ gsteps m (f.size + 1) ([(0, .nil)], f.yield ++ [0]) = some (e, []) := by
 obtain ⟨S1, h1, h2, h3, e, S', h4, h5⟩ := run_f ok f hf 0 .nil [] [0] 0 0 [0] ok.start (by rw [go.r0, hs]; rfl)
 rw [hs] at h5
 have h5 : m.items e.1 0 1 := h5
 have ha : (g.right 0)[1]? = some 0 := by rw [go.r0]; rfl
 obtain ⟨j, hj, _⟩ := ok.fwd e.1 0 1 0 h5 ha
 refine ⟨S1, (j, .leaf 0 .nil) :: e :: S', h1, h3, ?_⟩
 rw [gsteps_add, h1]
 show (gstep m _).bind (gsteps m 0) = _
 rw [h4]
 have : gstep m (e :: S', [0]) = some ((j, Fo.leaf 0 .nil) :: e :: S', []) := by
  simp only [gstep, ok.shift e.1 0 1 0 h5 ha go.tc0, hj, Option.map_some]
 rw [this]; rfl
theorem unamb {f f' : Fo} (hf : f.good g) (hs : f.syms g = [g.s]) (hf' : f'.good g) (hs' : f'.syms g = [g.s]) (hy : f.yield = f'.yield) : f = f' := by
 obtain ⟨S1, e1, a1, a2, a3⟩ := run_word ok go hf hs
 obtain ⟨S2, e2, b1, b2, b3⟩ := run_word ok go hf' hs'
 rw [hy] at a1 a3
 have key : ∀ (n k : Nat) (S : Stk) (e : Stk), gsteps m n ([(0, .nil)], f'.yield ++ [0]) = some (S, [0]) → gsteps m (k + 1) ([(0, .nil)], f'.yield ++ [0]) = some (e, []) → n ≤ k := by
  intro n k S e h1 h2
  refine Nat.le_of_not_lt fun hlt => ?_
  have : n = (k + 1) + (n - (k + 1)) := by exact lne (fun q => lnq [_,_,_] [aL (tA (tA (tQ Z0) Z1) (tN 1)) Z2,aL Z2 (tA Z1 (tQ Z0))] rfl q (sbL _ _)) fun q => lnq [_,_,_] [aE (tA Z0 (tQ Z1)) Z2,aL (tQ Z2) (tA (tQ Z1) Z0)] rfl (sbC fun q => lnq [_,_] [aL (tQ Z0) (tQ Z1),aL (tQ Z1) Z0] rfl q hlt) q
  rw [this, gsteps_add, h2] at h1
  have := gsteps_len _ h1
  simp at this
 have h1 := key _ _ _ _ a1 b3
 have h2 := key _ _ _ _ b1 a3
 have hsz : f.size = f'.size := by exact lne (fun q => lnq [_,_] [aL (tQ Z0) Z1,aL Z1 Z0] rfl q h1) fun q => lnq [_,_] [aL (tQ Z0) Z1,aL Z1 Z0] rfl q h2
 rw [hsz, b1] at a1
 injection a1 with a1
 have : S2 = S1 := List.append_cancel_right (congrArg Prod.fst a1)
 rw [← a2, ← b2, this]
end
section
variable {g : CF} (m : LR g)
inductive Val : Stk → Prop
 | base : Val [(0, .nil)]
 | push {q p a : Nat} {t u : Fo} {S : Stk} : Val ((p, u) :: S) → m.next p a = some q → t.good g → t.syms g = [a] → Val ((q, t) :: (p, u) :: S)
noncomputable def taken : Nat → Stk × List Nat → Bool
 | 0, _ => false
 | n + 1, (S, w) => match w with
  | [] => true
  | _ :: _ => match gstep m (S, w) with
   | none => false
   | some c => taken n c
variable {m} (ok : LRok m)
include ok
theorem pop : ∀ (d q : Nat) (t : Fo) (S : Stk) (r : Nat), Val m ((q, t) :: S) → m.items q r d → ∃ e S', ((q, t) :: S).drop d = e :: S' ∧ m.items e.1 r 0 ∧ Val m (e :: S') ∧ (joinR (((q, t) :: S).take d)).good g ∧ (joinR (((q, t) :: S).take d)).syms g = (g.right r).take d
 | 0, q, t, S, r, v, hi => ⟨(q, t), S, rfl, hi, v, trivial, rfl⟩
 | d + 1, q, t, S, r, v, hi => by
  cases v with
  | base => exact absurd (ok.zero r (d + 1) hi) (Nat.succ_ne_zero d)
  | @push _ p a _ u S v hn hg hs =>
   obtain ⟨h1, h2⟩ := ok.back p a q r d hn hi
   obtain ⟨e, S', k1, k2, k3, k4, k5⟩ := pop d p u S r v h1
   refine ⟨e, S', by rw [List.drop_succ_cons]; exact k1, k2, k3, ?_, ?_⟩
   ·rw [List.take_succ_cons, joinR_cons, Fo.good_app]; exact ⟨k4, hg⟩
   ·rw [List.take_succ_cons, joinR_cons, Fo.syms_app, k5, hs, List.take_add_one, h2]; rfl
variable (go : CFok g)
include go
theorem sound (w : List Nat) : ∀ (n : Nat) (S : Stk) (v : List Nat), taken m n (S, v ++ [0]) = true → Val m S → (∀ a ∈ v, a < g.tc) → (joinR S).yield ++ v = w → ∃ f : Fo, f.good g ∧ f.syms g = [g.s] ∧ f.yield = w
 | 0, S, v, h, _, _, _ => by cases h
 | n + 1, S, v, h, hv, ha, hw => by
  obtain ⟨e, S', rfl⟩ : ∃ e S', S = e :: S' := by cases hv <;> exact ⟨_, _, rfl⟩
  obtain ⟨q, t⟩ := e
  obtain ⟨x, rest, hx⟩ : ∃ x rest, v ++ [0] = x :: rest := by cases v <;> exact ⟨_, _, rfl⟩
  have ht : ∃ c, gstep m ((q, t) :: S', v ++ [0]) = some c ∧ taken m n c = true := by
   rw [hx] at h ⊢
   simp only [taken] at h
   split at h
   ·cases h
   ·rename_i c hc; exact ⟨c, hc, h⟩
  obtain ⟨c, hc, htk⟩ := ht
  cases hr : m.red q with
  | some r =>
   obtain ⟨r0, hi⟩ := ok.red2 q r hr
   obtain ⟨e, S2, k1, k2, k3, k4, k5⟩ := pop ok _ q t S' r hv hi
   obtain ⟨p, u⟩ := e
   simp only [gstep, hr, k1] at hc
   obtain ⟨j, hj, rfl⟩ := Option.map_eq_some_iff.mp hc
   rw [List.take_length] at k5
   refine sound w n _ v htk (.push (a := g.left r) k3 hj ?_ rfl) ha ?_
   ·exact ⟨ok.rng _ _ _ hi, r0, k5, k4, trivial⟩
   ·rw [← hw, joinR_cons, Fo.yield_app]
    have : ((q, t) :: S') = ((q, t) :: S').take (g.right r).length ++ (p, u) :: S2 := by rw [← k1, List.take_append_drop]
    conv => rhs; rw [this, joinR_append, Fo.yield_app]
    simp [Fo.yield]
  | none =>
   cases v with
   | cons a v =>
    simp only [gstep, hr, List.cons_append] at hc
    obtain ⟨j, hj, rfl⟩ := Option.map_eq_some_iff.mp hc
    refine sound w n _ v htk (.push (a := a) hv hj ⟨ha a (List.mem_cons_self ..), trivial⟩ rfl) (fun b hb => ha b (List.mem_cons_of_mem _ hb)) ?_
    rw [← hw, joinR_cons, Fo.yield_app]
    simp [Fo.yield]
   | nil =>
    simp only [gstep, hr, List.nil_append] at hc
    obtain ⟨j, hj, rfl⟩ := Option.map_eq_some_iff.mp hc
    rw [List.append_nil] at hw
    obtain ⟨r, d, h1, h2⟩ := ok.some_ q 0 j hj
    have hrr : r = 0 := by
     refine Classical.byContradiction fun hne => go.fin r (ok.rng _ _ _ h1) hne (List.mem_of_getElem? h2)
    subst hrr
    have hd : d = 1 := by
     rw [go.r0] at h2
     match d, h2 with
     | 0, h2 => simp at h2; have := go.s0; have := go.tc0; omega
     | 1, _ => rfl
     | d + 2, h2 => simp at h2
    subst hd
    obtain ⟨e, S2, k1, k2, k3, k4, k5⟩ := pop ok 1 q t S' 0 hv h1
    rw [go.r0] at k5
    refine ⟨joinR (((q, t) :: S').take 1), k4, k5, ?_⟩
    have hb : e :: S2 = [(0, .nil)] := by
     cases k3 with
     | base => rfl
     | push _ hn _ _ => exact absurd k2 (ok.first _ _ _ hn)
    rw [← hw]
    have : ((q, t) :: S') = ((q, t) :: S').take 1 ++ [(0, Fo.nil)] := by rw [← hb, ← k1, List.take_append_drop]
    conv => rhs; rw [this, joinR_append, Fo.yield_app]
    rfl
omit ok go in
theorem taken_steps : ∀ (k n : Nat) (c c' : Stk × List Nat), gsteps m k c = some c' → c'.2 ≠ [] → taken m (k + n) c = taken m n c'
 | 0, n, c, c', h, _ => by cases h; rw [Nat.zero_add]
 | k + 1, n, c, c', h, hne => by
  obtain ⟨c1, h1, h2⟩ := Option.bind_eq_some_iff.mp h
  have hl := Nat.le_trans (gsteps_len k h2) (gstep_len h1)
  obtain ⟨S, w⟩ := c
  cases w with
  | nil =>
   have : c'.2.length = 0 := Nat.le_zero.mp hl
   exact absurd (List.eq_nil_of_length_eq_zero this) hne
  | cons a w =>
   rw [Nat.succ_add]
   show (match gstep m (S, a :: w) with | none => false | some c => taken m (k + n) c) = _
   rw [h1]
   exact taken_steps k n c1 c' h2 hne
theorem taken_iff {w : List Nat} (hw : ∀ a ∈ w, a < g.tc) {N : Nat} (hN : ∀ f : Fo, f.good g → f.syms g = [g.s] → f.yield = w → f.size + 1 < N) :
  taken m N ([(0, .nil)], w ++ [0]) = true ↔ ∃ f : Fo, f.good g ∧ f.syms g = [g.s] ∧ f.yield = w := by
 constructor
 ·intro h
  exact sound ok go w N _ w h .base hw rfl
 ·rintro ⟨f, h1, h2, h3⟩
  obtain ⟨S1, e, a1, a2, a3⟩ := run_word ok go h1 h2
  rw [h3] at a1 a3
  have hsz := hN f h1 h2 h3
  obtain ⟨k, rfl⟩ : ∃ k, N = f.size + (k + 2) := ⟨N - f.size - 2, by exact lne (fun q => lnq [_,_,_,_] [aL (tA (tA Z0 (tA Z1 (tN 2))) (tN 1)) Z2,aL Z3 (tA Z1 (tN 2)),aL Z2 (tA Z3 Z0)] rfl q (sbL _ _) (sbL _ _)) fun q => lnq [_,_,_,_] [aE (tA Z0 (tN 2)) Z1,aE (tA Z1 Z2) Z3,aL (tQ Z3) (tA Z2 (tA Z0 (tN 2)))] rfl (sbC fun q => lnq [_,_,_] [aL (tQ Z0) (tN 2),aG (tA Z0 Z1) Z2,aL (tA (tQ Z1) (tN 1)) Z2] rfl q (sbC fun q => lnq [_,_] [aL (tQ Z0) Z1,aL (tA (tQ Z1) (tN 1)) Z0] rfl q hsz) hsz) (sbC fun q => lnq [_,_] [aL (tQ Z0) Z1,aL (tA (tQ Z1) (tN 1)) Z0] rfl q hsz) q⟩
  rw [taken_steps f.size (k + 2) _ _ a1 (by simp)]
  rw [gsteps_add, a1] at a3
  have a4 : gstep m (S1 ++ [(0, .nil)], [0]) = some (e, []) := by
   have : (gstep m (S1 ++ [(0, .nil)], [0])).bind (gsteps m 0) = some (e, []) := a3
   obtain ⟨c, h1, h2⟩ := Option.bind_eq_some_iff.mp this
   cases h2; exact h1
  show (match gstep m (S1 ++ [(0, .nil)], [0]) with | none => false | some c => taken m (k + 1) c) = true
  rw [a4]; rfl
end

namespace Fo
noncomputable def nodes : Fo → Nat
 | nil => 0
 | leaf _ f => nodes f
 | node _ k f => nodes k + 1 + nodes f
theorem size_eq : ∀ f : Fo, f.size = f.nodes + f.yield.length
 | nil => rfl
 | leaf a f => by simp only [size, nodes, yield, List.length_cons, size_eq f]; exact lne (fun q => lnq [_,_] [aL (tA (tA Z0 (tQ Z1)) (tN 1)) (tQ (tA Z0 Z1))] rfl q) fun q => lnq [_,_] [aL (tA (tQ (tA Z0 Z1)) (tN 1)) (tA Z0 (tQ Z1))] rfl q
 | node r k f => by simp only [size, nodes, yield, List.length_append, size_eq k, size_eq f]; exact lne (fun q => lnq [_,_,_,_] [aL (tA (tA (tA (tQ Z0) Z1) (tA Z2 Z3)) (tN 1)) (tA (tQ (tA Z0 Z2)) (tA Z1 Z3))] rfl q) fun q => lnq [_,_,_,_] [aL (tA (tA (tQ (tA Z0 Z1)) (tA Z2 Z3)) (tN 1)) (tA (tA (tQ Z0) Z2) (tA Z1 Z3))] rfl q
theorem nodes_app : ∀ f h : Fo, (app f h).nodes = f.nodes + h.nodes
 | nil, h => by simp [app, nodes]
 | leaf a f, h => by simp only [app, nodes, nodes_app f]
 | node r k f, h => by simp only [app, nodes, nodes_app f]; exact lne (fun q => lnq [_,_,_] [aL (tA (tA (tA (tQ Z0) Z1) Z2) (tN 1)) (tA (tQ Z0) (tA Z1 Z2))] rfl q) fun q => lnq [_,_,_] [aL (tA (tA (tQ Z0) (tA Z1 Z2)) (tN 1)) (tA (tA (tQ Z0) Z1) Z2)] rfl q
theorem app_cancel : ∀ (t : Fo) {f h : Fo}, app t f = app t h → f = h
 | nil, _, _, e => e
 | leaf a t, _, _, e => by injection e with _ e; exact app_cancel t e
 | node r k t, _, _, e => by injection e with _ _ e; exact app_cancel t e
theorem app_cancel_right (g : CF) : ∀ (t t' : Fo) {f f' : Fo}, (syms g t).length = (syms g t').length → app t f = app t' f' → t = t'
 | nil, nil, _, _, _, _ => rfl
 | nil, leaf _ _, _, _, h, _ => by simp [syms] at h
 | nil, node _ _ _, _, _, h, _ => by simp [syms] at h
 | leaf _ _, nil, _, _, h, _ => by simp [syms] at h
 | node _ _ _, nil, _, _, h, _ => by simp [syms] at h
 | leaf a t, leaf b t', _, _, h, e => by
  injection e with e1 e2
  rw [e1, app_cancel_right g t t' (by simpa [syms] using h) e2]
 | node r k t, node r' k' t', _, _, h, e => by
  injection e with e1 e2 e3
  rw [e1, e2, app_cancel_right g t t' (by simpa [syms] using h) e3]
 | leaf _ _, node _ _ _, _, _, _, e => by cases e
 | node _ _ _, leaf _ _, _, _, _, e => by cases e
theorem split (g : CF) : ∀ (f : Fo) (a b : List Nat), syms g f = a ++ b → ∃ f1 f2, f = app f1 f2 ∧ syms g f1 = a ∧ syms g f2 = b
 | f, [], b, h => ⟨nil, f, rfl, rfl, h⟩
 | nil, x :: a, b, h => by simp [syms] at h
 | leaf c f, x :: a, b, h => by
  simp only [syms, List.cons_append, List.cons.injEq] at h
  obtain ⟨f1, f2, e, h1, h2⟩ := split g f a b h.2
  exact ⟨leaf c f1, f2, by rw [e]; rfl, by rw [syms, h1, h.1], h2⟩
 | node r k f, x :: a, b, h => by
  simp only [syms, List.cons_append, List.cons.injEq] at h
  obtain ⟨f1, f2, e, h1, h2⟩ := split g f a b h.2
  exact ⟨node r k f1, f2, by rw [e]; rfl, by rw [syms, h1, h.1], h2⟩
end Fo
inductive In : Nat → Fo → Fo → Prop
 | here {r : Nat} {k f : Fo} : In r k (.node r k f)
 | kid {r r' : Nat} {k k' f : Fo} : In r k k' → In r k (.node r' k' f)
 | rest {r r' : Nat} {k k' f : Fo} : In r k f → In r k (.node r' k' f)
 | leaf {r a : Nat} {k f : Fo} : In r k f → In r k (.leaf a f)
theorem In.nodes_lt {r : Nat} {k f : Fo} (h : In r k f) : k.nodes + 1 ≤ f.nodes := by
 induction h with
 | here => simp only [Fo.nodes]; exact lnl fun q => lnq [_,_] [aL (tA (tA (tQ Z0) Z1) (tN 1)) (tQ Z0)] rfl q
 | kid _ ih => simp only [Fo.nodes]; exact lnl fun q => lnq [_,_,_] [aL (tA (tA (tQ Z0) Z1) (tN 1)) (tQ Z2),aL (tQ Z2) Z0] rfl q ih
 | rest _ ih => simp only [Fo.nodes]; exact lnl fun q => lnq [_,_,_] [aL (tA (tA (tQ Z0) Z1) (tN 1)) (tQ Z2),aL (tQ Z2) Z1] rfl q ih
 | leaf _ ih => simpa only [Fo.nodes] using ih
theorem In.yield {r : Nat} {k f : Fo} (h : In r k f) : ∃ a b, f.yield = a ++ k.yield ++ b := by
 induction h with
 | @here k f => exact ⟨[], f.yield, by simp [Fo.yield]⟩
 | @kid r' k k' f _ ih =>
  obtain ⟨a, b, e⟩ := ih
  exact ⟨a, b ++ f.yield, by simp [Fo.yield, e]⟩
 | @rest r' k k' f _ ih =>
  obtain ⟨a, b, e⟩ := ih
  exact ⟨k'.yield ++ a, b, by simp [Fo.yield, e]⟩
 | @leaf c k f _ ih =>
  obtain ⟨a, b, e⟩ := ih
  exact ⟨c :: a, b, by simp [Fo.yield, e]⟩
theorem In.len {r : Nat} {k f : Fo} (h : In r k f) : k.yield.length ≤ f.yield.length := by
 obtain ⟨a, b, e⟩ := h.yield
 rw [e]; simp; exact lnl fun q => lnq [_,_,_] [aL (tA (tA Z0 (tA Z1 Z2)) (tN 1)) Z1] rfl q
theorem In.same {r : Nat} {k f : Fo} (h : In r k f) (e : k.yield.length = f.yield.length) : k.yield = f.yield := by
 obtain ⟨a, b, h1⟩ := h.yield
 rw [h1] at e
 simp only [List.length_append] at e
 have ha : a = [] := List.eq_nil_of_length_eq_zero (by exact lne (fun q => lnq [_,_,_] [aL (tQ (tN 0)) Z0,aG Z1 (tA (tA Z0 Z1) Z2)] rfl q e) fun q => lnq [_] [aL (tQ Z0) (tN 0)] rfl q)
 have hb : b = [] := List.eq_nil_of_length_eq_zero (by exact lne (fun q => lnq [_,_,_] [aL (tQ (tN 0)) Z0,aG Z1 (tA (tA Z2 Z1) Z0)] rfl q e) fun q => lnq [_] [aL (tQ Z0) (tN 0)] rfl q)
 rw [h1, ha, hb]; simp
theorem In.trans {r r' : Nat} {k k' f : Fo} (h : In r k k') (h2 : In r' k' f) : In r k f := by
 induction h2 with
 | here => exact .kid h
 | kid _ ih => exact .kid (ih h)
 | rest _ ih => exact .rest (ih h)
 | leaf _ ih => exact .leaf (ih h)
section
variable (g : CF)
noncomputable def UA (α : List Nat) : Prop := ∀ f f' : Fo, f.good g → f'.good g → f.syms g = α → f'.syms g = α → f.yield = f'.yield → f = f'
variable {g}
theorem UA.tail {X : Nat} {α : List Nat} (h : UA g (X :: α)) {t : Fo} (ht : t.good g) (hs : t.syms g = [X]) : UA g α := fun f f' h1 h2 h3 h4 h5 =>
 t.app_cancel (h (t.app f) (t.app f') ((Fo.good_app g _ _).mpr ⟨ht, h1⟩) ((Fo.good_app g _ _).mpr ⟨ht, h2⟩) (by rw [Fo.syms_app, hs, h3]; rfl) (by rw [Fo.syms_app, hs, h4]; rfl) (by rw [Fo.yield_app, Fo.yield_app, h5]))
theorem UA.head {X : Nat} {α : List Nat} (h : UA g (X :: α)) {f : Fo} (hf : f.good g) (hs : f.syms g = α) : UA g [X] := fun t t' h1 h2 h3 h4 h5 =>
 Fo.app_cancel_right g t t' (by rw [h3, h4]) (h (t.app f) (t'.app f) ((Fo.good_app g _ _).mpr ⟨h1, hf⟩) ((Fo.good_app g _ _).mpr ⟨h2, hf⟩) (by rw [Fo.syms_app, hs, h3]; rfl) (by rw [Fo.syms_app, hs, h4]; rfl) (by rw [Fo.yield_app, Fo.yield_app, h5]))
theorem UA.kids {r : Nat} (h : UA g [g.left r]) (hr : r < g.R) (h0 : r ≠ 0) : UA g (g.right r) := fun k k' h1 h2 h3 h4 h5 => by
 have := h (.node r k .nil) (.node r k' .nil) ⟨hr, h0, h3, h1, trivial⟩ ⟨hr, h0, h4, h2, trivial⟩ rfl rfl (by simp [Fo.yield, h5])
 injection this
theorem UA.node {r : Nat} {k f : Fo} (h : UA g ((Fo.node r k f).syms g)) (hg : (Fo.node r k f).good g) : UA g [g.left r] ∧ UA g (k.syms g) ∧ UA g (f.syms g) := by
 obtain ⟨h1, h2, h3, h4, h5⟩ := hg
 have a := UA.head h h5 rfl
 refine ⟨a, by rw [h3]; exact a.kids h1 h2, UA.tail h (t := .node r k .nil) ⟨h1, h2, h3, h4, trivial⟩ rfl⟩
theorem UA.leaf {a : Nat} {f : Fo} (h : UA g ((Fo.leaf a f).syms g)) (hg : (Fo.leaf a f).good g) : UA g (f.syms g) := UA.tail h (t := .leaf a .nil) ⟨hg.1, trivial⟩ rfl
theorem In.props {r : Nat} {k f : Fo} (h : In r k f) (hg : f.good g) (hu : UA g (f.syms g)) : r < g.R ∧ r ≠ 0 ∧ k.syms g = g.right r ∧ k.good g ∧ UA g [g.left r] := by
 induction h with
 | here => exact ⟨hg.1, hg.2.1, hg.2.2.1, hg.2.2.2.1, (hu.node hg).1⟩
 | kid _ ih => exact ih hg.2.2.2.1 (hu.node hg).2.1
 | rest _ ih => exact ih hg.2.2.2.2 (hu.node hg).2.2
 | leaf _ ih => exact ih hg.2 (hu.leaf hg)
theorem In.no_rep {r r' : Nat} {k k' f : Fo} (h : In r k f) (h2 : In r' k' k) (hg : f.good g) (hu : UA g (f.syms g)) (e : g.left r' = g.left r) (hy : k'.yield.length = k.yield.length) : False := by
 obtain ⟨a1, a2, a3, a4, a5⟩ := h.props hg hu
 obtain ⟨b1, b2, b3, b4, b5⟩ := (h2.trans h).props hg hu
 have := a5 (.node r k .nil) (.node r' k' .nil) ⟨a1, a2, a3, a4, trivial⟩ ⟨b1, b2, b3, b4, trivial⟩ rfl (by simp [Fo.syms, e]) (by simp [Fo.yield, h2.same hy])
 injection this with _ this
 have hn := h2.nodes_lt
 rw [this] at hn; exact lnq [_] [aL (tQ Z0) Z0] rfl hn
theorem In.repl {r : Nat} {k f t : Fo} (h : In r k f) (ht : t.good g) (hs : t.syms g = [g.left r]) (hg : f.good g) : ∃ (f' : Fo) (a b : List Nat), f'.good g ∧ f'.syms g = f.syms g ∧ f'.yield = a ++ t.yield ++ b := by
 induction h with
 | @here k f => exact ⟨t.app f, [], f.yield, (Fo.good_app g _ _).mpr ⟨ht, hg.2.2.2.2⟩, by rw [Fo.syms_app, hs]; rfl, by rw [Fo.yield_app]; simp⟩
 | @kid r' k k' f _ ih =>
  obtain ⟨f', a, b, h1, h2, h3⟩ := ih hg.2.2.2.1
  exact ⟨.node r' f' f, a, b ++ f.yield, ⟨hg.1, hg.2.1, by rw [h2]; exact hg.2.2.1, h1, hg.2.2.2.2⟩, rfl, by simp [Fo.yield, h3]⟩
 | @rest r' k k' f _ ih =>
  obtain ⟨f', a, b, h1, h2, h3⟩ := ih hg.2.2.2.2
  exact ⟨.node r' k' f', k'.yield ++ a, b, ⟨hg.1, hg.2.1, hg.2.2.1, hg.2.2.2.1, h1⟩, by simp [Fo.syms, h2], by simp [Fo.yield, h3]⟩
 | @leaf c k f _ ih =>
  obtain ⟨f', a, b, h1, h2, h3⟩ := ih hg.2
  exact ⟨.leaf c f', c :: a, b, ⟨hg.1, h1⟩, by simp [Fo.syms, h2], by simp [Fo.yield, h3]⟩
variable (g)
noncomputable def cN (X : Nat) : Fo → Nat
 | .nil => 0
 | .leaf _ f => cN X f
 | .node r k f => (if g.left r = X ∧ k.yield ≠ [] then 1 else 0) + cN X k + cN X f
noncomputable def cE (X : Nat) : Fo → Nat
 | .nil => 0
 | .leaf _ f => cE X f
 | .node r k f => (if g.left r = X ∧ k.yield = [] then 1 else 0) + cE X k + cE X f
variable {g}
theorem len_pos {l : List Nat} (h : l ≠ []) : 1 ≤ l.length := by
 cases l with
 | nil => exact absurd rfl h
 | cons => simp
theorem cN_le (X : Nat) : ∀ f : Fo, f.good g → UA g (f.syms g) → cN g X f ≤ 2 * f.yield.length - 1 ∧ ((∀ r k, In r k f → g.left r = X → k.yield.length ≠ f.yield.length) → 1 ≤ f.yield.length → cN g X f ≤ 2 * f.yield.length - 2)
 | .nil, _, _ => ⟨by simp [cN], fun _ h => by simp [Fo.yield] at h⟩
 | .leaf a f, hg, hu => by
  have := (cN_le X f hg.2 (hu.leaf hg)).1
  simp only [cN, Fo.yield, List.length_cons]
  exact ⟨by exact lnl fun q => lnq [_,_,_,_] [aL (tQ Z0) Z1,aL (tM 2 (tQ Z2)) (tQ Z0),aL Z1 Z3,aL Z3 (tM 2 Z2)] rfl q (sbL _ _) this (Nat.sub_le _ _), fun _ _ => by exact lnl fun q => lnq [_,_,_,_] [aL (tQ Z0) Z1,aL (tM 2 (tQ Z2)) (tA Z0 (tN 2)),aL Z1 Z3,aL Z3 (tM 2 Z2)] rfl q (sbL _ _) this (Nat.sub_le _ _)⟩
 | .node r k f, hg, hu => by
  obtain ⟨u1, u2, u3⟩ := hu.node hg
  obtain ⟨k1, k2⟩ := cN_le X k hg.2.2.2.1 u2
  obtain ⟨f1, f2⟩ := cN_le X f hg.2.2.2.2 u3
  have hT : (if g.left r = X ∧ k.yield ≠ [] then 1 else 0) + cN g X k ≤ 2 * k.yield.length - 1 := by
   split
   ·rename_i h
    have hp := len_pos h.2
    have := k2 (fun r' k' hin he hl => In.no_rep (f := .node r k f) .here hin hg hu (by rw [he, h.1]) hl) hp
    exact lnl fun q => lnq [_,_,_,_] [aE (tA Z0 (tN 2)) (tM 2 Z1),aG (tQ Z2) (tM 2 Z1),aL (tQ Z2) (tA (tN 1) Z3),aL Z3 Z0] rfl (sbC fun q => lnq [_] [aL (tQ (tM 2 Z0)) (tN 2),fL 2 (tN 1) Z0] rfl q hp) (sbC fun q => lnq [_] [aL (tQ (tM 2 Z0)) (tN 1),fL 2 (tN 1) Z0] rfl q hp) q this
   ·exact lnl fun q => lnq [_,_] [aL (tQ Z0) (tA (tN 0) Z1),aL Z1 Z0] rfl q k1
  simp only [cN, Fo.yield, List.length_append]
  refine ⟨by omega, fun hno hp => ?_⟩
  have hroot : f.yield.length = 0 → ¬ (g.left r = X ∧ k.yield ≠ []) := fun h0 h => hno r k .here h.1 (by exact lne (fun q => lnq [_,_] [aL (tQ (tA Z0 Z1)) Z0] rfl q) fun q => lnq [_,_] [aL (tQ Z0) (tA Z0 Z1),aE Z1 (tN 0)] rfl q h0)
  rcases Nat.eq_zero_or_pos f.yield.length with h0 | h0
  ·have := k2 (fun r' k' hin he hl => hno r' k' (.kid hin) he (by exact lne (fun q => lnq [_,_,_] [aL (tQ (tA Z0 Z1)) Z2,aE Z2 Z0] rfl q hl) fun q => lnq [_,_,_] [aL (tQ Z0) (tA Z1 Z2),aG Z0 Z1,aE Z2 (tN 0)] rfl q hl h0)) (by exact lnl fun q => lnq [_,_] [aL (tQ Z0) (tN 1),aE Z1 (tN 0),aL (tN 1) (tA Z0 Z1)] rfl q h0 hp)
   rw [if_neg (hroot h0)]
   exact lnl fun q => lnq [_,_,_,_,_,_,_] [aG (tA Z0 (tN 2)) (tM 2 (tA Z1 Z2)),aE (tA Z3 (tN 2)) (tM 2 Z1),aE Z4 (tN 0),aL (tQ Z0) (tA (tA (tN 0) Z5) Z6),aL Z5 Z3,aL Z6 Z4] rfl (sbC fun q => lnq [_,_,_] [aL (tA (tM 2 (tA Z0 Z1)) (tN 1)) (tN 2),aE (tA Z2 (tN 2)) (tM 2 Z0)] rfl q (sbC fun q => lnq [_,_] [aL (tQ (tM 2 Z0)) (tN 2),fE 2 Z1 (tN 0),fL 2 (tN 1) (tA Z0 Z1)] rfl q h0 hp)) (sbC fun q => lnq [_,_] [aL (tQ (tM 2 Z0)) (tN 2),fE 2 Z1 (tN 0),fL 2 (tN 1) (tA Z0 Z1)] rfl q h0 hp) (sbZ fun q => lnq [_] [aL (tQ (tN 1)) (tM 2 Z0),fE 2 Z0 (tN 0)] rfl q h0) q this f1
  ·rcases Nat.eq_zero_or_pos k.yield.length with h1 | h1
   ·have := f2 (fun r' k' hin he hl => hno r' k' (.rest hin) he (by exact lne (fun q => lnq [_,_,_] [aL (tQ (tA Z0 Z1)) Z2,aE Z2 Z1] rfl q hl) fun q => lnq [_,_,_] [aL (tQ Z0) (tA Z1 Z2),aG Z0 Z2,aE Z1 (tN 0)] rfl q hl h1)) (by exact lnl fun q => lnq [_] [aL (tQ Z0) (tN 1),aL (tQ (tN 0)) Z0] rfl q h0)
    exact lnl fun q => lnq [_,_,_,_,_,_,_,_] [aG (tA Z0 (tN 2)) (tM 2 (tA Z1 Z2)),aE (tA Z3 (tN 2)) (tM 2 Z2),aL (tQ Z0) (tA (tA Z4 Z5) Z6),aL Z6 Z3,aL (tA Z4 Z5) Z7,aL Z7 (tM 2 Z1)] rfl (sbC fun q => lnq [_,_,_] [aL (tA (tM 2 (tA Z0 Z1)) (tN 1)) (tN 2),aE (tA Z2 (tN 2)) (tM 2 Z1)] rfl q (sbC fun q => lnq [_] [aL (tQ (tM 2 Z0)) (tN 2),fL 2 (tQ (tN 0)) Z0] rfl q h0)) (sbC fun q => lnq [_] [aL (tQ (tM 2 Z0)) (tN 2),fL 2 (tQ (tN 0)) Z0] rfl q h0) q this hT (Nat.sub_le _ _)
   ·exact lnl fun q => lnq [_,_,_,_,_,_,_,_] [aG (tA Z0 (tN 2)) (tM 2 (tA Z1 Z2)),aE (tQ Z3) (tM 2 Z2),aE (tQ Z4) (tM 2 Z1),aL (tQ Z0) (tA (tA Z5 Z6) Z7),aL (tA Z5 Z6) Z4,aL Z7 Z3] rfl (sbC fun q => lnq [_,_] [aL (tA (tM 2 (tA Z0 Z1)) (tN 1)) (tN 2),fL 2 (tQ (tN 0)) Z0,fL 2 (tQ (tN 0)) Z1] rfl q h1 h0) (sbC fun q => lnq [_] [aL (tQ (tM 2 Z0)) (tN 1),fL 2 (tQ (tN 0)) Z0] rfl q h0) (sbC fun q => lnq [_] [aL (tQ (tM 2 Z0)) (tN 1),fL 2 (tQ (tN 0)) Z0] rfl q h1) q hT f1
theorem cE_zero {X : Nat} : ∀ f : Fo, (∀ r k, In r k f → g.left r = X → k.yield ≠ []) → cE g X f = 0
 | .nil, _ => rfl
 | .leaf a f, h => cE_zero f fun r k hin => h r k (.leaf hin)
 | .node r k f, h => by
  simp only [cE]
  rw [if_neg fun q => h r k .here q.1 q.2, cE_zero k fun r k hin => h r k (.kid hin), cE_zero f fun r k hin => h r k (.rest hin)]
theorem cE_pos {X : Nat} : ∀ f : Fo, cE g X f ≠ 0 → ∃ r k, In r k f ∧ g.left r = X ∧ k.yield = [] := fun f h => by
 refine Classical.byContradiction fun hn => h (cE_zero f fun r k hin he hy => hn ⟨r, k, hin, he, hy⟩)
theorem nodup_len : ∀ (n : Nat) {l : List Nat}, l.Nodup → (∀ x ∈ l, x < n) → l.length ≤ n
 | 0, l, _, h => by
  cases l with
  | nil => exact Nat.le_refl _
  | cons a l => exact absurd (h a (List.mem_cons_self ..)) (Nat.not_lt_zero _)
 | n + 1, l, nd, h => by
  have := nodup_len n (l := l.erase n) (nd.erase n) fun x hx => by
   rw [nd.mem_erase_iff] at hx
   have := h x hx.2; have := hx.1; exact lnt fun q => (Nat.lt_or_gt_of_ne hx.1).elim (fun q0 => lnq [_,_] [aL (tQ Z0) Z1,aL Z1 Z0] rfl q0 q) fun q0 => lnq [_,_] [aL (tQ Z0) Z1,aL (tQ Z1) (tQ Z0)] rfl q0 (by assumption)
  rw [List.length_erase] at this
  split at this <;> (first | exact lnl fun q => lnq [_,_] [aL (tA (tQ Z0) (tN 1)) Z1,aL Z1 Z0] rfl q this | exact lnl fun q => lnq [_,_,_] [aL (tA (tQ Z0) (tN 1)) Z1,aL Z2 Z0,aL Z1 (tQ Z2)] rfl q this (sbL _ _))
theorem gaps {X : Nat} (hX : g.tc ≤ X) {tu : Fo} (ht : tu.good g) (hs : tu.syms g = [X]) (hu : tu.yield ≠ []) : ∀ f : Fo, f.good g → UA g (f.syms g) →
  ∃ P : List Nat, P.Nodup ∧ P.length = cE g X f ∧ ∀ i ∈ P, i ≤ f.yield.length ∧ ∃ f' : Fo, f'.good g ∧ f'.syms g = f.syms g ∧ f'.yield = f.yield.take i ++ tu.yield ++ f.yield.drop i
 | .nil, _, _ => ⟨[], List.nodup_nil, rfl, by simp⟩
 | .leaf a f, hg, hua => by
  obtain ⟨P, p1, p2, p3⟩ := gaps hX ht hs hu f hg.2 (hua.leaf hg)
  refine ⟨P.map (· + 1), List.pairwise_map.mpr (p1.imp fun h e => h (by exact lne (fun q => lnq [_,_] [aL (tQ Z0) Z1,aE (tQ Z1) (tQ Z0)] rfl q e) fun q => lnq [_,_] [aL (tQ Z0) Z1,aG (tQ Z0) (tQ Z1)] rfl q e)), by rw [List.length_map, p2]; rfl, fun i hi => ?_⟩
  obtain ⟨j, hj, rfl⟩ := List.mem_map.mp hi
  obtain ⟨h1, f', h2, h3, h4⟩ := p3 j hj
  exact ⟨by simp only [Fo.yield, List.length_cons]; exact lnl fun q => lnq [_,_] [aL (tA (tQ Z0) (tN 1)) (tQ Z1),aL Z1 Z0] rfl q h1, .leaf a f', ⟨hg.1, h2⟩, by simp [Fo.syms, h3], by simp [Fo.yield, h4]⟩
 | .node r k f, hg, hua => by
  obtain ⟨u1, u2, u3⟩ := hua.node hg
  obtain ⟨Pf, f1, f2, f3⟩ := gaps hX ht hs hu f hg.2.2.2.2 u3
  by_cases h : g.left r = X ∧ k.yield = []
  ·have hk0 : cE g X k = 0 := cE_zero k fun r' k' hin he hy => In.no_rep (f := .node r k f) .here hin hg hua (by rw [he, h.1]) (by rw [hy, h.2])
   have hn0 : 0 ∉ Pf := fun h0 => by
    obtain ⟨_, f', a1, a2, a3⟩ := f3 0 h0
    have := hua (.node r k f') (tu.app f) ⟨hg.1, hg.2.1, hg.2.2.1, hg.2.2.2.1, a1⟩ ((Fo.good_app g _ _).mpr ⟨ht, hg.2.2.2.2⟩) (by simp [Fo.syms, a2]) (by rw [Fo.syms_app, hs]; simp [Fo.syms, h.1]) (by rw [Fo.yield_app]; simp [Fo.yield, h.2, a3])
    have e : Fo.app (.node r k .nil) f' = tu.app f := this
    have := Fo.app_cancel_right g (.node r k .nil) tu (by rw [hs]; rfl) e
    rw [← this] at hu
    exact hu (by simp [Fo.yield, h.2])
   refine ⟨0 :: Pf, List.nodup_cons.mpr ⟨hn0, f1⟩, ?_, fun i hi => ?_⟩
   ·simp only [cE]; rw [if_pos h, hk0, List.length_cons, f2]; exact lne (fun q => lnq [_] [aL (tA (tA (tA (tN 1) (tN 0)) Z0) (tN 1)) (tQ Z0)] rfl q) fun q => lnq [_] [aL (tA (tQ Z0) (tN 1)) (tA (tA (tN 1) (tN 0)) Z0)] rfl q
   ·rcases List.mem_cons.mp hi with rfl | hi
    ·exact ⟨Nat.zero_le _, tu.app f, (Fo.good_app g _ _).mpr ⟨ht, hg.2.2.2.2⟩, by rw [Fo.syms_app, hs]; simp [Fo.syms, h.1], by rw [Fo.yield_app]; simp [Fo.yield, h.2]⟩
    ·obtain ⟨a0, f', a1, a2, a3⟩ := f3 i hi
     exact ⟨by simp only [Fo.yield, List.length_append]; exact lnl fun q => lnq [_,_,_] [aL (tQ (tA Z0 Z1)) Z2,aL Z2 Z1] rfl q a0, .node r k f', ⟨hg.1, hg.2.1, hg.2.2.1, hg.2.2.2.1, a1⟩, by simp [Fo.syms, a2], by simp [Fo.yield, h.2, a3]⟩
  ·obtain ⟨Pk, k1, k2, k3⟩ := gaps hX ht hs hu k hg.2.2.2.1 u2
   refine ⟨Pk ++ Pf.map (k.yield.length + ·), ?_, ?_, fun i hi => ?_⟩
   ·rw [List.nodup_append]
    refine ⟨k1, List.pairwise_map.mpr (f1.imp fun h e => h (by exact lne (fun q => lnq [_,_,_] [aL (tQ Z0) Z1,aE (tA Z2 Z1) (tA Z2 Z0)] rfl q e) fun q => lnq [_,_,_] [aL (tQ Z0) Z1,aG (tA Z2 Z0) (tA Z2 Z1)] rfl q e)), fun i hi j hj e => ?_⟩
    obtain ⟨j', hj', rfl⟩ := List.mem_map.mp hj
    obtain ⟨b0, k', b1, b2, b3⟩ := k3 i hi
    obtain ⟨a0, f', a1, a2, a3⟩ := f3 j' hj'
    have ei : i = k.yield.length := by exact lne (fun q => lnq [_,_] [aL (tQ Z0) Z1,aL Z1 Z0] rfl q b0) fun q => lnq [_,_,_] [aL (tQ Z0) Z1,aG Z0 (tA Z1 Z2)] rfl q e
    have ej : j' = 0 := by exact lne (fun q => lnq [_,_,_] [aL (tQ (tN 0)) Z0,aE Z1 Z2,aG Z1 (tA Z2 Z0)] rfl q ei e) fun q => lnq [_] [aL (tQ Z0) (tN 0)] rfl q
    subst ej
    rw [ei] at b3
    have := hua (.node r k' f) (.node r k f') ⟨hg.1, hg.2.1, by rw [b2]; exact hg.2.2.1, b1, hg.2.2.2.2⟩ ⟨hg.1, hg.2.1, hg.2.2.1, hg.2.2.2.1, a1⟩ rfl (by simp [Fo.syms, a2]) (by simp [Fo.yield, a3, b3])
    injection this with _ this
    rw [this] at b3
    simp at b3
    exact hu b3
   ·rw [List.length_append, List.length_map, k2, f2]
    simp only [cE]; rw [if_neg h]; exact lne (fun q => lnq [_,_] [aL (tA (tA (tA (tN 0) Z0) Z1) (tN 1)) (tA Z0 Z1)] rfl q) fun q => lnq [_,_] [aL (tQ (tA Z0 Z1)) (tA (tA (tN 0) Z0) Z1)] rfl q
   ·rcases List.mem_append.mp hi with hi | hi
    ·obtain ⟨b0, k', b1, b2, b3⟩ := k3 i hi
     refine ⟨by simp only [Fo.yield, List.length_append]; exact lnl fun q => lnq [_,_,_] [aL (tQ (tA Z0 Z1)) Z2,aL Z2 Z0] rfl q b0, .node r k' f, ⟨hg.1, hg.2.1, by rw [b2]; exact hg.2.2.1, b1, hg.2.2.2.2⟩, rfl, ?_⟩
     simp only [Fo.yield, b3]
     rw [List.take_append_of_le_length b0, List.drop_append_of_le_length b0]
     simp
    ·obtain ⟨j, hj, rfl⟩ := List.mem_map.mp hi
     obtain ⟨a0, f', a1, a2, a3⟩ := f3 j hj
     refine ⟨by simp only [Fo.yield, List.length_append]; exact lnl fun q => lnq [_,_,_] [aL (tQ (tA Z0 Z1)) (tA Z0 Z2),aL Z2 Z1] rfl q a0, .node r k f', ⟨hg.1, hg.2.1, hg.2.2.1, hg.2.2.2.1, a1⟩, by simp [Fo.syms, a2], ?_⟩
     simp only [Fo.yield, a3]
     rw [List.take_append, List.drop_append, List.take_of_length_le (Nat.le_add_right ..), List.drop_of_length_le (Nat.le_add_right ..)]
     simp
theorem cE_le {X : Nat} (hX : g.tc ≤ X) {tu : Fo} (ht : tu.good g) (hs : tu.syms g = [X]) (hu : tu.yield ≠ []) {f : Fo} (hg : f.good g) (hua : UA g (f.syms g)) : cE g X f ≤ f.yield.length + 1 := by
 obtain ⟨P, p1, p2, p3⟩ := gaps hX ht hs hu f hg hua
 rw [← p2]
 exact nodup_len _ p1 fun i hi => by have := (p3 i hi).1; exact lnt fun q => lnq [_,_] [aL (tQ Z0) Z1,aL Z1 Z0] rfl q this
end

structure Shape (g : CF) (NT : List Nat) : Prop where
 len : NT.length ≤ 3
 tc : ∀ X ∈ NT, g.tc ≤ X
 left : ∀ r, r < g.R → r ≠ 0 → g.left r ∈ NT
 sym : ∀ r, r < g.R → r ≠ 0 → ∀ x ∈ g.right r, x ∈ NT ∨ x < g.tc
 l3 : ∀ r, r < g.R → r ≠ 0 → (g.right r).length ≤ 3
 one : ∀ r r', r < g.R → r ≠ 0 → r' < g.R → r' ≠ 0 → g.left r = g.left r' → (g.right r).length = 3 → (g.right r').length = 3 → r = r'
noncomputable def sM : Nat → Nat
 | 0 => 0
 | n + 1 => 1 + 3 * sM n
section
variable {g : CF} {NT : List Nat} (sh : Shape g NT)
include sh
theorem eps_nodes : ∀ (n : Nat) (A : List Nat), A.length = n → ∀ f : Fo, f.good g → UA g (f.syms g) → f.yield = [] → (∀ r k, In r k f → g.left r ∈ A) → f.nodes ≤ (f.syms g).length * sM n
 | _, _, _, .nil, _, _, _, _ => Nat.zero_le _
 | _, _, _, .leaf _ _, _, _, hy, _ => by simp [Fo.yield] at hy
 | 0, A, hA, .node r k f, _, _, _, hin => by
  have := hin r k .here
  rw [List.eq_nil_of_length_eq_zero hA] at this; cases this
 | n + 1, A, hA, .node r k f, hg, hu, hy, hin => by
  obtain ⟨u1, u2, u3⟩ := hu.node hg
  have hyk : k.yield = [] ∧ f.yield = [] := by simpa [Fo.yield] using hy
  have h1 := eps_nodes (n + 1) A hA f hg.2.2.2.2 u3 hyk.2 fun r k h => hin r k (.rest h)
  have h2 := eps_nodes n (A.erase (g.left r)) (by rw [List.length_erase_of_mem (hin r k .here), hA]; rfl) k hg.2.2.2.1 u2 hyk.1 fun r' k' h => by
   have hne : g.left r' ≠ g.left r := fun e => by
    have hyk' : k'.yield = [] := by
     have := h.len
     rw [hyk.1] at this
     exact List.eq_nil_of_length_eq_zero (Nat.le_zero.mp this)
    exact In.no_rep (f := .node r k f) .here h hg hu e (by rw [hyk', hyk.1])
   exact (List.mem_erase_of_ne hne).mpr (hin r' k' (.kid h))
  have h3 := sh.l3 r hg.1 hg.2.1
  rw [← hg.2.2.1] at h3
  have h4 : (k.syms g).length * sM n ≤ 3 * sM n := Nat.mul_le_mul_right _ h3
  simp only [Fo.nodes, Fo.syms, List.length_cons, Nat.add_mul, Nat.one_mul]
  show k.nodes + 1 + f.nodes ≤ (f.syms g).length * sM (n + 1) + (1 + 3 * sM n)
  exact lnl fun q => lnq [_,_,_,_,_] [aL (tA (tA Z0 (tA (tN 1) (tM 3 Z1))) (tN 1)) (tA (tQ Z2) Z3),aL Z4 (tM 3 Z1),aL Z2 Z4,aL Z3 Z0] rfl q h4 h2 h1
omit sh in
noncomputable def Zp (g : CF) (X : Nat) : Prop := ∀ t : Fo, t.good g → t.syms g = [X] → t.yield = []
omit sh in
noncomputable def zb (g : CF) (X : Nat) : Bool := @decide (Zp g X) (Classical.propDecidable _)
omit sh in
theorem zb_iff {X : Nat} : zb g X = true ↔ Zp g X := @decide_eq_true_iff _ (Classical.propDecidable _)
omit sh in
theorem zb_not {X : Nat} (h : zb g X = false) : ∃ t : Fo, t.good g ∧ t.syms g = [X] ∧ t.yield ≠ [] := by
 refine Classical.byContradiction fun hn => ?_
 have : zb g X = true := zb_iff.mpr fun t h1 h2 => Classical.byContradiction fun h3 => hn ⟨t, h1, h2, h3⟩
 rw [h] at this; cases this
omit sh in
noncomputable def zc (g : CF) (α : List Nat) : Nat := α.countP (zb g)
omit sh in
theorem zc_cons (a : Nat) (α : List Nat) : zc g (a :: α) = zc g α + if zb g a = true then 1 else 0 := List.countP_cons
omit sh in
theorem allZ : ∀ f : Fo, f.good g → (∀ x ∈ f.syms g, zb g x = true) → f.yield = []
 | .nil, _, _ => rfl
 | .leaf a f, hg, h => by
  have := zb_iff.mp (h a (List.mem_cons_self ..)) (.leaf a .nil) ⟨hg.1, trivial⟩ rfl
  simp [Fo.yield] at this
 | .node r k f, hg, h => by
  have h1 := zb_iff.mp (h (g.left r) (List.mem_cons_self ..)) (.node r k .nil) ⟨hg.1, hg.2.1, hg.2.2.1, hg.2.2.2.1, trivial⟩ rfl
  have h2 := allZ f hg.2.2.2.2 fun x hx => h x (List.mem_cons_of_mem _ hx)
  simp [Fo.yield] at h1 ⊢
  exact ⟨h1, h2⟩
omit sh in
theorem zc_lt {k : Fo} (hg : k.good g) (hy : k.yield ≠ []) : zc g (k.syms g) < (k.syms g).length := by
 refine Nat.lt_of_le_of_ne List.countP_le_length fun e => hy (allZ k hg fun x hx => ?_)
 exact List.countP_eq_length.mp e x hx
omit sh in
theorem zc_le (α : List Nat) : zc g α ≤ α.length := List.countP_le_length
theorem z_nodes {r : Nat} {k : Fo} (hg : (Fo.node r k .nil).good g) (hu : UA g [g.left r]) (hz : zb g (g.left r) = true) : k.nodes + 1 ≤ sM (NT.filter (zb g)).length := by
 have hy : (Fo.node r k .nil).yield = [] := zb_iff.mp hz _ hg rfl
 have := eps_nodes sh _ (NT.filter (zb g)) rfl (.node r k .nil) hg hu hy fun r' k' hin => by
  obtain ⟨h1, h2, h3, h4, h5⟩ := hin.props hg hu
  refine List.mem_filter.mpr ⟨sh.left r' h1 h2, ?_⟩
  cases hzb : zb g (g.left r') with
  | true => rfl
  | false =>
   obtain ⟨t, t1, t2, t3⟩ := zb_not hzb
   obtain ⟨f', a, b, f1, f2, f3⟩ := hin.repl t1 t2 hg
   have := zb_iff.mp hz f' f1 f2
   rw [f3] at this
   simp at this
   exact absurd this.2.1 t3
 simpa [Fo.nodes, Fo.syms] using this
omit sh in
noncomputable def WX (g : CF) (M X : Nat) : Fo → Nat
 | .nil => 0
 | .leaf _ f => WX g M X f
 | .node r k f => (if g.left r = X then 1 + M * zc g (g.right r) else 0) + WX g M X k + WX g M X f
omit sh in
theorem sum_ge (Y c : Nat) (a b : Nat → Nat) : ∀ (Ys : List Nat), (Ys.map b).sum ≤ (Ys.map fun X => (if Y = X then c else 0) + a X + b X).sum ∧ (Y ∈ Ys → c + (Ys.map a).sum + (Ys.map b).sum ≤ (Ys.map fun X => (if Y = X then c else 0) + a X + b X).sum) ∧ (Ys.map a).sum + (Ys.map b).sum ≤ (Ys.map fun X => (if Y = X then c else 0) + a X + b X).sum
 | [] => ⟨Nat.le_refl _, fun h => by (cases h), Nat.le_refl _⟩
 | y :: Ys => by
  obtain ⟨h1, h2, h3⟩ := sum_ge Y c a b Ys
  simp only [List.map_cons, List.sum_cons]
  refine ⟨by exact lnl fun q => lnq [_,_,_,_,_,_] [aL (tA (tA (tA (tA Z0 Z1) Z2) Z3) (tN 1)) (tA Z2 Z4),aL (tA Z5 Z4) Z3] rfl q h3, fun hm => ?_, by exact lnl fun q => lnq [_,_,_,_,_,_] [aL (tA (tA (tA (tA Z0 Z1) Z2) Z3) (tN 1)) (tA (tA Z1 Z4) (tA Z2 Z5)),aL (tA Z4 Z5) Z3] rfl q h3⟩
  by_cases e : Y = y
  ·rw [if_pos e]; exact lnl fun q => lnq [_,_,_,_,_,_] [aL (tA (tA (tA (tA Z0 Z1) Z2) Z3) (tN 1)) (tA (tA Z0 (tA Z1 Z4)) (tA Z2 Z5)),aL (tA Z4 Z5) Z3] rfl q h3
  ·rw [if_neg e]
   have := h2 ((List.mem_cons.mp hm).resolve_left e)
   exact lnl fun q => lnq [_,_,_,_,_,_] [aL (tA (tA (tA (tA (tN 0) Z0) Z1) Z2) (tN 1)) (tA (tA Z3 (tA Z0 Z4)) (tA Z1 Z5)),aL (tA (tA Z3 Z4) Z5) Z2] rfl q this
theorem nodes_W {M : Nat} (hM : ∀ r k, (Fo.node r k .nil).good g → UA g [g.left r] → zb g (g.left r) = true → k.nodes + 1 ≤ M) {Ys : List Nat} (hY : ∀ X ∈ NT, zb g X = false → X ∈ Ys) :
  ∀ f : Fo, f.good g → UA g (f.syms g) → f.nodes ≤ M * zc g (f.syms g) + (Ys.map fun X => WX g M X f).sum
 | .nil, _, _ => Nat.zero_le _
 | .leaf a f, hg, hu => by
  have := nodes_W hM hY f hg.2 (hu.leaf hg)
  simp only [Fo.nodes, Fo.syms, WX, zc_cons, Nat.mul_add]
  exact lnl fun q => lnq [_,_,_,_] [aL (tA (tA (tA Z0 Z1) Z2) (tN 1)) Z3,aL Z3 (tA Z0 Z2)] rfl q this
 | .node r k f, hg, hu => by
  obtain ⟨u1, u2, u3⟩ := hu.node hg
  have hf := nodes_W hM hY f hg.2.2.2.2 u3
  have hk := nodes_W hM hY k hg.2.2.2.1 u2
  obtain ⟨s1, s2, s3⟩ := sum_ge (g.left r) (1 + M * zc g (g.right r)) (fun X => WX g M X k) (fun X => WX g M X f) Ys
  simp only [Fo.nodes, Fo.syms, WX, zc_cons, Nat.mul_add]
  cases hz : zb g (g.left r) with
  | true =>
   have := hM r k ⟨hg.1, hg.2.1, hg.2.2.1, hg.2.2.2.1, trivial⟩ u1 hz
   rw [if_pos rfl, Nat.mul_one]
   exact lnl fun q => lnq [_,_,_,_,_,_,_] [aL (tA (tA (tA Z0 Z1) Z2) (tN 1)) (tA (tQ Z3) Z4),aL (tQ Z3) Z1,aL (tA Z5 Z6) Z2,aL Z4 (tA Z0 Z6)] rfl q this s3 hf
  | false =>
   have := s2 (hY _ (sh.left r hg.1 hg.2.1) hz)
   rw [hg.2.2.1] at hk
   rw [if_neg (by simp)]
   exact lnl fun q => lnq [_,_,_,_,_,_,_,_] [aL (tA (tA (tA Z0 (tR Z1 0)) Z2) (tN 1)) (tA (tQ Z3) Z4),aL (tA (tA (tA (tN 1) Z5) Z6) Z7) Z2,aL Z3 (tA Z5 Z6),aL Z4 (tA Z0 Z7)] rfl q this hk hf
omit sh in
theorem WX_le {M X α β : Nat} : ∀ f : Fo, (∀ r k, In r k f → g.left r = X → k.yield ≠ [] → 1 + M * zc g (g.right r) ≤ α) → (∀ r k, In r k f → g.left r = X → k.yield = [] → 1 + M * zc g (g.right r) ≤ β) → WX g M X f ≤ cN g X f * α + cE g X f * β
 | .nil, _, _ => Nat.zero_le _
 | .leaf a f, h1, h2 => WX_le f (fun r k h => h1 r k (.leaf h)) (fun r k h => h2 r k (.leaf h))
 | .node r k f, h1, h2 => by
  have a1 := WX_le k (fun r k h => h1 r k (.kid h)) (fun r k h => h2 r k (.kid h))
  have a2 := WX_le f (fun r k h => h1 r k (.rest h)) (fun r k h => h2 r k (.rest h))
  simp only [WX, cN, cE, Nat.add_mul]
  by_cases hX : g.left r = X
  ·by_cases hy : k.yield = []
   ·have := h2 r k .here hX hy
    rw [if_pos hX, if_neg (fun q => q.2 hy), if_pos ⟨hX, hy⟩, Nat.one_mul, Nat.zero_mul]
    exact lnl fun q => lnq [_,_,_,_,_,_,_,_] [aL (tA (tA (tA (tA (tN 0) Z0) Z1) (tA (tA Z2 Z3) Z4)) (tN 1)) (tA (tA (tA (tN 1) Z5) Z6) Z7),aL (tA (tN 1) Z5) Z2,aL Z7 (tA Z1 Z4),aL Z6 (tA Z0 Z3)] rfl q this a2 a1
   ·have := h1 r k .here hX hy
    rw [if_pos hX, if_pos ⟨hX, hy⟩, if_neg (fun q => hy q.2), Nat.one_mul, Nat.zero_mul]
    exact lnl fun q => lnq [_,_,_,_,_,_,_,_] [aL (tA (tA (tA (tA Z0 Z1) Z2) (tA (tA (tN 0) Z3) Z4)) (tN 1)) (tA (tA (tA (tN 1) Z5) Z6) Z7),aL (tA (tN 1) Z5) Z0,aL Z7 (tA Z2 Z4),aL Z6 (tA Z1 Z3)] rfl q this a2 a1
  ·rw [if_neg hX, if_neg (fun q => hX q.1), if_neg (fun q => hX q.1), Nat.zero_mul]
   exact lnl fun q => lnq [_,_,_,_,_,_,_] [aL (tA (tA (tA (tA (tN 0) Z0) Z1) (tA (tA (tM 0 Z2) Z3) Z4)) (tN 1)) (tA (tA (tN 0) Z5) Z6),aL Z6 (tA Z1 Z4),aL Z5 (tA Z0 Z3)] rfl q a2 a1
theorem twice {X : Nat} (hu : UA g [X]) (hZ : ∀ Y ∈ NT, Y ≠ X → zb g Y = true) {te tu : Fo} (e1 : te.good g) (e2 : te.syms g = [X]) (e3 : te.yield = []) (n1 : tu.good g) (n2 : tu.syms g = [X]) (n3 : tu.yield ≠ [])
  {r : Nat} {k : Fo} (hr : r < g.R) (h0 : r ≠ 0) (hl : g.left r = X) (hk : k.good g) (hs : k.syms g = g.right r) : (g.right r).count X ≤ 1 := by
 refine Nat.le_of_not_lt fun hlt => ?_
 have ur : UA g (g.right r) := UA.kids (r := r) (by rw [hl]; exact hu) hr h0
 have m1 : X ∈ g.right r := List.count_pos_iff.mp (by exact lnt fun q => lnq [_] [aL Z0 (tN 0),aL (tQ (tN 1)) Z0] rfl q hlt)
 obtain ⟨α, rest, hα⟩ := List.append_of_mem m1
 obtain ⟨α', rest', hα', hno⟩ : ∃ α' rest', g.right r = α' ++ X :: rest' ∧ X ∉ α' := by
  have : ∀ l : List Nat, X ∈ l → ∃ α' rest', l = α' ++ X :: rest' ∧ X ∉ α' := by
   intro l
   induction l with
   | nil => intro h; cases h
   | cons a l ih =>
    intro h
    by_cases e : a = X
    ·exact ⟨[], l, by rw [e]; rfl, by simp⟩
    ·obtain ⟨a', r', h1, h2⟩ := ih ((List.mem_cons.mp h).resolve_left (Ne.symm e))
     exact ⟨a :: a', r', by rw [h1]; rfl, by simp [h2, Ne.symm e]⟩
  exact this _ m1
 have m2 : X ∈ rest' := by
  rw [hα', List.count_append, List.count_cons_self, List.count_eq_zero.mpr hno] at hlt
  exact List.count_pos_iff.mp (by exact lnt fun q => lnq [_] [aL Z0 (tN 0),aL (tQ (tN 1)) (tA (tN 0) (tQ Z0))] rfl q hlt)
 obtain ⟨β, γ, hβ⟩ := List.append_of_mem m2
 rw [hβ] at hα'
 have hlen := sh.l3 r hr h0
 rw [hα'] at hlen
 simp only [List.length_append, List.length_cons] at hlen
 obtain ⟨ka, k1, ek, sa, s1⟩ := Fo.split g k α' (X :: (β ++ X :: γ)) (by rw [hs, hα'])
 obtain ⟨x1, k2, ek1, sx1, s2⟩ := Fo.split g k1 [X] (β ++ X :: γ) s1
 obtain ⟨kb, k3, ek2, sb, s3⟩ := Fo.split g k2 β ([X] ++ γ) (by rw [s2]; rfl)
 obtain ⟨x2, kc, ek3, sx2, sc⟩ := Fo.split g k3 [X] γ s3
 rw [ek, Fo.good_app] at hk
 obtain ⟨ga, hk⟩ := hk
 rw [ek1, Fo.good_app] at hk
 obtain ⟨_, hk⟩ := hk
 rw [ek2, Fo.good_app] at hk
 obtain ⟨gb, hk⟩ := hk
 rw [ek3, Fo.good_app] at hk
 obtain ⟨_, gc⟩ := hk
 have fin : ∀ gb : Fo, gb.good g → gb.syms g = β → gb.yield = [] → False := fun gb b1 b2 b3 => by
  have := ur (ka.app (te.app (gb.app (tu.app kc)))) (ka.app (tu.app (gb.app (te.app kc)))) (by simp only [Fo.good_app]; exact ⟨ga, e1, b1, n1, gc⟩) (by simp only [Fo.good_app]; exact ⟨ga, n1, b1, e1, gc⟩) (by simp only [Fo.syms_app, sa, b2, sc, e2, n2, hα']; simp) (by simp only [Fo.syms_app, sa, b2, sc, e2, n2, hα']; simp) (by simp only [Fo.yield_app, e3, b3]; simp)
  have := Fo.app_cancel_right g te tu (by rw [e2, n2]) (Fo.app_cancel ka this)
  rw [← this] at n3
  exact n3 e3
 match β, sb, hlen, hα', fin with
 | [], sb, _, _, fin =>
  exact fin .nil trivial rfl rfl
 | [c], sb, hlen, hα', fin =>
  have hcm : c ∈ g.right r := by rw [hα']; simp
  by_cases hcX : c = X
  ·exact fin te e1 (by rw [e2, hcX]) e3
  rcases sh.sym r hr h0 c hcm with hc | hc
  ·exact fin kb gb sb (zb_iff.mp (hZ c hc hcX) kb gb sb)
  ·have ea : α' = [] := List.eq_nil_of_length_eq_zero (by simp at hlen; exact lne (fun q => lnq [_,_] [aL (tQ (tN 0)) Z0,aL (tA Z0 (tA (tA (tN 1) (tQ Z1)) (tN 1))) (tN 3)] rfl q hlen) fun q => lnq [_] [aL (tQ Z0) (tN 0)] rfl q)
   have ec : γ = [] := List.eq_nil_of_length_eq_zero (by simp at hlen; exact lne (fun q => lnq [_,_] [aL (tQ (tN 0)) Z0,aL (tA Z1 (tA (tA (tN 1) (tQ Z0)) (tN 1))) (tN 3)] rfl q hlen) fun q => lnq [_] [aL (tQ Z0) (tN 0)] rfl q)
   rw [ea, ec] at hα'
   have hr3 : g.right r = [X, c, X] := hα'
   have gl : (Fo.leaf c .nil).good g := ⟨hc, trivial⟩
   have gT : (Fo.node r (te.app ((Fo.leaf c .nil).app te)) .nil).good g := ⟨hr, h0, by simp only [Fo.syms_app, e2, hr3]; rfl, by simp only [Fo.good_app]; exact ⟨e1, gl, e1⟩, trivial⟩
   have yT : (Fo.node r (te.app ((Fo.leaf c .nil).app te)) .nil).yield = [c] := by simp [Fo.yield, Fo.yield_app, e3]
   have sT : (Fo.node r (te.app ((Fo.leaf c .nil).app te)) .nil).syms g = [X] := by simp [Fo.syms, hl]
   have := ur ((Fo.node r (te.app ((Fo.leaf c .nil).app te)) .nil).app ((Fo.leaf c .nil).app te)) (te.app ((Fo.leaf c .nil).app (Fo.node r (te.app ((Fo.leaf c .nil).app te)) .nil))) (by simp only [Fo.good_app]; exact ⟨gT, gl, e1⟩) (by simp only [Fo.good_app]; exact ⟨e1, gl, gT⟩) (by simp only [Fo.syms_app, e2, sT, hr3]; rfl) (by simp only [Fo.syms_app, e2, sT, hr3]; rfl) (by simp only [Fo.yield_app, e3, yT]; rfl)
   have := Fo.app_cancel_right g _ te (by rw [sT, e2]) this
   rw [this, e3] at yT
   cases yT
 | a :: b :: β, _, hlen, _, _ =>
  simp only [List.length_cons] at hlen
  exact lnq [_,_,_] [aL (tA Z0 (tA (tA (tA (tQ Z1) (tN 1)) (tQ Z2)) (tN 1))) (tN 3)] rfl hlen
theorem nodes_top {M B X : Nat} (hM : ∀ r k, (Fo.node r k .nil).good g → UA g [g.left r] → zb g (g.left r) = true → k.nodes + 1 ≤ M) (hZ : ∀ Y ∈ NT, Y ≠ X → zb g Y = true) :
  ∀ f : Fo, f.good g → UA g (f.syms g) → (∀ r k, In r k f → g.left r = X → k.nodes + 1 ≤ B) → f.nodes ≤ M * zc g (f.syms g) + B * (f.syms g).count X
 | .nil, _, _, _ => Nat.zero_le _
 | .leaf a f, hg, hu, hB => by
  have := nodes_top hM hZ f hg.2 (hu.leaf hg) fun r k h => hB r k (.leaf h)
  simp only [Fo.nodes, Fo.syms, zc_cons, Nat.mul_add, List.count_cons]
  exact lnl fun q => lnq [_,_,_,_,_] [aL (tA (tA (tA Z0 Z1) (tA Z2 Z3)) (tN 1)) Z4,aL Z4 (tA Z0 Z2)] rfl q this
 | .node r k f, hg, hu, hB => by
  obtain ⟨u1, u2, u3⟩ := hu.node hg
  have hf := nodes_top hM hZ f hg.2.2.2.2 u3 fun r k h => hB r k (.rest h)
  simp only [Fo.nodes, Fo.syms, zc_cons, Nat.mul_add, List.count_cons]
  by_cases e : g.left r = X
  ·have := hB r k .here e
   have hc : (if (g.left r == X) = true then 1 else 0) = 1 := if_pos (by simp [e])
   rw [hc, Nat.mul_one]
   exact lnl fun q => lnq [_,_,_,_,_,_] [aL (tA (tA (tA Z0 Z1) (tA Z2 Z3)) (tN 1)) (tA (tQ Z4) Z5),aL (tQ Z4) Z3,aL Z5 (tA Z0 Z2)] rfl q this hf
  ·have := hM r k ⟨hg.1, hg.2.1, hg.2.2.1, hg.2.2.2.1, trivial⟩ u1 (hZ _ (sh.left r hg.1 hg.2.1) e)
   rw [if_pos (hZ _ (sh.left r hg.1 hg.2.1) e), Nat.mul_one]
   exact lnl fun q => lnq [_,_,_,_,_,_] [aL (tA (tA (tA Z0 Z1) (tA Z2 Z3)) (tN 1)) (tA (tQ Z4) Z5),aL (tQ Z4) Z1,aL Z5 (tA Z0 Z2)] rfl q this hf
theorem chain {X : Nat} (hX : X ∈ NT) (hu : UA g [X]) (hZ : ∀ Y ∈ NT, Y ≠ X → zb g Y = true) (hzl : (NT.filter (zb g)).length ≤ 2) {te tu : Fo} (e1 : te.good g) (e2 : te.syms g = [X]) (e3 : te.yield = []) (n1 : tu.good g) (n2 : tu.syms g = [X]) (n3 : tu.yield ≠ []) :
  ∀ (n r : Nat) (k : Fo), k.nodes < n → (Fo.node r k .nil).good g → g.left r = X → k.nodes + 1 ≤ 9 * k.yield.length + 13
 | 0, _, _, h, _, _ => absurd h (Nat.not_lt_zero _)
 | n + 1, r, k, hn, hg, hl => by
  have hu' : UA g ((Fo.node r k .nil).syms g) := by rw [← hl] at hu; exact hu
  obtain ⟨u1, u2, _⟩ := hu'.node hg
  by_cases hy : k.yield = []
  ·have := eps_nodes sh _ NT rfl (.node r k .nil) hg hu' (by simp [Fo.yield, hy]) fun r' k' hin => by
    obtain ⟨h1, h2, _⟩ := hin.props hg hu'
    exact sh.left r' h1 h2
   have h3 : sM NT.length ≤ 13 := by
    have := sh.len
    match NT.length, this with
    | 0, _ => decide
    | 1, _ => decide
    | 2, _ => decide
    | 3, _ => decide
   simp only [Fo.nodes, Fo.syms, List.length_cons, List.length_nil, Nat.zero_add, Nat.one_mul] at this
   exact lnl fun q => lnq [_,_,_] [aL (tA (tA (tM 9 Z0) (tN 13)) (tN 1)) (tQ Z1),aL (tA (tQ Z1) (tN 0)) Z2,aL Z2 (tN 13)] rfl q this h3
  ·have hp := len_pos hy
   have h4 : sM (NT.filter (zb g)).length ≤ 4 := by
    match (NT.filter (zb g)).length, hzl with
    | 0, _ => decide
    | 1, _ => decide
    | 2, _ => decide
   have hk := nodes_top sh (M := 4) (B := 9 * (k.yield.length - 1) + 13) (X := X) (fun r k a b c => Nat.le_trans (z_nodes sh a b c) h4) hZ k hg.2.2.2.1 u2 fun r' k' hin he => by
    obtain ⟨p1, p2, p3, p4, p5⟩ := hin.props hg.2.2.2.1 u2
    have hlt : k'.yield.length < k.yield.length := Nat.lt_of_le_of_ne hin.len fun e => In.no_rep (f := .node r k .nil) .here hin hg hu' (by rw [he, hl]) e
    have hnl := hin.nodes_lt
    have := chain hX hu hZ hzl e1 e2 e3 n1 n2 n3 n r' k' (by exact lnt fun q => lnq [_,_,_] [aL Z0 Z1,aL (tQ Z1) Z2,aL (tQ Z2) (tQ Z0)] rfl q hnl hn) ⟨p1, p2, p3, p4, trivial⟩ he
    exact lnl fun q => lnq [_,_,_,_] [aL (tA (tA (tM 9 Z0) (tN 13)) (tN 1)) (tQ Z1),fL 9 Z2 (tQ Z0),aL (tQ Z1) (tA (tM 9 Z3) (tN 13)),fL 9 (tQ Z3) Z2] rfl q (sbL _ _) this hlt
   have h5 := zc_lt hg.2.2.2.1 hy
   have h6 := sh.l3 r hg.1 hg.2.1
   have h7 := twice sh hu hZ e1 e2 e3 n1 n2 n3 hg.1 hg.2.1 hl hg.2.2.2.1 hg.2.2.1
   rw [hg.2.2.1] at hk h5
   have h8 : (9 * (k.yield.length - 1) + 13) * (g.right r).count X ≤ (9 * (k.yield.length - 1) + 13) * 1 := Nat.mul_le_mul_left _ h7
   exact lnl fun q => lnq [_,_,_,_,_,_] [fE 9 (tQ Z0) Z1,aL (tA (tA (tM 9 Z1) (tN 13)) (tN 1)) (tQ Z2),aL Z3 (tR (tA (tM 9 Z0) (tN 13)) 1),fL 4 Z4 (tN 3),fL 4 (tQ Z5) Z4,aL Z2 (tA (tM 4 Z5) Z3)] rfl (sbC fun q => lnq [_] [aL (tQ Z0) (tN 1),aL (tN 1) Z0] rfl q hp) q h8 h6 h5 hk
end

section
variable {g : CF} {NT : List Nat} (sh : Shape g NT)
include sh
theorem sum_le (c : Nat) (a : Nat → Nat) : ∀ Ys : List Nat, (∀ X ∈ Ys, a X ≤ c) → (Ys.map a).sum ≤ Ys.length * c
 | [], _ => Nat.zero_le _
 | y :: Ys, h => by
  have h1 := sum_le c a Ys fun X hX => h X (List.mem_cons_of_mem _ hX)
  have h2 := h y (List.mem_cons_self ..)
  simp only [List.map_cons, List.sum_cons, List.length_cons, Nat.add_mul, Nat.one_mul]
  exact lnl fun q => lnq [_,_,_,_] [aL (tQ (tA Z0 Z1)) (tA Z2 Z3),aL Z2 Z1,aL Z3 Z0] rfl q h2 h1
theorem nodes_le (hs : g.s ∈ NT) (hu : UA g [g.s]) {f : Fo} (hg : f.good g) (hf : f.syms g = [g.s]) (hw : f.yield.length ≤ 3) : f.nodes ≤ 55 := by
 have huf : UA g (f.syms g) := by rw [hf]; exact hu
 have hin : ∀ r k, In r k f → g.left r ∈ NT := fun r k h => by
  obtain ⟨h1, h2, _⟩ := h.props hg huf
  exact sh.left r h1 h2
 cases hz : zb g g.s with
 | true =>
  have := eps_nodes sh _ NT rfl f hg huf (zb_iff.mp hz f hg hf) hin
  have h3 : sM NT.length ≤ 13 := by
   have := sh.len
   match NT.length, this with
   | 0, _ => decide
   | 1, _ => decide
   | 2, _ => decide
   | 3, _ => decide
  rw [hf] at this
  simp only [List.length_cons, List.length_nil, Nat.zero_add, Nat.one_mul] at this
  exact lnl fun q => lnq [_,_] [aL (tQ (tN 55)) Z0,aL Z0 Z1,aL Z1 (tN 13)] rfl q this h3
 | false =>
  have hlen : (NT.filter (zb g)).length + (NT.filter fun x => !zb g x).length = NT.length := by
   have : ∀ l : List Nat, (l.filter (zb g)).length + (l.filter fun x => !zb g x).length = l.length := fun l => by
    induction l with
    | nil => rfl
    | cons a l ih =>
     rw [List.filter_cons, List.filter_cons]
     cases zb g a <;> simp <;> (first | exact lne (fun q => lnq [_,_,_] [aL (tA (tQ Z0) (tN 1)) (tA (tQ Z1) Z2),aE (tA Z1 Z2) Z0] rfl q ih) fun q => lnq [_,_,_] [aL (tA (tA (tQ Z0) Z1) (tN 1)) (tQ Z2),aG (tA Z0 Z1) Z2] rfl q ih | exact lne (fun q => lnq [_,_,_] [aL (tA (tQ Z0) (tN 1)) (tA Z1 (tQ Z2)),aE (tA Z1 Z2) Z0] rfl q ih) fun q => lnq [_,_,_] [aL (tA (tA Z0 (tQ Z1)) (tN 1)) (tQ Z2),aG (tA Z0 Z1) Z2] rfl q ih)
   exact this NT
  have hl3 := sh.len
  have hsY : g.s ∈ NT.filter fun x => !zb g x := List.mem_filter.mpr ⟨hs, by rw [hz]; rfl⟩
  have hYp : 1 ≤ (NT.filter fun x => !zb g x).length := List.length_pos_iff.mpr fun e => by rw [e] at hsY; cases hsY
  have hN := nodes_W sh (M := sM (NT.filter (zb g)).length) (fun r k a b c => z_nodes sh a b c) (Ys := NT.filter fun x => !zb g x) (fun X h1 h2 => List.mem_filter.mpr ⟨h1, by rw [h2]; rfl⟩) f hg huf
  rw [hf, zc_cons, hz] at hN
  have hzn : zc g [] = 0 := rfl
  rw [hzn] at hN
  simp only [Bool.false_eq_true, if_false, Nat.add_zero, Nat.mul_zero, Nat.zero_add] at hN
  have cn : ∀ X, cN g X f ≤ 5 := fun X => by have := (cN_le X f hg huf).1; omega
  have ce : ∀ X ∈ NT.filter (fun x => !zb g x), cE g X f ≤ 4 := fun X hX => by
   obtain ⟨h1, h2⟩ := List.mem_filter.mp hX
   obtain ⟨tu, t1, t2, t3⟩ := zb_not (g := g) (X := X) (by simpa using h2)
   have := cE_le (sh.tc X h1) t1 t2 t3 hg huf
   exact lnl fun q => lnq [_,_] [aL (tQ (tN 4)) Z0,aL Z0 (tQ Z1),aL Z1 (tN 3)] rfl q this hw
  have costN : ∀ r k, In r k f → k.yield ≠ [] → zc g (g.right r) + 1 ≤ (g.right r).length ∧ (g.right r).length ≤ 3 := fun r k h hy => by
   obtain ⟨h1, h2, h3, h4, h5⟩ := h.props hg huf
   have := zc_lt h4 hy
   rw [h3] at this
   exact ⟨this, sh.l3 r h1 h2⟩
  have costE : ∀ r k, In r k f → zc g (g.right r) ≤ (g.right r).length ∧ (g.right r).length ≤ 3 := fun r k h => by
   obtain ⟨h1, h2, h3, h4, h5⟩ := h.props hg huf
   exact ⟨zc_le _, sh.l3 r h1 h2⟩
  match hm : (NT.filter (zb g)).length with
  | 0 =>
   rw [hm] at hN hlen
   have := sum_le sh 9 (fun X => WX g (sM 0) X f) (NT.filter fun x => !zb g x) fun X hX => by
    have := WX_le (g := g) (M := sM 0) (X := X) (α := 1) (β := 1) f (fun r k _ _ _ => by simp [sM]) (fun r k _ _ _ => by simp [sM])
    have h1 := cn X; have h2 := ce X hX
    exact lnl fun q => lnq [_,_,_] [aL (tQ (tN 9)) Z0,aL Z1 (tN 4),aL Z2 (tN 5),aL Z0 (tA (tR Z2 1) (tR Z1 1))] rfl q h2 h1 this
   exact lnl fun q => lnq [_,_,_,_] [aL (tQ (tN 55)) Z0,aL Z1 (tR Z2 9),aL Z0 Z1,fL 9 Z3 (tN 3),fE 9 (tA (tN 0) Z2) Z3] rfl q this hN hl3 hlen
  | 1 =>
   rw [hm] at hN hlen
   have := sum_le sh 27 (fun X => WX g (sM 1) X f) (NT.filter fun x => !zb g x) fun X hX => by
    have h1 := cn X; have h2 := ce X hX
    by_cases hE : ∃ ρ k, In ρ k f ∧ g.left ρ = X ∧ zc g (g.right ρ) = 3
    ·obtain ⟨ρ, kρ, i1, i2, i3⟩ := hE
     have := WX_le (g := g) (M := sM 1) (X := X) (α := 2) (β := 4) f (fun r k a b c => by
      obtain ⟨c1, c2⟩ := costN r k a c
      obtain ⟨p1, p2, p3, p4, p5⟩ := a.props hg huf
      obtain ⟨q1, q2, q3, q4, q5⟩ := i1.props hg huf
      have c3 := costE ρ kρ i1
      have hne : (g.right r).length ≠ 3 := fun e => by
       have := sh.one r ρ p1 p2 q1 q2 (by rw [b, i2]) e (by exact lne (fun q => lnq [_] [aL (tQ (tN 3)) Z0,aL Z0 (tN 3)] rfl q c3.2) fun q => lnq [_,_] [aL (tQ Z0) (tN 3),aL Z1 Z0,aG Z1 (tN 3)] rfl q c3.1 i3)
       rw [← this] at i3
       exact lnq [_,_] [aE Z0 (tN 3),aL (tQ Z1) Z0,aG Z1 (tN 3)] rfl e c1 i3
      simp only [sM]; omega) (fun r k a b c => by
      obtain ⟨c1, c2⟩ := costE r k a
      simp only [sM]; omega)
     exact lnl fun q => lnq [_,_,_] [aL (tQ (tN 27)) Z0,aL Z0 (tA (tR Z1 2) (tR Z2 4)),fL 4 Z2 (tN 4),fL 2 Z1 (tN 5)] rfl q this h2 h1
    ·have := WX_le (g := g) (M := sM 1) (X := X) (α := 3) (β := 3) f (fun r k a b c => by
      obtain ⟨c1, c2⟩ := costN r k a c
      simp only [sM]; omega) (fun r k a b c => by
      obtain ⟨c1, c2⟩ := costE r k a
      have hne : zc g (g.right r) ≠ 3 := fun e => hE ⟨r, k, a, b, e⟩
      simp only [sM]; omega)
     exact lnl fun q => lnq [_,_,_] [aL (tQ (tN 27)) Z0,aL Z0 (tA (tR Z1 3) (tR Z2 3)),fL 3 Z2 (tN 4),fL 3 Z1 (tN 5)] rfl q this h2 h1
   have hY2 : (NT.filter fun x => !zb g x).length ≤ 2 := by exact lnl fun q => lnq [_,_] [aL (tQ (tN 2)) Z0,aL Z1 (tN 3),aE (tA (tN 1) Z0) Z1] rfl q hl3 hlen
   have : (NT.filter fun x => !zb g x).length * 27 ≤ 2 * 27 := Nat.mul_le_mul_right _ hY2
   exact lnl fun q => lnq [_,_,_] [aL (tQ (tN 55)) Z0,aL (tR Z1 27) (tM 2 (tN 27)),aL Z2 (tR Z1 27),aL Z0 Z2] rfl q this (by assumption) hN
  | 2 =>
   have hY1 : (NT.filter fun x => !zb g x).length = 1 := by exact lne (fun q => lnq [_,_,_] [aL (tQ (tN 1)) Z0,aG Z1 (tN 2),aL Z2 (tN 3),aE (tA Z1 Z0) Z2] rfl q hm hl3 hlen) fun q => lnq [_] [aL (tQ Z0) (tN 1),aL (tN 1) Z0] rfl q hYp
   obtain ⟨y, hy⟩ := List.length_eq_one_iff.mp hY1
   have hys : y = g.s := by rw [hy] at hsY; exact (List.mem_singleton.mp hsY).symm
   subst hys
   by_cases h0 : cE g g.s f = 0
   ·rw [hm, hy] at hN
    have := WX_le (g := g) (M := sM 2) (X := g.s) (α := 9) (β := 13) f (fun r k a b c => by
     obtain ⟨c1, c2⟩ := costN r k a c
     simp only [sM]; omega) (fun r k a b c => by
     obtain ⟨c1, c2⟩ := costE r k a
     simp only [sM]; omega)
    have h1 := cn g.s
    simp only [List.map_cons, List.map_nil, List.sum_cons, List.sum_nil, Nat.add_zero] at hN
    rw [h0] at this
    exact lnl fun q => lnq [_,_,_] [aL (tQ (tN 55)) Z0,aL Z0 Z1,fL 9 Z2 (tN 5),aL Z1 (tA (tR Z2 9) (tM 0 (tN 13)))] rfl q hN h1 this
   ·obtain ⟨r, k, i1, i2, i3⟩ := cE_pos f h0
    obtain ⟨p1, p2, p3, p4, p5⟩ := i1.props hg huf
    obtain ⟨tu, t1, t2, t3⟩ := zb_not hz
    have hZ : ∀ Y ∈ NT, Y ≠ g.s → zb g Y = true := fun Y hY hne => by
     cases hzy : zb g Y with
     | true => rfl
     | false =>
      have : Y ∈ NT.filter fun x => !zb g x := List.mem_filter.mpr ⟨hY, by rw [hzy]; rfl⟩
      rw [hy] at this
      exact absurd (List.mem_singleton.mp this) hne
    obtain ⟨r', k', f', e⟩ : ∃ r' k' f', f = .node r' k' f' := by
     cases f with
     | nil => cases hf
     | leaf a f =>
      simp [Fo.syms] at hf
      have := sh.tc _ hs
      have := hg.1
      exact (lnq [_,_,_] [aL (tQ Z0) Z1,aL Z1 Z2,aG Z0 Z2] rfl this (by assumption) hf.1).elim
     | node r' k' f' => exact ⟨_, _, _, rfl⟩
    subst e
    have hf' : f' = .nil := by
     cases f' with
     | nil => rfl
     | leaf a f => simp [Fo.syms] at hf
     | node a b f => simp [Fo.syms] at hf
    subst hf'
    have hl : g.left r' = g.s := by simpa [Fo.syms] using hf
    have := chain sh hs hu hZ (by exact lnl fun q => lnq [_] [aL (tQ (tN 2)) Z0,aE Z0 (tN 2)] rfl q hm) (te := .node r k .nil) ⟨p1, p2, p3, p4, trivial⟩ (by simp [Fo.syms, i2]) (by simp [Fo.yield, i3]) t1 t2 t3 (k'.nodes + 1) r' k' (by exact lnt fun q => lnq [_] [aL (tQ Z0) Z0] rfl q) hg hl
    simp only [Fo.nodes, Fo.yield, List.append_nil] at this hw ⊢
    exact lnl fun q => lnq [_,_] [aL (tQ (tN 55)) (tA (tQ Z0) (tN 0)),fL 9 Z1 (tN 3),aL (tQ Z0) (tA (tM 9 Z1) (tN 13))] rfl q hw this
  | n + 3 => omega
end
theorem taken_law {g : CF} {m : LR g} (ok : LRok m) (go : CFok g) {NT : List Nat} (sh : Shape g NT) (hs : g.s ∈ NT) {w : List Nat} (hw : ∀ a ∈ w, a < g.tc) (h3 : w.length ≤ 3) :
  taken m 60 ([(0, .nil)], w ++ [0]) = true ↔ ∃ f : Fo, f.good g ∧ f.syms g = [g.s] ∧ f.yield = w :=
 taken_iff ok go hw fun f h1 h2 h4 => by
  have := nodes_le sh hs (fun f f' a b c d e => unamb ok go a c b d e) h1 h2 (by rw [h4]; exact h3)
  have := f.size_eq
  rw [h4] at this
  exact lnt fun q => lnq [_,_,_] [aL (tN 60) (tQ Z0),aE Z0 (tA Z1 Z2),aL Z1 (tN 55),aL Z2 (tN 3)] rfl q this (by assumption) h3

noncomputable def cfOf (γ : Gr) : CF := ⟨γ.rules.length, γ.left, γ.right, γ.tc, γ.start⟩
structure KersOk (γ : Gr) (kers : List (List It)) : Prop where
 ker : ∀ l ∈ kers, KerOk γ l
 nd : kers.Nodup
 zero : kers[0]? = some [(0, 0)]
 move : ∀ (i : Nat) (l : List It) (s : Nat), kers[i]? = some l → (∃ r d, γ.Clo (· ∈ l) (r, d) ∧ (γ.right r)[d]? = some s) → ∃ (j : Nat) (l' : List It), kers[j]? = some l' ∧ Next γ l s l'
theorem aut_kers {w : World} {γ : Gr} {p : PH} {gr : Addr} {kers : List (List It)} {v : Value} (M : AutAt w γ p gr kers v) : KersOk γ kers := by
 obtain ⟨x, dx, o, refs, ls, n, rfl, px, pd, ao, pls, rlen, dn, ko, k0, kb, knd⟩ := M
 refine ⟨ko, knd, k0, fun i l s hl hex => ?_⟩
 have hi := (List.getElem?_eq_some_iff.mp hl).1
 obtain ⟨v, hv⟩ : ∃ v, refs[i]? = some v := ⟨_, List.getElem?_eq_getElem (by exact lnt fun q => lnq [_,_,_] [aL Z0 Z1,aL (tQ Z1) Z2,aG Z0 Z2] rfl q hi rlen)⟩
 have D1 := dn i v hv
 have e : kers.getD i [] = l := by rw [List.getD_eq_getElem?_getD, hl]; rfl
 rw [e] at D1
 obtain ⟨x', dx', mv', od', om', kv', rfl, px', pd', pm', its', iv', rv', rl', mvs', sh', ta', sy', tb', ao', li', nd', mem', lr', rp', lom', Dm', mp', mk', hsh'⟩ := D1
 have h1 := mk' s ((behind_iff mem' s).mpr hex)
 obtain ⟨⟨k', v'⟩, h2, h3⟩ := List.mem_map.mp h1
 obtain ⟨s', j, tj, e1, e2, e3, l', e4, e5⟩ := mp' k' v' h2
 simp only at h3
 have : s' = s := by omega
 subst this
 exact ⟨j, l', e4, behind_next mem' e5⟩
theorem ker_ext {γ : Gr} {l l' : List It} (h : KerOk γ l) (h' : KerOk γ l') (e : ∀ y, y ∈ l ↔ y ∈ l') : l = l' := by
 refine Gr.its_inj h.1 h'.1 (asc_eq h.asc h'.asc fun x => ?_)
 unfold Gr.its
 simp only [List.mem_map]
 exact ⟨fun ⟨y, hy, q⟩ => ⟨y, (e y).mp hy, q⟩, fun ⟨y, hy, q⟩ => ⟨y, (e y).mpr hy, q⟩⟩
noncomputable def pick (P : Nat → Prop) : Option Nat := @dite _ (∃ j, P j) (Classical.propDecidable _) (fun h => some h.choose) (fun _ => none)
theorem pick_some {P : Nat → Prop} (uniq : ∀ a b, P a → P b → a = b) {j : Nat} : pick P = some j ↔ P j := by
 unfold pick
 constructor
 ·intro h
  split at h
  ·rename_i hx; injection h with h; rw [← h]; exact hx.choose_spec
  ·cases h
 ·intro h
  have hx : ∃ j, P j := ⟨j, h⟩
  rw [dif_pos hx]
  exact congrArg some (uniq _ _ hx.choose_spec h)
theorem pick_none {P : Nat → Prop} : pick P = none ↔ ¬∃ j, P j := by
 unfold pick
 split
 ·rename_i hx; exact ⟨fun h => by (cases h), fun h => absurd hx h⟩
 ·rename_i hx; exact ⟨fun _ => hx, fun _ => rfl⟩
section
variable (γ : Gr) (kers : List (List It))
noncomputable def IsNext (q a j : Nat) : Prop := ∃ l l', kers[q]? = some l ∧ kers[j]? = some l' ∧ Next γ l a l' ∧ ∃ y, y ∈ l'
noncomputable def IsRed (q r : Nat) : Prop := r ≠ 0 ∧ ∃ l, kers[q]? = some l ∧ γ.Clo (· ∈ l) (r, (γ.right r).length)
noncomputable def mach : LR (cfOf γ) where
 items := fun q r d => ∃ l, kers[q]? = some l ∧ γ.Clo (· ∈ l) (r, d)
 next := fun q a => pick (IsNext γ kers q a)
 red := fun q => pick (IsRed γ kers q)
variable {γ kers}
theorem next_some {q a j : Nat} (ok : KersOk γ kers) : (mach γ kers).next q a = some j ↔ IsNext γ kers q a j := by
 refine pick_some fun j j' ⟨l, l', a1, a2, a3, _⟩ ⟨m, m', b1, b2, b3, _⟩ => ?_
 rw [a1] at b1; cases b1
 have e : l' = m' := ker_ext (ok.ker l' (List.mem_of_getElem? a2)) (ok.ker m' (List.mem_of_getElem? b2)) fun y => by rw [a3 y, b3 y]
 rw [← e] at b2
 exact (List.getElem?_inj (List.getElem?_eq_some_iff.mp a2).1 ok.nd).mp (a2.trans b2.symm)
theorem next_none {q a : Nat} : (mach γ kers).next q a = none ↔ ¬∃ j, IsNext γ kers q a j := pick_none
theorem red_some {q r : Nat} (ad : ∀ l ∈ kers, Adq γ l) : (mach γ kers).red q = some r ↔ IsRed γ kers q r := by
 refine pick_some fun r r' ⟨a0, l, a1, a2⟩ ⟨b0, m, b1, b2⟩ => ?_
 rw [a1] at b1; cases b1
 exact (ad l (List.mem_of_getElem? a1) r' b0 b2).1 r a0 a2
theorem red_none {q : Nat} : (mach γ kers).red q = none ↔ ¬∃ r, IsRed γ kers q r := pick_none
theorem goto_next {q s : Nat} {v : Value} (ok : KersOk γ kers) (h : GoTo γ kers q s v) : (∃ j : Nat, (mach γ kers).next q s = some j ∧ IntV v (j : Nat) ∧ j < kers.length) ∨ ((mach γ kers).next q s = none ∧ IntV v (-1)) := by
 obtain ⟨l, hl, ⟨j, l', h1, h2, h3, h4⟩ | ⟨h1, h2⟩⟩ := h
 ·exact .inl ⟨j, (next_some ok).mpr ⟨l, l', hl, h2, h3, h4⟩, h1, (List.getElem?_eq_some_iff.mp h2).1⟩
 ·refine .inr ⟨next_none.mpr fun ⟨j, m, m', b1, b2, b3, y, hy⟩ => h2 ?_, h1⟩
  rw [hl] at b1; cases b1
  obtain ⟨r, d, c1, c2, _⟩ := (b3 y).mp hy
  exact ⟨r, d, c1, c2⟩
theorem mach_ok (ok : KersOk γ kers) (ad : ∀ l ∈ kers, Adq γ l) (go : CFok (cfOf γ)) : LRok (mach γ kers) where
 start := ⟨_, ok.zero, .base (List.mem_cons_self ..)⟩
 rng := fun q r d ⟨l, hl, h⟩ => (Gr.Clo.ok (ok.ker l (List.mem_of_getElem? hl)).1 h).1
 zero := fun r d ⟨l, hl, h⟩ => by
  rw [ok.zero] at hl; cases hl
  cases h with
  | base h => rw [List.mem_singleton] at h; cases h; rfl
  | step => rfl
 closed := fun q r d a r' ⟨l, hl, h⟩ ha hr he => ⟨l, hl, .step h ha hr he⟩
 fwd := fun q r d a ⟨l, hl, h⟩ ha => by
  obtain ⟨j, l', h1, h2⟩ := ok.move q l a hl ⟨r, d, h, ha⟩
  have hm : (r, d + 1) ∈ l' := (h2 _).mpr ⟨r, d, h, ha, rfl⟩
  exact ⟨j, (next_some ok).mpr ⟨l, l', hl, h1, h2, _, hm⟩, l', h1, .base hm⟩
 back := fun q a j r d hn ⟨m, hm, h⟩ => by
  obtain ⟨l, l', h1, h2, h3, _⟩ := (next_some ok).mp hn
  rw [h2] at hm; cases hm
  cases h with
  | base h =>
   obtain ⟨r', d', c1, c2, e⟩ := (h3 _).mp h
   cases e
   exact ⟨⟨l, h1, c1⟩, c2⟩
 goto := fun q a j hn => by
  obtain ⟨l, l', h1, h2, h3, y, hy⟩ := (next_some ok).mp hn
  obtain ⟨r, d, c1, c2, e⟩ := (h3 y).mp hy
  subst e
  exact ⟨r, d, l', h2, .base hy⟩
 first := fun q a j hn ⟨m, hm, h⟩ => by
  obtain ⟨l, l', h1, h2, h3, _⟩ := (next_some ok).mp hn
  have hl' : m = l' := Option.some.inj (hm.symm.trans h2)
  subst hl'
  cases h with
  | base h =>
   obtain ⟨r', d', c1, c2, e⟩ := (h3 _).mp h
   cases e
  | @step r d s _ c e1 e2 e3 =>
   have hr := (Gr.Clo.ok (ok.ker m (List.mem_of_getElem? h2)).1 c).1
   exact go.acc r hr (by show γ.left 0 ∈ γ.right r; rw [e3]; exact List.mem_of_getElem? e1)
 some_ := fun q a j hn => by
  obtain ⟨l, l', h1, h2, h3, y, hy⟩ := (next_some ok).mp hn
  obtain ⟨r, d, c1, c2, _⟩ := (h3 y).mp hy
  exact ⟨r, d, ⟨l, h1, c1⟩, c2⟩
 red1 := fun q r h0 ⟨l, hl, h⟩ => (red_some ad).mpr ⟨h0, l, hl, h⟩
 red2 := fun q r h => by
  obtain ⟨h0, l, hl, h⟩ := (red_some ad).mp h
  exact ⟨h0, l, hl, h⟩
 shift := fun q r d a ⟨l, hl, h⟩ ha hlt => red_none.mpr fun ⟨r', h0, m, hm, h'⟩ => by
  rw [hl] at hm; cases hm
  exact (ad l (List.mem_of_getElem? hl) r' h0 h').2 r d a h ha hlt
end

section
variable {R : Raw} {k : Nat} {F E : Raw}
theorem s3_take {k : Nat} {x : Str} (h : x ∈ S3.take k) : x ∈ S3 := List.mem_of_mem_take h
theorem s3_s5 : ∀ x ∈ S3, x ∈ S5 := by decide
theorem ab_s5 : ∀ x ∈ AB, x ∈ S5 := by decide
theorem ab_s3 : ∀ x ∈ AB, x ∉ S3 := by decide
theorem rsum_le {n : Nat} : ∀ (l : Raw), (∀ x ∈ l, x.2.length ≤ n) → (l.map fun x => x.2.length + 1).sum ≤ (n + 1) * l.length
 | [], _ => Nat.zero_le _
 | a :: l, h => by
  have h1 := h a (List.mem_cons_self ..)
  have h2 := rsum_le l fun x hx => h x (List.mem_cons_of_mem _ hx)
  rw [List.map_cons, List.sum_cons, List.length_cons, Nat.mul_add]; exact lnl fun q => lnq [_,_,_,_] [aL (tA (tA Z0 (tR (tQ Z1) 1)) (tN 1)) (tA (tQ Z2) Z3),aL Z3 Z0,aL Z2 Z1] rfl q h2 h1
theorem LawRaw.flen (h : LawRaw R k F E) : F.length = k := by
 have := congrArg List.length h.first
 have h3 := h.le
 rw [List.length_map, List.length_take] at this
 rw [this]; show min k 3 = k; exact lne (fun q => lnq [_,_] [aL (tQ Z0) Z1,aL Z1 Z0] rfl q (Nat.min_le_left _ _)) fun q => lnq [_,_] [aG Z0 Z1,aL (tQ Z0) Z1] rfl (Nat.min_eq_left (lnl fun q => lnq [_] [aL (tQ (tN 3)) Z0,aL Z0 (tN 3)] rfl q h3)) q
theorem law_ok (h : LawRaw R k F E) : RawOk R := by
 have fl := h.flen
 have h3 := h.le
 refine ⟨fun x hx => ?_, fun x hx y hy => ?_, ?_, ?_, fun x hx => ?_, ?_⟩
 ·rw [h.cat] at hx
  rcases List.mem_append.mp hx with z | z
  ·exact s3_take (k := k) (h.first ▸ List.mem_map_of_mem z)
  ·exact s3_take (h.e1 x z)
 ·rcases h.syms x hx y hy with z | z
  ·exact s3_s5 _ (s3_take z)
  ·exact ab_s5 _ z
 ·have h1 := h.pos
  cases F with
  | nil => simp at fl; exact (lnq [_] [aG (tN 0) Z0,aL (tN 1) Z0] rfl fl h1).elim
  | cons f F =>
   have := h.first
   obtain ⟨k, rfl⟩ : ∃ k', k = k' + 1 := ⟨k - 1, by exact lne (fun q => lnq [_,_] [aL (tA (tQ Z0) (tN 1)) Z1,aL Z1 (tQ Z0)] rfl q (sbL _ _)) fun q => lnq [_,_] [aE (tQ Z0) Z1,aL (tQ Z1) (tQ Z0)] rfl (sbC fun q => lnq [_] [aL (tQ Z0) (tN 1),aL (tN 1) Z0] rfl q h1) q⟩
   rw [List.map_cons] at this
   have e := (List.cons.inj this).1
   rw [h.cat]
   exact ⟨f.2, by rw [List.cons_append, List.head?_cons]; exact congrArg some (Prod.ext e rfl)⟩
 ·rw [h.cat, List.length_append]; have := h.elen; exact lnl fun q => lnq [_,_,_] [aL (tQ (tN 6)) (tA Z0 Z1),aL Z1 (tN 3),aL Z2 (tN 3),aE Z0 Z2] rfl q this h3 fl
 ·rw [h.cat] at hx
  rcases List.mem_append.mp hx with z | z
  ·exact h.f3 x z
  ·have := h.e2 x z; exact lnl fun q => lnq [_] [aL (tQ (tN 3)) Z0,aL Z0 (tN 2)] rfl q this
 ·rw [h.cat, List.map_append, List.sum_append]
  have h1 := rsum_le F h.f3
  have h2 := rsum_le E h.e2
  have h4 := h.elen
  omega
theorem gr_rules (r : Nat) (hr : r < R.length) : ∃ x, R[r]? = some x ∧ (grOf R).left (r + 1) = symOf R x.1 ∧ (grOf R).right (r + 1) = x.2.map (symOf R) := by
 refine ⟨R[r], List.getElem?_eq_getElem hr, ?_⟩
 have : (grOf R).rules.getD (r + 1) (0, []) = (symOf R R[r].1, R[r].2.map (symOf R)) := by
  show ((_ :: R.map _ : List (Nat × List Nat))).getD (r + 1) _ = _
  simp [List.getD_eq_getElem?_getD, hr]
 unfold Gr.left Gr.right
 rw [this]; exact ⟨rfl, rfl⟩
theorem gr_len : (grOf R).rules.length = R.length + 1 := by simp [grOf]
theorem rule_of_lt {r : Nat} (hr : r < (cfOf (grOf R)).R) (h0 : r ≠ 0) : ∃ j x, r = j + 1 ∧ R[j]? = some x ∧ (cfOf (grOf R)).left r = symOf R x.1 ∧ (cfOf (grOf R)).right r = x.2.map (symOf R) := by
 obtain ⟨j, rfl⟩ : ∃ j, r = j + 1 := ⟨r - 1, by exact lne (fun q => lnq [_,_] [aL (tA (tQ Z0) (tN 1)) Z1,aL Z1 (tQ Z0)] rfl q (sbL _ _)) fun q => (Nat.lt_or_gt_of_ne h0).elim (fun q0 => lnq [_] [aL (tQ Z0) (tN 0)] rfl q0) fun q0 => lnq [_,_] [aE (tQ Z0) Z1,aL (tQ Z1) (tQ Z0)] rfl (sbC fun q => lnq [_] [aL (tQ Z0) (tN 1),aL (tQ (tN 0)) Z0] rfl q q0) q⟩
 have hr : j + 1 < (grOf R).rules.length := hr
 rw [gr_len] at hr
 obtain ⟨x, h1, h2, h3⟩ := gr_rules (R := R) j (by exact lnt fun q => lnq [_,_] [aL Z0 Z1,aL (tA (tQ Z1) (tN 1)) (tQ Z0)] rfl q hr)
 exact ⟨j, x, rfl, h1, h2, h3⟩
theorem left_not_term (ok : RawOk R) {x : Str} (h : x ∈ lefts R) : x ∉ terms R := fun ht => by
 rcases terms_sub ok x ht with z | z
 ·exact (own_not _ z).2.1 (lefts_sub ok _ h)
 ·exact z.2 h
theorem left_ge (ok : RawOk R) {x : Str} (h : x ∈ lefts R) : (terms R).length ≤ symOf R x := by
 refine Nat.le_of_not_lt fun hlt => left_not_term ok h ((sym_term (left_name h)).mp hlt)
theorem terms_pos (R : Raw) : 0 < (terms R).length := by
 obtain ⟨m, hm⟩ := terms_pre R
 rw [← hm]; exact Nat.succ_pos _
theorem end_name (R : Raw) : (("$end" : Str)) ∈ namesOf R := term_name (mem_terms.mpr (.inl (by decide)))
theorem cf_ok (ok : RawOk R) : CFok (cfOf (grOf R)) where
 r0 := rfl
 pos := by show 0 < (grOf R).rules.length; rw [gr_len]; exact lnt fun q => lnq [_] [aL (tQ Z0) (tN 0)] rfl q
 tc0 := terms_pos R
 s0 := left_ge ok (s_left ok)
 lt := fun r hr => by
  by_cases h0 : r = 0
  ·subst h0; exact Nat.le_refl _
  ·obtain ⟨j, x, rfl, h1, h2, h3⟩ := rule_of_lt hr h0
   rw [h2]; exact left_ge ok (left_of (List.mem_of_getElem? h1))
 fin := fun r hr h0 hm => by
  obtain ⟨j, x, rfl, h1, h2, h3⟩ := rule_of_lt hr h0
  rw [h3] at hm
  obtain ⟨y, hy, e⟩ := List.mem_map.mp hm
  have hx := List.mem_of_getElem? h1
  rw [← sym_end R] at e
  have := sym_inj (right_name hx hy) (end_name R) e
  exact (own_not _ (by decide : (("$end" : Str)) ∈ OWN)).1 (this ▸ ok.right x hx y hy)
 acc := fun r hr hm => by
  have e0 : (cfOf (grOf R)).left 0 = symOf R (("$accept" : Str)) := (sym_accept ok).symm
  rw [e0] at hm
  by_cases h0 : r = 0
  ·subst h0
   have hm : symOf R (("$accept" : Str)) ∈ [symOf R (("S" : Str)), 0] := hm
   rcases List.mem_cons.mp hm with e | e
   ·exact absurd (sym_inj (accept_name R) (left_name (s_left ok)) e) (by decide)
   ·rw [List.mem_singleton, sym_accept ok] at e
    have := terms_pos R
    exact lnq [_] [aL (tQ (tN 0)) Z0,aE Z0 (tN 0)] rfl this e
  ·obtain ⟨j, x, rfl, h1, h2, h3⟩ := rule_of_lt hr h0
   rw [h3] at hm
   obtain ⟨y, hy, e⟩ := List.mem_map.mp hm
   have hx := List.mem_of_getElem? h1
   have := sym_inj (right_name hx hy) (accept_name R) e
   exact (s5_not _ (this ▸ ok.right x hx y hy : (("$accept" : Str)) ∈ S5)).1 rfl
noncomputable def NTof (R : Raw) : List Nat := (lefts R).map (symOf R)
theorem shape_of (h : LawRaw R k F E) : Shape (cfOf (grOf R)) (NTof R) := by
 have ok := law_ok h
 refine ⟨?_, fun X hX => ?_, fun r hr h0 => ?_, fun r hr h0 y hy => ?_, fun r hr h0 => ?_, fun r r' hr h0 hr' h0' hl l1 l2 => ?_⟩
 ·show ((lefts R).map _).length ≤ 3
  rw [List.length_map]; exact nodup_str_le (U := S3) (lefts_nodup R) (lefts_sub ok)
 ·obtain ⟨x, hx, rfl⟩ := List.mem_map.mp hX
  exact left_ge ok hx
 ·obtain ⟨j, x, rfl, h1, h2, h3⟩ := rule_of_lt hr h0
  rw [h2]; exact List.mem_map_of_mem (left_of (List.mem_of_getElem? h1))
 ·obtain ⟨j, x, rfl, h1, h2, h3⟩ := rule_of_lt hr h0
  rw [h3] at hy
  obtain ⟨z, hz, rfl⟩ := List.mem_map.mp hy
  have hx := List.mem_of_getElem? h1
  by_cases hl : z ∈ lefts R
  ·exact .inl (List.mem_map_of_mem hl)
  ·exact .inr ((sym_term (right_name hx hz)).mpr (mem_terms.mpr (.inr ⟨hl, x, hx, hz⟩)))
 ·obtain ⟨j, x, rfl, h1, h2, h3⟩ := rule_of_lt hr h0
  rw [h3, List.length_map]; exact ok.rlen x (List.mem_of_getElem? h1)
 ·obtain ⟨j, x, rfl, a1, a2, a3⟩ := rule_of_lt hr h0
  obtain ⟨j', x', rfl, b1, b2, b3⟩ := rule_of_lt hr' h0'
  rw [a3, List.length_map] at l1
  rw [b3, List.length_map] at l2
  rw [a2, b2] at hl
  have hx := List.mem_of_getElem? a1
  have hx' := List.mem_of_getElem? b1
  have e := sym_inj (left_name (left_of hx)) (left_name (left_of hx')) hl
  have inF : ∀ {j : Nat} {x : Str × List Str}, R[j]? = some x → x.2.length = 3 → F[j]? = some x := fun {j x} hj hl => by
   rw [h.cat, List.getElem?_append] at hj
   split at hj
   ·exact hj
   ·have := h.e2 x (List.mem_of_getElem? hj); omega
  have c1 := inF a1 l1
  have c2 := inF b1 l2
  have d1 : (F.map (·.1))[j]? = some x.1 := by rw [List.getElem?_map, c1]; rfl
  have d2 : (F.map (·.1))[j']? = some x.1 := by rw [List.getElem?_map, c2, e]; rfl
  have nd : (F.map (·.1)).Nodup := by
   rw [h.first]
   exact List.Nodup.sublist (List.take_sublist ..) (by decide)
  have := (List.getElem?_inj (List.getElem?_eq_some_iff.mp d1).1 nd).mp (d1.trans d2.symm)
  exact lne (fun q => lnq [_,_] [aL (tA (tQ Z0) (tN 1)) (tQ Z1),aE Z1 Z0] rfl q this) fun q => lnq [_,_] [aL (tA (tQ Z0) (tN 1)) (tQ Z1),aG Z0 Z1] rfl q this
theorem s_nt (ok : RawOk R) : (cfOf (grOf R)).s ∈ NTof R := List.mem_map_of_mem (s_left ok)
inductive Gen (R : Raw) : List Str → List Str → Prop
 | nil : Gen R [] []
 | sign {x : Str} {xs w : List Str} (hx : x ∉ lefts R) (h : Gen R xs w) : Gen R (x :: xs) (x :: w)
 | name {x : Str} {xs r u w : List Str} (hr : (x, r) ∈ R) (h1 : Gen R r u) (h2 : Gen R xs w) : Gen R (x :: xs) (u ++ w)
theorem gen_fo (ok : RawOk R) {xs ws : List Str} (h : Gen R xs ws) (hxs : ∀ x ∈ xs, x ∈ terms R ∨ x ∈ lefts R) : ∃ f : Fo, f.good (cfOf (grOf R)) ∧ f.syms (cfOf (grOf R)) = xs.map (symOf R) ∧ f.yield = ws.map (symOf R) := by
 induction h with
 | nil => exact ⟨.nil, trivial, rfl, rfl⟩
 | @sign x xs w hx _ ih =>
  obtain ⟨f, a, b, c⟩ := ih fun y hy => hxs y (List.mem_cons_of_mem _ hy)
  have ht := (hxs x (List.mem_cons_self ..)).resolve_right hx
  exact ⟨.leaf (symOf R x) f, ⟨(sym_term (term_name ht)).mpr ht, a⟩, by rw [Fo.syms, b, List.map_cons], by rw [Fo.yield, c, List.map_cons]⟩
 | @name x xs r u w hr _ _ ih1 ih2 =>
  obtain ⟨f2, a2, b2, c2⟩ := ih2 fun y hy => hxs y (List.mem_cons_of_mem _ hy)
  obtain ⟨f1, a1, b1, c1⟩ := ih1 fun y hy => by
   by_cases hl : y ∈ lefts R
   ·exact .inr hl
   ·exact .inl (mem_terms.mpr (.inr ⟨hl, _, hr, hy⟩))
  obtain ⟨j, hj⟩ := List.getElem?_of_mem hr
  have hjl := (List.getElem?_eq_some_iff.mp hj).1
  obtain ⟨x', e1, e2, e3⟩ := gr_rules (R := R) j hjl
  rw [hj] at e1; cases e1
  refine ⟨.node (j + 1) f1 f2, ⟨by show j + 1 < (grOf R).rules.length; rw [gr_len]; exact lnt fun q => lnq [_,_] [aL (tQ Z0) (tQ Z1),aL (tQ Z1) Z0] rfl q hjl, by exact fun q => lnq [_] [aE (tQ Z0) (tN 0)] rfl q, ?_, a1, a2⟩, ?_, ?_⟩
  ·rw [b1]; exact e3.symm
  ·rw [Fo.syms, b2, List.map_cons]; exact congrArg (· :: _) e2
  ·rw [Fo.yield, c1, c2, List.map_append]
theorem fo_gen (ok : RawOk R) : ∀ (f : Fo), f.good (cfOf (grOf R)) → ∀ xs : List Str, (∀ x ∈ xs, x ∈ terms R ∨ x ∈ lefts R) → f.syms (cfOf (grOf R)) = xs.map (symOf R) → ∃ ws, Gen R xs ws ∧ f.yield = ws.map (symOf R) ∧ ∀ y ∈ ws, y ∈ terms R
 | .nil, _, xs, _, e => by
  have : xs = [] := by simpa [Fo.syms] using e.symm
  subst this
  exact ⟨[], .nil, rfl, by simp⟩
 | .leaf a f, hg, xs, hxs, e => by
  cases xs with
  | nil => simp [Fo.syms] at e
  | cons x xs =>
   rw [Fo.syms, List.map_cons] at e
   have e1 := (List.cons.inj e).1
   have e2 := (List.cons.inj e).2
   have hx := hxs x (List.mem_cons_self ..)
   have hxn : x ∈ namesOf R := hx.elim term_name left_name
   have hlt : symOf R x < (terms R).length := by rw [← e1]; exact hg.1
   have ht := (sym_term hxn).mp hlt
   obtain ⟨ws, b1, b2, b3⟩ := fo_gen ok f hg.2 xs (fun y hy => hxs y (List.mem_cons_of_mem _ hy)) e2
   exact ⟨x :: ws, .sign (fun hl => left_not_term ok hl ht) b1, by rw [Fo.yield, b2, List.map_cons, e1], fun y hy => by
    rcases List.mem_cons.mp hy with rfl | hy
    ·exact ht
    ·exact b3 y hy⟩
 | .node r k f, hg, xs, hxs, e => by
  obtain ⟨g1, g2, g3, g4, g5⟩ := hg
  cases xs with
  | nil => simp [Fo.syms] at e
  | cons x xs =>
   rw [Fo.syms, List.map_cons] at e
   have e1 := (List.cons.inj e).1
   have e2 := (List.cons.inj e).2
   obtain ⟨j, y, rfl, c1, c2, c3⟩ := rule_of_lt g1 g2
   have hy := List.mem_of_getElem? c1
   have hx := hxs x (List.mem_cons_self ..)
   have hxn : x ∈ namesOf R := hx.elim term_name left_name
   rw [c2] at e1
   have exy := sym_inj (left_name (left_of hy)) hxn e1
   obtain ⟨us, a1, a2, a3⟩ := fo_gen ok k g4 y.2 (fun z hz => by
    by_cases hl : z ∈ lefts R
    ·exact .inr hl
    ·exact .inl (mem_terms.mpr (.inr ⟨hl, _, hy, hz⟩))) (by rw [g3, c3])
   obtain ⟨ws, b1, b2, b3⟩ := fo_gen ok f g5 xs (fun y hy => hxs y (List.mem_cons_of_mem _ hy)) e2
   exact ⟨us ++ ws, .name (r := y.2) (by rw [← exy]; exact hy) a1 b1, by rw [Fo.yield, a2, b2, List.map_append], fun z hz => by
    rcases List.mem_append.mp hz with z | z
    ·exact a3 _ z
    ·exact b3 _ z⟩
theorem map_inj {l m : List Str} (hl : ∀ x ∈ l, x ∈ namesOf R) (hm : ∀ x ∈ m, x ∈ namesOf R) (e : l.map (symOf R) = m.map (symOf R)) : l = m := by
 induction l generalizing m with
 | nil => cases m with
  | nil => rfl
  | cons b m => simp at e
 | cons a l ih => cases m with
  | nil => simp at e
  | cons b m =>
   rw [List.map_cons, List.map_cons] at e
   obtain ⟨e1, e2⟩ := List.cons.inj e
   rw [sym_inj (hl a (List.mem_cons_self ..)) (hm b (List.mem_cons_self ..)) e1, ih (fun x hx => hl x (List.mem_cons_of_mem _ hx)) (fun x hx => hm x (List.mem_cons_of_mem _ hx)) e2]
theorem gen_iff (ok : RawOk R) {ws : List Str} (hw : ∀ x ∈ ws, x ∈ terms R) : Gen R [("S" : Str)] ws ↔ ∃ f : Fo, f.good (cfOf (grOf R)) ∧ f.syms (cfOf (grOf R)) = [(cfOf (grOf R)).s] ∧ f.yield = ws.map (symOf R) := by
 constructor
 ·intro h
  exact gen_fo ok h fun x hx => by rw [List.mem_singleton] at hx; subst hx; exact .inr (s_left ok)
 ·rintro ⟨f, h1, h2, h3⟩
  obtain ⟨us, g1, g2, g3⟩ := fo_gen ok f h1 [("S" : Str)] (fun x hx => by rw [List.mem_singleton] at hx; subst hx; exact .inr (s_left ok)) h2
  rw [h3] at g2
  rw [map_inj (fun x hx => term_name (hw x hx)) (fun x hx => term_name (g3 x hx)) g2]
  exact g1
end

noncomputable def joinS : List Str → Str
 | [] => ⟨#[]⟩
 | t :: ts => t ++ joinS ts
theorem str_nil (x : Str) : x ++ (⟨#[]⟩ : Str) = x := by
 show Str.append x _ = x
 unfold Str.append; simp
theorem nil_str (x : Str) : (⟨#[]⟩ : Str) ++ x = x := by
 show Str.append _ x = x
 unfold Str.append; simp
theorem str_assoc (x y z : Str) : (x ++ y) ++ z = x ++ (y ++ z) := by
 show Str.append (Str.append x y) z = Str.append x (Str.append y z)
 unfold Str.append; simp
theorem str_len (x y : Str) : (x ++ y).length = x.length + y.length := by
 show (Str.append x y).length = _
 unfold Str.append Str.length; simp
theorem joinS_append (a b : List Str) : joinS (a ++ b) = joinS a ++ joinS b := by
 induction a with
 | nil => exact (nil_str _).symm
 | cons t a ih => rw [List.cons_append, joinS, joinS, ih, str_assoc]
theorem ab_one : ∀ x ∈ AB, x.length = 1 := by decide
theorem joinS_len {ts : List Str} (h : ∀ t ∈ ts, t ∈ AB) : (joinS ts).length = ts.length := by
 induction ts with
 | nil => rfl
 | cons t ts ih =>
  rw [joinS, str_len, ab_one t (h t (List.mem_cons_self ..)), ih fun x hx => h x (List.mem_cons_of_mem _ hx), List.length_cons, Nat.add_comm]
theorem joinS_at {ts : List Str} (h : ∀ t ∈ ts, t ∈ AB) : ∀ {i c : Nat}, (joinS ts).cps[i]? = some c → ts[i]? = some (⟨#[c]⟩ : Str) := by
 induction ts with
 | nil => intro i c hc; simp [joinS] at hc
 | cons t ts ih =>
  intro i c hc
  have h1 := ab_one t (h t (List.mem_cons_self ..))
  obtain ⟨⟨l⟩⟩ := t
  have hl : l.length = 1 := h1
  obtain ⟨b, rfl⟩ := List.length_eq_one_iff.mp hl
  have e : (joinS (⟨⟨[b]⟩⟩ :: ts)).cps = #[b] ++ (joinS ts).cps := rfl
  rw [e, Array.getElem?_append] at hc
  cases i with
  | zero => simp at hc; subst hc; rfl
  | succ i =>
   simp at hc
   rw [List.getElem?_cons_succ]
   exact ih (fun x hx => h x (List.mem_cons_of_mem _ hx)) (by simpa using hc)
theorem joinS_inj {ts us : List Str} (h1 : ∀ t ∈ ts, t ∈ AB) (h2 : ∀ t ∈ us, t ∈ AB) (e : joinS ts = joinS us) : ts = us := by
 have l1 := joinS_len h1
 have l2 := joinS_len h2
 rw [e] at l1
 refine List.ext_getElem? fun i => ?_
 by_cases hi : i < (joinS us).cps.size
 ·have hc : (joinS us).cps[i]? = some (joinS us).cps[i] := by simp [hi]
  rw [joinS_at h2 hc, joinS_at h1 (by rw [e]; exact hc)]
 ·have : ¬ i < us.length := by rw [← l2]; exact hi
  have : ¬ i < ts.length := by rw [← l1]; exact hi
  rw [List.getElem?_eq_none (by exact lnl fun q => lnq [_,_] [aL (tQ Z0) Z1,aX (tQ Z0) Z1] rfl q this), List.getElem?_eq_none (by exact lnl fun q => lnq [_,_] [aL (tQ Z0) Z1,aX (tQ Z0) Z1] rfl q (by assumption))]
noncomputable def Wd (R : Raw) (xs : List Str) (w : Str) : Prop := ∃ ts, Gen R xs ts ∧ (∀ t ∈ ts, t ∈ AB) ∧ ts.length ≤ 3 ∧ w = joinS ts
theorem Gen.append {R : Raw} {xs ys us vs : List Str} (h : Gen R xs us) (h2 : Gen R ys vs) : Gen R (xs ++ ys) (us ++ vs) := by
 induction h with
 | nil => exact h2
 | sign hx _ ih => exact .sign hx ih
 | name hr h1 _ _ ih => rw [List.cons_append, List.append_assoc]; exact .name hr h1 ih
noncomputable abbrev Wds := Str → List Str
noncomputable def opts (ls : List Str) (D : Wds) (y : Str) : List Str := if y ∈ ls then D y else [y]
noncomputable def stepR (ls : List Str) (D : Wds) (rows : List Str) (y : Str) : List Str := rows.flatMap fun row => ((opts ls D y).filter fun w => (row ++ w).length ≤ 3).map (row ++ ·)
noncomputable def rowsOf (ls : List Str) (D : Wds) (ys : List Str) : List Str := ys.foldl (stepR ls D) [⟨#[]⟩]
noncomputable def WSound (R : Raw) (D : Wds) : Prop := ∀ x ∈ lefts R, ∀ w ∈ D x, Wd R [x] w
theorem Wd.nil (R : Raw) : Wd R [] ⟨#[]⟩ := ⟨[], .nil, by simp, by simp, rfl⟩
theorem Wd.opt {R : Raw} {D : Wds} (s : WSound R D) {y w : Str} (hy : y ∈ lefts R ∨ y ∈ AB) (h : w ∈ opts (lefts R) D y) : Wd R [y] w := by
 unfold opts at h
 split at h
 ·rename_i hl; exact s y hl w h
 ·rename_i hl
  rw [List.mem_singleton] at h; subst h
  have ha := hy.resolve_left hl
  exact ⟨[w], .sign hl .nil, by simpa using ha, by simp, (str_nil w).symm⟩
theorem Wd.step {R : Raw} {D : Wds} (s : WSound R D) {y : Str} (hy : y ∈ lefts R ∨ y ∈ AB) {ys rows : List Str} (h : ∀ w ∈ rows, Wd R ys w) : ∀ w ∈ stepR (lefts R) D rows y, Wd R (ys ++ [y]) w := by
 intro w hw
 unfold stepR at hw
 obtain ⟨row, h1, h2⟩ := List.mem_flatMap.mp hw
 obtain ⟨v, h3, rfl⟩ := List.mem_map.mp h2
 obtain ⟨h4, h5⟩ := List.mem_filter.mp h3
 obtain ⟨us, a1, a2, a3, rfl⟩ := h row h1
 obtain ⟨vs, b1, b2, b3, rfl⟩ := Wd.opt s hy h4
 have hall : ∀ t ∈ us ++ vs, t ∈ AB := fun t ht => (List.mem_append.mp ht).elim (a2 t) (b2 t)
 refine ⟨us ++ vs, a1.append b1, hall, ?_, (joinS_append us vs).symm⟩
 have h5 : (joinS us ++ joinS vs).length ≤ 3 := by simpa using h5
 rw [← joinS_append, joinS_len hall] at h5
 exact h5
theorem rows_sound {R : Raw} {D : Wds} (s : WSound R D) : ∀ {ys : List Str}, (∀ y ∈ ys, y ∈ lefts R ∨ y ∈ AB) → ∀ {zs rows : List Str}, (∀ w ∈ rows, Wd R zs w) → ∀ w ∈ ys.foldl (stepR (lefts R) D) rows, Wd R (zs ++ ys) w
 | [], _, zs, rows, h, w, hw => by rw [List.append_nil]; exact h w hw
 | y :: ys, hy, zs, rows, h, w, hw => by
  have := rows_sound s (fun z hz => hy z (List.mem_cons_of_mem _ hz)) (Wd.step s (hy y (List.mem_cons_self ..)) h) w hw
  rwa [List.append_assoc] at this
theorem rowsOf_wd {R : Raw} {D : Wds} (s : WSound R D) {x : Str} {r : List Str} (hr : (x, r) ∈ R) (hy : ∀ y ∈ r, y ∈ lefts R ∨ y ∈ AB) : ∀ w ∈ rowsOf (lefts R) D r, Wd R [x] w := fun w hw => by
 obtain ⟨ts, h1, h2⟩ := rows_sound s hy (zs := []) (rows := [⟨#[]⟩]) (fun w hw => by rw [List.mem_singleton] at hw; subst hw; exact Wd.nil R) w hw
 have := Gen.name hr h1 .nil
 rw [List.append_nil] at this
 exact ⟨ts, this, h2⟩
noncomputable def WClosed (R : Raw) (D : Wds) : Prop := ∀ x r, (x, r) ∈ R → ∀ w ∈ rowsOf (lefts R) D r, w ∈ D x
theorem rows_full {R : Raw} {D : Wds} (c : WClosed R D) {xs ts : List Str} (h : Gen R xs ts) : ∀ (row : Str) (rows : List Str), row ∈ rows → (row ++ joinS ts).length ≤ 3 → row ++ joinS ts ∈ xs.foldl (stepR (lefts R) D) rows := by
 induction h with
 | nil => intro row rows hr _; rw [joinS, str_nil]; exact hr
 | @sign x xs w hx _ ih =>
  intro row rows hr hl
  rw [joinS, ← str_assoc] at hl ⊢
  refine ih (row ++ x) _ ?_ hl
  rw [str_len] at hl
  refine List.mem_flatMap.mpr ⟨row, hr, List.mem_map.mpr ⟨x, List.mem_filter.mpr ⟨?_, by simpa using Nat.le_trans (Nat.le_add_right _ _) hl⟩, rfl⟩⟩
  unfold opts; rw [if_neg hx]; exact List.mem_singleton.mpr rfl
 | @name x xs r u w hr _ _ ih1 ih2 =>
  intro row rows hrow hl
  rw [joinS_append, ← str_assoc] at hl ⊢
  refine ih2 (row ++ joinS u) _ ?_ hl
  rw [str_len] at hl
  have hu : (row ++ joinS u).length ≤ 3 := Nat.le_trans (Nat.le_add_right _ _) hl
  have h0 : joinS u ∈ rowsOf (lefts R) D r := by
   have := ih1 ⟨#[]⟩ [⟨#[]⟩] (List.mem_singleton.mpr rfl) (by rw [nil_str]; rw [str_len] at hu; exact lnl fun q => lnq [_,_] [aL (tQ (tN 3)) Z0,aL (tA Z1 Z0) (tN 3)] rfl q hu)
   rwa [nil_str] at this
  refine List.mem_flatMap.mpr ⟨row, hrow, List.mem_map.mpr ⟨joinS u, List.mem_filter.mpr ⟨?_, by simpa using hu⟩, rfl⟩⟩
  unfold opts; rw [if_pos (left_of (y := (x, r)) hr)]; exact c x r hr _ h0
theorem found_iff {R : Raw} {D : Wds} (s : WSound R D) (c : WClosed R D) {x : Str} (hx : x ∈ lefts R) {ts : List Str} (hab : ∀ t ∈ ts, t ∈ AB) (hl : ts.length ≤ 3) : joinS ts ∈ D x ↔ Gen R [x] ts := by
 constructor
 ·intro h
  obtain ⟨us, h1, h2, _, e⟩ := s x hx _ h
  rw [joinS_inj hab h2 e]; exact h1
 ·intro h
  have := rows_full c h ⟨#[]⟩ [⟨#[]⟩] (List.mem_singleton.mpr rfl) (by rw [nil_str, joinS_len hab]; exact hl)
  rw [nil_str] at this
  obtain ⟨row, h1, h2⟩ := List.mem_flatMap.mp this
  obtain ⟨v, h3, e⟩ := List.mem_map.mp h2
  rw [List.mem_singleton] at h1; subst h1
  have h4 := (List.mem_filter.mp h3).1
  unfold opts at h4; rw [if_pos hx] at h4
  simp only [nil_str] at e
  rw [← e]; exact h4
noncomputable def WALL : List Str := (["", "a", "b", "aa", "ab", "ba", "bb", "aaa", "aab", "aba", "abb", "baa", "bab", "bba", "bbb"] : List Str)
theorem wall : ∀ (ts : List Str), (∀ t ∈ ts, t ∈ AB) → ts.length ≤ 3 → joinS ts ∈ WALL := by
 intro ts h hl
 have ab : ∀ {x}, x ∈ AB → x = ("a" : Str) ∨ x = ("b" : Str) := fun {x} hx => by simpa [AB] using hx
 match ts, h, hl with
 | [], _, _ => decide
 | [x], h, _ =>
  rcases ab (h x (by simp)) with rfl | rfl <;> decide
 | [x, y], h, _ =>
  rcases ab (h x (by simp)) with rfl | rfl <;> rcases ab (h y (by simp)) with rfl | rfl <;> decide
 | [x, y, z], h, _ =>
  rcases ab (h x (by simp)) with rfl | rfl <;> rcases ab (h y (by simp)) with rfl | rfl <;> rcases ab (h z (by simp)) with rfl | rfl <;> decide
 | _ :: _ :: _ :: _ :: _, _, hl => simp at hl
theorem words_le {R : Raw} {D : Wds} (s : WSound R D) {x : Str} (hx : x ∈ lefts R) (nd : (D x).Nodup) : (D x).length ≤ 15 :=
 nodup_str_le (U := WALL) nd fun w hw => by
  obtain ⟨ts, _, h2, h3, rfl⟩ := s x hx w hw
  exact wall ts h2 h3

noncomputable def numsOf (S : Stk) : List Nat := (S.map (·.1)).reverse
theorem nums_drop (S : Stk) (k : Nat) : numsOf (S.drop k) = (numsOf S).take (S.length - k) := by
 unfold numsOf
 rw [← List.length_map (f := fun x : Nat × Fo => x.1), ← List.reverse_drop, List.map_drop]
theorem nums_len (S : Stk) : (numsOf S).length = S.length := by unfold numsOf; simp
theorem nums_cons (e : Nat × Fo) (S : Stk) : numsOf (e :: S) = numsOf S ++ [e.1] := by unfold numsOf; simp
section
variable {γ : Gr} {kers : List (List It)}
theorem val_lt (ok : KersOk γ kers) {S : Stk} (v : Val (mach γ kers) S) : ∀ e ∈ S, e.1 < kers.length := by
 induction v with
 | base =>
  intro e he
  rw [List.mem_singleton] at he; subst he
  exact (List.getElem?_eq_some_iff.mp ok.zero).1
 | push _ hn _ _ ih =>
  intro e he
  rcases List.mem_cons.mp he with rfl | he
  ·obtain ⟨l, l', h1, h2, _⟩ := (next_some ok).mp hn
   exact (List.getElem?_eq_some_iff.mp h2).1
  ·exact ih e he
theorem val_cons {S : Stk} (v : Val (mach γ kers) S) : ∃ q t S', S = (q, t) :: S' := by
 cases v with
 | base => exact ⟨_, _, _, rfl⟩
 | push => exact ⟨_, _, _, rfl⟩
theorem turn_red (L : LRok (mach γ kers)) {q r : Nat} {t : Fo} {S' : Stk} (v : Val (mach γ kers) ((q, t) :: S')) (hr : (mach γ kers).red q = some r) :
  ∃ p u S2, ((q, t) :: S').drop (γ.right r).length = (p, u) :: S2 ∧ Val (mach γ kers) ((p, u) :: S2) ∧
   (∀ j, (mach γ kers).next p (γ.left r) = some j → ∃ T, Val (mach γ kers) ((j, T) :: (p, u) :: S2) ∧ ∀ n a w, taken (mach γ kers) (n + 1) ((q, t) :: S', a :: w) = taken (mach γ kers) n ((j, T) :: (p, u) :: S2, a :: w)) ∧
   ((mach γ kers).next p (γ.left r) = none → ∀ n a w, taken (mach γ kers) (n + 1) ((q, t) :: S', a :: w) = false) := by
 obtain ⟨r0, hi⟩ := L.red2 q r hr
 obtain ⟨e, S2, k1, k2, k3, k4, k5⟩ := pop L _ q t S' r v hi
 obtain ⟨p, u⟩ := e
 rw [List.take_length] at k5
 have k1' : ((q, t) :: S').drop (γ.right r).length = (p, u) :: S2 := k1
 refine ⟨p, u, S2, k1', k3, fun j hj => ?_, fun hj n a w => ?_⟩
 ·refine ⟨_, .push (a := γ.left r) (t := Fo.node r (joinR (((q, t) :: S').take (γ.right r).length)) .nil) k3 hj ⟨L.rng _ _ _ hi, r0, k5, k4, trivial⟩ rfl, fun n a w => ?_⟩
  have : gstep (mach γ kers) ((q, t) :: S', a :: w) = some ((j, Fo.node r (joinR (((q, t) :: S').take (γ.right r).length)) .nil) :: (p, u) :: S2, a :: w) := by
   simp only [gstep, hr]
   show (match ((q, t) :: S').drop (γ.right r).length with | [] => none | p :: S'' => _) = _
   rw [k1']
   show Option.map _ ((mach γ kers).next p (γ.left r)) = _
   rw [hj]; rfl
  simp only [taken, this]
 ·have : gstep (mach γ kers) ((q, t) :: S', a :: w) = none := by
   simp only [gstep, hr]
   show (match ((q, t) :: S').drop (γ.right r).length with | [] => none | p :: S'' => _) = _
   rw [k1']
   show Option.map _ ((mach γ kers).next p (γ.left r)) = _
   rw [hj]; rfl
  simp only [taken, this]
theorem turn_shift {q a : Nat} {t : Fo} {S' : Stk} (v : Val (mach γ kers) ((q, t) :: S')) (hr : (mach γ kers).red q = none) (ha : a < γ.tc) :
  (∀ j, (mach γ kers).next q a = some j → ∃ T, Val (mach γ kers) ((j, T) :: (q, t) :: S') ∧ ∀ n w, taken (mach γ kers) (n + 1) ((q, t) :: S', a :: w) = taken (mach γ kers) n ((j, T) :: (q, t) :: S', w)) ∧
   ((mach γ kers).next q a = none → ∀ n w, taken (mach γ kers) (n + 1) ((q, t) :: S', a :: w) = false) := by
 refine ⟨fun j hj => ⟨Fo.leaf a .nil, .push (a := a) v hj ⟨ha, trivial⟩ rfl, fun n w => ?_⟩, fun hj n w => ?_⟩
 ·have : gstep (mach γ kers) ((q, t) :: S', a :: w) = some ((j, Fo.leaf a .nil) :: (q, t) :: S', w) := by
   simp only [gstep, hr, hj, Option.map_some]
  simp only [taken, this]
 ·have : gstep (mach γ kers) ((q, t) :: S', a :: w) = none := by
   simp only [gstep, hr, hj, Option.map_none]
  simp only [taken, this]
theorem taken_end {n : Nat} {S : Stk} : taken (mach γ kers) (n + 1) (S, []) = true := rfl
end

section
variable {w : World} {A : Around} {E : Value → Shared → Prop} {g : Array GenState} {d : Drawn} {t : Nat} {os : OsState} {p : PH} {h : Heap}
theorem sub_neg {value slice : PySem.Expr} {a : Addr} {vs : List Value} {n : Nat} {u : Tok} {v : Value} {Q : Value → Shared → Prop} (hl : h.get? a = some (listOf vs.toArray n)) (hx : vs.getLast? = some v)
  (hs : subscripted slice false (.ref a) (.int (-1) u) = operate [.ref a, .int (-1) u] (getItem (.ref a) (.int (-1) u))) (q : Q v ⟨h, g, d, t, os⟩) :
  wpAny (model PR w) A (subscriptTail value slice (.ref a) (.int (-1) u)) Q E ⟨h, g, d, t, os⟩ := by
 have hl' : h.IsList a vs.toArray := ⟨_, hl, rfl, _, rfl⟩
 have hne : 0 < vs.length := by
  cases vs with
  | nil => cases hx
  | cons => simp
 refine tail_any (s := ⟨h, g, d, t, os⟩) hl'.typeIs slot_list_getitem.lookup (wpAny_getItem_list_neg (s := ⟨h, g, d, t, os⟩) (x := v) hl' (by decide) (by simp; exact Int.ofNat_le.mpr (lnl fun q => lnq [_] [aL (tQ Z0) (tN 1),aL (tQ (tN 0)) Z0] rfl q hne)) (by decide) ?_ q) hs
 rw [List.getLast?_eq_getElem?] at hx
 have : ((-1 : Int) + (vs.toArray.size : Nat)).toNat = vs.length - 1 := by simp; omega
 rw [this]; simpa using hx
end
section
variable {w : World} {A : Around} {E : Value → Shared → Prop} {g : Array GenState} {d : Drawn} {t : Nat} {os : OsState} {env : Env}
variable {p0 p : PH} {h0 h : Heap} {X : List Addr} {L : Addr} {l : AL} {mu : Led}
theorem as_s2 {x y : Str} {a : Addr} {v1 v2 : Value} {n : Nat} {Q : Flow → Shared → Prop} (K : W p0 h0 X L p h l mu) (hh : A.handled = none) (ha : h.get? a = some (tupOf [v1, v2].toArray n))
  (hx : env.kindOf x = some .local) (hy : env.kindOf y = some .local) (hk : env.scope.kind = .function) (he : env.locals = L)
  (q : ∀ h' t', W p0 h0 X L p h' ((x, v1) :: (y, v2) :: l) mu → Q .next ⟨h', g, d, t', os⟩) :
  wpAny (model PR w) A (unpackItems (.ref a) [x, y].length none) (fun items s₂ => wpAny (model PR w) A (assignInOrder ([x, y].reverse.map fun n => bindName env n) items.reverse) (fun _ => Q .next) E s₂) E ⟨h, g, d, t, os⟩ := by
 refine unpackItems_tuple (items := [v1, v2].toArray) hh ⟨_, ha, rfl, _, rfl⟩ fun h1 hb => ?_
 have K := K.grow fun b o e => hb b o (Nat.ne_of_lt (Heap.lt_size e)) e
 show wpAny _ _ (assignInOrder [bindName env y, bindName env x] [v2, v1]) _ _ _
 unfold assignInOrder
 refine wpAny_bind (wpAny_holding (bindName_ (st K hy hk he fun h2 t2 K => ?_)))
 unfold assignInOrder
 refine wpAny_bind (wpAny_holding (bindName_ (st K hx hk he fun h3 t3 K => ?_)))
 unfold assignInOrder
 exact wpAny_pure (q _ _ K)
end
theorem joinS_ascii {ts : List Str} (h : ∀ t ∈ ts, t ∈ AB) : (joinS ts).cps.all (· < 128) = true := by
 rw [Array.all_eq_true]
 intro i hi
 have hc : (joinS ts).cps[i]? = some (joinS ts).cps[i] := by simp [hi]
 have := h _ (List.mem_of_getElem? (joinS_at h hc))
 generalize (joinS ts).cps[i] = c at this
 simp only [AB, List.mem_cons, List.not_mem_nil, or_false] at this
 have e1 : (Str.ofString "a") = ⟨#[97]⟩ := by decide +kernel
 have e2 : (Str.ofString "b") = ⟨#[98]⟩ := by decide +kernel
 rw [e1, e2] at this
 rcases this with e | e <;> (injection e with e; simp at e; subst e; rfl)
theorem mo_num (P : Params) : methOk (KF P) 391 "number" 353 = true := by kernel_rfl
theorem ints_last {vs : List Value} {l : List Nat} {n : Nat} (h : IntsAre vs (zs (l ++ [n]))) : ∃ t, vs.getLast? = some (.int (n : Nat) t) := by
 have hl := h.length
 have : (zs (l ++ [n]))[l.length]? = some ((n : Nat) : Int) := by simp [zs]
 refine hide fun QQ hQQ => ?_
 obtain ⟨t, ht⟩ := ints_at h this
 refine hQQ ?_
 clear hQQ QQ
 refine ⟨t, ?_⟩
 rw [List.getLast?_eq_getElem?, hl]
 have e : (zs (l ++ [n])).length - 1 = l.length := by simp [zs]
 rw [e]; exact ht
theorem ints_take {vs : List Value} {l : List Nat} (h : IntsAre vs (zs l)) (k : Nat) : IntsAre (vs.take k) (zs (l.take k)) := by
 induction k generalizing vs l with
 | zero => exact .nil
 | succ k ih => cases l with
  | nil => cases h; exact .nil
  | cons a l => cases h with
   | cons _ _ h => exact .cons _ _ (ih h)
theorem state_reds {w : World} {γ : Gr} {p : PH} {kers : List (List It)} {refs : List Value} (ko : KersOk γ kers) (ad : ∀ l ∈ kers, Adq γ l) (rlen : refs.length = kers.length) (dn : ∀ i u, refs[i]? = some u → DoneAt w γ p i (kers.getD i []) kers u) {i : Nat} (hi : i < kers.length) :
  ∃ x' fs' ra rvs rn rl, refs[i]? = some (Value.ref x') ∧ Ob p x' 106 fs' ∧ List.lookup (Str.ofString "reductions") fs' = some (.ref ra) ∧ p ra = some (listOf (rvs : List Value).toArray rn) ∧ IntsAre rvs (zs rl) ∧ ((rl = [] ∧ (mach γ kers).red i = none) ∨ ∃ r l', rl = r :: l' ∧ r < γ.rules.length ∧ (mach γ kers).red i = some r) := by
 refine hide fun QQ hQQ => ?_
 obtain ⟨v, hv⟩ : ∃ v, refs[i]? = some v := ⟨_, List.getElem?_eq_getElem (by exact lnt fun q => lnq [_,_,_] [aL Z0 Z1,aL (tQ Z1) Z2,aG Z0 Z2] rfl q hi rlen)⟩
 obtain ⟨x', dx', mv', od', om', kv', rfl, px', pd', pm', its', iv', rv', rl', mvs', sh', ta', sy', tb', ao', li', nd', mem', lr', rp', lom', Dm', mp', mk', hsh'⟩ := dn i v hv
 obtain ⟨ra, rvs, rn, rfl, rb, ria⟩ := lr'
 refine hQQ ?_
 clear hQQ QQ
 have hk : kers[i]? = some (kers.getD i []) := by rw [List.getD_eq_getElem?_getD, List.getElem?_eq_getElem hi]; rfl
 have key : ∀ r, r ∈ rl' ↔ IsRed γ kers i r := fun r => by
  rw [rp'.mem_iff, red_iff mem' r]
  constructor
  ·rintro hx0_
   refine hide fun QQ hQQ => ?_
   obtain ⟨h1, h2⟩ := hx0_
   refine hQQ ?_
   clear hQQ QQ
   exact ⟨h1, _, hk, h2⟩
  ·rintro hx0_
   refine hide fun QQ hQQ => ?_
   obtain ⟨h1, l, hl, h2⟩ := hx0_
   refine hQQ ?_
   clear hQQ QQ
   rw [hk] at hl
   have e := Option.some.inj hl
   exact ⟨h1, by rw [e]; exact h2⟩
 refine ⟨x', _, ra, rvs, rn, rl', hv, Ob.of px' pd' ao', by rfl, rb, ria, ?_⟩
 cases rl' with
 | nil => exact .inl ⟨rfl, red_none.mpr fun ⟨r, hr⟩ => by have := (key r).mpr hr; cases this⟩
 | cons r l' =>
  have hr := (key r).mp (List.mem_cons_self ..)
  refine hide fun QQ hQQ => ?_
  obtain ⟨h1, l, hl, h2⟩ := id hr
  refine hQQ ?_
  clear hQQ QQ
  exact .inr ⟨r, l', rfl, (Gr.Clo.ok (ko.ker l (List.mem_of_getElem? hl)).1 h2).1, (red_some ad).mpr hr⟩
noncomputable def NumsIn (γ : Gr) (ts : List Str) : Prop := ∀ t ∈ ts, t ∈ γ.names ∧ γ.names.idxOf t < γ.tc
section
variable {w : World} {p : PH} {h : Heap} {γ : Gr}
theorem taken_spec {gr : Addr} {kers : List (List It)} {mv : Value} {fs : AL} {ts : List Str} {u : Tok} (G : Grd w p) (H : Holds p h) (g : GrAt p gr γ fs) (ok : GrOk γ) (M : AutAt w γ p gr kers mv) (cf : CFok (cfOf γ)) (ad : ∀ l ∈ kers, Adq γ l) (hab : ∀ t ∈ ts, t ∈ AB) (hin : NumsIn γ ts) (hl : ts.length ≤ 3) :
  Fn w 3 (.ref 442) [mv, .str (joinS ts) u] p h [] (fun v _ _ => v = .bool (taken (mach γ kers) 60 ([(0, .nil)], ts.map γ.names.idxOf ++ [0]))) := by
 intro A gg d1 t os RR rm kk
 have ko := aut_kers M
 have L0 := mach_ok ko ad cf
 have M0 := M
 refine hide fun QQ hQQ => ?_
 obtain ⟨x, dx, o, refs, ls, n, rfl, px, pd, ao, pls, rlen, dn, kok, k0, kb, knd⟩ := M
 refine hQQ ?_
 clear hQQ QQ
 refine call_fnD (mu := []) (fd := fnT 32) [(Str.ofString "machine", .ref x), (Str.ofString "text", .str (joinS ts) u)] [(Str.ofString "text", .str (joinS ts) u)] rfl (by kernel_rfl) G H rm (by simp) (by simp) (BindsTo.of_eq (by rfl)) (by rfl) (fun _ => by rfl) (by rfl) (by rfl) (by rfl) fun L h₁ t₁ hab' kp K hcells => ?_
 have hn1 := hab' (L + 1) (Nat.le_succ L)
 refine hide fun QQ hQQ => ?_
 obtain ⟨oT, hoT, K⟩ := K.cell (hcells (Str.ofString "machine") (L + 1) (by rfl)) (H.none hn1) (Nat.succ_ne_self L) (by simp) hn1
 have hoT : oT.data = .cell (some (.ref x)) := hoT
 obtain ⟨K, psT, hfT⟩ := K.fix hn1
 refine hQQ ?_
 clear hQQ QQ
 generalize p.add (L + 1) oT = p1 at K psT hfT
 have G := G.mono psT
 have g := g.mono psT
 refine x_ fun Qq1 Jq1 => ?_
 refine Assign_Tuple_swapped (names := [Str.ofString "pile", Str.ofString "at"]) ?_
 refine Tuple_ (r_ (List_ (r_ (m_ fun _ _ => z_ ?_))))
 refine nl K (by show 1 ≤ 2 ^ 24; decide) fun z0 h2 fz0 K => ?_
 refine r_ (m_ fun _ _ => z_ ?_)
 refine nt K (by show 2 ≤ 2 ^ 24; decide) fun ta h2 q2 ps2 hta K => ?_
 refine as_s2 K rm.hd (K.hold _ _ hta) (by kernel_rfl) (by kernel_rfl) (by rfl) (by rfl) fun h3 t3 K => ?_
 have G := G.mono ps2
 have g := g.mono ps2
 have psT := psT.trans ps2
 have hfT := ps2 _ _ hfT
 refine Jq1 _ _ (xv_ fun Qq2 Jq2 => o_ ?_)
 refine hide fun QQ hQQ => ?_
 obtain ⟨m1, m2, m3, m4, m5⟩ := mo_sgoto w.params
 refine hQQ ?_
 clear hQQ QQ
 have ob : Ob q2 x 225 _ := Ob.of (psT _ _ px) (psT _ _ pd) ao
 refine comp_eval (cl := [(Str.ofString "machine", L + 1)]) (by rfl) (fun _ => by rfl) (by rfl) (by decide) ?_
 refine n_ 2 K rfl ?_
 refine cl_str (mu := []) (its := [(z0, _)]) rfl (joinS_ascii hab) (fun _ _ _ => turn1 ..) (by decide) (by rfl) rm.hd
  (fun D i q lc mu' => (PSub q2 q) ∧ (X2 fun (vs : List Value) (c : Nat) => A3 (mu' = [(D, listOf vs.toArray c)]) (vs.length ≤ i) (IntsAre vs (zs ((ts.take i).map γ.names.idxOf)))))
  K (fun D _ => ⟨PSub.refl _, [], 0, rfl, Nat.le_refl _, .nil⟩) ?turn ?done
 case turn =>
  rintro D C i v q h' lc mu' its t' hx10_ hi K hx13_ Qt Jt
  refine hide fun QQ hQQ => ?_
  obtain ⟨c, u5, hc, rfl⟩ := hx10_
  obtain ⟨ps, vs, c', rfl, vl, viv⟩ := hx13_
  refine hQQ ?_
  clear hQQ QQ
  have hy := joinS_at hab hc
  generalize (⟨#[c]⟩ : Str) = y at hy
  refine hide fun QQ hQQ => ?_
  obtain ⟨hyn, hyt⟩ := hin y (List.mem_of_getElem? hy)
  refine hQQ ?_
  clear hQQ QQ
  have Gq := G.mono ps
  have gq := g.mono ps
  have l3 : i < ts.length := (List.getElem?_eq_some_iff.mp hy).1
  refine wpAny_assign_Name (s_ K fun h2 t2 K => ?_)
  refine tests0 ?_
  rw [if_pos (by rfl)]
  refine emit_ ?_
  refine d_ (t_ ?_)
  refine ldC (K.hold _ _ (ps _ _ hfT)) hoT (by kernel_rfl) (by rfl) (by rfl) (by kernel_rfl) ?_
  refine ga Gq K.hold ((ob.mono ps).mono K.hold) m5 (by exact lkN 1 (by kernel_rfl) rfl) rfl fun _ => ?_
  refine gm Gq K.hold (gq.ob.mono K.hold) (mo_num _) (gq.only _ (by kernel_rfl)) ?_
  refine f_ (arnz_ 0 K rfl ?_)
  refine ⟨⟨_, Gq, K.hold⟩, ?_⟩
  refine use_fn (number_spec Gq K.hold gq) (rm.deeper.less (by decide)) fun v6 p6 h6 t6 gro hv6 => ?_
  rw [if_pos hyn] at hv6
  have K := K.call gro
  refine app_ (m1 := []) K (by show vs.length ≤ 2 ^ 24; exact lnl fun q => lnq [_,_,_] [aL (tQ (tN 16777216)) Z0,aL (tQ Z1) Z2,aL Z0 Z1,aL Z2 (tN 3)] rfl q l3 vl hl) fun h7 n7 K => ?_
  refine Jt _ ⟨_, _, _, _, _, rfl, K, ps.trans gro.sub, _, n7, rfl, by simp; exact lnl fun q => lnq [_,_] [aL (tQ Z0) Z1,aL Z1 Z0] rfl q vl, ?_⟩
  rw [take_snoc hy, List.map_append]
  show IntsAre _ (zs (_ ++ [_]))
  rw [zs_app]
  exact ints_app viv hv6
 case done =>
  rintro D C oC q h' lc mu' t' K nC hC hx11_
  refine hide fun QQ hQQ => ?_
  obtain ⟨ps, vs, c, rfl, vl, viv⟩ := hx11_
  refine hQQ ?_
  clear hQQ QQ
  have hsz : (joinS ts).cps.size = ts.length := joinS_len hab
  rw [hsz, List.take_length] at viv
  rw [hsz] at vl
  refine comp_val K nC hC fun h5 K => ?_
  refine List_ (r_ (m_ fun _ _ => z_ ?_))
  rename_i uz tz
  refine nl K (by show 1 ≤ 2 ^ 24; decide) fun z1 h7 fz1 K => ?_
  refine add_lists K (K.get (.tail _ (.head _))) (K.get (.head _)) (by show vs.length + 1 ≤ 2 ^ 24; exact lnl fun q => lnq [_,_] [aL (tQ (tN 16777216)) (tQ Z0),aL Z0 Z1,aL Z1 (tN 3)] rfl q vl hl) fun na h8 fna K => ?_
  refine s_ K fun h2 t2 K => Jq2 _ _ (x_ fun Qq3 Jq3 => wpAny_For (k_ ?_))
  refine hide fun QQ hQQ => ?_
  obtain ⟨K, psn, hfn⟩ := K.fix fna
  refine hQQ ?_
  clear hQQ QQ
  have K := K.tl.tl
  have psB := ((psT.trans ps).trans psn)
  have GB := (G.mono ps).mono psn
  have gB := (g.mono ps).mono psn
  have hfT := psn _ _ (ps _ _ hfT)
  have ob := (ob.mono ps).mono psn
  generalize q.add na _ = qB at K psn hfn psB GB gB hfT ob
  have niv : IntsAre (vs ++ [Value.int 0 uz]) (zs (ts.map γ.names.idxOf ++ [0])) := by rw [zs_app]; exact ints_app viv ⟨_, rfl⟩
  have wlt : ∀ a ∈ ts.map γ.names.idxOf ++ [0], a < γ.tc := by
   intro a ha
   rcases List.mem_append.mp ha with z | z
   ·refine hide fun QQ hQQ => ?_
    obtain ⟨y, hy, rfl⟩ := List.mem_map.mp z
    refine hQQ ?_
    clear hQQ QQ
    exact (hin y hy).2
   ·rw [List.mem_singleton] at z; subst z; exact cf.tc0
  have wlen : (ts.map γ.names.idxOf ++ [0]).length = ts.length + 1 := by simp
  generalize ts.map γ.names.idxOf ++ [0] = Wd at kk niv wlt wlen
  generalize vs ++ [Value.int 0 uz] = nvs at hfn niv
  have nvl : nvs.length = Wd.length := by rw [niv.length]; simp [zs]
  refine ldB (gB_range _) GB K.hold (by kernel_rfl) rfl rfl rfl (cwt (by rfl) (ar_ (m_ fun _ _ => z_ ?_)))
  refine rg K fun rr h9 t9 a9 b9 c9 K hrr _ => ?_
  have K := ((K.pull (x := Str.ofString "numbers") (by exact lkN 0 (by kernel_rfl) rfl)).pull (x := Str.ofString "pile") (by exact lkN 2 (by kernel_rfl) rfl)).pull (x := Str.ofString "at") (by exact lkN 4 (by kernel_rfl) rfl)
  refine for_rg (n := 60) (mu := [(z0, _)]) (its := []) rm.hd rfl hrr (by decide)
   (fun i q l' mu' => (PSub qB q) ∧ (X7 fun (S : Stk) (at_ : Nat) (pa : Addr) (us : List Value) (c : Nat) (r : AL) (ut : Tok) => A7 (l' = (Str.ofString "at", .int (at_ : Nat) ut) :: (Str.ofString "pile", .ref pa) :: (Str.ofString "numbers", .ref na) :: r) (mu' = [(pa, listOf us.toArray c)]) (IntsAre us (zs (numsOf S))) (Val (mach γ kers) S) (at_ ≤ Wd.length) (S.length ≤ i + 1) (taken (mach γ kers) 60 ([(0, .nil)], Wd) = taken (mach γ kers) (60 - i) (S, Wd.drop at_))))
   K ⟨PSub.refl _, [(0, .nil)], 0, z0, _, 0, _, _, rfl, rfl, .cons _ _ .nil, .base, Nat.zero_le _, Nat.le_refl _, rfl⟩ ?turn ?done
  case done =>
   rintro q h' l' mu' t' K hx6_
   refine hide fun QQ hQQ => ?_
   obtain ⟨ps9, S, at_, pa, us, c9, r, ut, rfl, rfl, uiv, hv, hat, hS, ht⟩ := hx6_
   refine hQQ ?_
   clear hQQ QQ
   refine Jq3 _ _ (wj_ (wpAny_Constant_bool ?_))
   refine kk _ _ _ _ K.gro ?_
   rw [ht]; rfl
  case turn =>
   rintro i q h' l' mu' its t' u9 hi K hx10_ Qt Jt
   refine hide fun QQ hQQ => ?_
   obtain ⟨ps9, S, at_, pa, us, c9, r, ut, rfl, rfl, uiv, hv, hat, hS, ht⟩ := hx10_
   refine hQQ ?_
   clear hQQ QQ
   have G9 := GB.mono ps9
   refine wpAny_assign_Name (s_ K fun h2 t2 K => x_ fun Qq4 Jq4 => wpAny_If (qn_ 1 K rfl (kb_ (gB_len _) G9 K.hold (arnz_ 3 K rfl ?_))))
   refine len_l (K.hold _ _ (ps9 _ _ hfn)) (by simp; exact Int.ofNat_lt.mpr (lnt fun q => lnq [_,_,_] [aL (tN 9223372036854775808) Z0,aE Z0 Z1,aE Z1 (tQ Z2),aL Z2 (tN 3)] rfl q nvl wlen hl)) fun uln _ => ?_
   refine i_eq (h_ ?_)
   refine split_b (fun h1 => ?_) (fun h1 => ?_)
   ·have e1 : at_ = Wd.length := by
     have : (at_ : Int) = (nvs.toArray.size : Nat) := by simpa using h1
     rw [List.size_toArray] at this; exact lne (fun q => lnq [_,_] [aL (tQ Z0) Z1,aL Z1 Z0] rfl q hat) fun q => lnq [_,_,_] [aL (tQ Z0) Z1,aG Z0 Z2,aG Z2 Z1] rfl q (Int.ofNat.inj this) nvl
    refine wj_ (wpAny_Constant_bool (Jq4 _ _ (Jt _ _ (Jq3 _ _ ?_))))
    refine kk _ _ _ _ K.gro ?_
    rw [ht, e1, List.drop_length, show 60 - i = (59 - i) + 1 by exact lne (fun q => lnq [_,_,_] [aE (tA Z0 Z1) (tN 60),aG (tA Z2 Z1) (tN 59),aL (tA (tQ Z2) (tN 1)) Z0] rfl (sbC fun q => lnq [_,_] [aL (tQ (tN 60)) Z0,aE (tA Z1 Z0) (tN 59)] rfl q (sbC fun q => lnq [_] [aL (tQ (tN 59)) Z0,aL (tQ Z0) (tN 60)] rfl q hi)) (sbC fun q => lnq [_] [aL (tQ (tN 59)) Z0,aL (tQ Z0) (tN 60)] rfl q hi) q) fun q => lnq [_,_,_] [aE (tA Z0 Z1) (tN 59),aG (tA Z2 Z1) (tN 60),aL (tQ Z2) (tQ Z0)] rfl (sbC fun q => lnq [_] [aL (tQ (tN 59)) Z0,aL (tQ Z0) (tN 60)] rfl q hi) (sbC fun q => lnq [_] [aL (tQ (tN 60)) Z0,aL (tQ Z0) (tN 60)] rfl q hi) q]; rfl
   ·have e1 : at_ < Wd.length := by
     refine Nat.lt_of_le_of_ne hat fun e => ?_
     rw [← nvl] at e
     rw [e] at h1
     simp at h1
    refine hide fun QQ hQQ => ?_
    obtain ⟨q0, t0, S', rfl⟩ := val_cons hv
    have psq := psB.trans ps9
    have hq0 := val_lt ko hv (q0, t0) (List.mem_cons_self ..)
    obtain ⟨x', fs', ra, rvs, rn, rl, hx', ob', hl', hra, hri, hred⟩ := state_reds ko ad rlen dn hq0
    rw [nums_cons] at uiv
    obtain ⟨tq, htq⟩ := ints_last uiv
    refine hQQ ?_
    clear hQQ QQ
    have ul : us.length = S'.length + 1 := by rw [uiv.length]; simp [zs, nums_len]
    simp only at hq0 hx' htq
    have hSl : S'.length + 1 ≤ i + 1 := hS
    refine e_ (Jq4 _ _ (xv_ fun Qq5 Jq5 => t_ (u_ (t_ ?_))))
    refine ldC (K.hold _ _ (ps9 _ _ hfT)) hoT (by kernel_rfl) (by rfl) (by rfl) (by kernel_rfl) ?_
    refine ga G9 K.hold ((ob.mono ps9).mono K.hold) m4 (by exact lkN 0 (by kernel_rfl) rfl) rfl fun _ => ?_
    refine un_ 2 K rfl (wpAny_UnaryOp (m_ fun _ _ => i_neg fun _ _ => ?_))
    refine sub_neg (K.get (.head _)) htq (by rfl) ?_
    skip
    refine sub_list (k := (q0 : Nat)) (K.hold _ _ (psq _ _ pls)) (by exact Int.natCast_nonneg _) (by exact Int.ofNat_lt.mpr (lnt fun q => lnq [_,_] [aL (tN 9223372036854775808) Z0,aL (tQ Z0) Z1,aL Z1 (tN 16777216)] rfl q hq0 kb)) (v := .ref x') (by simpa using hx') (by rfl) ?_
    refine ga G9 K.hold ((ob'.mono psq).mono K.hold) (ao_st w.params).2.2.2.2.2.1 hl' rfl fun _ => ?_
    refine s_ K fun h2 t2 K => Jq5 _ _ (x_ fun Qq6 Jq6 => wpAny_If (qn_ 0 K rfl (List_ (z_ ?_))))
    refine nl K (by decide) fun b0 h10 fb0 K => ?_
    refine ne_l0 (vs := rvs) rm.deeper (K.hold _ _ (psq _ _ hra)) (K.get (.head _)) ?_
    have K := K.tl
    refine h_ ?_
    refine cut (fun f s' => (f = .next) ∧ (X11 fun (p6 : PH) (h6 : Heap) (t6 at6 : Nat) (pa6 : Addr) (us6 : List Value) (c6 : Nat) (r6 : AL) (gv : Int) (ug ut6 : Tok) => A4 (s' = ⟨h6, gg, d1, t6, os⟩) (PSub q p6) (W p h (List.map (fun x => x.1) ([] : Led)) L p6 h6 ((Str.ofString "goal", .int gv ug) :: (Str.ofString "at", .int (at6 : Nat) ut6) :: (Str.ofString "pile", .ref pa6) :: (Str.ofString "numbers", .ref na) :: r6) ([(pa6, listOf us6.toArray c6)] ++ its)) (((∃ (j : Nat) (T : Fo) (S6 : Stk), gv = (j : Nat) ∧ IntsAre us6 (zs (numsOf S6)) ∧ Val (mach γ kers) ((j, T) :: S6) ∧ at6 ≤ Wd.length ∧ S6.length ≤ i + 1 ∧ taken (mach γ kers) 60 ([(0, .nil)], Wd) = taken (mach γ kers) (59 - i) ((j, T) :: S6, Wd.drop at6)) ∨ (gv = -1 ∧ taken (mach γ kers) 60 ([(0, .nil)], Wd) = false))))) (fun h2 => ?_) (fun h2 => ?_) ?_
    ·refine hide fun QQ hQQ => ?_
     obtain ⟨r1, l1, rfl, hr1, hred⟩ : ∃ r l', rl = r :: l' ∧ r < γ.rules.length ∧ (mach γ kers).red q0 = some r := by
      rcases hred with ⟨rfl, _⟩ | hred
      ·have : rvs = [] := List.eq_nil_of_length_eq_zero (by rw [hri.length]; rfl)
       rw [this] at h2; cases h2
      ·exact hred
     obtain ⟨p2, u2, S2, hdrop, hv2, hnext, hnone⟩ := turn_red L0 hv hred
     obtain ⟨tr, htr⟩ := ints_at hri (k := 0) (i := (r1 : Nat)) (by rfl)
     obtain ⟨ruv, hrl, rua, ruvs, run, rfl, rub, rulen, ruall⟩ := gB.rules
     obtain ⟨rr, hrr⟩ : ∃ rr, ruvs[r1]? = some rr := ⟨_, List.getElem?_eq_getElem (by exact lnt fun q => lnq [_,_,_] [aL Z0 Z1,aG Z0 Z2,aL (tQ Z1) Z2] rfl q rulen hr1)⟩
     obtain ⟨ry, rfs, rfl, rob, _, ⟨tl, hleft⟩, ru, hright, rta, rtv, rtn, rfl, rtb, rti⟩ := ruall r1 rr hrr
     refine hQQ ?_
     clear hQQ QQ
     have hsm := gB.small
     refine xv_ fun Qq7 Jq7 => u_ (t_ (t_ ?_))
     refine ldC (K.hold _ _ (ps9 _ _ hfT)) hoT (by kernel_rfl) (by rfl) (by rfl) (by kernel_rfl) ?_
     refine ga G9 K.hold ((ob.mono ps9).mono K.hold) m5 (by exact lkN 1 (by kernel_rfl) rfl) rfl fun _ => ?_
     skip
     refine ga G9 K.hold ((gB.ob.mono ps9).mono K.hold) (ao_rules _) hrl rfl fun _ => ?_
     refine un_ 0 K rfl (m_ fun _ _ => ?_)
     refine sub_list (k := 0) (K.hold _ _ (psq _ _ hra)) (by decide) (by decide) (v := .int (r1 : Nat) tr) (by simpa using htr) (by rfl) ?_
     refine sub_list (k := (r1 : Nat)) (K.hold _ _ (ps9 _ _ rub)) (by exact Int.natCast_nonneg _) (by exact Int.ofNat_lt.mpr (lnt fun q => lnq [_,_] [aL (tN 9223372036854775808) Z0,aL (tQ Z1) (tN 1000),aL (tQ Z0) Z1] rfl q hsm.2.1 hr1)) (v := .ref ry) (by simpa using hrr) (by rfl) ?_
     refine s_ K fun h2 t2 K => Jq7 _ _ (xv_ fun Qq8 Jq8 => un_ 4 K rfl (wpAny_Slice (evalPart_none_step (evalPart_some_step (o_ (kb_ (gB_len _) G9 K.hold (arnz_ 4 K rfl ?_)))))))
     refine len_l (K.get (.head _)) (by simp; exact Int.ofNat_lt.mpr (lnt fun q => lnq [_,_,_] [aL (tN 9223372036854775808) Z0,aL (tQ Z1) (tQ Z2),aE Z0 (tQ Z1),aL (tQ Z2) (tN 60)] rfl q hSl ul hi)) fun uln _ => ?_
     refine kb_ (gB_len _) G9 K.hold (ar_ (tn_ 0 K rfl ?_))
     refine ga G9 K.hold ((rob.mono ps9).mono K.hold) (ao_right _) hright rfl fun _ => ?_
     refine z_ ?_
     have rtl : rtv.length = (γ.right r1).length := by rw [rti.length]; simp [zs]; rfl
     have hdl : (γ.right r1).length ≤ us.length := by
      have := congrArg List.length hdrop
      rw [List.length_drop, List.length_cons, List.length_cons] at this; omega
     refine len_t (K.hold _ _ (ps9 _ _ rtb)) (by simp; exact Int.ofNat_lt.mpr (lnt fun q => lnq [_,_,_,_,_] [aL (tN 9223372036854775808) Z0,aL Z1 Z2,aE Z0 Z1,aL (tQ Z3) (tQ Z4),aE Z2 (tQ Z3),aL (tQ Z4) (tN 60)] rfl q hdl rtl hSl ul hi)) fun _ _ => ?_
     refine i_sub fun _ _ => evalPart_none_step ?_
     rw [show ((us.toArray.size : Nat) : Int) - ((rtv.toArray.size : Nat) : Int) = ((us.length - (γ.right r1).length : Nat) : Int) by simp; omega]
     refine sl_l (b := us.length - (γ.right r1).length) K (K.get (.head _)) (by exact lnl fun q => lnq [_,_] [aL (tQ Z0) Z1,aL Z1 Z0] rfl q (Nat.sub_le _ _)) (by show us.length ≤ 2 ^ 24; exact lnl fun q => lnq [_,_,_] [aL (tQ (tN 16777216)) Z0,aL (tQ Z1) (tQ Z2),aE Z0 (tQ Z1),aL (tQ Z2) (tN 60)] rfl q hSl ul hi) (by rfl) fun pb h11 fpb K => ?_
     have hus2 : IntsAre (us.take (us.length - (γ.right r1).length)) (zs (numsOf ((p2, u2) :: S2))) := by
      rw [← hdrop, nums_drop, List.length_cons, ← ul, nums_cons]
      exact ints_take uiv _
     generalize us.take (us.length - (γ.right r1).length) = us2 at K hus2
     refine s_ K fun h2 t2 K => Jq8 _ _ (xv_ fun Qq9 Jq9 => d_ ?_)
     refine ldC (K.hold _ _ (ps9 _ _ hfT)) hoT (by kernel_rfl) (by rfl) (by rfl) (by kernel_rfl) ?_
     refine gm G9 K.hold ((ob.mono ps9).mono K.hold) m3 (by rfl) ?_
     refine f_ (ar_ (un_ 0 K rfl (wpAny_UnaryOp (m_ fun _ _ => i_neg fun _ _ => ?_))))
     have hp2 := val_lt ko hv2 (p2, u2) (List.mem_cons_self ..)
     simp only at hp2
     rw [nums_cons] at hus2
     refine hide fun QQ hQQ => ?_
     obtain ⟨tp, htp⟩ := ints_last hus2
     refine hQQ ?_
     clear hQQ QQ
     rw [← nums_cons] at hus2
     refine sub_neg (K.get (.head _)) htp (by rfl) ?_
     refine r_ (tn_ 1 K rfl ?_)
     refine ga G9 K.hold ((rob.mono ps9).mono K.hold) (ao_left _) hleft rfl fun _ => ?_
     refine z_ ?_
     refine ⟨⟨_, G9, K.hold⟩, ?_⟩
     refine use_fn (aut_goto (i := p2) (s := γ.left r1) G9 K.hold (M0.mono psq) hp2) (rm.deeper.less (by decide)) fun v12 p12 h12 t12 gro hgo => ?_
     have K := K.call gro
     have hS2 : S2.length + 1 ≤ S'.length + 1 := by
      have := congrArg List.length hdrop
      rw [List.length_drop, List.length_cons, List.length_cons] at this; exact lnl fun q => lnq [_,_,_] [aL (tA (tQ Z0) (tN 1)) (tQ Z1),aG Z2 (tQ Z1),aL Z2 (tQ Z0)] rfl q this (Nat.sub_le _ _)
     refine hide fun QQ hQQ => ?_
     obtain ⟨a0, w0, hw0⟩ : ∃ a w, Wd.drop at_ = a :: w := by
      cases hq : Wd.drop at_ with
      | nil => have := congrArg List.length hq; rw [List.length_drop] at this; simp at this; exact (lnq [_,_,_] [aE Z0 (tN 0),aL Z1 (tA Z0 Z2),aL (tQ Z2) Z1] rfl this (sbL _ _) e1).elim
      | cons a w => exact ⟨a, w, rfl⟩
     refine hQQ ?_
     clear hQQ QQ
     have e60 : 60 - i = (59 - i) + 1 := by exact lne (fun q => lnq [_,_,_] [aE (tA Z0 Z1) (tN 60),aG (tA Z2 Z1) (tN 59),aL (tA (tQ Z2) (tN 1)) Z0] rfl (sbC fun q => lnq [_,_] [aL (tQ (tN 60)) Z0,aE (tA Z1 Z0) (tN 59)] rfl q (sbC fun q => lnq [_] [aL (tQ (tN 59)) Z0,aL (tQ Z0) (tN 60)] rfl q hi)) (sbC fun q => lnq [_] [aL (tQ (tN 59)) Z0,aL (tQ Z0) (tN 60)] rfl q hi) q) fun q => lnq [_,_,_] [aE (tA Z0 Z1) (tN 59),aG (tA Z2 Z1) (tN 60),aL (tQ Z2) (tQ Z0)] rfl (sbC fun q => lnq [_] [aL (tQ (tN 59)) Z0,aL (tQ Z0) (tN 60)] rfl q hi) (sbC fun q => lnq [_] [aL (tQ (tN 60)) Z0,aL (tQ Z0) (tN 60)] rfl q hi) q
     rcases goto_next ko hgo with ⟨j, hj, ⟨ug, rfl⟩, hjl⟩ | ⟨hj, ug, rfl⟩
     ·refine hide fun QQ hQQ => ?_
      obtain ⟨T, hvT, htk⟩ := hnext j hj
      refine hQQ ?_
      clear hQQ QQ
      refine s_ K fun h2 t2 K => Jq9 _ _ (e_ ?_)
      have K := ((K.pull (x := Str.ofString "numbers") (by exact lkN 7 (by kernel_rfl) rfl)).pull (x := Str.ofString "pile") (by exact lkN 2 (by kernel_rfl) rfl)).pull (x := Str.ofString "at") (by exact lkN 7 (by kernel_rfl) rfl)
      have K := K.pull (x := Str.ofString "goal") (by exact lkN 3 (by kernel_rfl) rfl)
      have K := (K.perm (mu' := (pa, listOf us.toArray c9) :: (pb, listOf us2.toArray 0) :: its) (List.Perm.swap _ _ _)).tl
      refine ⟨rfl, _, _, _, _, _, _, _, _, _, _, _, rfl, gro.sub, K, .inl ⟨j, T, (p2, u2) :: S2, rfl, hus2, hvT, hat, by rw [List.length_cons]; exact lnl fun q => lnq [_,_,_] [aL (tA (tQ Z0) (tN 1)) (tQ Z1),aL (tQ Z1) (tQ Z2),aL (tQ Z2) (tQ Z0)] rfl q hS2 hSl, ?_⟩⟩
      rw [ht, hw0, e60]
      exact htk (59 - i) a0 w0
     ·refine s_ K fun h2 t2 K => Jq9 _ _ (e_ ?_)
      have K := ((K.pull (x := Str.ofString "numbers") (by exact lkN 7 (by kernel_rfl) rfl)).pull (x := Str.ofString "pile") (by exact lkN 2 (by kernel_rfl) rfl)).pull (x := Str.ofString "at") (by exact lkN 7 (by kernel_rfl) rfl)
      have K := K.pull (x := Str.ofString "goal") (by exact lkN 3 (by kernel_rfl) rfl)
      have K := (K.perm (mu' := (pa, listOf us.toArray c9) :: (pb, listOf us2.toArray 0) :: its) (List.Perm.swap _ _ _)).tl
      refine ⟨rfl, _, _, _, _, _, _, _, _, _, _, _, rfl, gro.sub, K, .inr ⟨rfl, ?_⟩⟩
      rw [ht, hw0, e60]
      exact hnone hj (59 - i) a0 w0
    ·have hred : (mach γ kers).red q0 = none := by
      rcases hred with ⟨_, hred⟩ | ⟨r1, l1, rfl, _⟩
      ·exact hred
      ·have := hri.length
       cases rvs with
       | nil => simp [zs] at this
       | cons => cases h2
     refine hide fun QQ hQQ => ?_
     obtain ⟨a0, w0, hw0⟩ : ∃ a w, Wd.drop at_ = a :: w := by
      cases hq : Wd.drop at_ with
      | nil =>
       have := congrArg List.length hq
       rw [List.length_drop] at this
       simp at this
       exact (lnq [_,_,_] [aE Z0 (tN 0),aL Z1 (tA Z0 Z2),aL (tQ Z2) Z1] rfl this (sbL _ _) e1).elim
      | cons a w => exact ⟨a, w, rfl⟩
     have ha0 : Wd[at_]? = some a0 := by
      have := congrArg (fun l : List Nat => l[0]?) hw0
      simpa using this
     have hw1 : w0 = Wd.drop (at_ + 1) := by
      have := congrArg List.tail hw0
      simpa using this.symm
     obtain ⟨hnext, hnone⟩ := turn_shift hv hred (wlt a0 (List.mem_of_getElem? ha0))
     obtain ⟨ta0, hta0⟩ := ints_at niv (zs_at ha0)
     refine hQQ ?_
     clear hQQ QQ
     have e60 : 60 - i = (59 - i) + 1 := by exact lne (fun q => lnq [_,_,_] [aE (tA Z0 Z1) (tN 60),aG (tA Z2 Z1) (tN 59),aL (tA (tQ Z2) (tN 1)) Z0] rfl (sbC fun q => lnq [_,_] [aL (tQ (tN 60)) Z0,aE (tA Z1 Z0) (tN 59)] rfl q (sbC fun q => lnq [_] [aL (tQ (tN 59)) Z0,aL (tQ Z0) (tN 60)] rfl q hi)) (sbC fun q => lnq [_] [aL (tQ (tN 59)) Z0,aL (tQ Z0) (tN 60)] rfl q hi) q) fun q => lnq [_,_,_] [aE (tA Z0 Z1) (tN 59),aG (tA Z2 Z1) (tN 60),aL (tQ Z2) (tQ Z0)] rfl (sbC fun q => lnq [_] [aL (tQ (tN 59)) Z0,aL (tQ Z0) (tN 60)] rfl q hi) (sbC fun q => lnq [_] [aL (tQ (tN 60)) Z0,aL (tQ Z0) (tN 60)] rfl q hi) q
     refine x_ fun Qq7 Jq7 => ?_
     refine Assign_Tuple_swapped (names := [Str.ofString "goal", Str.ofString "at"]) ?_
     refine Tuple_ (r_ (d_ ?_))
     refine ldC (K.hold _ _ (ps9 _ _ hfT)) hoT (by kernel_rfl) (by rfl) (by rfl) (by kernel_rfl) ?_
     refine gm G9 K.hold ((ob.mono ps9).mono K.hold) m3 (by rfl) ?_
     refine f_ (ar_ (un_ 3 K rfl (wpAny_UnaryOp (m_ fun _ _ => i_neg fun _ _ => ?_))))
     refine sub_neg (K.get (.head _)) htq (by rfl) ?_
     refine r_ (un_ 4 K rfl (n_ 2 K rfl ?_))
     refine sub_list (k := (at_ : Nat)) (K.hold _ _ (ps9 _ _ hfn)) (by exact Int.natCast_nonneg _) (by exact Int.ofNat_lt.mpr (lnt fun q => lnq [_,_,_] [aL (tN 9223372036854775808) Z0,aL (tQ Z0) Z1,aE Z1 (tQ Z2),aL Z2 (tN 3)] rfl q e1 wlen hl)) (v := .int (a0 : Nat) ta0) (by simpa using hta0) (by rfl) ?_
     refine z_ ?_
     refine ⟨⟨_, G9, K.hold⟩, ?_⟩
     refine use_fn (aut_goto (i := q0) (s := a0) G9 K.hold (M0.mono psq) hq0) (rm.deeper.less (by decide)) fun v12 p12 h12 t12 gro hgo => ?_
     have K := K.call gro
     have G12 := G9.mono gro.sub
     refine r_ (on_ 2 K rfl (m_ fun _ _ => i_add fun _ _ => z_ ?_))
     refine nt K (by show 2 ≤ 2 ^ 24; decide) fun tp h13 q13 ps13 htp K => ?_
     refine as_s2 K rm.hd (K.hold _ _ htp) (by kernel_rfl) (by kernel_rfl) (by rfl) (by rfl) fun h14 t14 K => ?_
     rcases goto_next ko hgo with ⟨j, hj, ⟨ug, rfl⟩, hjl⟩ | ⟨hj, ug, rfl⟩
     ·refine hide fun QQ hQQ => ?_
      obtain ⟨T, hvT, htk⟩ := hnext j hj
      refine hQQ ?_
      clear hQQ QQ
      refine Jq7 _ _ (e_ ?_)
      have K := (((K.pull (x := Str.ofString "numbers") (by exact lkN 6 (by kernel_rfl) rfl)).pull (x := Str.ofString "pile") (by exact lkN 6 (by kernel_rfl) rfl)).pull (x := Str.ofString "at") (by exact lkN 3 (by kernel_rfl) rfl)).pull (x := Str.ofString "goal") (by exact lkN 3 (by kernel_rfl) rfl)
      refine ⟨rfl, _, _, _, at_ + 1, _, _, _, _, _, _, _, rfl, gro.sub.trans ps13, K, .inl ⟨j, T, (q0, t0) :: S', rfl, by rw [nums_cons]; exact uiv, hvT, e1, hS, ?_⟩⟩
      rw [ht, hw0, e60, ← hw1]
      exact htk (59 - i) w0
     ·refine Jq7 _ _ (e_ ?_)
      have K := (((K.pull (x := Str.ofString "numbers") (by exact lkN 6 (by kernel_rfl) rfl)).pull (x := Str.ofString "pile") (by exact lkN 6 (by kernel_rfl) rfl)).pull (x := Str.ofString "at") (by exact lkN 3 (by kernel_rfl) rfl)).pull (x := Str.ofString "goal") (by exact lkN 3 (by kernel_rfl) rfl)
      refine ⟨rfl, _, _, _, at_ + 1, _, _, _, _, _, _, _, rfl, gro.sub.trans ps13, K, .inr ⟨rfl, ?_⟩⟩
      rw [ht, hw0, e60]
      exact hnone hj (59 - i) w0
    ·rintro f s' hx2_
     refine hide fun QQ hQQ => ?_
     obtain ⟨rfl, p6, h6, t6, at6, pa6, us6, c6, r6, gv, ug, ut6, rfl, ps6, K, hcase⟩ := hx2_
     refine hQQ ?_
     clear hQQ QQ
     have G6 := G9.mono ps6
     try dsimp only
     refine Jq6 _ _ (x_ fun Qq7 Jq7 => wpAny_If (qn_ 0 K rfl (m_ fun _ _ => i_lt (h_ ?_))))
     refine PyProof.Rows.split_dec (fun h2 => ?_) (fun h2 => ?_)
     ·refine wj_ (wpAny_Constant_bool (Jq7 _ _ (Jt _ _ (Jq3 _ _ ?_))))
      refine kk _ _ _ _ K.gro ?_
      rcases hcase with ⟨j, T, S6, rfl, _⟩ | ⟨_, e⟩
      ·omega
      ·rw [e]
     ·refine hide fun QQ hQQ => ?_
      obtain ⟨j, T, S6, rfl, uiv6, hv6, hat6, hS6, ht6⟩ := hcase.resolve_right (fun e => by rw [e.1] at h2; exact h2 (by decide))
      refine hQQ ?_
      clear hQQ QQ
      refine e_ (Jq7 _ _ (xv_ fun Qq8 Jq8 => on_ 2 K rfl (List_ (rnz_ 0 K rfl ?_))))
      refine nl K (by show 1 ≤ 2 ^ 24; decide) fun z6 h15 fz6 K => ?_
      have hu6 : us6.length = S6.length := by rw [uiv6.length]; simp [zs, nums_len]
      refine add_lists K (K.get (.tail _ (.head _))) (K.get (.head _)) (by show us6.length + 1 ≤ 2 ^ 24; exact lnl fun q => lnq [_,_,_] [aL (tQ (tN 16777216)) (tQ Z0),aE Z0 Z1,aL Z1 (tQ Z2),aL (tQ Z2) (tN 60)] rfl q hu6 hS6 hi) fun pc h16 fpc K => ?_
      refine s_ K fun h2 t2 K => Jq8 _ _ (e_ (Jt _ _ ?_))
      have K := ((K.pull (x := Str.ofString "numbers") (by exact lkN 4 (by kernel_rfl) rfl)).pull (x := Str.ofString "pile") (by exact lkN 1 (by kernel_rfl) rfl)).pull (x := Str.ofString "at") (by exact lkN 4 (by kernel_rfl) rfl)
      have K := K.led (mu' := [(pc, listOf (us6 ++ [Value.int (j : Nat) ug]).toArray 0)] ++ its) (fun z hz => by
       rcases List.mem_cons.mp hz with rfl | hz
       ·exact .head _
       ·exact .tail _ (.tail _ (.tail _ hz))) (by
       have := K.nodup
       simp only [List.map_cons, List.nodup_cons, List.cons_append, List.nil_append, List.mem_cons, not_or] at this ⊢
       exact ⟨this.1.2.2, this.2.2.2⟩)
      refine ⟨_, _, _, _, _, rfl, K, ps9.trans ps6, (j, T) :: S6, at6, pc, _, 0, _, _, rfl, rfl, ?_, hv6, hat6, by rw [List.length_cons]; exact lnl fun q => lnq [_,_] [aL (tA (tA (tQ Z0) (tN 1)) (tN 1)) (tQ Z1),aL Z1 (tQ Z0)] rfl q hS6, ?_⟩
      ·rw [nums_cons, zs_app]; exact ints_app uiv6 ⟨_, rfl⟩
      ·rw [ht6, show 60 - (i + 1) = 59 - i by exact lne (fun q => lnq [_,_,_] [aE (tA Z0 (tQ Z1)) (tN 60),aG (tA Z2 Z1) (tN 59),aL (tQ Z2) Z0] rfl (sbC fun q => lnq [_,_] [aL (tQ (tN 60)) (tQ Z0),aE (tA Z1 Z0) (tN 59)] rfl q (sbC fun q => lnq [_] [aL (tQ (tN 59)) Z0,aL (tQ Z0) (tN 60)] rfl q hi)) (sbC fun q => lnq [_] [aL (tQ (tN 59)) Z0,aL (tQ Z0) (tN 60)] rfl q hi) q) fun q => lnq [_,_,_] [aE (tA Z0 Z1) (tN 59),aG (tA Z2 (tQ Z1)) (tN 60),aL (tQ Z2) Z0] rfl (sbC fun q => lnq [_,_] [aL (tQ (tN 59)) Z0,aE (tA Z1 (tQ Z0)) (tN 60)] rfl q (sbC fun q => lnq [_] [aL (tQ (tN 60)) (tQ Z0),aL (tQ Z0) (tN 60)] rfl q hi)) (sbC fun q => lnq [_] [aL (tQ (tN 60)) (tQ Z0),aL (tQ Z0) (tN 60)] rfl q hi) q]
end

section
variable {w : World} {A : Around} {E : Value → Shared → Prop} {g : Array GenState} {d : Drawn} {t : Nat} {os : OsState} {env : Env}
variable {p0 p : PH} {h0 h h' h1 : Heap} {X : List Addr} {L C : Addr} {l lc : AL} {mu its m1 m2 : Led}
theorem ci_listS {elt target iter t2 i2 : PySem.Expr} {ifs ifs2 : List PySem.Expr} {scope : Scope} {pos : Pos} {acc : Value} {Q : Shared → Prop} {a : Addr} {vs : List Value}
  (ht : isName t2 = true) (hh : A.handled = none) (Inv : Nat → PH → AL → Led → Prop) (K : W p0 h0 X L p h l (mu ++ its)) (I : Inv 0 p l mu) {m : Nat} (sr0 : h.get? a = some (listOf vs.toArray m))
  (src : ∀ i p h l mu its, W p0 h0 X L p h l (mu ++ its) → Inv i p l mu → ∃ m, h.get? a = some (listOf vs.toArray m))
  (turn : ∀ i v p h l mu its t, vs[i]? = some v → i < vs.length → W p0 h0 X L p h l (mu ++ its) → Inv i p l mu →
   ∀ Qt : Shared → Prop, ImS (fun s'' => X5 fun p' h' l' mu' t' => A3 (s'' = ⟨h', g, d, t', os⟩) (W p0 h0 X L p' h' l' (mu' ++ its)) (Inv (i + 1) p' l' mu')) Qt →
   wpAny (model PR w) A (assign t2 env v) (fun _ s => wpAny (model PR w) A (tests ifs2 env) (fun ok s' =>
    if ok = true then wpAny (model PR w) A (emit elt acc env) (fun _ s'' => Qt s'') (fun _ _ => False) s'
    else Qt s') (fun _ _ => False) s) (fun _ _ => False) ⟨h, g, d, t, os⟩)
  (done : ∀ p h l mu t, W p0 h0 X L p h l (mu ++ its) → Inv vs.length p l mu → Q ⟨h, g, d, t, os⟩) :
  wpAny (model PR w) A (pyIter (.ref a)) (fun it s => codeAny (model PR w) A (.compStart (.ListComp elt [⟨target, iter, ifs, 0⟩, ⟨t2, i2, ifs2, 0⟩] scope pos) 1 it acc env) (fun r s' => (∃ f, r = .ok f) ∧ Q s') s) E ⟨h, g, d, t, os⟩ := ci_list (Q := fun _ s => Q s) ht hh Inv K I sr0 src turn done
theorem ci_tupS {elt target iter t2 i2 : PySem.Expr} {ifs ifs2 : List PySem.Expr} {scope : Scope} {pos : Pos} {acc : Value} {Q : Shared → Prop} {a : Addr} {vs : List Value}
  (ht : isName t2 = true) (hh : A.handled = none) (Inv : Nat → PH → AL → Led → Prop) (K : W p0 h0 X L p h l (mu ++ its)) (I : Inv 0 p l mu) {m : Nat} (sr0 : h.get? a = some (tupOf vs.toArray m))
  (src : ∀ i p h l mu its, W p0 h0 X L p h l (mu ++ its) → Inv i p l mu → ∃ m, h.get? a = some (tupOf vs.toArray m))
  (turn : ∀ i v p h l mu its t, vs[i]? = some v → i < vs.length → W p0 h0 X L p h l (mu ++ its) → Inv i p l mu →
   ∀ Qt : Shared → Prop, ImS (fun s'' => X5 fun p' h' l' mu' t' => A3 (s'' = ⟨h', g, d, t', os⟩) (W p0 h0 X L p' h' l' (mu' ++ its)) (Inv (i + 1) p' l' mu')) Qt →
   wpAny (model PR w) A (assign t2 env v) (fun _ s => wpAny (model PR w) A (tests ifs2 env) (fun ok s' =>
    if ok = true then wpAny (model PR w) A (emit elt acc env) (fun _ s'' => Qt s'') (fun _ _ => False) s'
    else Qt s') (fun _ _ => False) s) (fun _ _ => False) ⟨h, g, d, t, os⟩)
  (done : ∀ p h l mu t, W p0 h0 X L p h l (mu ++ its) → Inv vs.length p l mu → Q ⟨h, g, d, t, os⟩) :
  wpAny (model PR w) A (pyIter (.ref a)) (fun it s => codeAny (model PR w) A (.compStart (.ListComp elt [⟨target, iter, ifs, 0⟩, ⟨t2, i2, ifs2, 0⟩] scope pos) 1 it acc env) (fun r s' => (∃ f, r = .ok f) ∧ Q s') s) E ⟨h, g, d, t, os⟩ := ci_tup (Q := fun _ s => Q s) ht hh Inv K I sr0 src turn done
end

noncomputable abbrev RL := Str × List Str
theorem stored_zip : ∀ (zs : List (RL × Addr)) (es : List (Str × Addr)), ∃ es' : List (Str × Addr), storedAll (es.map fun e => (e.1, Value.ref e.2)) (zs.map fun z => (z.1.1, Value.ref z.2)) = es'.map (fun e => (e.1, Value.ref e.2)) ∧ es'.map (·.1) = (zs.map (·.1)).foldl leftStep (es.map (·.1)) ∧ ∀ e ∈ es', e ∈ es ∨ ∃ z ∈ zs, e = (z.1.1, z.2)
 | [], es => ⟨es, rfl, rfl, fun e he => .inl he⟩
 | z :: zs, es => by
  by_cases hm : z.1.1 ∈ es.map (·.1)
  ·have e1 : stored (es.map fun e => (e.1, Value.ref e.2)) z.1.1 (.ref z.2) = (es.map fun e => if e.1 = z.1.1 then (e.1, z.2) else e).map fun e => (e.1, Value.ref e.2) := by
    unfold stored
    rw [if_pos (by
     obtain ⟨e, he, h⟩ := List.mem_map.mp hm
     exact List.any_eq_true.mpr ⟨_, List.mem_map_of_mem he, by simpa using h⟩), List.map_map, List.map_map]
    refine List.map_congr_left fun e _ => ?_
    simp only [Function.comp]
    split <;> rfl
   have e2 : (es.map fun e => if e.1 = z.1.1 then (e.1, z.2) else e).map (·.1) = es.map (·.1) := by
    rw [List.map_map]
    refine List.map_congr_left fun e _ => ?_
    simp only [Function.comp]
    split <;> rfl
   obtain ⟨es', a1, a2, a3⟩ := stored_zip zs (es.map fun e => if e.1 = z.1.1 then (e.1, z.2) else e)
   refine ⟨es', ?_, ?_, fun e he => ?_⟩
   ·rw [← a1, ← e1]; rfl
   ·rw [a2, e2, List.map_cons, List.foldl_cons, leftStep_old hm]
   ·rcases a3 e he with h | ⟨y, h1, h2⟩
    ·obtain ⟨e0, h0, rfl⟩ := List.mem_map.mp h
     split
     ·rename_i q; exact .inr ⟨z, List.mem_cons_self .., by rw [q]⟩
     ·exact .inl h0
    ·exact .inr ⟨y, List.mem_cons_of_mem _ h1, h2⟩
  ·have e1 : stored (es.map fun e => (e.1, Value.ref e.2)) z.1.1 (.ref z.2) = (es ++ [(z.1.1, z.2)]).map fun e => (e.1, Value.ref e.2) := by
    rw [stored_new (by rw [List.map_map]; exact hm), List.map_append]; rfl
   obtain ⟨es', a1, a2, a3⟩ := stored_zip zs (es ++ [(z.1.1, z.2)])
   refine ⟨es', ?_, ?_, fun e he => ?_⟩
   ·rw [← a1, ← e1]; rfl
   ·rw [a2, List.map_cons, List.foldl_cons, leftStep_new hm, List.map_append]; rfl
   ·rcases a3 e he with h | ⟨y, h1, h2⟩
    ·rcases List.mem_append.mp h with h | h
     ·exact .inl h
     ·rw [List.mem_singleton] at h; exact .inr ⟨z, List.mem_cons_self .., h⟩
    ·exact .inr ⟨y, List.mem_cons_of_mem _ h1, h2⟩
theorem entries {R : Raw} {as : List Addr} (hl : as.length = R.length) (nd : as.Nodup) : ∃ es : List (Str × Addr), storedAll [] ((R.zip as).map fun z => (z.1.1, Value.ref z.2)) = es.map (fun e => (e.1, Value.ref e.2)) ∧ es.map (·.1) = lefts R ∧ (∀ e ∈ es, e.2 ∈ as) ∧ (es.map (·.2)).Nodup := by
 obtain ⟨es, a1, a2, a3⟩ := stored_zip (R.zip as) []
 have a3 : ∀ e ∈ es, ∃ z ∈ R.zip as, e = (z.1.1, z.2) := fun e he => (a3 e he).resolve_left (by simp)
 have a2 : es.map (·.1) = lefts R := by rw [a2, List.map_fst_zip (by exact lnl fun q => lnq [_,_] [aL (tQ Z0) Z1,aG Z0 Z1] rfl q hl)]; rfl
 refine ⟨es, a1, a2, fun e he => ?_, ?_⟩
 ·obtain ⟨z, hz, rfl⟩ := a3 e he
  exact (List.of_mem_zip hz).2
 ·have n1 := lefts_nodup R
  rw [← a2] at n1
  have key : ∀ e ∈ es, ∀ f ∈ es, e.2 = f.2 → e.1 = f.1 := fun e he f hf q => by
   obtain ⟨y, hy, rfl⟩ := a3 e he
   obtain ⟨z, hz, rfl⟩ := a3 f hf
   obtain ⟨i, hi⟩ := List.getElem?_of_mem hy
   obtain ⟨j, hj⟩ := List.getElem?_of_mem hz
   obtain ⟨i1, i2⟩ := List.getElem?_zip_eq_some.mp hi
   obtain ⟨j1, j2⟩ := List.getElem?_zip_eq_some.mp hj
   have : i = j := (List.getElem?_inj (List.getElem?_eq_some_iff.mp i2).1 nd).mp (by rw [i2, j2]; exact congrArg some q)
   subst this
   rw [i1] at j1
   injection j1 with j1
   show y.1.1 = z.1.1
   rw [j1]
  rw [List.nodup_iff_pairwise_ne, List.pairwise_map] at n1 ⊢
  exact n1.imp_of_mem fun he hf ne q => ne (key _ he _ hf q)
theorem lr_lefts {R : Raw} {k : Nat} {F E : Raw} (h : LawRaw R k F E) : ∀ y ∈ S3.take k, y ∈ lefts R := fun y hy => by
 rw [← h.first] at hy
 obtain ⟨x, hx, rfl⟩ := List.mem_map.mp hy
 exact left_of (by rw [h.cat]; exact List.mem_append_left _ hx)
theorem lr_syms {R : Raw} {k : Nat} {F E : Raw} (h : LawRaw R k F E) {x : RL} (hx : x ∈ R) : ∀ y ∈ x.2, y ∈ lefts R ∨ y ∈ AB := fun y hy => (h.syms x hx y hy).elim (fun z => .inl (lr_lefts h y z)) .inr
theorem wd_len {R : Raw} {xs : List Str} {w : Str} (h : Wd R xs w) : w.length ≤ 3 := by
 obtain ⟨ts, _, h2, h3, rfl⟩ := h
 rw [joinS_len h2]; exact h3
theorem rows_len {R : Raw} {D : Wds} (s : WSound R D) {ys : List Str} (hy : ∀ y ∈ ys, y ∈ lefts R ∨ y ∈ AB) {w : Str} (hw : w ∈ ys.foldl (stepR (lefts R) D) [⟨#[]⟩]) : w.length ≤ 3 :=
 wd_len (rows_sound s hy (zs := []) (fun w hw => by rw [List.mem_singleton] at hw; subst hw; exact Wd.nil R) w hw)
noncomputable def Wds.add (D : Wds) (x w : Str) : Wds := fun y => if y = x then D x ++ [w] else D y
theorem Wds.add_self {D : Wds} {x w : Str} : D.add x w x = D x ++ [w] := if_pos rfl
theorem Wds.add_ne {D : Wds} {x w y : Str} (h : y ≠ x) : D.add x w y = D y := if_neg h
noncomputable def tot (ls : List Str) (D : Wds) : Nat := (ls.map fun x => (D x).length).sum
theorem tot_add {x w : Str} {D : Wds} : ∀ {ls : List Str}, x ∈ ls → tot ls D < tot ls (D.add x w)
 | y :: ls, h => by
  unfold tot
  rw [List.map_cons, List.map_cons, List.sum_cons, List.sum_cons]
  have ge : ∀ y : Str, (D y).length ≤ (D.add x w y).length := fun y => by
   unfold Wds.add
   split
   ·rename_i e; subst e; simp
   ·exact Nat.le_refl _
  have ge2 : ∀ ls : List Str, tot ls D ≤ tot ls (D.add x w) := fun ls => by
   induction ls with
   | nil => exact Nat.le_refl _
   | cons a l ih => unfold tot at ih ⊢; rw [List.map_cons, List.map_cons, List.sum_cons, List.sum_cons]; exact Nat.add_le_add (ge a) ih
  rcases List.mem_cons.mp h with rfl | h
  ·have := ge2 ls
   unfold tot at this
   rw [Wds.add_self, List.length_append]
   simp; exact lnt fun q => lnq [_,_,_] [aL (tA (tQ Z0) Z1) (tA Z0 Z2),aL Z2 Z1] rfl q this
  ·have := tot_add (w := w) (D := D) h
   have := ge y
   unfold tot at *
   exact lnt fun q => lnq [_,_,_,_] [aL (tA Z0 Z1) (tA Z2 Z3),aL Z2 Z0,aL (tQ Z3) Z1] rfl q this (by assumption)
theorem tot_le {R : Raw} {D : Wds} (ok : RawOk R) (s : WSound R D) (nd : ∀ x ∈ lefts R, (D x).Nodup) : tot (lefts R) D ≤ 45 := by
 have h3 : (lefts R).length ≤ 3 := nodup_str_le (U := S3) (lefts_nodup R) (lefts_sub ok)
 have : ∀ ls : List Str, (∀ x ∈ ls, (D x).length ≤ 15) → tot ls D ≤ ls.length * 15 := fun ls => by
  induction ls with
  | nil => intro _; exact Nat.le_refl _
  | cons a l ih =>
   intro h
   have h1 := ih fun x hx => h x (List.mem_cons_of_mem _ hx)
   have h2 := h a (List.mem_cons_self ..)
   unfold tot at *
   rw [List.map_cons, List.sum_cons, List.length_cons]; exact lnl fun q => lnq [_,_,_] [aL (tA (tR (tQ Z0) 15) (tN 1)) (tA Z1 Z2),aL Z1 (tN 15),aL Z2 (tR Z0 15)] rfl q h2 h1
 have := this _ fun x hx => words_le s hx (nd x hx)
 exact lnl fun q => lnq [_,_] [aL (tQ (tN 45)) Z0,aL Z0 (tR Z1 15),fL 15 Z1 (tN 3)] rfl q this h3
theorem WSound.add {R : Raw} {D : Wds} (s : WSound R D) {x w : Str} (hw : Wd R [x] w) : WSound R (D.add x w) := fun y hy v hv => by
 unfold Wds.add at hv
 split at hv
 ·rename_i e; subst e
  rcases List.mem_append.mp hv with h | h
  ·exact s y hy v h
  ·rw [List.mem_singleton] at h; subst h; exact hw
 ·exact s y hy v hv
theorem nodup_add {ls : List Str} {D : Wds} {x w : Str} (nd : ∀ y ∈ ls, (D y).Nodup) (hw : w ∉ D x) (hx : x ∈ ls) : ∀ y ∈ ls, (D.add x w y).Nodup := fun y hy => by
 unfold Wds.add
 split
 ·rename_i e; subst e
  exact List.nodup_append.mpr ⟨nd y hy, (by simp), fun a ha b hb e => by
   rw [List.mem_singleton] at hb; subst hb; subst e; exact hw ha⟩
 ·exact nd y hy
theorem opts_le {R : Raw} {D : Wds} (s : WSound R D) (nd : ∀ x ∈ lefts R, (D x).Nodup) (y : Str) : (opts (lefts R) D y).length ≤ 15 := by
 unfold opts
 split
 ·rename_i h; exact words_le s h (nd y h)
 ·exact Nat.le_of_lt_succ (by show 1 < 16; decide)
theorem stepR_snoc (ls : List Str) (D : Wds) (rows : List Str) (row y : Str) : stepR ls D (rows ++ [row]) y = stepR ls D rows y ++ ((opts ls D y).filter fun w => (row ++ w).length ≤ 3).map (row ++ ·) := by
 unfold stepR
 rw [List.flatMap_append, List.flatMap_cons, List.flatMap_nil, List.append_nil]
theorem stepR_len {ls : List Str} {D : Wds} {y : Str} (h : (opts ls D y).length ≤ 15) : ∀ rows : List Str, (stepR ls D rows y).length ≤ rows.length * 15
 | [] => Nat.le_refl _
 | row :: rows => by
  have h1 := stepR_len h rows
  unfold stepR at *
  rw [List.flatMap_cons, List.length_append, List.length_map, List.length_cons]
  have := List.length_filter_le (fun w => decide ((row ++ w).length ≤ 3)) (opts ls D y)
  exact lnl fun q => lnq [_,_,_,_] [aL (tA (tR (tQ Z0) 15) (tN 1)) (tA Z1 Z2),aL Z1 Z3,aL Z2 (tR Z0 15),aL Z3 (tN 15)] rfl q this h1 h
theorem filt_t {p : Str → Bool} {l : List Str} {x : Str} (h : p x = true) : (l ++ [x]).filter p = l.filter p ++ [x] := by
 rw [List.filter_append, List.filter_cons, if_pos h]; rfl
theorem filt_f {p : Str → Bool} {l : List Str} {x : Str} (h : ¬ p x = true) : (l ++ [x]).filter p = l.filter p := by
 rw [List.filter_append, List.filter_cons, if_neg h]; exact List.append_nil _
section
variable {w : World} {A : Around} {E : Value → Shared → Prop} {g : Array GenState} {d : Drawn} {t : Nat} {os : OsState} {env : Env}
variable {p0 p : PH} {h0 h h' : Heap} {X : List Addr} {L : Addr} {l : AL} {mu m1 m2 : Led}
theorem as_ct {x y : Str} {px py pos : Pos} {k : Nat} {a c : Addr} {o : Obj} {v₀ : Option Value} {v1 v2 : Value} {n : Nat} {Q : Unit → Shared → Prop} (K : W p0 h0 X L p h l (m1 ++ (c, o) :: m2)) (hh : A.handled = none) (ha : h.get? a = some (tupOf [v1, v2].toArray n))
  (hv : o.data = .cell v₀) (hx : env.kindOf x = some .cell) (hc : env.cells.lookup x = some c) (hy : env.kindOf y = some .local) (hk : env.scope.kind = .function) (he : env.locals = L)
  (q : ∀ h' t' o', o'.data = .cell (some v1) → W p0 h0 X L p h' ((y, v2) :: l) (m1 ++ (c, o') :: m2) → Q () ⟨h', g, d, t', os⟩) : wpAny (model PR w) A (assign (.Tuple [.Name x px, .Name y py] k pos) env (.ref a)) Q E ⟨h, g, d, t, os⟩ := by
 refine wpAny_assign_Tuple (s := ⟨h, g, d, t, os⟩) (items := [v1, v2].toArray) hh ⟨_, ha, rfl, _, rfl⟩ rfl rfl fun h2 hs => ?_
 have K2 := K.grow fun b o e => hs b o (Nat.ne_of_lt (Heap.lt_size e)) e
 show wpAny _ _ (assignInOrder [assign (.Name x px) env, assign (.Name y py) env] [v1, v2]) _ _ _
 unfold assignInOrder
 refine wpAny_bind (wpAny_holding (wpAny_assign_Name (stC K2 hv hx hk hc fun h3 o3 ho3 K3 => ?_)))
 unfold assignInOrder
 refine wpAny_bind (wpAny_holding (wpAny_assign_Name (st K3 hy hk he fun h4 t4 K4 => ?_)))
 unfold assignInOrder
 exact wpAny_pure (q _ _ _ ho3 K4)
theorem dg_v {κ : Type} [DecidableEq κ] {knd : KeyKind PR w κ} {a : Addr} {o : Obj} {kvs : List (κ × Value)} {k : κ} {key dflt v : Value} {Q : Value → Shared → Prop} (ha : h.get? a = some o) (D : DO knd o kvs) (hd : (a == sysModules) = false) (hk : knd.is k key = true) (e : (valueAt kvs k).getD dflt = v)
  (q : ∀ t', Q v ⟨h, g, d, t', os⟩) : wpAny (model PR w) A (call (.builtin "dict.get") [.ref a, key, dflt]) Q E ⟨h, g, d, t, os⟩ :=
 dg_ ha D hd hk fun t' => by rw [e]; exact q t'
end
noncomputable def Tb (es : List (Str × Addr)) (bl : List (Addr × List Value × Nat)) (D : Wds) : Prop := bl.map (·.1) = es.map (·.2) ∧ ∀ (j : Nat) e x, bl[j]? = some e → es[j]? = some x → StrsAre e.2.1 (D x.1)
theorem Tb.get {es : List (Str × Addr)} {bl : List (Addr × List Value × Nat)} {D : Wds} (T : Tb es bl D) {x : Str} (hx : x ∈ es.map (·.1)) (nd : (es.map (·.1)).Nodup) :
  ∃ (j : Nat) (a : Addr) (vj : List Value) (nj : Nat), es[j]? = some (x, a) ∧ bl[j]? = some (a, vj, nj) ∧ StrsAre vj (D x) ∧ valueAt (es.map fun e => (e.1, Value.ref e.2)) x = some (.ref a) := by
 obtain ⟨⟨x', a⟩, he, rfl⟩ := List.mem_map.mp hx
 obtain ⟨j, hj⟩ := List.getElem?_of_mem he
 have h1 : (bl.map (·.1))[j]? = some a := by rw [T.1, List.getElem?_map, hj]; rfl
 rw [List.getElem?_map] at h1
 obtain ⟨⟨a', vj, nj⟩, hb, rfl⟩ := Option.map_eq_some_iff.mp h1
 refine ⟨j, a', vj, nj, hj, hb, T.2 j _ _ hb hj, valueAt_mem ?_ (List.mem_map.mpr ⟨_, he, rfl⟩)⟩
 rw [List.map_map]; exact nd
theorem Tb.add {es : List (Str × Addr)} {bl : List (Addr × List Value × Nat)} {D : Wds} (T : Tb es bl D) {x w : Str} {j : Nat} {a : Addr} {vj : List Value} {nj n' : Nat} {u : Tok} (nd : (es.map (·.1)).Nodup) (he : es[j]? = some (x, a)) (hb : bl[j]? = some (a, vj, nj)) :
  Tb es (bl.set j (a, vj ++ [.str w u], n')) (D.add x w) := by
 have hjb := (List.getElem?_eq_some_iff.mp hb).1
 refine ⟨?_, fun k e y h1 h2 => ?_⟩
 ·rw [← T.1, List.map_set]
  refine List.ext_getElem? fun k => ?_
  rw [List.getElem?_set]
  split
  ·rename_i ek
   subst ek
   rw [if_pos (by rw [List.length_map]; exact hjb), List.getElem?_map, hb]; rfl
  ·rfl
 ·rw [List.getElem?_set] at h1
  split at h1
  ·rename_i ek
   subst ek
   cases h1
   rw [he] at h2; cases h2
   show StrsAre (vj ++ [.str w u]) (D.add x w x)
   rw [Wds.add_self]
   exact strs_app (T.2 j _ _ hb he) (.cons _ _ .nil)
  ·rename_i ek
   have hne : y.1 ≠ x := fun q => ek (by
    have e1 : (es.map (·.1))[j]? = some x := by rw [List.getElem?_map, he]; rfl
    have e2 : (es.map (·.1))[k]? = some x := by rw [List.getElem?_map, h2]; exact congrArg some q
    exact (List.getElem?_inj (List.getElem?_eq_some_iff.mp e1).1 nd).mp (by rw [e1, e2]))
   rw [Wds.add_ne hne]
   exact T.2 k e y h1 h2
theorem bl_split {bl : List (Addr × List Value × Nat)} {j : Nat} {e : Addr × List Value × Nat} (hb : bl[j]? = some e) (e' : Addr × List Value × Nat) (its : Led) : bl.map blL ++ its = (bl.take j).map blL ++ blL e :: ((bl.drop (j + 1)).map blL ++ its) ∧ (bl.set j e').map blL ++ its = (bl.take j).map blL ++ blL e' :: ((bl.drop (j + 1)).map blL ++ its) := by
 have hj := (List.getElem?_eq_some_iff.mp hb).1
 have e1 : bl = bl.take j ++ e :: bl.drop (j + 1) := by
  rw [← (List.getElem?_eq_some_iff.mp hb).2, List.getElem_cons_drop, List.take_append_drop]
 constructor
 ·conv => lhs; rw [e1]
  simp
 ·rw [List.set_eq_take_append_cons_drop, if_pos hj]; simp

section
variable {w : World} {p : PH} {h : Heap}
theorem words_spec {R : Raw} {k : Nat} {F E : Raw} {v : Value} {u : Tok} (G : Grd w p) (H : Holds p h) (V : PairsAt p v R) (LR : LawRaw R k F E) :
  Fn w 3 (.ref 432) [v, .int 3 u] p h [] (fun v p' _ => X4 fun (a : Addr) (o : Obj) (kvs : List (Str × Value)) (D : Wds) => A7 (v = .ref a) (p' a = some o) (DO (PySem.strKind PR w) o kvs) ((a == sysModules) = false) (WSound R D) (WClosed R D) (∀ x ∈ lefts R, ∃ lv, valueAt kvs x = some lv ∧ LS p' lv (D x))) := by
 intro A gg d1 t os RR rm kk
 refine hide fun QQ hQQ => ?_
 obtain ⟨va, pvs, pn, rfl, pb, plen, pall⟩ := V
 refine hQQ ?_
 clear hQQ QQ
 refine call_fnD (mu := []) (fd := fnT 30) [(Str.ofString "pairs", .ref va), (Str.ofString "most", .int 3 u)] [(Str.ofString "pairs", .ref va)] rfl (by kernel_rfl) G H rm (by simp) (by simp) (BindsTo.of_eq (by rfl)) (by rfl) (fun _ => by rfl) (by rfl) (by rfl) (by rfl) fun L h₁ t₁ hab kp K hcells => ?_
 have hn1 := hab (L + 1) (Nat.le_succ L)
 have hn2 := hab (L + 2) (Nat.le_trans (Nat.le_succ L) (Nat.le_succ _))
 have hn3 := hab (L + 3) (Nat.le_trans (Nat.le_trans (Nat.le_succ L) (Nat.le_succ _)) (Nat.le_succ _))
 refine hide fun QQ hQQ => ?_
 obtain ⟨oP, hoP, K⟩ := K.cell (hcells (Str.ofString "part") (L + 3) (by rfl)) (H.none hn3) (Nat.ne_of_gt (show L < L + 3 from Nat.lt_add_of_pos_right (by decide))) (by simp) hn3
 obtain ⟨oF, hoF, K⟩ := K.cell (hcells (Str.ofString "found") (L + 2) (by rfl)) (H.none hn2) (Nat.ne_of_gt (show L < L + 2 from Nat.lt_add_of_pos_right (by decide))) (by
  intro q hq
  rw [List.mem_singleton] at hq; subst hq
  exact Nat.succ_ne_self (L + 2)) hn2
 obtain ⟨oM, hoM, K⟩ := K.cell (hcells (Str.ofString "most") (L + 1) (by rfl)) (H.none hn1) (Nat.succ_ne_self L) (by
  intro q hq
  rcases List.mem_cons.mp hq with rfl | hq
  ·exact Nat.succ_ne_self (L + 1)
  ·rw [List.mem_singleton] at hq; subst hq
   exact Nat.ne_of_gt (show L + 1 < L + 3 from Nat.add_lt_add_left (by decide) L)) hn1
 have hoM : oM.data = .cell (some (.int 3 u)) := hoM
 obtain ⟨K, psM, hfM⟩ := K.fix hn1
 refine hQQ ?_
 clear hQQ QQ
 have G := G.mono psM
 generalize p.add (L + 1) oM = p1 at K psM hfM G
 have cf := law_ok LR
 have hRl := cf.len
 have hRl' : ∀ x ∈ R, x.2.length ≤ 3 := cf.rlen
 refine x_ fun Qq1 Jq1 => ?_
 refine Assign_Tuple ?_
 refine Tuple_ (r_ (kt_ (gB_dict _) G K.hold (ar_ ?_)))
 refine comp_eval (cl := []) (by rfl) (fun _ => by rfl) (by rfl) (by decide) ?_
 refine n_ 0 K rfl ?_
 refine cl_list (mu := []) (its := [(L + 2, oF), (L + 3, oP)]) (vs := pvs) (.inr ⟨_, _, _, rfl⟩) (.inr fun v hv => ?href) (K.hold _ _ (psM _ _ pb)) (fun _ _ _ => turn1 ..) (by decide) (by rfl) rm.hd
  (fun D i q l' mu' => (PSub p1 q) ∧ (X3 fun (vs : List Value) (c : Nat) (as : List Addr) => A5 (mu' = (D, listOf vs.toArray c) :: as.map (fun a => (a, listOf ([] : List Value).toArray 0))) (vs.length = i) (as.length = i) ((∀ (j : Nat) uu x a, vs[j]? = some uu → R[j]? = some x → as[j]? = some a → PrAt q uu (x.1, .ref a))) (∀ a ∈ as, h.get? a = none)))
  K (fun D _ => ⟨PSub.refl _, [], 0, [], rfl, rfl, rfl, by simp, by simp⟩) ?src ?turn ?done
 case href =>
  refine hide fun QQ hQQ => ?_
  obtain ⟨i, hi⟩ := List.getElem?_of_mem hv
  have hil : i < R.length := by
   have := (List.getElem?_eq_some_iff.mp hi).1
   exact lnt fun q => lnq [_,_,_] [aL Z0 Z1,aL (tQ Z1) Z2,aE Z2 Z0] rfl q this plen
  have hx : R[i]? = some R[i] := List.getElem?_eq_getElem hil
  obtain ⟨a, t, lv, n, e, _⟩ := pall i v _ hi hx
  refine hQQ ?_
  clear hQQ QQ
  exact ⟨a, e⟩
 case src => rintro D C i q h' lc mu' its K ⟨ps, _⟩; exact ⟨pn, K.hold _ _ (ps _ _ (psM _ _ pb))⟩
 case turn =>
  rintro D C i v q h' lc mu' its t' hv hi K hx13_ Qt Jt
  refine hide fun QQ hQQ => ?_
  obtain ⟨ps, vs, c, as, rfl, vl, al, vall, af⟩ := hx13_
  refine hQQ ?_
  clear hQQ QQ
  have hil : i < R.length := by exact lnt fun q => lnq [_,_,_] [aL Z0 Z1,aL (tQ Z1) Z2,aE Z2 Z0] rfl q hi plen
  have hx : R[i]? = some R[i] := List.getElem?_eq_getElem hil
  generalize R[i] = x at hx
  refine hide fun QQ hQQ => ?_
  obtain ⟨a0, xt, lv, n0, rfl, pa0, _⟩ := pall i v x hv hx
  refine hQQ ?_
  clear hQQ QQ
  refine as_t2 K rm.hd (K.hold _ _ (ps _ _ (psM _ _ pa0))) (by kernel_rfl) (by kernel_rfl) (by rfl) (by rfl) fun h3 t3 K => ?_
  refine tests0 ?_
  rw [if_pos (by rfl)]
  refine emit_ ?_
  refine Tuple_ (rn_ 1 K rfl (r_ (List_ (z_ ?_))))
  refine nl K (by decide) fun b h8 fb K => ?_
  refine z_ ?_
  refine nt K (by show 2 ≤ 2 ^ 24; decide) fun tb h9 q9 ps9 htb K => ?_
  refine app_ (m1 := [(b, listOf ([] : List Value).toArray 0)]) K (by show vs.length ≤ 2 ^ 24; exact lnl fun q => lnq [_,_,_] [aL (tQ (tN 16777216)) Z0,aL (tQ Z1) Z2,aE Z0 Z1,aL Z2 (tN 6)] rfl q hil vl hRl) fun h10 n10 K => ?_
  have e9 : ((D, listOf (vs ++ [Value.ref tb]).toArray n10) :: (as ++ [b]).map (fun a => (a, listOf ([] : List Value).toArray 0))) ++ its = (D, listOf (vs ++ [Value.ref tb]).toArray n10) :: (as.map (fun a => (a, listOf ([] : List Value).toArray 0)) ++ (b, listOf ([] : List Value).toArray 0) :: its) := by simp
  have K := K.perm (mu' := ((D, listOf (vs ++ [Value.ref tb]).toArray n10) :: (as ++ [b]).map (fun a => (a, listOf ([] : List Value).toArray 0))) ++ its) (by
   rw [e9]
   exact (List.Perm.swap _ _ _).trans (List.Perm.cons _ List.perm_middle.symm))
  refine Jt _ ⟨_, _, _, _, _, rfl, K, ps.trans ps9, vs ++ [.ref tb], n10, as ++ [b], rfl, by simp [vl], by simp [al], fun j uu x' a' h1 h2 h3 => ?_, fun a ha => ?_⟩
  ·rw [List.getElem?_append] at h1 h3
   split at h1
   ·rw [if_pos (by exact lnt fun q => lnq [_,_,_,_] [aL Z0 Z1,aL (tQ Z1) Z2,aG Z0 Z3,aE Z2 Z3] rfl q (by assumption) al vl)] at h3
    refine hide fun QQ hQQ => ?_
    obtain ⟨b', t', n', e1, e2⟩ := vall j uu x' a' h1 h2 h3
    refine hQQ ?_
    clear hQQ QQ
    exact ⟨b', t', n', e1, ps9 _ _ e2⟩
   ·have hj : j = i := by
     have := (List.getElem?_eq_some_iff.mp h1).1
     simp at this
     exact lne (fun q => lnq [_,_,_,_] [aL (tQ Z0) Z1,aE Z2 (tN 0),aL Z1 (tA Z2 Z3),aE Z3 Z0] rfl q this (sbL _ _) vl) fun q => lnq [_,_,_] [aL (tQ Z0) Z1,aX (tQ Z0) Z2,aG Z2 Z1] rfl q (by assumption) vl
    subst hj
    rw [if_neg (by exact fun q => lnq [_,_] [aL (tQ Z0) Z1,aE Z1 Z0] rfl q al)] at h3
    rw [show j - vs.length = 0 by exact sbZ fun q => lnq [_,_] [aL (tQ Z0) Z1,aG Z0 Z1] rfl q vl] at h1
    rw [show j - as.length = 0 by exact sbZ fun q => lnq [_,_] [aL (tQ Z0) Z1,aG Z0 Z1] rfl q al] at h3
    rw [hx] at h2
    cases h1; cases h2; cases h3
    exact ⟨tb, xt, 0, rfl, htb⟩
  ·rcases List.mem_append.mp ha with z | z
   ·exact af a z
   ·rw [List.mem_singleton] at z; subst z; exact fb
 case done =>
  rintro D C oC q h' lc mu' t' K nC hC hx11_
  refine hide fun QQ hQQ => ?_
  obtain ⟨ps, vs, c, as, rfl, vl, al, vall, af⟩ := hx11_
  refine hQQ ?_
  clear hQQ QQ
  refine comp_val K nC hC fun h5 K => ?_
  have hD : h.get? D = none := (K.own (D, listOf vs.toArray c) (by simp)).2.2.2.resolve_left (by simp)
  refine hide fun QQ hQQ => ?_
  obtain ⟨K, psD, hfD⟩ := K.fix hD
  refine hQQ ?_
  clear hQQ QQ
  refine z_ ?_
  have asn : as.Nodup := by
   have := K.nodup
   rw [List.append_eq, List.map_append, List.map_map] at this
   have := (List.nodup_append.mp this).1
   simpa [Function.comp_def] using this
  have ap : ∀ a ∈ as, a ≠ L + 3 := fun a ha e => by
   have := K.nodup
   rw [List.append_eq, List.map_append, List.map_map] at this
   exact (List.nodup_append.mp this).2.2 a (by simpa [Function.comp_def] using ha) (L + 3) (by simp) e
  refine hide fun QQ hQQ => ?_
  obtain ⟨es, e1, e2, e3, e4⟩ := entries (R := R) (show as.length = R.length by exact lne (fun q => lnq [_,_,_] [aL (tQ Z0) Z1,aE Z1 Z2,aE Z2 Z0] rfl q al plen) fun q => lnq [_,_,_] [aL (tQ Z0) Z1,aG Z0 Z2,aG Z2 Z1] rfl q al plen) asn
  refine hQQ ?_
  clear hQQ QQ
  have Gq := (G.mono ps).mono psD
  refine dict_of (prs := (R.zip as).map fun z => (z.1.1, Value.ref z.2)) Gq K rm.hd hfD (by simp; exact lne (fun q => lnq [_,_,_,_] [aG Z0 Z1,aL (tQ Z0) Z2,aE Z2 Z3,aE Z3 Z1] rfl (Nat.min_eq_left (lnl fun q => lnq [_,_,_] [aL (tQ Z0) Z1,aG Z0 Z2,aG Z2 Z1] rfl q al plen)) q vl plen) fun q => lnq [_,_,_,_] [aL (tQ Z0) Z1,aL Z1 Z2,aE Z2 Z3,aG Z0 Z3] rfl q (Nat.min_le_right _ _) al vl) (fun i u x h1 h2 => ?_) (by simp; exact lnl fun q => lnq [_,_] [aL (tQ (tN 1000)) Z0,aL Z0 Z1,aL Z1 (tN 6)] rfl q (Nat.min_le_left _ _) hRl) fun dd h6 t6 od fdd sdd K Dd => ?_
  ·rw [List.getElem?_map] at h2
   refine hide fun QQ hQQ => ?_
   obtain ⟨z, hz, rfl⟩ := Option.map_eq_some_iff.mp h2
   obtain ⟨z1, z2⟩ := List.getElem?_zip_eq_some.mp hz
   obtain ⟨b', t', n', e5, e6⟩ := vall i u z.1 z.2 h1 z1 z2
   refine hQQ ?_
   clear hQQ QQ
   exact ⟨b', t', n', e5, psD _ _ e6⟩
  rw [e1] at Dd
  refine hide fun QQ hQQ => ?_
  obtain ⟨K, psd, hfd⟩ := K.fix fdd
  refine hQQ ?_
  clear hQQ QQ
  refine r_ (wpAny_Constant_bool (z_ ?_))
  refine nt K (by show 2 ≤ 2 ^ 24; decide) fun tb h7 q7 ps7 htb K => ?_
  skip
  refine as_ct (m1 := as.map fun a => (a, listOf ([] : List Value).toArray 0)) (m2 := [(L + 3, oP)]) K rm.hd (K.hold _ _ htb) hoF (by kernel_rfl) (by rfl) (by kernel_rfl) (by rfl) (by rfl) fun h8 t8 oF2 hoF2 K => ?_
  have K := K.mid'
  refine hide fun QQ hQQ => ?_
  obtain ⟨K, psF, hfF⟩ := K.fix hn2
  refine hQQ ?_
  clear hQQ QQ
  have esn : (es.map (·.1)).Nodup := by rw [e2]; exact lefts_nodup R
  have hbl : (es.map fun e => (e.2, ([] : List Value), 0)).map blL = es.map fun e => (e.2, listOf ([] : List Value).toArray 0) := by rw [List.map_map]; rfl
  have K := K.led (mu' := (L + 3, oP) :: (es.map fun e => (e.2, ([] : List Value), 0)).map blL) (fun z hz => by
   rw [hbl] at hz
   rcases List.mem_cons.mp hz with rfl | z
   ·exact List.mem_append_right _ (.head _)
   ·refine hide fun QQ hQQ => ?_
    obtain ⟨e, he, rfl⟩ := List.mem_map.mp z
    refine hQQ ?_
    clear hQQ QQ
    exact List.mem_append_left _ (List.mem_map.mpr ⟨e.2, e3 e he, rfl⟩)) (by
   rw [hbl, List.map_cons, List.map_map]
   refine List.nodup_cons.mpr ⟨fun ha => ?_, e4⟩
   refine hide fun QQ hQQ => ?_
   obtain ⟨e, he, z⟩ := List.mem_map.mp ha
   refine hQQ ?_
   clear hQQ QQ
   exact ap _ (e3 e he) z)
  have G9 := (((Gq.mono psd).mono ps7).mono psF)
  have ps9 : PSub p1 _ := (((ps.trans psD).trans psd).trans ps7).trans psF
  have hfd := psF _ _ (ps7 _ _ hfd)
  generalize hq9 : q7.add (L + 2) oF2 = q9 at K G9 ps9 hfd hfF
  have pall9 : ∀ {i : Nat} {v : Value} {x : RL}, pvs[i]? = some v → R[i]? = some x → PairAt q9 x v := fun {i v x} h1 h2 => (pall i v x h1 h2).mono (psM.trans ps9)
  have hfM9 := ps9 _ _ hfM
  have pb9 := ps9 _ _ (psM _ _ pb)
  refine Jq1 _ _ (x_ fun Qq2 Jq2 => wpAny_While ?_)
  refine wh (fun n q l mu' => (PSub q9 q) ∧ (X6 fun (bl : List (Addr × List Value × Nat)) (D : Wds) (gr : Bool) (o : Obj) (c : Option Value) (r : AL) => A8 (l = (Str.ofString "is_grown", .bool gr) :: (Str.ofString "pairs", .ref va) :: r) (mu' = (L + 3, o) :: bl.map blL) (o.data = .cell c) (Tb es bl D) (WSound R D) ((∀ x ∈ lefts R, (D x).Nodup)) ((gr = false → WClosed R D)) (n = if gr = true then 46 - tot (lefts R) D else 0))) 46 K
   ⟨PSub.refl _, _, fun _ => [], true, oP, none, [], rfl, rfl, hoP, ⟨by rw [List.map_map]; rfl, fun j e x h1 h2 => by
    rw [List.getElem?_map] at h1
    refine hide fun QQ hQQ => ?_
    obtain ⟨y, _, rfl⟩ := Option.map_eq_some_iff.mp h1
    refine hQQ ?_
    clear hQQ QQ
    exact .nil⟩, fun x _ w hw => by simp at hw, fun _ _ => List.nodup_nil, fun h => by simp at h, by
    have : tot (lefts R) (fun _ => []) = 0 := by
     unfold tot
     generalize lefts R = l
     induction l with
     | nil => rfl
     | cons a l ih => rw [List.map_cons, List.sum_cons, ih]; rfl
    rw [if_pos rfl, this]⟩ ?turn
  rintro n q h' l mu' t' K hx7_ Qt Jt
  refine hide fun QQ hQQ => ?_
  obtain ⟨ps, bl, D, gr, oP, cP, r, rfl, rfl, hoP, T, sn, ndp, cls, hn⟩ := hx7_
  refine hQQ ?_
  clear hQQ QQ
  refine isTrue_plain (n_ 0 K rfl (h_ ?_))
  have G := G9.mono ps
  refine split_b (fun hg => ?_) (fun hg => ?_)
  ·subst hg
   rw [if_pos rfl] at hn
   refine xv_ fun Qq3 Jq3 => wpAny_Constant_bool (s_ K fun h2 t2 K => Jq3 _ _ (x_ fun Qq4 Jq4 => wpAny_For (n_ 2 K rfl ?_)))
   have K := K.pull (x := Str.ofString "pairs") (by exact lkN 2 (by kernel_rfl) rfl)
   have K := K.pull (x := Str.ofString "is_grown") (by exact lkN 1 (by kernel_rfl) rfl)
   refine for_list (mu := (L + 3, oP) :: bl.map blL) (its := []) (vs := pvs) rm.hd (.inr ⟨_, _, _, rfl⟩) (.inr fun v hv => ?href) (fun i q' l mu' => (PSub q q') ∧ (X6 fun (bl' : List (Addr × List Value × Nat)) (D' : Wds) (gr : Bool) (o : Obj) (c : Option Value) (r : AL) => A8 (l = (Str.ofString "is_grown", .bool gr) :: (Str.ofString "pairs", .ref va) :: r) (mu' = (L + 3, o) :: bl'.map blL) (o.data = .cell c) (Tb es bl' D') (WSound R D') ((∀ x ∈ lefts R, (D' x).Nodup)) ((gr = false → D' = D ∧ ∀ j < i, ∀ x, R[j]? = some x → ∀ w ∈ rowsOf (lefts R) D x.2, w ∈ D x.1)) ((gr = true → tot (lefts R) D < tot (lefts R) D'))))
    (by rw [List.append_nil]; exact K) ⟨PSub.refl _, bl, D, false, oP, cP, _, rfl, rfl, hoP, T, sn, ndp, fun _ => ⟨rfl, fun j hj => by exact (lnq [_] [aL (tQ Z0) (tN 0)] rfl hj : False).elim⟩, fun h => by simp at h⟩ ?src ?turn2 ?done
   case href =>
    refine hide fun QQ hQQ => ?_
    obtain ⟨i, hi⟩ := List.getElem?_of_mem hv
    have hil : i < R.length := by
     have := (List.getElem?_eq_some_iff.mp hi).1
     exact lnt fun q => lnq [_,_,_] [aL Z0 Z1,aL (tQ Z1) Z2,aE Z2 Z0] rfl q this plen
    obtain ⟨a, t, lv, n, e, _⟩ := pall i v _ hi (List.getElem?_eq_getElem hil)
    refine hQQ ?_
    clear hQQ QQ
    exact ⟨a, e⟩
   case src => rintro i q' h' l mu' its K ⟨ps', _⟩; exact ⟨pn, K.hold _ _ (ps' _ _ (ps _ _ pb9))⟩
   case done =>
    rintro q' h' l mu' t' K hx6_
    refine hide fun QQ hQQ => ?_
    obtain ⟨ps', bl', D', gr, o, c, r', rfl, rfl, ho, T', sn', nd', c1, c2⟩ := hx6_
    refine hQQ ?_
    clear hQQ QQ
    rw [List.append_nil] at K
    refine Jq4 _ _ (e_ (Jt _ _ ?_))
    refine ⟨_, _, _, _, _, _, rfl, ?_, K, ps.trans ps', bl', D', gr, o, c, r', rfl, rfl, ho, T', sn', nd', fun hg => ?_, rfl⟩
    ·have t1 := tot_le (law_ok LR) sn ndp
     have t2 := tot_le (law_ok LR) sn' nd'
     cases gr with
     | true =>
      have := c2 rfl
      rw [if_pos rfl]; exact lnt fun q => lnq [_,_,_,_,_] [aE (tA Z0 Z1) (tN 46),aG (tA Z2 Z3) (tN 46),aL Z4 Z0,aL (tQ Z3) Z1,aG Z4 Z2] rfl (sbC fun q => lnq [_] [aL (tQ (tN 46)) Z0,aL Z0 (tN 45)] rfl q t2) (sbC fun q => lnq [_,_] [aL (tQ (tN 46)) Z0,aL (tQ Z0) Z1,aL Z1 (tN 45)] rfl q this t2) q this hn
     | false => simp; exact lnt fun q => lnq [_,_,_] [aL Z0 (tN 0),aL Z1 (tN 45),aG Z0 Z2,aL (tN 46) (tA Z2 Z1)] rfl q t1 hn (sbL _ _)
    ·refine hide fun QQ hQQ => ?_
     obtain ⟨e, hc⟩ := c1 hg
     refine hQQ ?_
     clear hQQ QQ
     subst e
     intro x rr hx
     refine hide fun QQ hQQ => ?_
     obtain ⟨j, hj⟩ := List.getElem?_of_mem hx
     refine hQQ ?_
     clear hQQ QQ
     exact hc j (by have := (List.getElem?_eq_some_iff.mp hj).1; exact lnt fun q => lnq [_,_,_] [aL Z0 Z1,aL (tQ Z1) Z2,aG Z0 Z2] rfl q this plen) _ hj
   case turn2 =>
    rintro i v q' h' l mu' its t' hv hi K hx11_ Qt Jt
    refine hide fun QQ hQQ => ?_
    obtain ⟨ps', bl', D', gr, o, c, r', rfl, rfl, ho, T', sn', nd', c1, c2⟩ := hx11_
    refine hQQ ?_
    clear hQQ QQ
    have hil : i < R.length := by exact lnt fun q => lnq [_,_,_] [aL Z0 Z1,aL (tQ Z1) Z2,aE Z2 Z0] rfl q hi plen
    have hx : R[i]? = some R[i] := List.getElem?_eq_getElem hil
    generalize R[i] = x at hx
    have hxR := List.mem_of_getElem? hx
    have pq : PSub q9 q' := ps.trans ps'
    refine hide fun QQ hQQ => ?_
    obtain ⟨a0, xt, lv, n0, rfl, pa0, la, lvs, ln, rfl, plb, lsa⟩ := (pall9 hv hx).mono pq
    refine hQQ ?_
    clear hQQ QQ
    have x3 := hRl' x hxR
    have hlv := strs_len lsa
    refine as_t2 K rm.hd (K.hold _ _ pa0) (by kernel_rfl) (by kernel_rfl) (by rfl) (by rfl) fun h3 t3 K => ?_
    have G := G.mono ps'
    refine xv_ fun Qq5 Jq5 => List_ (r_ (g_ fun _ _ => z_ ?_))
    refine nl K (by show 1 ≤ 2 ^ 24; decide) fun z0 h4 fz0 K => ?_
    refine hide fun QQ hQQ => ?_
    obtain ⟨K, psz, hfz⟩ := K.fix fz0
    refine hQQ ?_
    clear hQQ QQ
    have G := G.mono psz
    generalize hqz : q'.add z0 _ = qz at K G psz hfz
    refine s_ K fun h2 t2 K => Jq5 _ _ (x_ fun Qq6 Jq6 => wpAny_For (n_ 1 K rfl ?_))
    skip
    have K := K.pull (x := Str.ofString "pairs") (by exact lkN 4 (by kernel_rfl) rfl)
    have K := K.pull (x := Str.ofString "is_grown") (by exact lkN 4 (by kernel_rfl) rfl)
    have K := K.pull (x := Str.ofString "name") (by exact lkN 4 (by kernel_rfl) rfl)
    have K := K.pull (x := Str.ofString "rows") (by exact lkN 3 (by kernel_rfl) rfl)
    have pqz : PSub q9 qz := pq.trans psz
    have o15 := opts_le sn' nd'
    refine for_list (mu := (L + 3, o) :: bl'.map blL) (its := its) (vs := lvs) rm.hd (.inl rfl) (.inl rfl) (fun k q2 l mu' => (PSub qz q2) ∧ (X4 fun (rl : Addr) (o : Obj) (c : Option Value) (r : AL) => A5 (l = (Str.ofString "rows", .ref rl) :: (Str.ofString "name", .str x.1 xt) :: (Str.ofString "is_grown", .bool gr) :: (Str.ofString "pairs", .ref va) :: r) (mu' = (L + 3, o) :: bl'.map blL) (o.data = .cell c) (LS q2 (.ref rl) ((x.2.take k).foldl (stepR (lefts R) D') [⟨#[]⟩])) (((x.2.take k).foldl (stepR (lefts R) D') [⟨#[]⟩]).length ≤ 15 ^ k)))
     K ⟨PSub.refl _, z0, o, c, _, rfl, rfl, ho, ⟨z0, _, 0, rfl, hfz, .cons _ _ .nil⟩, Nat.le_refl _⟩ ?src3 ?turn3 ?done3
    case src3 => rintro k q2 h' l mu' its K ⟨ps2, _⟩; exact ⟨ln, K.hold _ _ (ps2 _ _ (psz _ _ plb))⟩
    case done3 =>
     rintro q2 h' l mu' t' K hx6_
     refine hide fun QQ hQQ => ?_
     obtain ⟨ps2, rl, o2, c2', r2, rfl, rfl, ho2, ⟨rla, rvs, rn, erl, hrl, rsa⟩, rlen⟩ := hx6_
     cases erl
     all_goals (refine hQQ ?_; clear hQQ QQ)
     rw [hlv, List.take_length] at rsa rlen
     have hrl0 := strs_len rsa
     refine Jq6 _ _ (x_ fun Qq7 Jq7 => wpAny_For (n_ 0 K rfl ?_))
     have K := K.pull (x := Str.ofString "pairs") (by exact lkN 3 (by kernel_rfl) rfl)
     have K := K.pull (x := Str.ofString "is_grown") (by exact lkN 3 (by kernel_rfl) rfl)
     have K := K.pull (x := Str.ofString "name") (by exact lkN 3 (by kernel_rfl) rfl)
     have td : tot (lefts R) D ≤ tot (lefts R) D' := by
      cases gr with
      | true => exact Nat.le_of_lt (c2 rfl)
      | false => rw [(c1 rfl).1]; exact Nat.le_refl _
     refine for_list (mu := (L + 3, o2) :: bl'.map blL) (its := its) (vs := rvs) rm.hd (.inl rfl) (.inl rfl) (fun i q3 l mu' => (PSub q2 q3) ∧ (X4 fun (bl4 : List (Addr × List Value × Nat)) (D4 : Wds) (gr4 : Bool) (r : AL) => A8 (l = (Str.ofString "name", .str x.1 xt) :: (Str.ofString "is_grown", .bool gr4) :: (Str.ofString "pairs", .ref va) :: r) (mu' = (L + 3, o2) :: bl4.map blL) (Tb es bl4 D4) (WSound R D4) ((∀ x ∈ lefts R, (D4 x).Nodup)) ((gr4 = false → gr = false ∧ D4 = D' ∧ ∀ j < i, ∀ w, (rowsOf (lefts R) D' x.2)[j]? = some w → w ∈ D' x.1)) (tot (lefts R) D' ≤ tot (lefts R) D4) ((gr4 = true → tot (lefts R) D < tot (lefts R) D4))))
      K ⟨PSub.refl _, bl', D', gr, _, rfl, rfl, T', sn', nd', fun hg => ⟨hg, rfl, fun j hj => by exact (lnq [_] [aL (tQ Z0) (tN 0)] rfl hj : False).elim⟩, Nat.le_refl _, c2⟩ ?src6 ?turn6 ?done6
     case src6 => rintro j q3 h' l mu' its K ⟨ps3, _⟩; exact ⟨rn, K.hold _ _ (ps3 _ _ hrl)⟩
     case done6 =>
      rintro q3 h' l mu' t' K hx6_
      refine hide fun QQ hQQ => ?_
      obtain ⟨ps3, bl4, D4, gr4, r4, rfl, rfl, T4, sn4, nd4, d1, d2, d3⟩ := hx6_
      refine hQQ ?_
      clear hQQ QQ
      refine Jq7 _ _ (e_ (Jt _ _ ?_))
      have K := K.pull (x := Str.ofString "pairs") (by exact lkN 2 (by kernel_rfl) rfl)
      have K := K.pull (x := Str.ofString "is_grown") (by exact lkN 2 (by kernel_rfl) rfl)
      refine ⟨_, _, _, _, _, rfl, K, ((ps'.trans psz).trans ps2).trans ps3, bl4, D4, gr4, o2, c2', _, rfl, rfl, ho2, T4, sn4, nd4, fun hg => ?_, d3⟩
      refine hide fun QQ hQQ => ?_
      obtain ⟨g1, g2, g3⟩ := d1 hg
      obtain ⟨g4, g5⟩ := c1 g1
      refine hQQ ?_
      clear hQQ QQ
      subst g4
      refine ⟨g2, fun j hj z hz w hw => ?_⟩
      by_cases e : j = i
      ·subst e
       rw [hx] at hz
       have hz := Option.some.inj hz
       subst hz
       refine hide fun QQ hQQ => ?_
       obtain ⟨m, hm⟩ := List.getElem?_of_mem hw
       refine hQQ ?_
       clear hQQ QQ
       exact g3 m (by have := (List.getElem?_eq_some_iff.mp hm).1; unfold rowsOf at this; exact lnt fun q => lnq [_,_,_] [aL Z0 Z1,aL (tQ Z1) Z2,aG Z0 Z2] rfl q this hrl0) w hm
      ·exact g5 j (by exact lnt fun q => (Nat.lt_or_gt_of_ne e).elim (fun q0 => lnq [_,_] [aL (tQ Z0) Z1,aL Z1 Z0] rfl q0 q) fun q0 => lnq [_,_] [aL (tQ Z0) Z1,aL (tQ Z1) (tQ Z0)] rfl q0 hj) z hz w hw
     case turn6 =>
      rintro m v q3 h' l mu' its t' hv hm K hx11_ Qt Jt
      refine hide fun QQ hQQ => ?_
      obtain ⟨ps3, bl4, D4, gr4, r4, rfl, rfl, T4, sn4, nd4, d1, d2, d3⟩ := hx11_
      refine hQQ ?_
      clear hQQ QQ
      have hw : (rowsOf (lefts R) D' x.2)[m]? = some ((rowsOf (lefts R) D' x.2)[m]'(by unfold rowsOf; exact lnt fun q => lnq [_,_,_] [aL Z0 Z1,aL (tQ Z1) Z2,aE Z2 Z0] rfl q hm hrl0)) := List.getElem?_eq_getElem _
      generalize (rowsOf (lefts R) D' x.2)[m]'_ = wd at hw
      refine hide fun QQ hQQ => ?_
      obtain ⟨wt, hwv⟩ := strs_at rsa hw
      rw [hv] at hwv
      have hwv := Option.some.inj hwv
      subst hwv
      have hxl : x.1 ∈ lefts R := left_of hxR
      obtain ⟨j, aj, vj, nj, hej, hbj, svj, hva⟩ := T4.get (x := x.1) (by rw [e2]; exact hxl) esn
      refine hQQ ?_
      clear hQQ QQ
      have pq3 : PSub q9 q3 := (pqz.trans ps2).trans ps3
      have hfd3 := pq3 _ _ hfd
      have hfF3 := pq3 _ _ hfF
      have K : W _ _ _ _ _ _ _ ((L + 3, o2) :: (bl4.map blL ++ its)) := K
      rw [(bl_split hbj (aj, vj, nj) its).1] at K
      have lvj : vj.length ≤ 15 := by rw [strs_len svj]; exact words_le sn4 hxl (nd4 _ hxl)
      refine wpAny_assign_Name (s_ K fun h2 t2 K => x_ fun Qq8 Jq8 => wpAny_If (qn_ 0 K rfl (u_ ?_)))
      refine ldC (K.hold _ _ hfF3) hoF2 (by kernel_rfl) (by rfl) (by rfl) (by kernel_rfl) ?_
      refine n_ 1 K rfl ?_
      refine d_sub (K.hold _ _ hfd3) Dd (str_is _ _) hva (by rfl) fun t5 => ?_
      refine nin_ls (vs := vj) (K.get (o := listOf vj.toArray nj) (by simp [blL])) svj ?_
      refine h_ ?_
      refine split_b (fun hc => ?_) (fun hc => ?_)
      ·have hwn : wd ∉ D4 x.1 := by simpa using hc
       refine x_ fun Qq9 Jq9 => wpAny_Expr_any (d_ (u_ ?_))
       refine ldC (K.hold _ _ hfF3) hoF2 (by kernel_rfl) (by rfl) (by rfl) (by kernel_rfl) ?_
       refine n_ 1 K rfl ?_
       refine d_sub (K.hold _ _ hfd3) Dd (str_is _ _) hva (by rfl) fun t6 => ?_
       refine app_m (vs := vj.toArray) (n := nj) (K.get (by simp [blL])) ?_
       refine l_ (arnz_ 0 K rfl ?_)
       refine app_ (m1 := (L + 3, o2) :: (bl4.take j).map blL) (m2 := (bl4.drop (j + 1)).map blL ++ its) K (by show vj.length ≤ 2 ^ 24; exact lnl fun q => lnq [_] [aL (tQ (tN 16777216)) Z0,aL Z0 (tN 15)] rfl q lvj) fun h7 n7 K => ?_
       refine Jq9 _ _ (xv_ fun Qq10 Jq10 => wpAny_Constant_bool (s_ K fun h2 t2 K => Jq10 _ _ (e_ (Jq8 _ _ (e_ (Jt _ _ ?_))))))
       have K := K.pull (x := Str.ofString "pairs") (by exact lkN 4 (by kernel_rfl) rfl)
       have K := K.pull (x := Str.ofString "is_grown") (by exact lkN 1 (by kernel_rfl) rfl)
       have K := K.pull (x := Str.ofString "name") (by exact lkN 4 (by kernel_rfl) rfl)
       have hs2 := (bl_split hbj (aj, vj ++ [.str wd wt], n7) its).2
       have K := K.perm (mu' := (L + 3, o2) :: ((bl4.set j (aj, vj ++ [.str wd wt], n7)).map blL ++ its)) (by rw [hs2]; exact .refl _)
       have ta := tot_add (w := wd) (D := D4) hxl
       have hWd : Wd R [x.1] wd := rowsOf_wd sn' hxR (lr_syms LR hxR) wd (List.mem_of_getElem? hw)
       exact ⟨_, _, _, _, _, rfl, K, ps3, _, D4.add x.1 wd, true, _, rfl, rfl, T4.add esn hej hbj, sn4.add hWd, nodup_add nd4 hwn hxl, fun h => by simp at h, by exact lnl fun q => lnq [_,_,_] [aL (tQ Z0) Z1,aL (tQ Z2) Z0,aL Z1 Z2] rfl q ta d2, fun _ => by exact lnt fun q => lnq [_,_,_,_] [aL Z0 Z1,aL (tQ Z2) Z0,aL Z3 Z2,aL Z1 Z3] rfl q ta d2 td⟩
      ·have hwn : wd ∈ D4 x.1 := by simpa using hc
       refine e_ (Jq8 _ _ (e_ (Jt _ _ ?_)))
       have K := K.pull (x := Str.ofString "pairs") (by exact lkN 3 (by kernel_rfl) rfl)
       have K := K.pull (x := Str.ofString "is_grown") (by exact lkN 3 (by kernel_rfl) rfl)
       have K := K.pull (x := Str.ofString "name") (by exact lkN 3 (by kernel_rfl) rfl)
       have K := K.perm (mu' := (L + 3, o2) :: (bl4.map blL ++ its)) (by rw [(bl_split hbj (aj, vj, nj) its).1])
       refine ⟨_, _, _, _, _, rfl, K, ps3, bl4, D4, gr4, _, rfl, rfl, T4, sn4, nd4, fun hg => ?_, d2, d3⟩
       refine hide fun QQ hQQ => ?_
       obtain ⟨g1, g2, g3⟩ := d1 hg
       refine hQQ ?_
       clear hQQ QQ
       refine ⟨g1, g2, fun n hn w' hw' => ?_⟩
       by_cases e : n = m
       ·subst e
        rw [hw] at hw'
        have hw' := Option.some.inj hw'
        subst hw'
        rw [← g2]; exact hwn
       ·exact g3 n (by exact lnt fun q => (Nat.lt_or_gt_of_ne e).elim (fun q0 => lnq [_,_] [aL (tQ Z0) Z1,aL Z1 Z0] rfl q0 q) fun q0 => lnq [_,_] [aL (tQ Z0) Z1,aL (tQ Z1) (tQ Z0)] rfl q0 hn) w' hw'
    case turn3 =>
     rintro k v q2 h' l mu' its t' hv hk K hx11_ Qt Jt
     refine hide fun QQ hQQ => ?_
     obtain ⟨ps2, rl, o2, c2', r2, rfl, rfl, ho2, ⟨rla, rvs, rn, erl, hrl, rsa⟩, rlen⟩ := hx11_
     cases erl
     all_goals (refine hQQ ?_; clear hQQ QQ)
     generalize hrows : (x.2.take k).foldl (stepR (lefts R) D') [⟨#[]⟩] = rows at rsa rlen
     have hy : x.2[k]? = some x.2[k] := List.getElem?_eq_getElem (by exact lnt fun q => lnq [_,_,_] [aL Z0 Z1,aL (tQ Z1) Z2,aE Z2 Z0] rfl q hk hlv)
     generalize x.2[k] = y at hy
     refine hide fun QQ hQQ => ?_
     obtain ⟨yt, hyv⟩ := strs_at lsa hy
     refine hQQ ?_
     clear hQQ QQ
     rw [hv] at hyv
     have hyv := Option.some.inj hyv
     subst hyv
     have G := G.mono ps2
     have pq2 : PSub q9 q2 := pqz.trans ps2
     refine wpAny_assign_Name (stC (m1 := []) K ho2 (by kernel_rfl) (by rfl) (by rfl) fun h5 o3 ho3 K => ?_)
     refine x_ fun Qq7 Jq7 => ?_
     have hfF2 := pq2 _ _ hfF
     have hfM2 := pq2 _ _ hfM9
     refine comp_asg (cl := [(Str.ofString "part", L + 3), (Str.ofString "most", L + 1), (Str.ofString "found", L + 2)]) (by rfl) (by rfl) (fun _ => by rfl) (by rfl) (by decide) ?_
     refine n_ 0 K rfl ?_
     refine cl_list (mu := (L + 3, o3) :: bl'.map blL) (its := its) (vs := rvs) (.inl rfl) (.inl rfl) (K.hold _ _ hrl) (fun _ _ _ => turn2a ..) (by decide) (by rfl) rm.hd
      (fun D2 i q lc mu' => (PSub q2 q) ∧ (X2 fun (us : List Value) (c : Nat) => (mu' = (D2, listOf us.toArray c) :: (L + 3, o3) :: bl'.map blL) ∧ (StrsAre us (stepR (lefts R) D' (rows.take i) y))))
      K (fun D2 _ => ⟨PSub.refl _, [], 0, rfl, .nil⟩) ?src4 ?turn4 ?done4
     case src4 => rintro D2 C i q h' lc mu' its K ⟨ps4, _⟩; exact ⟨rn, K.hold _ _ (ps4 _ _ hrl)⟩
     case done4 =>
      rintro D2 C oC q h' lc mu' t' K nC hC hx11_
      refine hide fun QQ hQQ => ?_
      obtain ⟨ps4, us, c, rfl, usa⟩ := hx11_
      refine hQQ ?_
      clear hQQ QQ
      rw [List.take_of_length_le (by have := strs_len rsa; exact lnl fun q => lnq [_,_] [aL (tQ Z0) Z1,aG Z0 Z1] rfl q this)] at usa
      refine comp_use K nC hC (by kernel_rfl) (by rfl) (by rfl) fun h6 t6 K => ?_
      have hD2 : h.get? D2 = none := (K.own (D2, listOf us.toArray c) (.head _)).2.2.2.resolve_left (by simp)
      refine hide fun QQ hQQ => ?_
      obtain ⟨K, psD, hfD⟩ := K.fix hD2
      refine hQQ ?_
      clear hQQ QQ
      refine Jq7 _ _ (e_ (Jt _ _ ?_))
      have K := K.pull (x := Str.ofString "pairs") (by exact lkN 4 (by kernel_rfl) rfl)
      have K := K.pull (x := Str.ofString "is_grown") (by exact lkN 4 (by kernel_rfl) rfl)
      have K := K.pull (x := Str.ofString "name") (by exact lkN 4 (by kernel_rfl) rfl)
      have K := K.pull (x := Str.ofString "rows") (by exact lkN 3 (by kernel_rfl) rfl)
      refine ⟨_, _, _, _, _, rfl, K, (ps2.trans ps4).trans psD, D2, o3, _, _, rfl, rfl, ho3, ?_, ?_⟩
      ·rw [take_snoc hy, List.foldl_append, hrows]
       exact ⟨D2, us, c, rfl, hfD, usa⟩
      ·rw [take_snoc hy, List.foldl_append, hrows]
       refine Nat.le_trans (stepR_len (o15 y) _) ?_
       rw [Nat.pow_succ]
       exact Nat.mul_le_mul_right 15 rlen
     case turn4 =>
      rintro D2 C i v q h' lc mu' its t' hv hi K hx13_ Qt Jt
      refine hide fun QQ hQQ => ?_
      obtain ⟨ps4, us, c, rfl, usa⟩ := hx13_
      refine hQQ ?_
      clear hQQ QQ
      have hrw : rows[i]? = some (rows[i]'(by have := strs_len rsa; exact lnt fun q => lnq [_,_,_] [aL Z0 Z1,aE Z2 Z0,aL (tQ Z1) Z2] rfl q this hi)) := List.getElem?_eq_getElem _
      generalize rows[i]'_ = row at hrw
      refine hide fun QQ hQQ => ?_
      obtain ⟨rt, hrv⟩ := strs_at rsa hrw
      refine hQQ ?_
      clear hQQ QQ
      rw [hv] at hrv
      have hrv := Option.some.inj hrv
      subst hrv
      rw [take_snoc hrw, stepR_snoc] at Jt
      generalize hS : stepR (lefts R) D' (List.take i _) y = S0 at usa Jt
      refine wpAny_assign_Name (s_ K fun h2 t2 K => ?_)
      refine tests0 ?_
      rw [if_pos rfl]
      refine inner_ rm.deeper (fun _ => by rfl) ?_
      refine d_ ?_
      refine ldC (K.hold _ _ (ps4 _ _ hfF2)) hoF2 (by kernel_rfl) (by rfl) (by rfl) (by kernel_rfl) ?_
      refine dg_m (K.hold _ _ (ps4 _ _ (pq2 _ _ hfd))) Dd ?_
      refine l_ (ar_ ?_)
      refine ldC (K.get (.tail _ (.head _))) ho3 (by kernel_rfl) (by rfl) (by rfl) (by kernel_rfl) ?_
      refine r_ (List_ (r_ ?_))
      refine ldC (K.get (.tail _ (.head _))) ho3 (by kernel_rfl) (by rfl) (by rfl) (by kernel_rfl) ?_
      refine z_ ?_
      refine nl K (by show 1 ≤ 2 ^ 24; decide) fun z1 h6 fz1 K => ?_
      refine z_ ?_
      have hsrc : ∃ ab vb nb, (valueAt (es.map fun e => (e.1, Value.ref e.2)) y).getD (.ref z1) = .ref ab ∧ (ab, listOf vb.toArray nb) ∈ (z1, listOf ([.str y yt] : List Value).toArray 0) :: bl'.map blL ∧ StrsAre vb (opts (lefts R) D' y) := by
       by_cases hl : y ∈ lefts R
       ·refine hide fun QQ hQQ => ?_
        obtain ⟨j, a, vj, nj, h1, h2, h3, h4⟩ := T'.get (x := y) (by rw [e2]; exact hl) esn
        refine hQQ ?_
        clear hQQ QQ
        refine ⟨a, vj, nj, by rw [h4]; rfl, .tail _ (List.mem_map.mpr ⟨_, List.mem_of_getElem? h2, rfl⟩), ?_⟩
        unfold opts; rw [if_pos hl]; exact h3
       ·refine ⟨z1, _, 0, ?_, .head _, ?_⟩
        ·have : valueAt (es.map fun e => (e.1, Value.ref e.2)) y = none := by
          have := valueAt_none (kvs := es.map fun e => (e.1, Value.ref e.2)) (k := y)
          rw [decide_eq_false (by rw [List.map_map]; show y ∉ es.map (·.1); rw [e2]; exact hl)] at this
          simpa using this
         rw [this]; rfl
        ·unfold opts; rw [if_neg hl]; exact .cons _ _ .nil
      refine hide fun QQ hQQ => ?_
      obtain ⟨ab, vb, nb, eab, mab, sab⟩ := hsrc
      refine hQQ ?_
      clear hQQ QQ
      refine dg_v (K.hold _ _ (ps4 _ _ (pq2 _ _ hfd))) Dd sdd (str_is _ _) eab fun t6 => ?_
      have hw15 := o15 y
      have lvb := strs_len sab
      have hmem : ∀ (z : Addr × Obj) (m : Led), (ab, listOf vb.toArray nb) ∈ ((z1, listOf ([.str y yt] : List Value).toArray 0) :: z :: (L + 3, o3) :: bl'.map blL) ++ m := fun z m => by
       rcases List.mem_cons.mp mab with e | e
       ·rw [e]; exact .head _
       ·exact .tail _ (.tail _ (.tail _ (List.mem_append_left _ e)))
      refine ci_listS (mu := (z1, listOf ([.str y yt] : List Value).toArray 0) :: (D2, listOf us.toArray c) :: (L + 3, o3) :: bl'.map blL) (its := its) (vs := vb) (by rfl) rm.hd
       (fun j q' lc mu' => (PSub q q') ∧ (X3 fun (us : List Value) (c : Nat) (r : AL) => A3 (lc = (Str.ofString "row", .str row rt) :: r) (mu' = (z1, listOf ([.str y yt] : List Value).toArray 0) :: (D2, listOf us.toArray c) :: (L + 3, o3) :: bl'.map blL) (StrsAre us (S0 ++ (((opts (lefts R) D' y).take j).filter fun w => (row ++ w).length ≤ 3).map (row ++ ·)))))
       K ⟨PSub.refl _, us, c, _, rfl, rfl, by rw [List.take_zero]; simpa using usa⟩ (m := nb) ?sr5 ?src5 ?turn5 ?done5
      case sr5 => exact K.get (hmem _ _)
      case src5 => rintro j q' h' lc mu' its K ⟨_, us, c, r, _, rfl, _⟩; exact ⟨nb, K.get (hmem _ _)⟩
      case done5 =>
       rintro q' h' lc mu' t' K hx6_
       refine hide fun QQ hQQ => ?_
       obtain ⟨ps5, us', c', r, rfl, rfl, usa'⟩ := hx6_
       refine hQQ ?_
       clear hQQ QQ
       rw [lvb, List.take_length] at usa'
       exact Jt _ ⟨_, _, _, _, _, rfl, K.tl, ps4.trans ps5, us', c', rfl, usa'⟩
      case turn5 =>
       rintro j v q' h' lc mu' its t' hv hj K hx11_ Qt Jt
       refine hide fun QQ hQQ => ?_
       obtain ⟨ps5, us', c', r, rfl, rfl, usa'⟩ := hx11_
       refine hQQ ?_
       clear hQQ QQ
       have hwd : (opts (lefts R) D' y)[j]? = some ((opts (lefts R) D' y)[j]'(by exact lnt fun q => lnq [_,_,_] [aL Z0 Z1,aL (tQ Z1) Z2,aE Z2 Z0] rfl q hj lvb)) := List.getElem?_eq_getElem _
       generalize (opts (lefts R) D' y)[j]'_ = wd at hwd
       refine hide fun QQ hQQ => ?_
       obtain ⟨wt, hwv⟩ := strs_at sab hwd
       refine hQQ ?_
       clear hQQ QQ
       rw [hv] at hwv
       have hwv := Option.some.inj hwv
       subst hwv
       have l1 : row.length ≤ 3 := rows_len sn' (fun z hz => lr_syms LR hxR z (List.mem_of_mem_take hz)) (hrows ▸ List.mem_of_getElem? hrw)
       have l2 : wd.length ≤ 3 := wd_len (Wd.opt sn' (lr_syms LR hxR y (List.mem_of_getElem? hy)) (List.mem_of_getElem? hwd))
       have l3 : row.length + wd.length ≤ sizeLine := by show _ ≤ 2 ^ 24; exact lnl fun q => lnq [_,_] [aL (tQ (tN 16777216)) (tA Z0 Z1),aL Z1 (tN 3),aL Z0 (tN 3)] rfl q l2 l1
       have l4 := str_len row wd
       have ul : us'.length ≤ 2 ^ 24 := by
        rw [strs_len usa', List.length_append, List.length_map]
        have h1 := List.length_filter_le (fun w => decide ((row ++ w).length ≤ 3)) ((opts (lefts R) D' y).take j)
        have h2 : ((opts (lefts R) D' y).take j).length ≤ 15 := Nat.le_trans (List.length_take_le' ..) hw15
        have h3 : S0.length ≤ 3375 * 15 := by
         rw [← hS]
         refine Nat.le_trans (stepR_len hw15 _) (Nat.mul_le_mul_right 15 ?_)
         have h4 : (rows.take i).length ≤ rows.length := List.length_take_le' ..
         have h5 : 15 ^ k ≤ 15 ^ 3 := Nat.pow_le_pow_right (by decide) (by exact lnl fun q => lnq [_,_,_] [aL (tQ (tN 3)) Z0,aL (tQ Z0) Z1,aE Z1 Z2,aL Z2 (tN 3)] rfl q hk hlv x3)
         have h6 : (15 : Nat) ^ 3 = 3375 := by decide
         exact lnl fun q => lnq [_,_,_] [aL (tQ (tN 3375)) Z0,aL Z1 (tN 3375),aL Z0 Z2,aL Z2 Z1] rfl q h5 h4 rlen
        exact lnl fun q => lnq [_,_,_] [aL (tQ (tN 16777216)) (tA Z0 Z1),aL Z0 (tM 3375 (tN 15)),aL Z2 (tN 15),aL Z1 Z2] rfl q h3 h2 h1
       have G := G.mono (ps4.trans ps5)
       refine wpAny_assign_Name (s_ K fun h2 t2 K => ?_)
       refine tests1 ?_
       refine q_ (kb_ (gB_len _) G K.hold (ar_ (on_ 1 K rfl (n_ 0 K rfl ?_))))
       refine PyProof.Rows.add_str (fun t8 tk8 => ?_) l3
       refine z_ ?_
       refine PyProof.Rows.len_str (by rw [l4]; omega) ?_
       skip
       refine ldC (K.hold _ _ (ps5 _ _ (ps4 _ _ hfM2))) hoM (by kernel_rfl) (by rfl) (by rfl) (by kernel_rfl) ?_
       refine i_le (h_ ?_)
       refine PyProof.Rows.split_dec (fun hc => ?_) (fun hc => ?_)
       ·refine emit_ ?_
        refine on_ 1 K rfl (n_ 0 K rfl ?_)
        refine PyProof.Rows.add_str (fun t9 tk9 => ?_) l3
        skip
        refine app_ (m1 := [(z1, listOf ([.str y yt] : List Value).toArray 0)]) K ul fun h10 n10 K => ?_
        have K := K.pull (x := Str.ofString "row") (by exact lkN 1 (by kernel_rfl) rfl)
        refine Jt _ ⟨_, _, _, _, _, rfl, K, ps5, us' ++ [.str (row ++ wd) t9], n10, _, rfl, rfl, ?_⟩
        rw [take_snoc hwd, filt_t (by simpa using (by exact lnl fun q => lnq [_] [aL (tQ (tN 3)) Z0,aL Z0 (tN 3)] rfl q (Int.ofNat_le.mp hc) : (row ++ wd).length ≤ 3)), List.map_append, ← List.append_assoc]
        exact strs_app usa' (.cons _ _ .nil)
       ·have K := K.pull (x := Str.ofString "row") (by exact lkN 1 (by kernel_rfl) rfl)
        refine Jt _ ⟨_, _, _, _, _, rfl, K, ps5, us', c', _, rfl, rfl, ?_⟩
        rw [take_snoc hwd, filt_f (by simpa using (by exact fun q => lnq [_] [aL Z0 (tN 3),aX Z0 (tN 3)] rfl q (fun z => hc (Int.ofNat_le.mpr z)) : ¬ (row ++ wd).length ≤ 3))]
        exact usa'
  ·have wc := cls hg
   refine Jq2 _ _ (wj_ ?_)
   refine ldC (K.hold _ _ (ps _ _ hfF)) hoF2 (by kernel_rfl) (by rfl) (by rfl) (by kernel_rfl) ?_
   skip
   have K := K.tl.perm (mu' := bl.map blL ++ []) (by rw [List.append_nil])
   refine hide fun QQ hQQ => ?_
   obtain ⟨q2, psq, hfx, K⟩ := K.fixAll _ (fun z hz => by
    obtain ⟨e, he, rfl⟩ := List.mem_map.mp hz
    have h1 : e.1 ∈ es.map (·.2) := by rw [← T.1]; exact List.mem_map_of_mem he
    obtain ⟨x, hx, h2⟩ := List.mem_map.mp h1
    exact af _ (by show e.1 ∈ as; rw [← h2]; exact e3 x hx))
   refine hQQ ?_
   clear hQQ QQ
   refine kk _ _ _ _ K.gro ⟨dd, od, _, D, rfl, psq _ _ (ps _ _ hfd), Dd, sdd, sn, wc, fun x hx => ?_⟩
   refine hide fun QQ hQQ => ?_
   obtain ⟨j, aj, vj, nj, hej, hbj, svj, hva⟩ := T.get (x := x) (by rw [e2]; exact hx) esn
   refine hQQ ?_
   clear hQQ QQ
   exact ⟨.ref aj, hva, aj, vj, nj, rfl, hfx _ (List.mem_map_of_mem (List.mem_of_getElem? hbj)), svj⟩
end

noncomputable abbrev ACC : Str × List Str := ("$accept", ["S", "$end"])
section
variable {R : Raw} {k : Nat} {F E : Raw}
theorem acc_rhs {r : Nat} (hr : r < (grOf R).rules.length) : (grOf R).right r = (rhs (ACC :: R) r).map (symOf R) := by
 rw [gr_len] at hr
 cases r with
 | zero =>
  show [symOf R (("S" : Str)), 0] = [symOf R (("S" : Str)), symOf R (("$end" : Str))]
  rw [sym_end R]
 | succ r =>
  obtain ⟨x, h1, h2, h3⟩ := gr_rules (R := R) r (by exact lnt fun q => lnq [_,_] [aL Z0 Z1,aL (tA (tQ Z1) (tN 1)) (tQ Z0)] rfl q hr)
  rw [h3]
  unfold rhs
  rw [List.getD_cons_succ, List.getD_eq_getElem?_getD, h1]; rfl
theorem rhs_sign (h : LawRaw R k F E) {r : Nat} (hr : r < (grOf R).rules.length) {y : Str} (hy : y ∈ rhs (ACC :: R) r) : y ∈ SGN ↔ symOf R y < (grOf R).tc := by
 have ok := law_ok h
 have key : y ∈ namesOf R ∧ (y ∈ SGN ↔ y ∈ terms R) := by
  rw [gr_len] at hr
  cases r with
  | zero =>
   have hy : y ∈ ([("S" : Str), "$end"] : List Str) := hy
   rcases List.mem_cons.mp hy with rfl | hy
   ·exact ⟨left_name (s_left ok), fun q => absurd q (by decide), fun q => absurd q (left_not_term ok (s_left ok))⟩
   ·rw [List.mem_singleton] at hy; subst hy
    exact ⟨end_name R, fun _ => mem_terms.mpr (.inl (by decide)), fun _ => by decide⟩
  | succ r =>
   have e : rhs (ACC :: R) (r + 1) = rhs R r := by unfold rhs; rw [List.getD_cons_succ]
   rw [e] at hy
   obtain ⟨x, h1, h2, h3⟩ := gr_rules (R := R) r (by exact lnt fun q => lnq [_,_] [aL Z0 Z1,aL (tA (tQ Z1) (tN 1)) (tQ Z0)] rfl q hr)
   have hx := List.mem_of_getElem? h1
   have hy : y ∈ x.2 := by
    unfold rhs at hy
    rw [List.getD_eq_getElem?_getD, h1] at hy; exact hy
   refine ⟨right_name hx hy, ?_⟩
   rcases h.syms x hx y hy with z | z
   ·have hl := lr_lefts h y z
    have n3 : ∀ y ∈ S3, y ∉ SGN := by decide
    exact ⟨fun q => absurd q (n3 _ (s3_take z)), fun q => absurd q (left_not_term ok hl)⟩
   ·have hs : ∀ y ∈ AB, y ∈ SGN := by decide
    refine ⟨fun _ => mem_terms.mpr (.inr ⟨fun q => ab_s3 _ z (lefts_sub ok _ q), x, hx, hy⟩), fun _ => hs _ z⟩
 rw [key.2]
 exact (sym_term key.1).symm
theorem done_whole {x : It} (hx : (grOf R).ok x.1 x.2) : wholeB (ACC :: R) x = (grOf R).done x := by
 have e := congrArg List.length (acc_rhs hx.1)
 rw [List.length_map] at e
 unfold wholeB Gr.done
 rw [← e, Bool.eq_iff_iff]
 simp only [Bool.and_eq_true, decide_eq_true_eq, beq_iff_eq, bne_iff_ne]
 omega
theorem needs_link (h : LawRaw R k F E) {l its : List It} (m : ∀ x, x ∈ its ↔ (grOf R).Clo (· ∈ l) x) (nd : its.Nodup) (hok : ∀ x ∈ its, (grOf R).ok x.1 x.2) : needsB (ACC :: R) its = true ↔ ¬ Adq (grOf R) l := by
 have e1 : wholeOf (ACC :: R) its = (grOf R).red its := by
  unfold wholeOf Gr.red
  rw [List.filter_congr fun x hx => done_whole (hok x hx)]
 have e2 : (!((behindOf (ACC :: R) its).filter (· ∈ SGN)).isEmpty) = true ↔ ∃ s, s < (grOf R).tc ∧ (grOf R).behind s its ≠ [] := by
  rw [Bool.not_eq_true', List.isEmpty_eq_false_iff]
  constructor
  ·intro q
   obtain ⟨y, hy⟩ := List.exists_mem_of_ne_nil _ q
   obtain ⟨h1, h2⟩ := List.mem_filter.mp hy
   obtain ⟨x, hx, h3⟩ := List.mem_filterMap.mp h1
   have hk := hok x hx
   refine ⟨symOf R y, (rhs_sign h hk.1 (List.mem_of_getElem? h3)).mp (by simpa using h2), fun q => ?_⟩
   have : (x.1, x.2 + 1) ∈ (grOf R).behind (symOf R y) its := Gr.mem_behind.mpr ⟨x, hx, by rw [acc_rhs hk.1, List.getElem?_map, h3]; rfl, rfl⟩
   rw [q] at this; cases this
  ·rintro ⟨s, h1, h2⟩ q
   obtain ⟨y, hy⟩ := List.exists_mem_of_ne_nil _ h2
   obtain ⟨x, hx, h3, _⟩ := Gr.mem_behind.mp hy
   have hk := hok x hx
   rw [acc_rhs hk.1, List.getElem?_map] at h3
   obtain ⟨z, h4, rfl⟩ := Option.map_eq_some_iff.mp h3
   have : z ∈ (behindOf (ACC :: R) its).filter (· ∈ SGN) := List.mem_filter.mpr ⟨List.mem_filterMap.mpr ⟨x, hx, h4⟩, by simpa using (rhs_sign h hk.1 (List.mem_of_getElem? h4)).mpr h1⟩
   rw [q] at this; cases this
 rw [adq_iff m nd (List.Perm.refl _) e2]
 unfold needsB
 rw [e1]
 generalize (grOf R).red its = rl
 generalize (!((behindOf (ACC :: R) its).filter (· ∈ SGN)).isEmpty) = sh
 cases rl with
 | nil => simp
 | cons a rl => cases rl with
  | nil => cases sh <;> simp
  | cons b rl => simp
theorem law_ask (h : LawRaw R k F E) {kers : List (List It)} (ko : KersOk (grOf R) kers) (ad : ∀ l ∈ kers, Adq (grOf R) l) {D : Wds} (s : WSound R D) (c : WClosed R D) {ts : List Str} (hab : ∀ t ∈ ts, t ∈ AB) (hn : NumsIn (grOf R) ts) (hl : ts.length ≤ 3) :
  taken (mach (grOf R) kers) 60 ([(0, .nil)], ts.map (grOf R).names.idxOf ++ [0]) = decide (joinS ts ∈ D ("S" : Str)) := by
 have ok := law_ok h
 rw [Bool.eq_iff_iff, decide_eq_true_eq, found_iff s c (s_left ok) hab hl, gen_iff ok fun t ht => (sym_term (hn t ht).1).mp (hn t ht).2]
 exact taken_law (mach_ok ko ad (cf_ok ok)) (cf_ok ok) (shape_of h) (s_nt ok) (fun a ha => by
  obtain ⟨t, ht, rfl⟩ := List.mem_map.mp ha
  exact (hn t ht).2) (by rw [List.length_map]; exact hl)
noncomputable def sigOf (R : Raw) : List Str := AB.filter (· ∈ namesOf R)
theorem sig_in (h : LawRaw R k F E) {ts : List Str} (hs : ∀ t ∈ ts, t ∈ sigOf R) : NumsIn (grOf R) ts := fun t ht => by
 obtain ⟨h1, h2⟩ := List.mem_filter.mp (hs t ht)
 have h2 : t ∈ namesOf R := by simpa using h2
 refine ⟨h2, (sym_term h2).mpr ?_⟩
 rcases List.mem_append.mp h2 with z | z
 ·rcases List.mem_append.mp z with z | z
  ·exact z
  ·rw [List.mem_singleton] at z; subst z; exact absurd h1 (by decide)
 ·exact absurd (lefts_sub (law_ok h) t z) (ab_s3 t h1)
theorem rhs_le (ok : RawOk R) (r : Nat) : (rhs (ACC :: R) r).length ≤ 1000 := by
 cases r with
 | zero => exact (by decide : 2 ≤ 1000)
 | succ r =>
  unfold rhs
  rw [List.getD_cons_succ, List.getD_eq_getElem?_getD]
  cases e : R[r]? with
  | none => exact Nat.zero_le _
  | some x => exact Nat.le_trans (ok.rlen x (List.mem_of_getElem? e)) (by decide)
theorem ok_rhs {x : It} (hx : (grOf R).ok x.1 x.2) : x.1 < (ACC :: R).length ∧ x.2 ≤ (rhs (ACC :: R) x.1).length := by
 refine ⟨by rw [List.length_cons, ← gr_len]; exact hx.1, ?_⟩
 have e := congrArg List.length (acc_rhs hx.1)
 rw [List.length_map] at e
 rw [← e]; exact hx.2
theorem due_none {γ : Gr} {kers : List (List It)} (h : (dueOf γ kers kers.length).isEmpty = true) : ∀ l ∈ kers, Adq γ l := fun l hl => by
 obtain ⟨i, hi⟩ := List.getElem?_of_mem hl
 have e : kers.getD i [] = l := by rw [List.getD_eq_getElem?_getD, hi]; rfl
 refine Classical.byContradiction fun q => ?_
 have : i ∈ dueOf γ kers kers.length := List.mem_filter.mpr ⟨List.mem_range.mpr (List.getElem?_eq_some_iff.mp hi).1, bad_iff.mpr (by rw [e]; exact q)⟩
 rw [List.isEmpty_iff.mp h] at this; cases this
end
noncomputable def Row (n : Nat) (y : Str) : Prop := ∃ ts, (∀ t ∈ ts, t ∈ AB) ∧ ts.length ≤ n ∧ y = joinS ts
theorem Row.nil : Row 0 ⟨#[]⟩ := ⟨[], by simp, Nat.le_refl _, rfl⟩
theorem Row.len {n : Nat} {y : Str} (h : Row n y) : y.length ≤ n := by
 obtain ⟨ts, h1, h2, rfl⟩ := h
 rw [joinS_len h1]; exact h2
theorem Row.up {n : Nat} {y : Str} (h : Row n y) : Row (n + 1) y := let ⟨ts, h1, h2, e⟩ := h; ⟨ts, h1, Nat.le_succ_of_le h2, e⟩
theorem Row.snoc {n : Nat} {y z : Str} (h : Row n y) (hz : z ∈ AB) : Row (n + 1) (y ++ z) := by
 obtain ⟨ts, h1, h2, rfl⟩ := h
 refine ⟨ts ++ [z], fun t ht => ?_, by rw [List.length_append]; exact Nat.succ_le_succ h2, ?_⟩
 ·rcases List.mem_append.mp ht with q | q
  ·exact h1 t q
  ·rw [List.mem_singleton] at q; rw [q]; exact hz
 ·rw [joinS_append]
  show _ = joinS ts ++ (z ++ (⟨#[]⟩ : Str))
  rw [str_nil]
theorem ab_at {u1 u2 : Tok} {m : Nat} {v : Value} (h : [Value.str "a" u1, .str "b" u2][m]? = some v) : ∃ z zt, AB[m]? = some z ∧ v = .str z zt := by
 match m, h with
 | 0, h => exact ⟨_, u1, rfl, (Option.some.inj h).symm⟩
 | 1, h => exact ⟨_, u2, rfl, (Option.some.inj h).symm⟩

section
variable {w : World} {p : PH} {h : Heap}
theorem law_spec {sv : Value} {is : List Int} (G : Grd w p) (H : Holds p h) (hs : LI p sv is) (hl : is.length ≤ 63) :
  Fn w 10 (.ref 447) [sv] p h [] (fun v _ _ => v = .bool true) := by
 intro A gg d1 t os RR rm kk
 have hs0 := hs
 refine hide fun QQ hQQ => ?_
 obtain ⟨sa, svs, sn, rfl, sb, sia⟩ := hs
 refine hQQ ?_
 clear hQQ QQ
 refine call_fnD (mu := []) (fd := fnT 33) [(Str.ofString "script", .ref sa)] [(Str.ofString "script", .ref sa)] rfl (by kernel_rfl) G H rm (by simp) (by simp) (BindsTo.of_eq (by rfl)) (by rfl) (fun _ => by rfl) (by rfl) (by rfl) (by rfl) fun L h₁ t₁ hab kp K hcells => ?_
 have hn1 := hab (L + 1) (Nat.le_succ L)
 have hn2 := hab (L + 2) (Nat.le_trans (Nat.le_succ L) (Nat.le_succ _))
 have hn3 := hab (L + 3) (Nat.le_trans (Nat.le_trans (Nat.le_succ L) (Nat.le_succ _)) (Nat.le_succ _))
 refine hide fun QQ hQQ => ?_
 obtain ⟨oS, hoS, K⟩ := K.cell (hcells (Str.ofString "signs") (L + 3) (by rfl)) (H.none hn3) (Nat.ne_of_gt (show L < L + 3 from Nat.lt_add_of_pos_right (by decide))) (by simp) hn3
 obtain ⟨oT, hoT, K⟩ := K.cell (hcells (Str.ofString "turn") (L + 2) (by rfl)) (H.none hn2) (Nat.ne_of_gt (show L < L + 2 from Nat.lt_add_of_pos_right (by decide))) (by
  intro q hq
  rw [List.mem_singleton] at hq; subst hq
  exact Nat.succ_ne_self (L + 2)) hn2
 obtain ⟨oG, hoG, K⟩ := K.cell (hcells (Str.ofString "grammar") (L + 1) (by rfl)) (H.none hn1) (Nat.succ_ne_self L) (by
  intro q hq
  rcases List.mem_cons.mp hq with rfl | hq
  ·exact Nat.succ_ne_self (L + 1)
  ·rw [List.mem_singleton] at hq; subst hq
   exact Nat.ne_of_gt (show L + 1 < L + 3 from Nat.add_lt_add_left (by decide) L)) hn1
 refine hQQ ?_
 clear hQQ QQ
 refine xv_ fun Qq1 Jq1 => kg_ (gG_law_pairs _) G K.hold (ar_ (kg_ (gG_law_tape _) G K.hold (arnz_ 0 K rfl ?_)))
 refine ⟨⟨_, G, K.hold⟩, ?_⟩
 have oL := K.atL
 have Kb := K
 refine use_fn (tape_spec G K.hold hs0 hl) (rm.deeper.less (by decide)) fun v p2 h2 t2 gro hv => ?_
 refine hide fun QQ hQQ => ?_
 obtain ⟨ta, oTa, rfl, ha0, pa, hta, hTa⟩ := hv
 refine hQQ ?_
 clear hQQ QQ
 have K := K.call gro
 have G := G.mono gro.sub
 have K := K.adopt hta pa (fun e => by
  refine hide fun QQ hQQ => ?_
  obtain ⟨o, ho⟩ := oL
  refine hQQ ?_
  clear hQQ QQ
  rw [← e, ha0] at ho; cases ho) (fun q hq e => by
  have := Kb.get (a := q.1) (o := q.2) hq
  rw [e, ha0] at this; cases this) (Kb.none_of ha0)
 refine z_ ?_
 refine ⟨⟨_, G, K.hold⟩, ?_⟩
 refine use_fn (pairs_spec G K.hold hta pa hTa) (rm.deeper.less (by decide)) fun v p3 h3 t3 gro3 hv => ?_
 refine hide fun QQ hQQ => ?_
 obtain ⟨R, k, F, E, hP, LR⟩ := hv
 obtain ⟨oTb, htb⟩ := gro3.alive ta _ hta
 refine hQQ ?_
 clear hQQ QQ
 have K := (W.callX (m1 := [(ta, oTa)]) (m1' := [(ta, oTb)]) (m2 := [(L + 1, oG), (L + 2, oT), (L + 3, oS)]) K gro3 rfl (fun z hz => by rw [List.mem_singleton] at hz; subst hz; exact htb)).tl
 have G := G.mono gro3.sub
 have psA : PSub p p3 := gro.sub.trans gro3.sub
 have ok := law_ok LR
 have hRl := ok.len
 refine hide fun QQ hQQ => ?_
 obtain ⟨va, pvs, pn, rfl, pb, plen, pall⟩ := id hP
 refine hQQ ?_
 clear hQQ QQ
 refine s_ K fun h2 t2 K => Jq1 _ _ (xv_ fun Qq2 Jq2 => o_ (List_ (r_ (Tuple_ (r_ (g_ fun _ _ => r_ (List_ (r_ (g_ fun _ _ => r_ (g_ fun _ _ => z_ ?_))))))))))
 rename_i u1 s1 u2 s2 u3 s3
 refine nl K (by show 2 ≤ 2 ^ 24; decide) fun se h4 fse K => ?_
 refine hide fun QQ hQQ => ?_
 obtain ⟨K, psse, hfse⟩ := K.fix fse
 refine hQQ ?_
 clear hQQ QQ
 have G := G.mono psse
 generalize p3.add se _ = p4 at K G psse hfse
 refine z_ ?_
 refine nt K (by show 2 ≤ 2 ^ 24; decide) fun ac h5 p5 ps5 hac K => ?_
 have G := G.mono ps5
 refine z_ ?_
 refine nl K (by show 1 ≤ 2 ^ 24; decide) fun l1 h6 fl1 K => ?_
 refine n_ 0 K rfl ?_
 refine add_lists K (K.get (.head _)) (K.hold _ _ (ps5 _ _ (psse _ _ pb))) (by show 1 + pvs.length ≤ 2 ^ 24; exact lnl fun q => lnq [_,_] [aL (tQ (tN 16777216)) (tA (tN 1) Z0),aE Z0 Z1,aL Z1 (tN 6)] rfl q plen hRl) fun ru h7 fru K => ?_
 refine hide fun QQ hQQ => ?_
 obtain ⟨K, psr, hfr⟩ := K.fix fru
 refine hQQ ?_
 clear hQQ QQ
 have K := K.tl
 have G := G.mono psr
 generalize p5.add ru _ = p6 at K G psr hfr
 have ps36 : PSub p3 p6 := (psse.trans ps5).trans psr
 have hP := hP.mono ps36
 have hRU : PairsAt p6 (.ref ru) (ACC :: R) := ⟨ru, [.ref ac] ++ pvs, 0, rfl, hfr, by simp [plen], fun i u x e1 e2 => by
  cases i with
  | zero =>
   cases e1; cases e2
   exact ⟨ac, u1, .ref se, 0, rfl, psr _ _ hac, se, _, 0, rfl, psr _ _ (ps5 _ _ hfse), .cons _ _ (.cons _ _ .nil)⟩
  | succ i => exact (pall i u x e1 e2).mono ps36⟩
 have pb := ps36 _ _ pb
 have pall : ∀ {i : Nat} {v : Value} {x : RL}, pvs[i]? = some v → R[i]? = some x → PairAt p6 x v := fun {i v x} e1 e2 => (pall i v x e1 e2).mono ps36
 refine s_ K fun h2 t2 K => Jq2 _ _ (xv_ fun Qq3 Jq3 => kg_ (gG_plain_grammar _) G K.hold (ar_ ?_))
 refine comp_eval (cl := []) (by rfl) (fun _ => by rfl) (by rfl) (by decide) ?_
 refine n_ 1 K rfl ?_
 refine cl_list (mu := []) (its := [(L + 1, oG), (L + 2, oT), (L + 3, oS)]) (vs := pvs) (.inr ⟨_, _, _, rfl⟩) (.inr fun v hv => ?href) (K.hold _ _ pb) (fun _ _ _ => turn1 ..) (by decide) (by rfl) rm.hd
  (fun D i q l' mu' => (PSub p6 q) ∧ (X2 fun (vs : List Value) (c : Nat) => A3 (mu' = [(D, listOf vs.toArray c)]) (vs.length = i) (∀ (j : Nat) u x, vs[j]? = some u → R[j]? = some x → PairAt q x u)))
  K (fun D _ => ⟨PSub.refl _, [], 0, rfl, rfl, by simp⟩) ?src ?turn ?done
 case href =>
  refine hide fun QQ hQQ => ?_
  obtain ⟨i, hi⟩ := List.getElem?_of_mem hv
  have hil : i < R.length := by
   have := (List.getElem?_eq_some_iff.mp hi).1
   exact lnt fun q => lnq [_,_,_] [aL Z0 Z1,aL (tQ Z1) Z2,aE Z2 Z0] rfl q this plen
  obtain ⟨a, t, lv, n, e, _⟩ := pall hi (List.getElem?_eq_getElem hil)
  refine hQQ ?_
  clear hQQ QQ
  exact ⟨a, e⟩
 case src => rintro D C i q h' lc mu' its K ⟨ps, _⟩; exact ⟨pn, K.hold _ _ (ps _ _ pb)⟩
 case turn =>
  rintro D C i v q h' lc mu' its t' hv hi K hx13_ Qt Jt
  refine hide fun QQ hQQ => ?_
  obtain ⟨ps, vs, c, rfl, vl, vall⟩ := hx13_
  refine hQQ ?_
  clear hQQ QQ
  have hil : i < R.length := by exact lnt fun q => lnq [_,_,_] [aL Z0 Z1,aL (tQ Z1) Z2,aE Z2 Z0] rfl q hi plen
  have hx : R[i]? = some R[i] := List.getElem?_eq_getElem hil
  generalize R[i] = x at hx
  refine hide fun QQ hQQ => ?_
  obtain ⟨a0, xt, lv, n0, rfl, pa0, la, lvs, ln, rfl, plb, lsa⟩ := (pall hv hx).mono ps
  refine hQQ ?_
  clear hQQ QQ
  have lvl := strs_len lsa
  have x3 := ok.rlen x (List.mem_of_getElem? hx)
  have G := G.mono ps
  refine as_t2 K rm.hd (K.hold _ _ pa0) (by kernel_rfl) (by kernel_rfl) (by rfl) (by rfl) fun h8 t8 K => ?_
  refine tests0 ?_
  rw [if_pos (by rfl)]
  refine emit_ ?_
  refine Tuple_ (rn_ 1 K rfl (r_ (kt_ (gB_list _) G K.hold (arnz_ 0 K rfl ?_))))
  refine lst_list K (K.hold _ _ plb) (by show lvs.length ≤ 2 ^ 24; exact lnl fun q => lnq [_,_] [aL (tQ (tN 16777216)) Z0,aL Z1 (tN 3),aE Z0 Z1] rfl q x3 lvl) fun lb h9 c9 flb K => ?_
  refine hide fun QQ hQQ => ?_
  obtain ⟨K, psl, hfl⟩ := K.fix flb
  refine hQQ ?_
  clear hQQ QQ
  refine z_ ?_
  refine nt K (by show 2 ≤ 2 ^ 24; decide) fun tb h10 q10 ps10 htb K => ?_
  refine app_ (m1 := []) K (by show vs.length ≤ 2 ^ 24; exact lnl fun q => lnq [_,_,_] [aL (tQ (tN 16777216)) Z0,aL (tQ Z1) Z2,aE Z0 Z1,aL Z2 (tN 6)] rfl q hil vl hRl) fun h11 n11 K => ?_
  refine Jt _ ⟨_, _, _, _, _, rfl, K, (ps.trans psl).trans ps10, vs ++ [.ref tb], n11, rfl, by simp [vl], fun j u y e1 e2 => ?_⟩
  rw [List.getElem?_append] at e1
  split at e1
  ·exact (vall j u y e1 e2).mono (psl.trans ps10)
  ·have hj : j = i := by
    have := (List.getElem?_eq_some_iff.mp e1).1
    simp at this
    exact lne (fun q => lnq [_,_,_,_] [aL (tQ Z0) Z1,aE Z2 (tN 0),aL Z1 (tA Z2 Z3),aE Z3 Z0] rfl q this (sbL _ _) vl) fun q => lnq [_,_,_] [aL (tQ Z0) Z1,aX (tQ Z0) Z2,aG Z2 Z1] rfl q (by assumption) vl
   subst hj
   rw [show j - vs.length = 0 by exact sbZ fun q => lnq [_,_] [aL (tQ Z0) Z1,aG Z0 Z1] rfl q vl] at e1
   rw [hx] at e2
   cases e1; cases e2
   exact ⟨tb, xt, .ref lb, 0, rfl, htb, lb, lvs, c9, rfl, ps10 _ _ hfl, lsa⟩
 case done =>
  rintro D C oC q h' lc mu' t' K nC hC hx11_
  refine hide fun QQ hQQ => ?_
  obtain ⟨ps, vs, c, rfl, vl, vall⟩ := hx11_
  refine hQQ ?_
  clear hQQ QQ
  refine comp_val K nC hC fun h8 K => ?_
  have hD : h.get? D = none := (K.own (D, listOf vs.toArray c) (.head _)).2.2.2.resolve_left (by simp)
  refine hide fun QQ hQQ => ?_
  obtain ⟨K, psD, hfD⟩ := K.fix hD
  refine hQQ ?_
  clear hQQ QQ
  generalize q.add D _ = p7 at K psD hfD
  have G := G.mono (ps.trans psD)
  have hRU := hRU.mono (ps.trans psD)
  have hP := hP.mono (ps.trans psD)
  have hPD : PairsAt p7 (.ref D) R := ⟨D, vs, c, rfl, hfD, by exact lne (fun q => lnq [_,_,_] [aL (tQ Z0) Z1,aE Z1 Z2,aE Z2 Z0] rfl q vl plen) fun q => lnq [_,_,_] [aL (tQ Z0) Z1,aG Z0 Z2,aG Z2 Z1] rfl q vl plen, fun j u x e1 e2 => (vall j u x e1 e2).mono psD⟩
  refine z_ ?_
  refine ⟨⟨_, G, K.hold⟩, ?_⟩
  refine use_fn (plain_spec G K.hold hPD ok) (rm.deeper.less (by decide)) fun v p8 h9 t9 gro hv => ?_
  refine hide fun QQ hQQ => ?_
  obtain ⟨gr, fs, rfl, hgr⟩ := hv
  refine hQQ ?_
  clear hQQ QQ
  have K := K.call gro
  have G := G.mono gro.sub
  have hRU := hRU.mono gro.sub
  have hP := hP.mono gro.sub
  refine stC (m1 := []) (m2 := [(L + 2, oT), (L + 3, oS)]) K hoG (by kernel_rfl) (by rfl) (by rfl) fun h10 oG2 hoG2 K => ?_
  refine hide fun QQ hQQ => ?_
  obtain ⟨K, psG, hfG⟩ := K.fix hn1
  refine hQQ ?_
  clear hQQ QQ
  have G := G.mono psG
  have hRU := hRU.mono psG
  have hP := hP.mono psG
  have hgr := hgr.mono psG
  generalize p8.add (L + 1) oG2 = p9 at K psG hfG G hRU hP hgr
  refine Jq3 _ _ (xv_ fun Qq4 Jq4 => kg_ (gG_build _) G K.hold (ar_ ?_))
  refine ldC (K.hold _ _ hfG) hoG2 (by kernel_rfl) (by rfl) (by rfl) (by kernel_rfl) ?_
  refine z_ ?_
  refine ⟨⟨_, G, K.hold⟩, ?_⟩
  refine use_fn (build_spec G K.hold hgr (gr_ok ok) (by rw [gr_len]; exact Nat.succ_pos _)) rm.deeper fun v q1 h12 t12 gro2 hv => ?_
  refine hide fun QQ hQQ => ?_
  obtain ⟨kers, M⟩ := hv
  have K := K.call gro2
  have G := G.mono gro2.sub
  have hRU := hRU.mono gro2.sub
  have hP := hP.mono gro2.sub
  have hgr := hgr.mono gro2.sub
  have hfG := gro2.sub _ _ hfG
  have ko := aut_kers M
  have M0 := M
  obtain ⟨m1, m2, m3, m4, m5⟩ := mo_sgoto w.params
  obtain ⟨b1, b2, b3, b4, b5, b6, b7⟩ := ao_st w.params
  obtain ⟨x, dx, o, refs, ls, n, rfl, px, pd, ao, pls, rlen, dn, kok, k0, kb, knd⟩ := M
  refine hQQ ?_
  clear hQQ QQ
  have ob : Ob q1 x 225 _ := Ob.of px pd ao
  refine s_ K fun h2 t2 K => Jq4 _ _ (xv_ fun Qq5 Jq5 => List_ (z_ ?_))
  refine nl K (by decide) fun du h13 fdu K => ?_
  refine s_ K fun h2 t2 K => Jq5 _ _ (x_ fun Qq6 Jq6 => wpAny_For (tn_ 1 K rfl ?_))
  refine ga G K.hold (ob.mono K.hold) m4 (by exact lkN 0 (by kernel_rfl) rfl) rfl fun _ => ?_
  refine for_list (mu := [(du, listOf ([] : List Value).toArray 0)]) (its := [(L + 2, oT), (L + 3, oS)]) (vs := refs) rm.hd (.inl rfl) (.inl rfl) (fun i q l mu' => (PSub q1 q) ∧ (X3 fun (vs : List Value) (c : Nat) (r : AL) => A3 (l = (Str.ofString "due", .ref du) :: (Str.ofString "machine", .ref x) :: (Str.ofString "rules", .ref ru) :: (Str.ofString "pairs", .ref va) :: r) (mu' = [(du, listOf vs.toArray c)]) (IntsAre vs (zs (dueOf (grOf R) kers i)))))
   K ⟨PSub.refl _, [], 0, _, rfl, rfl, .nil⟩ ?src2 ?turn2 ?done2
  case src2 => rintro i q h' l mu' its K ⟨ps, _⟩; exact ⟨n, K.hold _ _ (ps _ _ pls)⟩
  case turn2 =>
   rintro i v q h' l mu' its t' hv hi K hx11_ Qt Jt
   refine hide fun QQ hQQ => ?_
   obtain ⟨ps, vs, c, r, rfl, rfl, ia⟩ := hx11_
   have G := G.mono ps
   have hRU := hRU.mono ps
   have hgr := hgr.mono ps
   have hfG := ps _ _ hfG
   have D1 := (dn i v hv).mono (more := []) ps
   rw [List.append_nil] at D1
   obtain ⟨x', dx', mv', od', om', kv', rfl, px', pd', pm', its', iv', rv', rl', mvs', sh', ta', sy', tb', ao', li', nd', mem', lr', rp', lom', Dm', mp', mk', hsh'⟩ := D1
   have obs : Ob q x' 106 _ := Ob.of px' pd' ao'
   have hki : kers.getD i [] ∈ kers := by
    have : i < kers.length := by exact lnt fun q => lnq [_,_,_] [aL Z0 Z1,aL (tQ Z1) Z2,aE Z2 Z0] rfl q hi rlen
    rw [List.getD_eq_getElem?_getD, List.getElem?_eq_getElem this]; exact List.getElem_mem this
   have kk1 : KerOk (grOf R) (kers.getD i []) := kok _ hki
   have iok : ∀ y ∈ its', (grOf R).ok y.1 y.2 := fun y hy => Gr.Clo.ok kk1.1 ((mem' y).mp hy)
   have ilen := Gr.its_len iok nd'
   have o24 := (gr_ok ok).2.2.1
   have dl := dueOf_len (grOf R) kers i
   have vl := ia.length
   have hvl : vs.length ≤ i := by rw [vl]; simpa [zs] using dl
   obtain ⟨iva, ivs, ivn, rfl, ivb, ivi⟩ := li'
   refine hQQ ?_
   clear hQQ QQ
   have ivl : ivs.length = its'.length := by rw [ivi.length]; simp [zs, Gr.its]
   refine wpAny_assign_Name (s_ K fun h2 t2 K => x_ fun Qq7 Jq7 => ?_)
   refine comp_asg (cl := [(Str.ofString "grammar", L + 1)]) (by rfl) (by rfl) (fun _ => by rfl) (by rfl) (by decide) ?_
   refine tn_ 0 K rfl ?_
   refine ga G K.hold (obs.mono K.hold) b4 (by exact lkN 3 (by kernel_rfl) rfl) rfl fun _ => ?_
   refine cl_list (mu := []) (its := (du, listOf vs.toArray c) :: its) (vs := ivs) (.inl rfl) (.inl rfl) (K.hold _ _ ivb) (fun _ _ _ => turn1 ..) (by decide) (by rfl) rm.hd
    (fun D j q' lc mu' => (PSub q q') ∧ (X2 fun (us : List Value) (c : Nat) => A3 (mu' = [(D, listOf us.toArray c)]) (us.length = j) (∀ (k : Nat) u (y : It), us[k]? = some u → its'[k]? = some y → ∃ b n t1 t2, u = .ref b ∧ q' b = some (tupOf [.int (y.1 : Nat) t1, .int (y.2 : Nat) t2].toArray n))))
    K (fun D _ => ⟨PSub.refl _, [], 0, rfl, rfl, by simp⟩) ?src3 ?turn3 ?done3
   case src3 => rintro D C j q' h' lc mu' its K ⟨ps', _⟩; exact ⟨ivn, K.hold _ _ (ps' _ _ ivb)⟩
   case turn3 =>
    rintro D C j v q' h' lc mu' its t' hv hj K hx13_ Qt Jt
    refine hide fun QQ hQQ => ?_
    obtain ⟨ps', us, c, rfl, ul, uall⟩ := hx13_
    refine hQQ ?_
    clear hQQ QQ
    have hy : its'[j]? = some its'[j] := List.getElem?_eq_getElem (by exact lnt fun q => lnq [_,_,_] [aL Z0 Z1,aL (tQ Z1) Z2,aE Z2 Z0] rfl q hj ivl)
    generalize its'[j] = y at hy
    have hyo := iok y (List.mem_of_getElem? hy)
    refine hide fun QQ hQQ => ?_
    obtain ⟨yt, hyv⟩ := ints_at ivi (zs_at (l := (grOf R).its its') (n := (grOf R).it y.1 y.2) (by unfold Gr.its; rw [List.getElem?_map, hy]; rfl))
    refine hQQ ?_
    clear hQQ QQ
    rw [hv] at hyv
    have hyv := Option.some.inj hyv
    subst hyv
    have G := G.mono ps'
    have hgr := hgr.mono ps'
    have hfG := ps' _ _ hfG
    refine wpAny_assign_Name (s_ K fun h2 t2 K => ?_)
    refine tests0 ?_
    rw [if_pos rfl]
    refine emit_ ?_
    refine Tuple_ (r_ (d_ ?_))
    refine ldC (K.hold _ _ hfG) hoG2 (by kernel_rfl) (by rfl) (by rfl) (by kernel_rfl) ?_
    refine gm G K.hold (hgr.ob.mono K.hold) (mo_rule_of _) (hgr.only _ (by kernel_rfl)) ?_
    refine f_ (arnz_ 0 K rfl ?_)
    refine ⟨⟨_, G, K.hold⟩, ?_⟩
    refine use_fn (rule_of_spec G K.hold hgr hyo) (rm.deeper.less (by decide)) fun v p20 h20 t20 gro3 hv => ?_
    refine hide fun QQ hQQ => ?_
    obtain ⟨tv1, rfl⟩ := hv
    refine hQQ ?_
    clear hQQ QQ
    have K := K.call gro3
    have G := G.mono gro3.sub
    have hgr := hgr.mono gro3.sub
    have hfG := gro3.sub _ _ hfG
    refine r_ (d_ ?_)
    refine ldC (K.hold _ _ hfG) hoG2 (by kernel_rfl) (by rfl) (by rfl) (by kernel_rfl) ?_
    refine gm G K.hold (hgr.ob.mono K.hold) (mo_dot_of _) (hgr.only _ (by kernel_rfl)) ?_
    refine f_ (arnz_ 0 K rfl ?_)
    refine ⟨⟨_, G, K.hold⟩, ?_⟩
    refine use_fn (dot_of_spec G K.hold hgr hyo) (rm.deeper.less (by decide)) fun v p21 h21 t21 gro4 hv => ?_
    refine hide fun QQ hQQ => ?_
    obtain ⟨tv2, rfl⟩ := hv
    refine hQQ ?_
    clear hQQ QQ
    have K := K.call gro4
    refine z_ ?_
    refine nt K (by show 2 ≤ 2 ^ 24; decide) fun tb h22 p22 ps22 htb K => ?_
    refine app_ (m1 := []) K (by show us.length ≤ 2 ^ 24; exact lnl fun q => lnq [_,_,_,_,_] [aL (tQ (tN 16777216)) Z0,aE Z0 Z1,aL (tQ Z1) Z2,aE Z2 Z3,aL Z4 (tN 24),aL Z3 Z4] rfl q ul hj ivl o24 ilen) fun h23 n23 K => ?_
    have ps3 : PSub q' p22 := (gro3.sub.trans gro4.sub).trans ps22
    refine Jt _ ⟨_, _, _, _, _, rfl, K, ps'.trans ps3, us ++ [.ref tb], n23, rfl, by simp [ul], fun k u z e1 e2 => ?_⟩
    rw [List.getElem?_append] at e1
    split at e1
    ·refine hide fun QQ hQQ => ?_
     obtain ⟨b, n, t1, t2, e3, e4⟩ := uall k u z e1 e2
     refine hQQ ?_
     clear hQQ QQ
     exact ⟨b, n, t1, t2, e3, ps3 _ _ e4⟩
    ·have hkj : k = j := by
      have := (List.getElem?_eq_some_iff.mp e1).1
      simp at this
      exact lne (fun q => lnq [_,_,_,_] [aL (tQ Z0) Z1,aE Z2 (tN 0),aL Z1 (tA Z2 Z3),aE Z3 Z0] rfl q this (sbL _ _) ul) fun q => lnq [_,_,_] [aL (tQ Z0) Z1,aX (tQ Z0) Z2,aG Z2 Z1] rfl q (by assumption) ul
     subst hkj
     rw [show k - us.length = 0 by exact sbZ fun q => lnq [_,_] [aL (tQ Z0) Z1,aG Z0 Z1] rfl q ul] at e1
     rw [hy] at e2
     cases e1; cases e2
     exact ⟨tb, 0, tv1, tv2, rfl, htb⟩
   case done3 =>
    rintro D C oC q' h' lc mu' t' K nC hC hx11_
    refine hide fun QQ hQQ => ?_
    obtain ⟨ps', us, c', rfl, ul, uall⟩ := hx11_
    refine hQQ ?_
    clear hQQ QQ
    refine comp_use K nC hC (by kernel_rfl) (by rfl) (by rfl) fun h6 t6 K => ?_
    have hD : h.get? D = none := (K.own (D, listOf us.toArray c') (.head _)).2.2.2.resolve_left (by simp)
    refine hide fun QQ hQQ => ?_
    obtain ⟨K, psD, hfD⟩ := K.fix hD
    refine hQQ ?_
    clear hQQ QQ
    generalize q'.add D _ = q2 at K psD hfD
    have ps2 : PSub q q2 := ps'.trans psD
    have hI : ItsAt q2 (.ref D) its' := ⟨D, us, c', rfl, hfD, by exact lne (fun q => lnq [_,_,_] [aL (tQ Z0) Z1,aE Z1 Z2,aE Z2 Z0] rfl q ul ivl) fun q => lnq [_,_,_] [aL (tQ Z0) Z1,aG Z0 Z2,aG Z2 Z1] rfl q ul ivl, fun k u z e1 e2 => let ⟨b, n, t1, t2, e3, e4⟩ := uall k u z e1 e2; ⟨b, n, t1, t2, e3, psD _ _ e4⟩⟩
    have G := G.mono ps2
    refine Jq7 _ _ (x_ fun Qq8 Jq8 => wpAny_If (isTrue_plain (kg_ (gG_law_needs _) G K.hold (arn_ 4 K rfl (rnz_ 0 K rfl ?_)))))
    refine ⟨⟨_, G, K.hold⟩, ?_⟩
    refine use_fn (needs_spec G K.hold (hRU.mono ps2) hI (fun y hy => ok_rhs (iok y hy)) (by rw [List.length_cons]; exact lnl fun q => lnq [_] [aL (tQ (tN 1000)) (tQ Z0),aL Z0 (tN 6)] rfl q hRl) (by exact lnl fun q => lnq [_,_] [aL (tQ (tN 1000)) Z0,aL Z1 (tN 24),aL Z0 Z1] rfl q o24 ilen) (rhs_le ok)) (rm.deeper.less (by decide)) fun v p20 h20 t20 gro3 hv => ?_
    subst hv
    have K := K.call gro3
    have G := G.mono gro3.sub
    have ps20 := ps2.trans gro3.sub
    have nl : needsB (ACC :: R) its' = true ↔ bad (grOf R) kers i = true := (needs_link LR mem' nd' iok).trans bad_iff.symm
    refine h_ ?_
    refine split_b (fun hb => ?_) (fun hb => ?_)
    ·refine x_ fun Qq9 Jq9 => wpAny_Expr_any (dn_ 2 K rfl ?_)
     refine app_m (vs := vs.toArray) (n := c) (K.get (.head _)) ?_
     refine l_ (ar_ (tn_ 1 K rfl ?_))
     refine ga G K.hold ((obs.mono ps20).mono K.hold) b1 (by exact lkN 6 (by kernel_rfl) rfl) rfl fun _ => ?_
     refine z_ ?_
     refine app_ (m1 := []) K (by show vs.length ≤ 2 ^ 24; exact lnl fun q => lnq [_,_,_,_] [aL (tQ (tN 16777216)) Z0,aL Z0 Z1,aL (tQ Z1) Z2,aL Z3 (tN 16777216),aE Z2 Z3] rfl q hvl hi kb rlen) fun h23 n23 K => ?_
     refine Jq9 _ _ (e_ (Jq8 _ _ (e_ (Jt _ _ ?_))))
     have K := K.pull (x := Str.ofString "pairs") (by exact lkN 5 (by kernel_rfl) rfl)
     have K := K.pull (x := Str.ofString "rules") (by exact lkN 5 (by kernel_rfl) rfl)
     have K := K.pull (x := Str.ofString "machine") (by exact lkN 5 (by kernel_rfl) rfl)
     have K := K.pull (x := Str.ofString "due") (by exact lkN 5 (by kernel_rfl) rfl)
     refine ⟨_, _, _, _, _, rfl, K, ps.trans ps20, _, n23, _, rfl, rfl, ?_⟩
     rw [dueOf_succ, if_pos (nl.mp hb), zs_app]
     exact ints_app ia ⟨_, rfl⟩
    ·refine e_ (Jq8 _ _ (e_ (Jt _ _ ?_)))
     have K := K.pull (x := Str.ofString "pairs") (by exact lkN 5 (by kernel_rfl) rfl)
     have K := K.pull (x := Str.ofString "rules") (by exact lkN 5 (by kernel_rfl) rfl)
     have K := K.pull (x := Str.ofString "machine") (by exact lkN 5 (by kernel_rfl) rfl)
     have K := K.pull (x := Str.ofString "due") (by exact lkN 5 (by kernel_rfl) rfl)
     refine ⟨_, _, _, _, _, rfl, K, ps.trans ps20, _, c, _, rfl, rfl, ?_⟩
     rw [dueOf_succ, if_neg (fun e => by rw [nl.mpr e] at hb; cases hb), List.append_nil]
     exact ia
  case done2 =>
   rintro q h' l mu' t' K hx6_
   refine hide fun QQ hQQ => ?_
   obtain ⟨ps, vs, c, r, rfl, rfl, ia⟩ := hx6_
   refine hQQ ?_
   clear hQQ QQ
   have G := G.mono ps
   refine Jq6 _ _ (x_ fun Qq7 Jq7 => wpAny_If (isTrue_or (q_ (kg_ (gG_inadequate_states _) G K.hold (arnz_ 1 K rfl ?_)))))
   rw [rlen] at ia
   have M1 := M0.mono ps
   refine ⟨⟨_, G, K.hold⟩, ?_⟩
   refine use_fn (inadequate_spec G K.hold (gr_ok ok) M1) (rm.deeper.less (by decide)) fun v q2 h20 t20 gro3 hv => ?_
   refine hide fun QQ hQQ => ?_
   obtain ⟨ia2, ivs2, in2, rfl, ib2, ii2⟩ := hv
   refine hQQ ?_
   clear hQQ QQ
   have K := K.call gro3
   have G := G.mono gro3.sub
   have M1 := M1.mono gro3.sub
   refine n_ 0 K rfl ?_
   refine ne_li rm.deeper (K.hold _ _ ib2) (K.get (.head _)) ii2 ia ?_
   refine h_ ?_
   refine split_b (fun hb => by simp at hb) fun _ => ?_
   refine isTrue_or (q_ (kg_ (gG_is_lr_zero _) G K.hold (arnz_ 1 K rfl ?_)))
   refine ⟨⟨_, G, K.hold⟩, ?_⟩
   refine use_fn (is_lr_zero_spec G K.hold (gr_ok ok) M1) (rm.deeper.less (by decide)) fun v q3 h21 t21 gro4 hv => ?_
   subst hv
   have K := K.call gro4
   have G := G.mono gro4.sub
   have M1 := M1.mono gro4.sub
   have evs : vs.isEmpty = (dueOf (grOf R) kers kers.length).isEmpty := by
    have vl := ia.length
    rw [Bool.eq_iff_iff, List.isEmpty_iff_length_eq_zero, List.isEmpty_iff_length_eq_zero, vl]; simp [zs]
   refine wpAny_Compare1 (n_ 0 K rfl (List_ (z_ ?_)))
   refine nl K (by decide) fun z1 h22 fz1 K => ?_
   refine eq_l0 (vs := vs) rm.deeper (K.get (.tail _ (.head _))) (K.get (.head _)) ?_
   have K := K.tl
   refine PyProof.Rows.ne_bool ?_
   rw [evs]
   refine h_ ?_
   refine split_b (fun hb => by simp at hb) fun _ => ?_
   refine isTrue_or_nil ?_
   refine split_b (fun hb => by cases hb) fun _ => ?_
   refine e_ (Jq7 _ _ (x_ fun Qq8 Jq8 => wpAny_If (qn_ 0 K rfl (List_ (z_ ?_)))))
   refine nl K (by decide) fun z2 h23 fz2 K => ?_
   refine ne_l0 (vs := vs) rm.deeper (K.get (.tail _ (.head _))) (K.get (.head _)) ?_
   have K := K.tl
   rw [evs]
   refine h_ ?_
   refine split_b (fun hb => ?_) (fun hb => ?_)
   ·refine wj_ (wpAny_Constant_bool (Jq8 _ _ ?_))
    exact kk _ _ _ _ K.gro rfl
   have ad := due_none (by simpa using hb)
   have ps3 : PSub q1 q3 := (ps.trans gro3.sub).trans gro4.sub
   have hP := hP.mono ps3
   have hgr := hgr.mono ps3
   have hfG := ps3 _ _ hfG
   refine e_ (Jq8 _ _ (xv_ fun Qq9 Jq9 => u_ (kg_ (gG_law_words _) G K.hold (arn_ 3 K rfl (r_ (m_ fun _ _ => z_ ?_))))))
   refine ⟨⟨_, G, K.hold⟩, ?_⟩
   refine use_fn (words_spec G K.hold hP LR) (rm.deeper.less (by decide)) fun v q4 h24 t24 gro5 hv => ?_
   refine hide fun QQ hQQ => ?_
   obtain ⟨dw, odw, kvs, D, rfl, hdw, Dw, sdw, sn, wc, wl⟩ := hv
   have K := K.call gro5
   have G := G.mono gro5.sub
   have M1 := M1.mono gro5.sub
   have hgr := hgr.mono gro5.sub
   have hfG := gro5.sub _ _ hfG
   obtain ⟨lv, hlv, wa, wvs, wn, rfl, wb, wsa⟩ := wl (("S" : Str)) (s_left ok)
   refine hQQ ?_
   clear hQQ QQ
   refine g_ fun _ _ => ?_
   refine d_sub (K.hold _ _ hdw) Dw (str_is _ _) hlv (by rfl) fun t25 => ?_
   refine s_ K fun h2 t2 K => Jq9 _ _ (xv_ fun Qq10 Jq10 => List_ (r_ (g_ fun _ _ => z_ ?_)))
   refine nl K (by show 1 ≤ 2 ^ 24; decide) fun z3 h26 fz3 K => ?_
   refine hide fun QQ hQQ => ?_
   obtain ⟨K, psz, hfz⟩ := K.fix fz3
   refine hQQ ?_
   clear hQQ QQ
   have G := G.mono psz
   have M1 := M1.mono psz
   have hgr := hgr.mono psz
   have hfG := psz _ _ hfG
   have wb := psz _ _ wb
   generalize q4.add z3 _ = q5 at K G M1 hgr hfG wb hfz
   have K := K.tl
   refine s_ K fun h2 t2 K => Jq10 _ _ (x_ fun Qq11 Jq11 => wpAny_For (kt_ (gB_range _) G K.hold (ar_ (m_ fun _ _ => z_ ?_))))
   refine rg (n := 3) K fun rr h27 t27 a7 b7 c7 K hr _ => ?_
   have K := K.pull (x := Str.ofString "machine") (by exact lkN 3 (by kernel_rfl) rfl)
   have K := K.pull (x := Str.ofString "words") (by exact lkN 2 (by kernel_rfl) rfl)
   have K := K.pull (x := Str.ofString "rows") (by exact lkN 2 (by kernel_rfl) rfl)
   refine for_rg (mu := [(L + 2, oT)]) (its := [(L + 3, oS)]) rm.hd (by rfl) hr (by decide)
    (fun i q l mu' => (PSub q5 q) ∧ (X5 fun (rl : Addr) (o : Obj) (c : Option Value) (r : AL) (xs : List Str) => A6 (l = (Str.ofString "rows", .ref rl) :: (Str.ofString "words", .ref wa) :: (Str.ofString "machine", .ref x) :: r) (mu' = [(L + 2, o)]) (o.data = .cell c) (LS q (.ref rl) xs) (xs.length ≤ 3 ^ i) (∀ y ∈ xs, Row i y)))
    K ⟨PSub.refl _, z3, oT, none, _, [⟨#[]⟩], rfl, rfl, hoT, ⟨z3, _, 0, rfl, hfz, .cons _ _ .nil⟩, Nat.le_refl _, fun y hy => by rw [List.mem_singleton] at hy; subst hy; exact Row.nil⟩ ?turn4 ?done4
   case turn4 =>
    rintro i q h' l mu' its t' u hi K hx10_ Qt Jt
    refine hide fun QQ hQQ => ?_
    obtain ⟨ps4, rl, o4, c4, r4, xs, rfl, rfl, ho4, ⟨rla, rvs, rn, erl, hrl, rsa⟩, xl, xr⟩ := hx10_
    cases erl
    all_goals (refine hQQ ?_; clear hQQ QQ)
    have G := G.mono ps4
    have lrv := strs_len rsa
    have x27 : 3 ^ i ≤ 27 := by
     have : 3 ^ i ≤ 3 ^ 3 := Nat.pow_le_pow_right (by decide) (Nat.le_of_lt hi)
     exact this
    refine wpAny_assign_Name (stC (m1 := []) K ho4 (by kernel_rfl) (by rfl) (by rfl) fun h5 o5 ho5 K => ?_)
    refine xv_ fun Qq12 Jq12 => on_ 0 K rfl ?_
    refine comp_eval (cl := [(Str.ofString "turn", L + 2)]) (by rfl) (fun _ => by rfl) (by rfl) (by decide) ?_
    refine n_ 0 K rfl ?_
    refine cl_list (mu := [(L + 2, o5)]) (its := its) (vs := rvs) (.inl rfl) (.inl rfl) (K.hold _ _ hrl) (fun _ _ _ => turn2a ..) (by decide) (by rfl) rm.hd
     (fun D j q' lc mu' => (PSub q q') ∧ (X3 fun (us : List Value) (c : Nat) (ys : List Str) => A4 (mu' = [(D, listOf us.toArray c), (L + 2, o5)]) (StrsAre us ys) (ys.length ≤ 2 * j) (∀ y ∈ ys, Row (i + 1) y)))
     K (fun D _ => ⟨PSub.refl _, [], 0, [], rfl, .nil, Nat.le_refl _, by simp⟩) ?src5 ?turn5 ?done5
    case src5 => rintro D C j q' h' lc mu' its K ⟨ps5, _⟩; exact ⟨rn, K.hold _ _ (ps5 _ _ hrl)⟩
    case turn5 =>
     rintro D C j v q' h' lc mu' its t' hv hj K hx13_ Qt Jt
     refine hide fun QQ hQQ => ?_
     obtain ⟨ps5, us, c, ys, rfl, usa, yl, yr⟩ := hx13_
     refine hQQ ?_
     clear hQQ QQ
     have hrw : xs[j]? = some (xs[j]'(by exact lnt fun q => lnq [_,_,_] [aL Z0 Z1,aL (tQ Z1) Z2,aE Z2 Z0] rfl q hj lrv)) := List.getElem?_eq_getElem _
     generalize xs[j]'_ = row at hrw
     refine hide fun QQ hQQ => ?_
     obtain ⟨rt, hrv⟩ := strs_at rsa hrw
     refine hQQ ?_
     clear hQQ QQ
     rw [hv] at hrv
     have hrv := Option.some.inj hrv
     subst hrv
     have hrow := xr row (List.mem_of_getElem? hrw)
     have l1 := hrow.len
     have hi3 : i < 3 := hi
     have G := G.mono ps5
     refine wpAny_assign_Name (s_ K fun h2 t2 K => ?_)
     refine tests1 ?_
     refine q_ (kb_ (gB_len _) G K.hold (arnz_ 0 K rfl ?_))
     refine PyProof.Rows.len_str (by omega) ?_
     skip
     refine ldC (K.get (.tail _ (.head _))) ho5 (by kernel_rfl) (by rfl) (by rfl) (by kernel_rfl) ?_
     refine i_eq (h_ ?_)
     refine split_b (fun hc => ?_) (fun hc => ?_)
     ·have l2 : (row.length : Int) = (i : Int) := by simpa using hc
      refine inner_ rm.deeper (fun _ => by rfl) ?_
      refine Tuple_ (r_ (g_ fun _ _ => r_ (g_ fun _ _ => z_ ?_)))
      refine nt K (by show 2 ≤ 2 ^ 24; decide) fun tb h10 q10 ps10 htb K => ?_
      refine ci_tupS (mu := [(D, listOf us.toArray c), (L + 2, o5)]) (its := its) (by rfl) rm.hd
       (fun m q'' lc mu' => (PSub q10 q'') ∧ (X4 fun (us : List Value) (c : Nat) (ys : List Str) (r : AL) => A5 (lc = (Str.ofString "row", .str row rt) :: r) (mu' = [(D, listOf us.toArray c), (L + 2, o5)]) (StrsAre us ys) (ys.length ≤ 2 * j + m) (∀ y ∈ ys, Row (i + 1) y)))
       K ⟨PSub.refl _, us, c, ys, _, rfl, rfl, usa, by exact lnl fun q => lnq [_,_] [aL (tA (tA (tM 2 Z0) (tN 0)) (tN 1)) Z1,aL Z1 (tM 2 Z0)] rfl q yl, yr⟩ (K.hold _ _ htb) ?src6 ?turn6 ?done6
      case src6 => rintro m q'' h' lc mu' its K ⟨ps6, _⟩; exact ⟨0, K.hold _ _ (ps6 _ _ htb)⟩
      case done6 =>
       rintro q'' h' lc mu' t' K hx6_
       refine hide fun QQ hQQ => ?_
       obtain ⟨ps6, us', c', ys', r6, rfl, rfl, usa', yl', yr'⟩ := hx6_
       refine hQQ ?_
       clear hQQ QQ
       exact Jt _ ⟨_, _, _, _, _, rfl, K, (ps5.trans ps10).trans ps6, us', c', ys', rfl, usa', yl', yr'⟩
      case turn6 =>
       rintro m v q'' h' lc mu' its t' hv hm K hx11_ Qt Jt
       refine hide fun QQ hQQ => ?_
       obtain ⟨ps6, us', c', ys', r6, rfl, rfl, usa', yl', yr'⟩ := hx11_
       have hm2 : m < 2 := hm
       obtain ⟨z, zt, hz, rfl⟩ := ab_at hv
       refine hQQ ?_
       clear hQQ QQ
       have hzm := List.mem_of_getElem? hz
       have z1 := ab_one z hzm
       have ul := strs_len usa'
       refine wpAny_assign_Name (s_ K fun h2 t2 K => ?_)
       refine tests0 ?_
       rw [if_pos rfl]
       refine emit_ ?_
       refine on_ 1 K rfl (n_ 0 K rfl ?_)
       refine PyProof.Rows.add_str (fun t9 tk9 => ?_) (by show _ ≤ 2 ^ 24; exact lnl fun q => lnq [_,_,_] [aL (tQ (tN 16777216)) (tA Z0 Z1),aE Z1 (tN 1),aE Z0 Z2,aL (tQ Z2) (tN 3)] rfl q z1 (Int.ofNat.inj l2) hi3)
       skip
       refine app_ (m1 := []) K (by show us'.length ≤ 2 ^ 24; exact lnl fun q => lnq [_,_,_,_,_,_,_] [aL (tQ (tN 16777216)) Z0,aE Z0 Z1,aL (tQ Z2) (tN 2),aL Z1 (tA (tM 2 Z3) Z2),fL 2 (tQ Z3) Z4,fL 2 Z5 (tN 27),fE 2 Z4 Z6,fL 2 Z6 Z5] rfl q ul hm2 yl' hj x27 lrv xl) fun h11 n11 K => ?_
       have K := K.pull (x := Str.ofString "row") (by exact lkN 1 (by kernel_rfl) rfl)
       refine Jt _ ⟨_, _, _, _, _, rfl, K, ps6, _, n11, ys' ++ [row ++ z], _, rfl, rfl, strs_app usa' (.cons _ _ .nil), by rw [List.length_append, List.length_singleton]; exact lnl fun q => lnq [_,_,_] [aL (tA (tA (tM 2 Z0) (tQ Z1)) (tN 1)) (tQ Z2),aL Z2 (tA (tM 2 Z0) Z1)] rfl q yl', fun y hy => ?_⟩
       rcases List.mem_append.mp hy with q | q
       ·exact yr' y q
       ·rw [List.mem_singleton] at q; rw [q]; exact hrow.snoc hzm
     ·exact Jt _ ⟨_, _, _, _, _, rfl, K, ps5, us, c, ys, rfl, usa, by exact lnl fun q => lnq [_,_] [aL (tA (tM 2 (tQ Z0)) (tN 1)) Z1,aL Z1 (tM 2 Z0)] rfl q yl, yr⟩
    case done5 =>
     rintro D C oC q' h' lc mu' t' K nC hC hx11_
     refine hide fun QQ hQQ => ?_
     obtain ⟨ps5, us, c, ys, rfl, usa, yl, yr⟩ := hx11_
     refine hQQ ?_
     clear hQQ QQ
     refine comp_val K nC hC fun h6 K => ?_
     have ul := strs_len usa
     refine add_lists K (K.hold _ _ (ps5 _ _ hrl)) (K.get (.head _)) (by show rvs.length + us.length ≤ 2 ^ 24; exact lnl fun q => lnq [_,_,_,_,_] [aL (tQ (tN 16777216)) (tA Z0 Z1),aE Z1 Z2,aL Z2 (tM 2 Z0),fL 3 Z3 (tN 27),fE 3 Z0 Z4,fL 3 Z4 Z3] rfl q ul yl x27 lrv xl) fun rb h7 frb K => ?_
     refine hide fun QQ hQQ => ?_
     obtain ⟨K, psb, hfb⟩ := K.fix frb
     refine hQQ ?_
     clear hQQ QQ
     have K := K.tl
     refine s_ K fun h2 t2 K => Jq12 _ _ (e_ (Jt _ _ ?_))
     have K := K.pull (x := Str.ofString "machine") (by exact lkN 3 (by kernel_rfl) rfl)
     have K := K.pull (x := Str.ofString "words") (by exact lkN 3 (by kernel_rfl) rfl)
     have K := K.pull (x := Str.ofString "rows") (by exact lkN 2 (by kernel_rfl) rfl)
     refine ⟨_, _, _, _, _, rfl, K, (ps4.trans ps5).trans psb, rb, o5, _, _, xs ++ ys, rfl, rfl, ho5, ⟨rb, _, 0, rfl, hfb, strs_app rsa usa⟩, ?_, fun y hy => ?_⟩
     ·rw [List.length_append, Nat.pow_succ]; exact lnl fun q => lnq [_,_,_,_] [aL (tQ (tR Z0 3)) (tA Z1 Z2),aL Z2 (tM 2 Z3),fE 2 Z3 Z1,fL 3 Z1 Z0] rfl q yl lrv xl
     ·exact (List.mem_append.mp hy).elim (fun q => (xr y q).up) (yr y)
   case done4 =>
    rintro q h' l mu' t' K hx6_
    refine hide fun QQ hQQ => ?_
    obtain ⟨ps4, rl, o4, c4, r4, xs, rfl, rfl, ho4, ⟨rla, rvs, rn, erl, hrl, rsa⟩, xl, xr⟩ := hx6_
    cases erl
    all_goals (refine hQQ ?_; clear hQQ QQ)
    have G := G.mono ps4
    have M1 := M1.mono ps4
    have hgr := hgr.mono ps4
    have hfG := ps4 _ _ hfG
    have wb := ps4 _ _ wb
    refine Jq11 _ _ (xv_ fun Qq12 Jq12 => ?_)
    refine comp_eval (cl := [(Str.ofString "grammar", L + 1)]) (by rfl) (fun _ => by rfl) (by rfl) (by decide) ?_
    refine Tuple_ (r_ (g_ fun _ _ => r_ (g_ fun _ _ => z_ ?_)))
    refine nt K (by show 2 ≤ 2 ^ 24; decide) fun tb h30 q10 ps10 htb K => ?_
    refine cl_tup (mu := []) (its := [(L + 2, o4), (L + 3, oS)]) rfl (K.hold _ _ htb) (fun _ _ _ => turn1 ..) (by decide) (by rfl) rm.hd
     (fun D m q' lc mu' => (PSub q10 q') ∧ (X2 fun (us : List Value) (c : Nat) => A3 (mu' = [(D, listOf us.toArray c)]) (us.length ≤ m) (StrsAre us ((AB.take m).filter (· ∈ namesOf R)))))
     K (fun D _ => ⟨PSub.refl _, [], 0, rfl, Nat.le_refl _, .nil⟩) ?src7 ?turn7 ?done7
    case src7 => rintro D C m q' h' lc mu' its K ⟨ps7, _⟩; exact ⟨0, K.hold _ _ (ps7 _ _ htb)⟩
    case turn7 =>
     rintro D C m v q' h' lc mu' its t' hv hm K hx13_ Qt Jt
     refine hide fun QQ hQQ => ?_
     obtain ⟨ps7, us, c, rfl, ul, usa⟩ := hx13_
     have hm2 : m < 2 := hm
     obtain ⟨z, zt, hz, rfl⟩ := ab_at hv
     refine hQQ ?_
     clear hQQ QQ
     have psq := ps10.trans ps7
     have G := G.mono psq
     have hgr := hgr.mono psq
     have hfG := psq _ _ hfG
     refine wpAny_assign_Name (s_ K fun h2 t2 K => ?_)
     refine tests1 ?_
     refine q_ (d_ ?_)
     refine ldC (K.hold _ _ hfG) hoG2 (by kernel_rfl) (by rfl) (by rfl) (by kernel_rfl) ?_
     refine gm G K.hold (hgr.ob.mono K.hold) (mo_num _) (hgr.only _ (by kernel_rfl)) ?_
     refine f_ (arnz_ 0 K rfl ?_)
     refine ⟨⟨_, G, K.hold⟩, ?_⟩
     refine use_fn (number_spec G K.hold hgr) (rm.deeper.less (by decide)) fun v6 p6 h6 t6 gro6 hv6 => ?_
     have K := K.call gro6
     change IntV v6 (if z ∈ namesOf R then ((namesOf R).idxOf z : Nat) else -1) at hv6
     by_cases hzn : z ∈ namesOf R
     ·rw [if_pos hzn] at hv6
      refine hide fun QQ hQQ => ?_
      obtain ⟨tz, rfl⟩ := hv6
      refine hQQ ?_
      clear hQQ QQ
      refine m_ fun _ _ => i_ge (h_ ?_)
      refine PyProof.Rows.split_dec (fun _ => ?_) (fun hc => by exact (lnq [_] [aX (tN 0) Z0] rfl (fun z => hc (Int.ofNat_le.mpr z)) : False).elim)
      refine emit_ ?_
      refine n_ 0 K rfl ?_
      refine app_ (m1 := []) K (by show us.length ≤ 2 ^ 24; exact lnl fun q => lnq [_,_] [aL (tQ (tN 16777216)) Z0,aL (tQ Z1) (tN 2),aL Z0 Z1] rfl q hm2 ul) fun h11 n11 K => ?_
      refine Jt _ ⟨_, _, _, _, _, rfl, K, ps7.trans gro6.sub, _, n11, rfl, by rw [List.length_append, List.length_singleton]; exact lnl fun q => lnq [_,_] [aL (tA (tQ Z0) (tN 1)) (tQ Z1),aL Z1 Z0] rfl q ul, ?_⟩
      rw [take_snoc hz, filt_t (by simpa using hzn)]
      exact strs_app usa (.cons _ _ .nil)
     ·rw [if_neg hzn] at hv6
      refine hide fun QQ hQQ => ?_
      obtain ⟨tz, rfl⟩ := hv6
      refine hQQ ?_
      clear hQQ QQ
      refine m_ fun _ _ => i_ge (h_ ?_)
      refine PyProof.Rows.split_dec (fun hc => by omega) (fun _ => ?_)
      refine Jt _ ⟨_, _, _, _, _, rfl, K, ps7.trans gro6.sub, us, c, rfl, by exact lnl fun q => lnq [_,_] [aL (tA (tQ Z0) (tN 1)) Z1,aL Z1 Z0] rfl q ul, ?_⟩
      rw [take_snoc hz, filt_f (by simpa using hzn)]
      exact usa
    case done7 =>
     rintro D C oC q' h' lc mu' t' K nC hC hx11_
     refine hide fun QQ hQQ => ?_
     obtain ⟨ps7, us, c, rfl, ul, usa⟩ := hx11_
     refine hQQ ?_
     clear hQQ QQ
     refine comp_val K nC hC fun h8 K => ?_
     have hD : h.get? D = none := (K.own (D, listOf us.toArray c) (.head _)).2.2.2.resolve_left (by simp)
     refine hide fun QQ hQQ => ?_
     obtain ⟨K, psD, hfD⟩ := K.fix hD
     refine hQQ ?_
     clear hQQ QQ
     refine stC (m1 := [(L + 2, o4)]) (m2 := []) K hoS (by kernel_rfl) (by rfl) (by rfl) fun h31 oS2 hoS2 K => ?_
     have K := K.perm (mu' := (L + 3, oS2) :: [(L + 2, o4)]) (List.Perm.swap _ _ _)
     refine hide fun QQ hQQ => ?_
     obtain ⟨K, psS, hfS⟩ := K.fix hn3
     refine hQQ ?_
     clear hQQ QQ
     have K := K.tl
     have psq := ((ps10.trans ps7).trans psD).trans psS
     have G := G.mono psq
     have M1 := M1.mono psq
     have hgr := hgr.mono psq
     have wb := psq _ _ wb
     have hrl := psq _ _ hrl
     have hfD := psS _ _ hfD
     generalize (q'.add D _).add (L + 3) oS2 = q6 at K G M1 hgr wb hrl hfD hfS
     have usa : StrsAre us (sigOf R) := usa
     refine Jq12 _ _ (x_ fun Qq13 Jq13 => wpAny_For (n_ 0 K rfl ?_))
     have K := K.pull (x := Str.ofString "machine") (by exact lkN 2 (by kernel_rfl) rfl)
     have K := K.pull (x := Str.ofString "words") (by exact lkN 2 (by kernel_rfl) rfl)
     refine for_list (mu := []) (its := []) (vs := rvs) rm.hd (.inl rfl) (.inl rfl) (fun i q l mu' => A3 (PSub q6 q) (mu' = []) (∃ r : AL, l = (Str.ofString "words", .ref wa) :: (Str.ofString "machine", .ref x) :: r))
      K ⟨PSub.refl _, rfl, _, rfl⟩ ?src8 ?turn8 ?done8
     case src8 => rintro j q h' l mu' its K ⟨ps8, _⟩; exact ⟨rn, K.hold _ _ (ps8 _ _ hrl)⟩
     case done8 =>
      rintro q h' l mu' t' K hx6_
      refine hide fun QQ hQQ => ?_
      obtain ⟨ps8, rfl, r8, rfl⟩ := hx6_
      refine hQQ ?_
      clear hQQ QQ
      refine Jq13 _ _ (wj_ (wpAny_Constant_bool ?_))
      exact kk _ _ _ _ K.gro rfl
     case turn8 =>
      rintro j v q h' l mu' its t' hv hj K hx11_ Qt Jt
      refine hide fun QQ hQQ => ?_
      obtain ⟨ps8, rfl, r8, rfl⟩ := hx11_
      refine hQQ ?_
      clear hQQ QQ
      have lrv := strs_len rsa
      have hrw : xs[j]? = some (xs[j]'(by exact lnt fun q => lnq [_,_,_] [aL Z0 Z1,aE Z2 Z0,aL (tQ Z1) Z2] rfl q lrv hj)) := List.getElem?_eq_getElem _
      generalize xs[j]'_ = row at hrw
      refine hide fun QQ hQQ => ?_
      obtain ⟨rt, hrv⟩ := strs_at rsa hrw
      rw [hv] at hrv
      have hrv := Option.some.inj hrv
      subst hrv
      obtain ⟨ts, hab, hl3, rfl⟩ := xr row (List.mem_of_getElem? hrw)
      refine hQQ ?_
      clear hQQ QQ
      have hl3 : ts.length ≤ 3 := hl3
      have G := G.mono ps8
      have M1 := M1.mono ps8
      have hgr := hgr.mono ps8
      have wb := ps8 _ _ wb
      have hfD := ps8 _ _ hfD
      have hfS := ps8 _ _ hfS
      refine wpAny_assign_Name (s_ K fun h2 t2 K => x_ fun Qq14 Jq14 => wpAny_If (isTrue_and (q_ ?_)))
      refine comp_eval (cl := [(Str.ofString "signs", L + 3)]) (by rfl) (fun _ => by rfl) (by rfl) (by decide) ?_
      refine n_ 0 K rfl ?_
      refine cl_str (mu := []) (its := its) rfl (joinS_ascii hab) (fun _ _ _ => turn1 ..) (by decide) (by rfl) rm.hd
       (fun D m q' lc mu' => (PSub q q') ∧ (X2 fun (us : List Value) (c : Nat) => A3 (mu' = [(D, listOf us.toArray c)]) (us.length ≤ m) ((us.isEmpty = true ↔ ∀ t ∈ ts.take m, t ∈ sigOf R))))
       K (fun D _ => ⟨PSub.refl _, [], 0, rfl, Nat.le_refl _, by simp⟩) ?turn9 ?done9
      case turn9 =>
       rintro D C m v q' h' lc mu' its t' hx10_ hm K hx13_ Qt Jt
       refine hide fun QQ hQQ => ?_
       obtain ⟨cp, u5, hc, rfl⟩ := hx10_
       obtain ⟨ps9, us, c, rfl, ul, ui⟩ := hx13_
       refine hQQ ?_
       clear hQQ QQ
       have hy := joinS_at hab hc
       generalize (⟨#[cp]⟩ : Str) = y at hy
       have hm3 : m < ts.length := (List.getElem?_eq_some_iff.mp hy).1
       refine wpAny_assign_Name (s_ K fun h2 t2 K => ?_)
       refine tests1 ?_
       refine qn_ 0 K rfl ?_
       refine ldC (K.hold _ _ (ps9 _ _ hfS)) hoS2 (by kernel_rfl) (by rfl) (by rfl) (by kernel_rfl) ?_
       refine nin_ls (K.hold _ _ (ps9 _ _ hfD)) usa ?_
       refine h_ ?_
       refine split_b (fun hc => ?_) (fun hc => ?_)
       ·have hn : y ∉ sigOf R := by simpa using hc
        refine emit_ ?_
        refine n_ 0 K rfl ?_
        refine app_ (m1 := []) K (by show us.length ≤ 2 ^ 24; exact lnl fun q => lnq [_,_,_] [aL (tQ (tN 16777216)) Z0,aL (tQ Z1) Z2,aL Z0 Z1,aL Z2 (tN 3)] rfl q hm3 ul hl3) fun h11 n11 K => ?_
        refine Jt _ ⟨_, _, _, _, _, rfl, K, ps9, _, n11, rfl, by rw [List.length_append, List.length_singleton]; exact lnl fun q => lnq [_,_] [aL (tA (tQ Z0) (tN 1)) (tQ Z1),aL Z1 Z0] rfl q ul, ?_⟩
        rw [take_snoc hy]
        exact ⟨fun e => by simp at e, fun q => absurd (q y (List.mem_append_right _ (.head _))) hn⟩
       ·have hn : y ∈ sigOf R := by simpa using hc
        refine Jt _ ⟨_, _, _, _, _, rfl, K, ps9, us, c, rfl, by exact lnl fun q => lnq [_,_] [aL (tA (tQ Z0) (tN 1)) Z1,aL Z1 Z0] rfl q ul, ?_⟩
        rw [take_snoc hy, ui]
        refine ⟨fun q z hz => ?_, fun q z hz => q z (List.mem_append_left _ hz)⟩
        rcases List.mem_append.mp hz with e | e
        ·exact q z e
        ·rw [List.mem_singleton] at e; rw [e]; exact hn
      case done9 =>
       rintro D9 C oC q' h' lc mu' t' K nC hC hx11_
       refine hide fun QQ hQQ => ?_
       obtain ⟨ps9, us, c, rfl, ul, ui⟩ := hx11_
       refine hQQ ?_
       clear hQQ QQ
       have hsz : (joinS ts).cps.size = ts.length := joinS_len hab
       rw [hsz, List.take_length] at ui
       refine comp_val K nC hC fun h10 K => ?_
       have G := G.mono ps9
       have M1 := M1.mono ps9
       have hgr := hgr.mono ps9
       have wb := ps9 _ _ wb
       refine List_ (z_ ?_)
       refine nl K (by decide) fun z9 h11 fz9 K => ?_
       refine eq_l0 (vs := us) rm.deeper (K.get (.tail _ (.head _))) (K.get (.head _)) ?_
       have K := K.tl.tl
       refine h_ ?_
       refine split_b (fun hb => ?_) (fun hb => ?_)
       ·have hn := sig_in LR (ui.mp hb)
        refine isTrue_and (q_ (kg_ (gG_law_is_taken _) G K.hold (arn_ 2 K rfl (rnz_ 0 K rfl ?_))))
        refine ⟨⟨_, G, K.hold⟩, ?_⟩
        refine use_fn (taken_spec G K.hold hgr (gr_ok ok) M1 (cf_ok ok) ad hab hn hl3) (rm.deeper.less (by decide)) fun v q7 h12 t12 gro7 hv => ?_
        subst hv
        have K := K.call gro7
        rw [law_ask LR ko ad sn wc hab hn hl3]
        refine wpAny_Compare1 (n_ 0 K rfl (n_ 1 K rfl ?_))
        refine in_ls (K.hold _ _ (gro7.sub _ _ wb)) wsa ?_
        refine PyProof.Rows.ne_bool ?_
        refine h_ ?_
        refine split_b (fun hb => by simp at hb) fun _ => ?_
        skip
        refine split_b (fun hb => by cases hb) fun _ => ?_
        refine e_ (Jq14 _ _ (e_ (Jt _ _ ?_)))
        have K := K.pull (x := Str.ofString "machine") (by exact lkN 2 (by kernel_rfl) rfl)
        have K := K.pull (x := Str.ofString "words") (by exact lkN 2 (by kernel_rfl) rfl)
        exact ⟨_, _, _, _, _, rfl, K, (ps8.trans ps9).trans gro7.sub, rfl, _, rfl⟩
       ·refine split_b (fun hb => by cases hb) fun _ => ?_
        refine e_ (Jq14 _ _ (e_ (Jt _ _ ?_)))
        have K := K.pull (x := Str.ofString "machine") (by exact lkN 2 (by kernel_rfl) rfl)
        have K := K.pull (x := Str.ofString "words") (by exact lkN 2 (by kernel_rfl) rfl)
        exact ⟨_, _, _, _, _, rfl, K, ps8.trans ps9, rfl, _, rfl⟩
end

theorem ground_of {w : World} {mg mb : Str → Option Value} {h : Heap} {loose : List Str} {mean : ExcName → Option Value} (Y : HK.says w h) (T : Top vw loose mean mg mb h) : Grd w h.get? :=
 ⟨fun a o e => kIn_of (e := kAs_eq) Y a o e, fun h' H => ⟨mg, mb, Ns_keep T.g (fun o => H _ o), Ns_keep T.b (fun o => H _ o), T.builtins, T.nolimit.keeps fun b o => H b o⟩⟩
theorem law_at {w : World} {mg : Str → Option Value} {h : Heap} (Y : HK.says w h) (a : h.Ns mainGlobals mg) : mg (Str.ofString "law") = some (.ref 447) := mg_of (kIn_of (e := kAs_eq) Y) a (by kernel_rfl)
theorem caller_rm : Rm callerA 10 := ⟨by decide, by decide, rfl⟩
theorem script_at {P : Params} {h : Heap} {a : Addr} {is : List Int} {vs : List Value} (x : Well P h (.ref a) (ofPy (PyData.list (is.map PyData.int)))) (y : h.IsList a vs.toArray) (i : IntsAre vs is) : LI h.get? (.ref a) is := by
 obtain ⟨o, e, _, n, d⟩ := y
 generalize he : ofPy (PyData.list (is.map PyData.int)) = z at x
 cases x with
 | list e1 _ =>
  rw [e1] at e
  cases e
  cases d
  exact ⟨a, vs, 0, rfl, e1, i⟩
 | _ => unfold ofPy at he; cases he

namespace Hd
noncomputable def bO (P : Params) (a : Nat) : Obj := ((boot_heap P).objs.toList[a]?).getD default
noncomputable def kO (P : Params) (a : Nat) : Obj := ((KF P).lookup a).getD default
noncomputable def fR (c l : Nat) (m : String) (k : Nat) : Obj := ⟨.type "frame", none, .plain, #[some (.ref c), some (.ref 3), some (.ref l), none, some (.str (Str.ofString m) k), none, some (.ref 0)]⟩
noncomputable def fU (d : FD) (q : Str) : Obj := ⟨.none, none, .func { name := d.name, qualname := q, params := d.params, body := .stmts d.body, scope := d.scope, globals := 0, closure := [], defaults := .none, kwdefaults := .none }, #[]⟩
noncomputable def tO (l : List Value) : Obj := ⟨.type "tuple", none, .seq l.toArray 0, #[]⟩
noncomputable def lO (l : List (Int × Int × Nat)) : Obj := ⟨.none, none, .fields (l.flatMap fun x => [.int x.1 0, .int x.2.1 0, .ref x.2.2]).toArray, #[]⟩
noncomputable def pO (T : String) (l : List Value) : Obj := ⟨.type T, none, .fields l.toArray, #[]⟩
noncomputable def LL (P : Params) : List (List Obj) := [
 [bO P 0,
 bO P 1,
 dO P (.none) none [nE "type.__subclasses__.Exception.0" 242 (.int (53) 0), nE "type.__subclasses__.Exception.n" 243 (.int (1) 0)] 2,
 kO P 3,
 bO P 4,
 bO P 5,
 bO P 6,
 bO P 7,
 bO P 8,
 bO P 9,
 bO P 10,
 tO [],
 lO [(1, 0, 20), (5, 0, 27), (13, 0, 34), (24, 0, 62), (26, 0, 74), (38, 0, 81), (56, 0, 116), (85, 0, 158), (87, 0, 165), (99, 0, 172), (105, 0, 179), (130, 0, 235), (159, 0, 277), (161, 0, 282), (163, 0, 289), (168, 0, 297), (178, 0, 319), (224, 0, 401), (230, 0, 407), (256, 0, 414), (262, 0, 421), (269, 0, 426), (275, 0, 431), (288, 0, 436), (292, 0, 441), (309, 0, 446)],
 pO "code" [.str "<module>" 182, .str "<module>" 183, .str "/claim/cut.py" 184, .int (1) 0, .int (0) 0, .int (0) 0, .int (0) 0, .int (0) 0, .ref 11, .bool false, .int (181) 0, .ref 12, .none, .none, .none, .none, .int (185) 0, .int (1) 0, .str "/claim/cut.py" 186],
 fR 13 3 "__main__" 164,
 tO []],
 [lO [],
 tO [.str "k" 190],
 tO [],
 fU (fnT 0) "_wall",
 kO P 20,
 kO P 21,
 tO [],
 lO [],
 tO [.str "rows" 199, .str "found" 200, .str "middle" 201, .str "one" 202],
 tO [],
 fU (fnT 2) "transitive",
 kO P 27,
 kO P 28,
 tO [.type "Exception"],
 pO "builtin_function_or_method" [.builtin "type.__prepare__", .type "type"],
 dO P (.type "dict") none [nE "__module__" 215 (.str "grammarmill.source" 206), nE "__qualname__" 217 (.str "ToolError" 216), nE "__firstlineno__" 219 (.int (13) 218), nE "__init__" 228 (.ref 43), nE "told" 235 (.ref 50), nE "__static_attributes__" 238 (.ref 51)] 6],
 [tO [],
 lO [(15, 4, 42), (20, 4, 49)],
 pO "code" [.str "ToolError" 210, .str "ToolError" 211, .str "/claim/cut.py" 212, .int (13) 0, .int (0) 0, .int (0) 0, .int (0) 0, .int (0) 0, .ref 32, .bool false, .int (181) 0, .ref 33, .none, .none, .none, .none, .int (213) 0, .int (13) 0, .str "/claim/cut.py" 214],
 fR 34 31 "grammarmill.source" 206,
 kO P 36,
 tO [],
 lO [],
 tO [.str "self" 223, .str "what" 224, .str "at" 225],
 tO [],
 fU (fnM 4 0) "ToolError.__init__",
 kO P 42,
 kO P 43,
 tO [],
 lO [],
 tO [.str "self" 232],
 tO []],
 [fU (fnM 4 1) "ToolError.told",
 kO P 49,
 kO P 50,
 tO [.str "at" 236, .str "what" 237],
 kO P 52,
 kO P 53,
 pO "getset_descriptor" [.str "__weakref__" 239, .ref 53, .builtin "ExceptionGroup.__weakref__", .none],
 pO "super" [.ref 53, .ref 53, .ref 53],
 pO "builtin_function_or_method" [.builtin "object.__init_subclass__", .ref 53],
 tO [.ref 53],
 pO "builtin_function_or_method" [.builtin "type.__prepare__", .type "type"],
 dO P (.type "dict") none [nE "__module__" 253 (.str "grammarmill.source" 206), nE "__qualname__" 255 (.str "GrammarError" 254), nE "__firstlineno__" 257 (.int (24) 256), nE "__static_attributes__" 258 (.ref 64)] 4,
 tO [],
 lO [],
 pO "code" [.str "GrammarError" 248, .str "GrammarError" 249, .str "/claim/cut.py" 250, .int (24) 0, .int (0) 0, .int (0) 0, .int (0) 0, .int (0) 0, .ref 60, .bool false, .int (181) 0, .ref 61, .none, .none, .none, .none, .int (251) 0, .int (24) 0, .str "/claim/cut.py" 252],
 fR 62 59 "grammarmill.source" 206],
 [tO [],
 kO P 65,
 kO P 66,
 pO "super" [.ref 66, .ref 66, .ref 66],
 pO "builtin_function_or_method" [.builtin "object.__init_subclass__", .ref 66],
 tO [],
 lO [],
 tO [.str "mask" 265, .str "found" 266, .str "at" 267, .str "left" 268],
 tO [],
 fU (fnT 6) "bits",
 kO P 74,
 kO P 75,
 tO [],
 pO "builtin_function_or_method" [.builtin "type.__prepare__", .type "type"],
 dO P (.type "dict") none [nE "__module__" 284 (.str "grammarmill.lrzero" 272), nE "__qualname__" 286 (.str "LrState" 285), nE "__firstlineno__" 288 (.int (38) 287), nE "__init__" 298 (.ref 89), nE "goto" 306 (.ref 96), nE "is_consistent" 313 (.ref 103), nE "__static_attributes__" 321 (.ref 104)] 7,
 tO []],
 [lO [(40, 4, 88), (49, 4, 95), (52, 4, 102)],
 pO "code" [.str "LrState" 279, .str "LrState" 280, .str "/claim/cut.py" 281, .int (38) 0, .int (0) 0, .int (0) 0, .int (0) 0, .int (0) 0, .ref 79, .bool false, .int (181) 0, .ref 80, .none, .none, .none, .none, .int (282) 0, .int (38) 0, .str "/claim/cut.py" 283],
 fR 81 78 "grammarmill.lrzero" 272,
 tO [],
 lO [],
 tO [.str "self" 292, .str "number" 293, .str "kernel" 294, .str "symbol" 295],
 tO [],
 fU (fnM 9 0) "LrState.__init__",
 kO P 88,
 kO P 89,
 tO [],
 lO [],
 tO [.str "self" 302, .str "symbol" 303],
 tO [],
 fU (fnM 9 1) "LrState.goto",
 kO P 95],
 [kO P 96,
 tO [],
 lO [],
 tO [.str "self" 310],
 tO [],
 fU (fnM 9 2) "LrState.is_consistent",
 kO P 102,
 kO P 103,
 tO [.str "is_shifting" 314, .str "items" 315, .str "kernel" 316, .str "moves" 317, .str "number" 318, .str "reductions" 319, .str "symbol" 320],
 kO P 105,
 kO P 106,
 pO "getset_descriptor" [.str "__dict__" 322, .ref 106, .builtin "function.__dict__", .builtin "function.__dict__#set"],
 pO "getset_descriptor" [.str "__weakref__" 324, .ref 106, .builtin "ExceptionGroup.__weakref__", .none],
 pO "super" [.ref 106, .ref 106, .ref 106],
 pO "builtin_function_or_method" [.builtin "object.__init_subclass__", .ref 106],
 tO []],
 [pO "builtin_function_or_method" [.builtin "type.__prepare__", .type "type"],
 dO P (.type "dict") none [nE "__module__" 336 (.str "grammarmill.lrzero" 272), nE "__qualname__" 338 (.str "Closer" 337), nE "__firstlineno__" 340 (.int (56) 339), nE "__init__" 350 (.ref 124), nE "wanted" 361 (.ref 131), nE "added" 373 (.ref 138), nE "close" 381 (.ref 145), nE "__static_attributes__" 384 (.ref 146)] 8,
 tO [],
 lO [(58, 4, 123), (66, 4, 130), (74, 4, 137), (83, 4, 144)],
 pO "code" [.str "Closer" 331, .str "Closer" 332, .str "/claim/cut.py" 333, .int (56) 0, .int (0) 0, .int (0) 0, .int (0) 0, .int (0) 0, .ref 114, .bool false, .int (181) 0, .ref 115, .none, .none, .none, .none, .int (334) 0, .int (56) 0, .str "/claim/cut.py" 335],
 fR 116 113 "grammarmill.lrzero" 272,
 tO [],
 lO [],
 tO [.str "self" 344, .str "grammar" 345, .str "rows" 346, .str "rule" 347],
 tO [],
 fU (fnM 10 0) "Closer.__init__",
 kO P 123,
 kO P 124,
 tO [],
 lO [],
 tO [.str "self" 354, .str "kernel" 355, .str "mask" 356, .str "item" 357, .str "symbol" 358]],
 [tO [],
 fU (fnM 10 1) "Closer.wanted",
 kO P 130,
 kO P 131,
 tO [],
 lO [],
 tO [.str "self" 365, .str "kernel" 366, .str "found" 367, .str "symbol" 368, .str "number" 369, .str "item" 370],
 tO [],
 fU (fnM 10 2) "Closer.added",
 kO P 137,
 kO P 138,
 tO [],
 lO [],
 tO [.str "self" 377, .str "kernel" 378],
 tO [],
 fU (fnM 10 3) "Closer.close"],
 [kO P 144,
 kO P 145,
 tO [.str "firsts" 382, .str "grammar" 383],
 kO P 147,
 kO P 148,
 pO "getset_descriptor" [.str "__dict__" 385, .ref 148, .builtin "function.__dict__", .builtin "function.__dict__#set"],
 pO "getset_descriptor" [.str "__weakref__" 387, .ref 148, .builtin "ExceptionGroup.__weakref__", .none],
 pO "super" [.ref 148, .ref 148, .ref 148],
 pO "builtin_function_or_method" [.builtin "object.__init_subclass__", .ref 148],
 tO [],
 lO [],
 tO [.str "grammar" 395, .str "item" 396],
 tO [],
 fU (fnT 11) "advanced",
 kO P 158,
 kO P 159],
 [tO [],
 lO [],
 tO [.str "grammar" 403, .str "items" 404, .str "found" 405, .str "item" 406, .str "symbol" 407, .str "ordered" 408],
 tO [],
 fU (fnT 12) "kernels_behind",
 kO P 165,
 kO P 166,
 tO [],
 lO [],
 tO [.str "grammar" 415, .str "items" 416, .str "found" 417, .str "item" 418],
 tO [],
 fU (fnT 13) "complete_rules",
 kO P 172,
 kO P 173,
 tO [],
 pO "builtin_function_or_method" [.builtin "type.__prepare__", .type "type"]],
 [dO P (.type "dict") none [nE "__module__" 429 (.str "grammarmill.lrzero" 272), nE "__qualname__" 431 (.str "Automaton" 430), nE "__firstlineno__" 433 (.int (105) 432), nE "__init__" 442 (.ref 187), nE "goto" 451 (.ref 194), nE "walk" 462 (.ref 201), nE "path" 471 (.ref 208), nE "final_state" 478 (.ref 215), nE "transition_count" 485 (.ref 222), nE "__static_attributes__" 488 (.ref 223)] 10,
 tO [],
 lO [(107, 4, 186), (111, 4, 193), (114, 4, 200), (122, 4, 207), (125, 4, 214), (128, 4, 221)],
 pO "code" [.str "Automaton" 424, .str "Automaton" 425, .str "/claim/cut.py" 426, .int (105) 0, .int (0) 0, .int (0) 0, .int (0) 0, .int (0) 0, .ref 177, .bool false, .int (181) 0, .ref 178, .none, .none, .none, .none, .int (427) 0, .int (105) 0, .str "/claim/cut.py" 428],
 fR 179 176 "grammarmill.lrzero" 272,
 tO [],
 lO [],
 tO [.str "self" 437, .str "grammar" 438, .str "states" 439],
 tO [],
 fU (fnM 14 0) "Automaton.__init__",
 kO P 186,
 kO P 187,
 tO [],
 lO [],
 tO [.str "self" 446, .str "state" 447, .str "symbol" 448],
 tO []],
 [fU (fnM 14 1) "Automaton.goto",
 kO P 193,
 kO P 194,
 tO [],
 lO [],
 tO [.str "self" 455, .str "state" 456, .str "symbols" 457, .str "here" 458, .str "symbol" 459],
 tO [],
 fU (fnM 14 2) "Automaton.walk",
 kO P 200,
 kO P 201,
 tO [],
 lO [],
 tO [.str "self" 466, .str "state" 467, .str "symbols" 468],
 tO [],
 fU (fnM 14 3) "Automaton.path",
 kO P 207],
 [kO P 208,
 tO [],
 lO [],
 tO [.str "self" 475],
 tO [],
 fU (fnM 14 4) "Automaton.final_state",
 kO P 214,
 kO P 215,
 tO [],
 lO [],
 tO [.str "self" 482],
 tO [],
 fU (fnM 14 5) "Automaton.transition_count",
 kO P 221,
 kO P 222,
 tO [.str "grammar" 486, .str "states" 487]],
 [kO P 224,
 kO P 225,
 pO "getset_descriptor" [.str "__dict__" 489, .ref 225, .builtin "function.__dict__", .builtin "function.__dict__#set"],
 pO "getset_descriptor" [.str "__weakref__" 491, .ref 225, .builtin "ExceptionGroup.__weakref__", .none],
 pO "super" [.ref 225, .ref 225, .ref 225],
 pO "builtin_function_or_method" [.builtin "object.__init_subclass__", .ref 225],
 tO [],
 pO "builtin_function_or_method" [.builtin "type.__prepare__", .type "type"],
 dO P (.type "dict") none [nE "__module__" 503 (.str "grammarmill.lrzero" 272), nE "__qualname__" 505 (.str "Builder" 504), nE "__firstlineno__" 507 (.int (130) 506), nE "__init__" 515 (.ref 243), nE "number_of" 524 (.ref 250), nE "expand" 534 (.ref 257), nE "built" 542 (.ref 264), nE "__static_attributes__" 547 (.ref 265)] 8,
 tO [],
 lO [(132, 4, 242), (138, 4, 249), (144, 4, 256), (152, 4, 263)],
 pO "code" [.str "Builder" 498, .str "Builder" 499, .str "/claim/cut.py" 500, .int (130) 0, .int (0) 0, .int (0) 0, .int (0) 0, .int (0) 0, .ref 233, .bool false, .int (181) 0, .ref 234, .none, .none, .none, .none, .int (501) 0, .int (130) 0, .str "/claim/cut.py" 502],
 fR 235 232 "grammarmill.lrzero" 272,
 tO [],
 lO [],
 tO [.str "self" 511, .str "grammar" 512]],
 [tO [],
 fU (fnM 15 0) "Builder.__init__",
 kO P 242,
 kO P 243,
 tO [],
 lO [],
 tO [.str "self" 519, .str "kernel" 520, .str "symbol" 521],
 tO [],
 fU (fnM 15 1) "Builder.number_of",
 kO P 249,
 kO P 250,
 tO [],
 lO [],
 tO [.str "self" 528, .str "state" 529, .str "behind" 530, .str "symbol" 531],
 tO [],
 fU (fnM 15 2) "Builder.expand"],
 [kO P 256,
 kO P 257,
 tO [],
 lO [],
 tO [.str "self" 538, .str "at" 539],
 tO [],
 fU (fnM 15 3) "Builder.built",
 kO P 263,
 kO P 264,
 tO [.str "closer" 543, .str "grammar" 544, .str "numbers" 545, .str "states" 546],
 kO P 266,
 kO P 267,
 pO "getset_descriptor" [.str "__dict__" 548, .ref 267, .builtin "function.__dict__", .builtin "function.__dict__#set"],
 pO "getset_descriptor" [.str "__weakref__" 550, .ref 267, .builtin "ExceptionGroup.__weakref__", .none],
 pO "super" [.ref 267, .ref 267, .ref 267],
 pO "builtin_function_or_method" [.builtin "object.__init_subclass__", .ref 267]],
 [tO [],
 lO [],
 tO [.str "grammar" 558],
 tO [],
 fU (fnT 16) "build",
 kO P 277,
 kO P 278,
 tO [],
 lO [],
 fU (fnT 17) "inadequate_states",
 kO P 282,
 kO P 283,
 tO [],
 lO [],
 tO [.str "automaton" 571],
 tO []],
 [fU (fnT 18) "is_lr_zero",
 kO P 289,
 kO P 290,
 kO P 291,
 tO [],
 pO "builtin_function_or_method" [.builtin "type.__prepare__", .type "type"],
 dO P (.type "dict") none [nE "__module__" 590 (.str "grammarmill.grammar" 575), nE "__qualname__" 592 (.str "Rule" 591), nE "__firstlineno__" 594 (.int (168) 593), nE "__init__" 612 (.ref 306), nE "__static_attributes__" 620 (.ref 307)] 5,
 tO [],
 lO [(170, 4, 305)],
 pO "code" [.str "Rule" 585, .str "Rule" 586, .str "/claim/cut.py" 587, .int (168) 0, .int (0) 0, .int (0) 0, .int (0) 0, .int (0) 0, .ref 295, .bool false, .int (181) 0, .ref 296, .none, .none, .none, .none, .int (588) 0, .int (168) 0, .str "/claim/cut.py" 589],
 fR 297 294 "grammarmill.grammar" 575,
 kO P 299,
 tO [],
 lO [],
 tO [.str "self" 602, .str "number" 603, .str "left" 604, .str "right" 605, .str "level_of" 606, .str "action" 607, .str "line" 608, .str "before" 609],
 tO []],
 [fU (fnM 22 0) "Rule.__init__",
 kO P 305,
 kO P 306,
 tO [.str "action" 613, .str "before" 614, .str "left" 615, .str "level_of" 616, .str "line" 617, .str "number" 618, .str "right" 619],
 kO P 308,
 kO P 309,
 pO "getset_descriptor" [.str "__dict__" 621, .ref 309, .builtin "function.__dict__", .builtin "function.__dict__#set"],
 pO "getset_descriptor" [.str "__weakref__" 623, .ref 309, .builtin "ExceptionGroup.__weakref__", .none],
 pO "super" [.ref 309, .ref 309, .ref 309],
 pO "builtin_function_or_method" [.builtin "object.__init_subclass__", .ref 309],
 tO [],
 pO "builtin_function_or_method" [.builtin "type.__prepare__", .type "type"],
 dO P (.type "dict") none [nE "__module__" 635 (.str "grammarmill.grammar" 575), nE "__qualname__" 637 (.str "Grammar" 636), nE "__firstlineno__" 639 (.int (178) 638), nE "__init__" 645 (.ref 325), nE "symbol_count" 652 (.ref 332), nE "is_terminal" 660 (.ref 339), nE "is_middle" 668 (.ref 346), nE "number" 676 (.ref 353), nE "rules_of" 684 (.ref 360), nE "item" 693 (.ref 367), nE "rule_of" 701 (.ref 374), nE "dot_of" 709 (.ref 381), nE "after" 719 (.ref 388), nE "__static_attributes__" 730 (.ref 389)] 14,
 tO [],
 lO [(180, 4, 324), (196, 4, 331), (199, 4, 338), (202, 4, 345), (205, 4, 352), (208, 4, 359), (211, 4, 366), (214, 4, 373), (217, 4, 380), (220, 4, 387)],
 pO "code" [.str "Grammar" 630, .str "Grammar" 631, .str "/claim/cut.py" 632, .int (178) 0, .int (0) 0, .int (0) 0, .int (0) 0, .int (0) 0, .ref 317, .bool false, .int (181) 0, .ref 318, .none, .none, .none, .none, .int (633) 0, .int (178) 0, .str "/claim/cut.py" 634]],
 [fR 319 316 "grammarmill.grammar" 575,
 tO [],
 lO [],
 fU (fnM 23 0) "Grammar.__init__",
 kO P 324,
 kO P 325,
 tO [],
 lO [],
 tO [.str "self" 649],
 tO [],
 fU (fnM 23 1) "Grammar.symbol_count",
 kO P 331,
 kO P 332,
 tO [],
 lO [],
 tO [.str "self" 656, .str "symbol" 657]],
 [tO [],
 fU (fnM 23 2) "Grammar.is_terminal",
 kO P 338,
 kO P 339,
 tO [],
 lO [],
 tO [.str "self" 664, .str "symbol" 665],
 tO [],
 fU (fnM 23 3) "Grammar.is_middle",
 kO P 345,
 kO P 346,
 tO [],
 lO [],
 tO [.str "self" 672, .str "name" 673],
 tO [],
 fU (fnM 23 4) "Grammar.number"],
 [kO P 352,
 kO P 353,
 tO [],
 lO [],
 tO [.str "self" 680, .str "symbol" 681],
 tO [],
 fU (fnM 23 5) "Grammar.rules_of",
 kO P 359,
 kO P 360,
 tO [],
 lO [],
 tO [.str "self" 688, .str "rule" 689, .str "dot" 690],
 tO [],
 fU (fnM 23 6) "Grammar.item",
 kO P 366,
 kO P 367],
 [tO [],
 lO [],
 tO [.str "self" 697, .str "item" 698],
 tO [],
 fU (fnM 23 7) "Grammar.rule_of",
 kO P 373,
 kO P 374,
 tO [],
 lO [],
 tO [.str "self" 705, .str "item" 706],
 tO [],
 fU (fnM 23 8) "Grammar.dot_of",
 kO P 380,
 kO P 381,
 tO [],
 lO []],
 [tO [.str "self" 713, .str "item" 714, .str "right" 715, .str "dot" 716],
 tO [],
 fU (fnM 23 9) "Grammar.after",
 kO P 387,
 kO P 388,
 tO [.str "by_left" 720, .str "expect" 721, .str "item_count" 722, .str "levels" 723, .str "names" 724, .str "offsets" 725, .str "owners" 726, .str "rules" 727, .str "start" 728, .str "terminal_count" 729],
 kO P 390,
 kO P 391,
 pO "getset_descriptor" [.str "__dict__" 731, .ref 391, .builtin "function.__dict__", .builtin "function.__dict__#set"],
 pO "getset_descriptor" [.str "__weakref__" 733, .ref 391, .builtin "ExceptionGroup.__weakref__", .none],
 pO "super" [.ref 391, .ref 391, .ref 391],
 pO "builtin_function_or_method" [.builtin "object.__init_subclass__", .ref 391],
 tO [],
 lO [],
 tO [.str "right" 741, .str "terminal_count" 742, .str "found" 743, .str "symbol" 744],
 tO []],
 [fU (fnT 24) "last_terminal",
 kO P 401,
 kO P 402,
 kO P 403,
 tO [],
 lO [],
 fU (fnT 25) "plain_grammar",
 kO P 407,
 kO P 408,
 tO [],
 lO [],
 tO [.str "script" 759, .str "digits" 760, .str "seed" 761, .str "cell" 762],
 tO [],
 fU (fnT 27) "_law_tape",
 kO P 414,
 kO P 415],
 [tO [],
 lO [],
 tO [.str "tape" 769, .str "many" 770, .str "digit" 771],
 tO [],
 fU (fnT 28) "_law_draw",
 kO P 421,
 kO P 422,
 tO [],
 lO [],
 fU (fnT 29) "_law_pairs",
 kO P 426,
 kO P 427,
 tO [],
 lO [],
 fU (fnT 30) "_law_words",
 kO P 431],
 [kO P 432,
 tO [],
 lO [],
 fU (fnT 31) "_law_needs",
 kO P 436,
 kO P 437,
 tO [],
 lO [],
 fU (fnT 32) "_law_is_taken",
 kO P 441,
 kO P 442,
 tO [],
 lO [],
 fU (fnT 33) "law",
 kO P 446,
 kO P 447]]
noncomputable def ob (P : Params) (a : Nat) : Obj := (((LL P)[a / 16]?).getD [])[a % 16]?.getD default

noncomputable def grow (f : Nat → Obj) (n : Nat) : Nat → Nat → Nat → BT
 | 0, _, _ => .nil
 | k + 1, a, b => match Nat.blt b n with
  | true => .node (f b) (grow f n k (2 * a) (a + b)) (grow f n k (2 * a) (2 * a + b))
  | false => .nil
noncomputable def dM (v : Value) (m : Nat) : Obj → Obj
 | ⟨c, d, .dict es _, s⟩ => ⟨c, d, .dict (match es.toList with
  | e :: r => ((⟨e.hash, e.key, v⟩ : DictEntry) :: r.take (m - 1))
  | [] => []).toArray m, s⟩
 | o => o
noncomputable def lM (m : Nat) : Obj → Obj
 | ⟨c, d, .fields xs, s⟩ => ⟨c, d, .fields (xs.toList.take m).toArray, s⟩
 | o => o
noncomputable def oM (P : Params) (v : Value) (m l : Nat) (a : Nat) : Obj := match Nat.beq a 3 with
 | true => dM v m (ob P 3)
 | false => match Nat.beq a 12 with
  | true => lM (3 * l) (ob P 12)
  | false => ob P a
noncomputable def oA (P : Params) (a : Nat) : Obj := match Nat.beq a 2 with
 | true => bO P 2
 | false => oM P (.str "__main__" 164) 9 0 a
noncomputable def sT (f : Nat → Obj) (n k : Nat) (os : OsState) : SharedT := ⟨grow f n 10 1 0, n, {}, Array.mk [], boot_drawn, k, os⟩
noncomputable abbrev PQ : Program := PySem.Challenge.pw_qd0062_01
noncomputable abbrev zP : Pos := ⟨0, 0, 0, 0⟩
noncomputable def bE : List Stmt := behindTheImports PQ
noncomputable def eE : Env := { scope := PQ.main.scope, locals := mainNs, globals := mainNs, cells := [], code := .ref 13, frame := some 14 }
noncomputable def cE : Code := .body bE eE
noncomputable abbrev an : Option Value := some (.ref 6)
section
variable (w : World) (os : OsState)
noncomputable abbrev s0 : Shared := ⟨boot_heap w.params, Array.mk [], boot_drawn, boot_toks, os⟩
noncomputable abbrev sA : SharedT := sT (oA w.params) 15 187 os
noncomputable abbrev s1 : SharedT := sT (oM w.params (.str "grammarmill.lrzero" 272) 21 11) 230 496 os
noncomputable abbrev s2 : SharedT := sT (ob w.params) 448 805 os
theorem pre : topGo treeTable PQ w 11 an 12 (s0 w os) (topStub PQ) = some ((sA w os).abs, ⟨denote treeTable (.body bE eE), cE, zP, [topFrame zP]⟩) := by kernel_rfl
theorem blk : segRunT treeTable PQ w 11 an 1 1 (sA w os) (blockOf bE eE cE zP [topFrame zP]) = some (.next, sA w os, cE, zP) := by kernel_rfl
noncomputable abbrev r1 : List Stmt := (bE).drop 15
theorem p1 : segRunT treeTable PQ w 11 an 1 1714 (sA w os) (piecesOf ((bE).take 15) eE cE zP [topFrame zP]) = some (.next, s1 w os, cE, ⟨105, 0, 129, 16⟩) := by kernel_rfl
noncomputable abbrev r2 : List Stmt := (r1).drop 19
theorem p2 : segRunT treeTable PQ w 11 an 1 1461 (s1 w os) (piecesOf ((r1).take 19) eE cE ⟨105, 0, 129, 16⟩ [topFrame zP]) = some (.next, s2 w os, cE, ⟨309, 0, 331, 15⟩) := by kernel_rfl
theorem fin : topRun treeTable PQ w 11 an 2 (s2 w os).abs ⟨doneF .next, cE, ⟨309, 0, 331, 15⟩, [topFrame zP]⟩ = some (s2 w os).abs := by kernel_rfl
noncomputable abbrev hN (P : Params) : Heap := absHeap (grow (ob P) 448 10 1 0) 448 {}
noncomputable abbrev sN : Shared := ⟨hN w.params, Array.mk [], boot_drawn, 805, os⟩
noncomputable abbrev lo : List Str := [Str.ofString "ToolError", Str.ofString "plain_grammar"]
theorem l1 : (staticsOk (importedModules PQ.main.body) (boot_heap w.params) (hN w.params) && namesBound PQ (hN w.params) && gensDone (sN w os) && laidKept (boot_heap w.params) (hN w.params)) = true := by kernel_rfl
theorem l2 : openSeen vw lo (importedModules PQ.main.body) XT true (sN w os) = openGood vw lo := by kernel_rfl
theorem l3 : HK.obs (sN w os) = HK.val w := by kernel_rfl
theorem nil_ : r2 = [] := by kernel_rfl
variable {w os}
theorem app {n N : Nat} {s s' : SharedT} {r : Shared} {l : List Stmt} {m : Nat} {c : Code} {pos p' : Pos} (h : segRunT treeTable PQ w 11 an 1 n s (piecesOf (l.take m) eE c pos [topFrame zP]) = some (.next, s', c, p'))
  (k : topRun treeTable PQ w 11 an N s'.abs (restOf (l.drop m) eE c p' [topFrame zP]) = some r) : topRun treeTable PQ w 11 an (n + N) s.abs (restOf l eE c pos [topFrame zP]) = some r := by
 have := piece_app (segRun_of h) k
 rwa [List.take_append_drop] at this
theorem last {N : Nat} {s r : Shared} {l : List Stmt} {c : Code} {pos : Pos} (e : l = []) (k : topRun treeTable PQ w 11 an N s ⟨doneF .next, c, pos, [topFrame zP]⟩ = some r) : topRun treeTable PQ w 11 an N s (restOf l eE c pos [topFrame zP]) = some r := by
 subst e
 exact piece_nil k
end
theorem rn (w : World) (os : OsState) : topRun treeTable PQ w 11 an (12 + (1 + (1714 + (1461 + (2))))) (s0 w os) (topStub PQ) = some (sN w os) :=
 go_top (pre w os) (piece_block (segRun_of (blk w os)) (app (p1 w os) (app (p2 w os) (last nil_ (fin w os)))))
theorem left : LeftO PQ vw lo XT HK.obs HK.val 6472 :=
 LeftO.of_pieces (H₀ := boot_heap) (H₁ := hN) (boot_open rfl rfl fun _ => rfl) (fun w => by kernel_rfl) rn (by rfl) fun w => funext fun os => Prod.ext (l1 w os) (Prod.ext (l2 w os) (l3 w os))
theorem said : PySem.Challenge.rw_qd0062_01.wellSaid = true := by
 delta OpenLaw.wellSaid OpenRow.wellSaid OpenRow.partSaid looksOpen
 repeat' with_reducible refine look_both ?_ ?_
 all_goals decide +kernel
end Hd

theorem whole : PySem.Challenge.rw_qd0062_01.Holds := by
 refine holds_law Hd.said fun said => ?_
 refine holds_open (q := vw) (loose := [Str.ofString "ToolError", Str.ofString "plain_grammar"]) (Xt := XT) (XP := XL vw []) (Yf := Hook.obs HK) (Ya := Hook.val HK) (YP := Hook.says HK) (N := 6472) ?hl (Hook.of HK) (Hook.keeps HK) (fun s e => xl_of s (Bool.and_eq_true_iff.mp e).1) XL.keeps (by rfl) (by rfl) (by rfl) (fun s e => recFacts_of (Bool.and_eq_true_iff.mp e).2) (by first | rfl) (by first | assumption | decide +kernel) (by decide +kernel) ⟨rfl, rfl, rfl, rfl, rfl, by decide +kernel⟩ ?hw ?hc
 case hl => exact Hd.left
 case hw => exact ⟨[.list []], by decide +kernel, by decide +kernel⟩
 case hc =>
  intro w s₀ s₁ mg mb G Y fa o pm cd doc dV kV ho hd hcd hD hmg hg args vals as hpre hlay hrd hwl hlo
  clear ho hd hcd hD o pm cd doc dV kV
  refine Ground.open G ?_
  intro T B D TE TW
  have GR := ground_of Y T
  have ef := (law_at Y T.g).symm.trans hmg
  cases ef
  clear B D TE TW hmg
  wrow_args hpre hlay hrd hwl hlo
  (with_reducible rename Well _ _ _ _ => hw)
  (with_reducible rename IntsAre _ _ => hi)
  (with_reducible rename Heap.IsList _ _ _ => hL)
  (with_reducible rename ¬ (_ : Int) < _ => hc)
  refine wpAny_call (law_spec GR (fun _ _ e => e) (script_at hw hL hi) (by omega) callerA s₁.gens s₁.drawn s₁.toks s₁.os _ caller_rm fun v p' h' t' gro hv => ?_)
  subst hv
  refine GoodW.toG ⟨.inl ⟨_, .bool true, [], rfl, fun _ => ?_, .bool _, ?_, fun _ => ?_⟩, fun b o e => gro.keep b o (by simp) e, rfl, hg⟩
  ·rfl
  ·kernel_rfl
  ·exact ⟨List.nodup_nil, fun a ha => by cases ha⟩
end Mine
theorem PySem.Challenge.cw_qd0062_01_holds : PySem.Challenge.rw_qd0062_01.Holds :=
 Mine.whole
