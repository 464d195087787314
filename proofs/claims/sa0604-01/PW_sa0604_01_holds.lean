import PyProof.Rows.All
import Wide.All
import OpenK.AllK
import Wide.FinOn
import Lean
import PySem.Challenge.RW_sa0604_01
set_option Elab.async false
set_option linter.all false
set_option genInjectivity false
set_option genSizeOf false
set_option compiler.extract_closed false
set_option bootstrap.genMatcherCode false
set_option maxRecDepth 1000000
set_option maxHeartbeats 0
open PySem PySem.W PyProof.Rows PySem.Calls
namespace Mine
section

set_option tactic.hygienic false
def aRfl : Lean.Syntax := .node .none `Lean.Parser.Tactic.tacticSeq #[.node .none `Lean.Parser.Tactic.tacticSeq1Indented #[.node .none `null #[.node .none `Lean.Parser.Tactic.tacticRfl #[.atom .none "rfl"]]]]
inductive LE' where
  | v (i : Nat) | k (n : Nat) | a (x y : LE') | m (n : Nat) (x : LE') | w (x : LE') (n : Nat)
inductive LF where
  | l (x y : LE') (r : LF) | t (x y : LE') (r : LF) | e (x y : LE') (r : LF) | f (x y : LE') (r : LF)
  | g (x y : LE') | b (x y : LE') | z
noncomputable def ixn : List Nat → Nat → Nat
  | [], _ => 0
  | x :: _, 0 => x
  | _ :: l, i + 1 => ixn l i
noncomputable def LE'.den (c : List Nat) : LE' → Nat
  | .v i => ixn c i
  | .k n => n
  | .a x y => x.den c + y.den c
  | .m n x => n * x.den c
  | .w x n => x.den c * n
noncomputable def LF.den (c : List Nat) : LF → Prop
  | .l x y r => x.den c ≤ y.den c → r.den c
  | .t x y r => x.den c < y.den c → r.den c
  | .e x y r => x.den c = y.den c → r.den c
  | .f x y r => x.den c = y.den c → r.den c
  | .g x y => x.den c ≤ y.den c
  | .b x y => x.den c < y.den c
  | .z => False
noncomputable def pEv : List Nat → List Nat → Nat
  | [], _ => 0
  | _ :: _, [] => 0
  | x :: p, y :: c => x * y + pEv p c
noncomputable def pAdd : List Nat → List Nat → List Nat
  | [], q => q
  | x :: p, [] => x :: p
  | x :: p, y :: q => (x + y) :: pAdd p q
noncomputable def pMul (n : Nat) : List Nat → List Nat
  | [] => []
  | x :: p => n * x :: pMul n p
noncomputable def pVar : Nat → List Nat
  | 0 => [1]
  | i + 1 => 0 :: pVar i
noncomputable def pLe : List Nat → List Nat → Bool
  | [], _ => true
  | x :: p, [] => Nat.beq x 0 && pLe p []
  | x :: p, y :: q => Nat.ble x y && pLe p q
noncomputable def LE'.p : LE' → List Nat
  | .v i => pVar (i + 1)
  | .k n => [n]
  | .a x y => pAdd x.p y.p
  | .m n x => pMul n x.p
  | .w x n => pMul n x.p
noncomputable def LF.ok (L R : List Nat) : LF → Bool
  | .l x y r => r.ok (pAdd x.p L) (pAdd y.p R)
  | .t x y r => r.ok (pAdd [1] (pAdd x.p L)) (pAdd y.p R)
  | .e x y r => r.ok (pAdd x.p L) (pAdd y.p R)
  | .f x y r => r.ok (pAdd y.p L) (pAdd x.p R)
  | .g x y => pLe (pAdd x.p R) (pAdd y.p L)
  | .b x y => pLe (pAdd [1] (pAdd x.p R)) (pAdd y.p L)
  | .z => pLe (pAdd [1] R) L
theorem pEv_nil : ∀ p, pEv p [] = 0
  | [] => rfl
  | _ :: _ => rfl
theorem pAdd_ev : ∀ p q c, pEv (pAdd p q) c = pEv p c + pEv q c
  | [], q, c => (Nat.zero_add _).symm
  | x :: p, [], c => rfl
  | x :: p, y :: q, [] => rfl
  | x :: p, y :: q, z :: c => by
    show (x + y) * z + pEv (pAdd p q) c = (x * z + pEv p c) + (y * z + pEv q c)
    rw [pAdd_ev p q c, Nat.add_mul, Nat.add_add_add_comm]
theorem pMul_ev (n : Nat) : ∀ p c, pEv (pMul n p) c = n * pEv p c
  | [], c => (Nat.mul_zero n).symm
  | x :: p, [] => (Nat.mul_zero n).symm
  | x :: p, y :: c => by
    show n * x * y + pEv (pMul n p) c = n * (x * y + pEv p c)
    rw [pMul_ev n p c, Nat.mul_add, Nat.mul_assoc]
theorem pVar_ev : ∀ i c, pEv (pVar i) c = ixn c i
  | 0, [] => rfl
  | i + 1, [] => rfl
  | 0, y :: c => by show 1 * y + pEv [] c = y; rw [Nat.one_mul]; rfl
  | i + 1, y :: c => by show 0 * y + pEv (pVar i) c = ixn c i; rw [Nat.zero_mul, Nat.zero_add]; exact pVar_ev i c
theorem pLe_ev : ∀ p q c, pLe p q = true → pEv p c ≤ pEv q c
  | [], q, c, _ => Nat.zero_le _
  | x :: p, q, [], _ => Nat.zero_le _
  | x :: p, [], z :: c, h => by
    have h : (Nat.beq x 0 && pLe p []) = true := h
    rw [Bool.and_eq_true] at h
    have e := Nat.eq_of_beq_eq_true h.1
    subst e
    have := pLe_ev p [] c h.2
    show 0 * z + pEv p c ≤ 0
    rw [Nat.zero_mul, Nat.zero_add]; exact this
  | x :: p, y :: q, z :: c, h => by
    have h : (Nat.ble x y && pLe p q) = true := h
    rw [Bool.and_eq_true] at h
    exact Nat.add_le_add (Nat.mul_le_mul_right z (Nat.le_of_ble_eq_true h.1)) (pLe_ev p q c h.2)
theorem LE'.p_ev (c : List Nat) : ∀ x : LE', pEv x.p (1 :: c) = x.den c
  | .v i => pVar_ev (i + 1) (1 :: c)
  | .k n => by show n * 1 + pEv [] c = n; rw [Nat.mul_one]; rfl
  | .a x y => by show pEv (pAdd x.p y.p) _ = _; rw [pAdd_ev, x.p_ev, y.p_ev]; rfl
  | .m n x => by show pEv (pMul n x.p) _ = _; rw [pMul_ev, x.p_ev]; rfl
  | .w x n => by show pEv (pMul n x.p) _ = x.den c * n; rw [pMul_ev, x.p_ev, Nat.mul_comm]
theorem LF.sound (c : List Nat) : ∀ (f : LF) (L R : List Nat), f.ok L R = true → pEv L (1 :: c) ≤ pEv R (1 :: c) → f.den c
  | .l x y r, L, R, h, i => fun z => r.sound c _ _ h (by rw [pAdd_ev, pAdd_ev, x.p_ev, y.p_ev]; exact Nat.add_le_add z i)
  | .t x y r, L, R, h, i => fun z => r.sound c _ _ h (by rw [pAdd_ev, pAdd_ev, pAdd_ev, x.p_ev, y.p_ev, ← Nat.add_assoc, Nat.add_comm (pEv [1] _)]; exact Nat.add_le_add z i)
  | .e x y r, L, R, h, i => fun z => r.sound c _ _ h (by rw [pAdd_ev, pAdd_ev, x.p_ev, y.p_ev]; exact Nat.add_le_add (Nat.le_of_eq z) i)
  | .f x y r, L, R, h, i => fun z => r.sound c _ _ h (by rw [pAdd_ev, pAdd_ev, x.p_ev, y.p_ev]; exact Nat.add_le_add (Nat.le_of_eq z.symm) i)
  | .g x y, L, R, h, i => by
    have := pLe_ev _ _ (1 :: c) h
    rw [pAdd_ev, pAdd_ev, x.p_ev, y.p_ev] at this
    exact Nat.le_of_add_le_add_right (Nat.le_trans this (Nat.add_le_add_left i _))
  | .b x y, L, R, h, i => by
    have := pLe_ev _ _ (1 :: c) h
    rw [pAdd_ev, pAdd_ev, pAdd_ev, x.p_ev, y.p_ev, ← Nat.add_assoc, Nat.add_comm (pEv [1] _)] at this
    exact Nat.le_of_add_le_add_right (Nat.le_trans this (Nat.add_le_add_left i _))
  | .z, L, R, h, i => by
    have := pLe_ev _ _ (1 :: c) h
    rw [pAdd_ev, Nat.add_comm] at this
    exact absurd (Nat.le_trans this i) (Nat.not_succ_le_self _)
theorem lin1 {a : Nat} (f : LF) (h : f.ok [] [] = true) : f.den [a] := f.sound _ _ _ h (Nat.le_refl _)
theorem lin2 {a b : Nat} (f : LF) (h : f.ok [] [] = true) : f.den [a, b] := f.sound _ _ _ h (Nat.le_refl _)
theorem lin3 {a b c : Nat} (f : LF) (h : f.ok [] [] = true) : f.den [a, b, c] := f.sound _ _ _ h (Nat.le_refl _)
theorem lin4 {a b c d : Nat} (f : LF) (h : f.ok [] [] = true) : f.den [a, b, c, d] := f.sound _ _ _ h (Nat.le_refl _)
theorem lin5 {a b c d e : Nat} (f : LF) (h : f.ok [] [] = true) : f.den [a, b, c, d, e] := f.sound _ _ _ h (Nat.le_refl _)
theorem lin6 {a b c d e i : Nat} (f : LF) (h : f.ok [] [] = true) : f.den [a, b, c, d, e, i] := f.sound _ _ _ h (Nat.le_refl _)
theorem lin7 {a b c d e i j : Nat} (f : LF) (h : f.ok [] [] = true) : f.den [a, b, c, d, e, i, j] := f.sound _ _ _ h (Nat.le_refl _)
theorem lin8 {a b c d e i j k : Nat} (f : LF) (h : f.ok [] [] = true) : f.den [a, b, c, d, e, i, j, k] := f.sound _ _ _ h (Nat.le_refl _)
end
section

inductive AN3 (p1 p2 p3 : Prop) : Prop | mk (h1 : p1) (h2 : p2) (h3 : p3)
inductive AN4 (p1 p2 p3 p4 : Prop) : Prop | mk (h1 : p1) (h2 : p2) (h3 : p3) (h4 : p4)
inductive AN5 (p1 p2 p3 p4 p5 : Prop) : Prop | mk (h1 : p1) (h2 : p2) (h3 : p3) (h4 : p4) (h5 : p5)
inductive AN6 (p1 p2 p3 p4 p5 p6 : Prop) : Prop | mk (h1 : p1) (h2 : p2) (h3 : p3) (h4 : p4) (h5 : p5) (h6 : p6)
inductive AN7 (p1 p2 p3 p4 p5 p6 p7 : Prop) : Prop | mk (h1 : p1) (h2 : p2) (h3 : p3) (h4 : p4) (h5 : p5) (h6 : p6) (h7 : p7)
inductive AN8 (p1 p2 p3 p4 p5 p6 p7 p8 : Prop) : Prop | mk (h1 : p1) (h2 : p2) (h3 : p3) (h4 : p4) (h5 : p5) (h6 : p6) (h7 : p7) (h8 : p8)
inductive AN9 (p1 p2 p3 p4 p5 p6 p7 p8 p9 : Prop) : Prop | mk (h1 : p1) (h2 : p2) (h3 : p3) (h4 : p4) (h5 : p5) (h6 : p6) (h7 : p7) (h8 : p8) (h9 : p9)
inductive AN10 (p1 p2 p3 p4 p5 p6 p7 p8 p9 p10 : Prop) : Prop | mk (h1 : p1) (h2 : p2) (h3 : p3) (h4 : p4) (h5 : p5) (h6 : p6) (h7 : p7) (h8 : p8) (h9 : p9) (h10 : p10)
inductive AN11 (p1 p2 p3 p4 p5 p6 p7 p8 p9 p10 p11 : Prop) : Prop | mk (h1 : p1) (h2 : p2) (h3 : p3) (h4 : p4) (h5 : p5) (h6 : p6) (h7 : p7) (h8 : p8) (h9 : p9) (h10 : p10) (h11 : p11)
inductive EX2 {α1 α2 : Type} (P : α1 → α2 → Prop) : Prop | mk (a1 : α1) (a2 : α2) (h : P a1 a2)
inductive EX3 {α1 α2 α3 : Type} (P : α1 → α2 → α3 → Prop) : Prop | mk (a1 : α1) (a2 : α2) (a3 : α3) (h : P a1 a2 a3)
inductive EX4 {α1 α2 α3 α4 : Type} (P : α1 → α2 → α3 → α4 → Prop) : Prop | mk (a1 : α1) (a2 : α2) (a3 : α3) (a4 : α4) (h : P a1 a2 a3 a4)
theorem ne_sn {α β : Type} {f : α → Option β} {x a : α} {o : β} (e : f x = some o) (h : f a = none) : x ≠ a := fun z => by subst z; rw [h] at e; cases e
theorem ne_ns {α β : Type} {f : α → Option β} {x a : α} {o : β} (e : f x = none) (h : f a = some o) : x ≠ a := fun z => by subst z; rw [h] at e; cases e
theorem nn {α : Type} {x : α} : x ∉ ([] : List α) := List.not_mem_nil
theorem nin1 {α : Type} {x a : α} : x ∉ [a] ↔ x ≠ a := by simp
theorem nin2 {α : Type} {x a b : α} : x ∉ [a, b] ↔ x ≠ a ∧ x ≠ b := by simp
theorem nin3 {α : Type} {x a b c : α} : x ∉ [a, b, c] ↔ x ≠ a ∧ x ≠ b ∧ x ≠ c := by simp
theorem nin4 {α : Type} {x a b c d : α} : x ∉ [a, b, c, d] ↔ x ≠ a ∧ x ≠ b ∧ x ≠ c ∧ x ≠ d := by simp
theorem nin5 {α : Type} {x a b c d e : α} : x ∉ [a, b, c, d, e] ↔ x ≠ a ∧ x ≠ b ∧ x ≠ c ∧ x ≠ d ∧ x ≠ e := by simp
theorem nin6 {α : Type} {x a b c d e f : α} : x ∉ [a, b, c, d, e, f] ↔ x ≠ a ∧ x ≠ b ∧ x ≠ c ∧ x ≠ d ∧ x ≠ e ∧ x ≠ f := by simp
@[elab_as_elim] theorem eqmp {α : Sort _} {P : α → Prop} {a b : α} (e : a = b) (h : P b) : P a := e ▸ h
end
section
open PySem PySem.W PyProof.Rows
noncomputable section
abbrev pw : Program := PySem.Challenge.pw_sa0604_01
noncomputable def treeOf : Nat → (Nat → Obj) → Nat → Nat → Nat → BT
  | 0, _, _, _, _ => .nil
  | k + 1, f, n, a, b => match Nat.ble n b with
    | true => .nil
    | false => .node (f b) (treeOf k f n (2 * a) (a + b)) (treeOf k f n (2 * a) (2 * a + b))
noncomputable def ov (o0 o2 o3 o4 o12 o13 : Obj) (g : Nat → Obj) (i : Nat) : Obj :=
  match Nat.beq i 3 with
  | true => o3
  | false => match Nat.beq i 12 with
    | true => o12
    | false => match Nat.beq i 13 with
      | true => o13
      | false => match Nat.beq i 4 with
        | true => o4
        | false => match Nat.beq i 2 with
          | true => o2
          | false => match Nat.beq i 0 with
            | true => o0
            | false => g i
abbrev tpw : Program := pw
noncomputable def tbody : List Stmt := behindTheImports tpw
noncomputable def tenv : Env := { scope := tpw.main.scope, locals := mainNs, globals := mainNs, cells := [], code := .ref 13, frame := some 14 }
noncomputable def tcode : Code := .body tbody tenv
noncomputable def fr0 : List Frame := [topFrame ⟨0, 0, 0, 0⟩]
noncomputable def preRun (w : World) (os : OsState) : Option (Shared × Thread) := PySem.W.Fast.tw15667345088766844465 PySem.W.Fast.tw14364793385576792824 tpw w 11 (some (.ref 6)) 12 ⟨boot_heap w.params, Array.mk [], boot_drawn, boot_toks, os⟩ (topStub tpw)
noncomputable def Sa (w : World) (os : OsState) : Heap := match preRun w os with | some (s, _) => s.heap | none => default
noncomputable def ga (w : World) (os : OsState) (i : Nat) : Obj := ((Sa w os).objs[i]?).getD default
noncomputable def o13 (w : World) (os : OsState) : Obj := ga w os 13
noncomputable def o12 (l : List Value) : Obj := ⟨.none, none, .fields ⟨l⟩, #[]⟩
noncomputable def ent (P : Params) (e : List Nat × Nat × Value) : DictEntry := ⟨PyData.keyHash P ⟨⟨e.1⟩⟩, .str ⟨⟨e.1⟩⟩ e.2.1, e.2.2⟩
noncomputable def mainO (P : Params) (nv : Option Value) (l : List (List Nat × Nat × Value)) (n : Nat) : Obj := match boot_o_3 P with
  | ⟨c, d, .dict es _, s⟩ => ⟨c, d, .dict ⟨(match nv with | some v => (match es.toList with | e :: r => { e with val := v } :: r | [] => []) | none => es.toList) ++ l.map (ent P)⟩ n, s⟩
  | o => o
noncomputable def o2 (P : Params) (l : List (List Nat × Nat × Value)) (n : Nat) : Obj := match boot_o_2 P with
  | ⟨c, d, _, s⟩ => ⟨c, d, .dict ⟨l.map (ent P)⟩ n, s⟩
noncomputable def runT (w : World) (N : Nat) (s : SharedT) (i j : Nat) (pos : Pos) : Option (Flow × SharedT × Code × Pos) :=
  PySem.W.Fast.tw10110043849684766642 PySem.W.Fast.tw14364793385576792824 tpw w 11 (some (.ref 6)) 1 N s ⟨(PySem.W.Fast.tw12563942051412417395 ((tbody.drop i).take j) tenv).wrap doneF deadEnd id id, tcode, pos, fr0⟩
noncomputable def newAt (r : Option (Flow × SharedT × Code × Pos)) (n : Nat) (g : Nat → Obj) (i : Nat) : Obj := match Nat.ble n i with
  | false => g i
  | true => match r with
    | some (_, s, _) => (s.tree.get i).getD default
    | none => default
noncomputable def stT (w : World) (os : OsState) (a2 a3 a12 : Obj) (n t : Nat) (g : Nat → Obj) : SharedT :=
  ⟨treeOf 12 (ov (boot_o_0 w.params) a2 a3 (boot_o_4 w.params) a12 (o13 w os) g) n 1 0, n, {}, Array.mk [], {}, t, os⟩

noncomputable def E0 : List (List Nat × Nat × Value) := []
noncomputable def L0 : List Value := []
noncomputable def A0 (P : Params) : Obj := o2 P [] 0
noncomputable def B0 (P : Params) : Obj := mainO P (none) E0 9
noncomputable def S0 (w : World) (os : OsState) (g : Nat → Obj) : SharedT := stT w os (A0 w.params) (B0 w.params) (o12 L0) 15 187 g
noncomputable def E1 : List (List Nat × Nat × Value) := E0 ++ [([83, 110, 111, 98, 111, 108, 69, 114, 114, 111, 114], 222, .ref 34), ([70, 97, 105, 108, 117, 114, 101], 242, .ref 47), ([80, 97, 116, 116, 101, 114, 110], 271, .ref 68)]
noncomputable def L1 : List Value := L0 ++ [.int 2 0, .int 0 0, .ref 21, .int 8 0, .int 0 0, .ref 43, .int 10 0, .int 0 0, .ref 57]
noncomputable def A1 (P : Params) : Obj := o2 P [([116, 121, 112, 101, 46, 95, 95, 115, 117, 98, 99, 108, 97, 115, 115, 101, 115, 95, 95, 46, 69, 120, 99, 101, 112, 116, 105, 111, 110, 46, 48], 219, .int 34 0), ([116, 121, 112, 101, 46, 95, 95, 115, 117, 98, 99, 108, 97, 115, 115, 101, 115, 95, 95, 46, 69, 120, 99, 101, 112, 116, 105, 111, 110, 46, 110], 220, .int 1 0)] 2
noncomputable def B1 (P : Params) : Obj := mainO P (some (.str ⟨⟨[115, 110, 111, 98, 111, 108, 46, 118, 97, 108, 117, 101, 115]⟩⟩ 187)) E1 12
noncomputable def S1 (w : World) (os : OsState) (g : Nat → Obj) : SharedT := stT w os (A1 w.params) (B1 w.params) (o12 L1) 73 272 g
noncomputable def R0 (w : World) (os : OsState) (g : Nat → Obj) := runT w 670 (S0 w os g) 0 4 ⟨0, 0, 0, 0⟩
noncomputable def G0 (w : World) (os : OsState) (g : Nat → Obj) : Nat → Obj := newAt (R0 w os g) 15 g
theorem piece0 (w : World) (os : OsState) (g : Nat → Obj) : R0 w os g = some (.next, S1 w os (G0 w os g), tcode, ⟨10, 0, 13, 24⟩) := by kernel_rfl
noncomputable def E2 : List (List Nat × Nat × Value) := E1 ++ [([68, 101, 108, 97, 121, 101, 100], 300, .ref 89), ([78, 97, 109, 101, 82, 101, 102], 333, .ref 110), ([105, 115, 95, 102, 97, 105, 108], 340, .ref 121), ([102, 105, 116, 115], 348, .ref 128), ([119, 104, 111, 108, 101, 95, 111, 102, 95, 116, 101, 120, 116], 359, .ref 135), ([116, 101, 120, 116, 95, 111, 102, 95, 119, 104, 111, 108, 101], 368, .ref 142), ([116, 111, 95, 119, 104, 111, 108, 101], 376, .ref 149), ([116, 111, 95, 116, 101, 120, 116], 383, .ref 156), ([110, 101, 101, 100, 95, 116, 101, 120, 116], 391, .ref 163), ([67, 79, 85, 78, 84, 69, 68], 399, .ref 164), ([83, 73, 71, 78, 69, 68], 404, .ref 165), ([87, 73, 68, 84, 72, 95, 79, 70, 95, 67, 79, 85, 78, 84], 406, .int 64 405), ([112, 108, 97, 105, 110, 95, 99, 111, 117, 110, 116], 416, .ref 173), ([112, 108, 97, 105, 110, 95, 115, 105, 103, 110, 115], 425, .ref 180)]
noncomputable def L2 : List Value := L1 ++ [.int 14 0, .int 0 0, .ref 78, .int 18 0, .int 0 0, .ref 99, .int 24 0, .int 0 0, .ref 120, .int 26 0, .int 0 0, .ref 127, .int 28 0, .int 0 0, .ref 134, .int 41 0, .int 0 0, .ref 141, .int 47 0, .int 0 0, .ref 148, .int 51 0, .int 0 0, .ref 155, .int 55 0, .int 0 0, .ref 162, .int 64 0, .int 0 0, .ref 172, .int 71 0, .int 0 0, .ref 179]
noncomputable def A2 (P : Params) : Obj := o2 P [([116, 121, 112, 101, 46, 95, 95, 115, 117, 98, 99, 108, 97, 115, 115, 101, 115, 95, 95, 46, 69, 120, 99, 101, 112, 116, 105, 111, 110, 46, 48], 219, .int 34 0), ([116, 121, 112, 101, 46, 95, 95, 115, 117, 98, 99, 108, 97, 115, 115, 101, 115, 95, 95, 46, 69, 120, 99, 101, 112, 116, 105, 111, 110, 46, 110], 220, .int 1 0)] 2
noncomputable def B2 (P : Params) : Obj := mainO P (some (.str ⟨⟨[115, 110, 111, 98, 111, 108, 46, 110, 111, 100, 101, 115]⟩⟩ 392)) E2 26
noncomputable def S2 (w : World) (os : OsState) (g : Nat → Obj) : SharedT := stT w os (A2 w.params) (B2 w.params) (o12 L2) 181 426 g
noncomputable def R1 (w : World) (os : OsState) (g : Nat → Obj) := runT w 774 (S1 w os g) 4 15 ⟨10, 0, 13, 24⟩
noncomputable def G1 (w : World) (os : OsState) (g : Nat → Obj) : Nat → Obj := newAt (R1 w os g) 73 g
theorem piece1 (w : World) (os : OsState) (g : Nat → Obj) : R1 w os g = some (.next, S2 w os (G1 w os g), tcode, ⟨71, 0, 75, 15⟩) := by kernel_rfl
noncomputable def E3 : List (List Nat × Nat × Value) := E2 ++ [([112, 97, 116, 116, 101, 114, 110, 95, 111, 102], 433, .ref 187), ([105, 115, 95, 100, 101, 108, 97, 121, 101, 100], 440, .ref 194), ([115, 101, 116, 116, 108, 101, 100], 449, .ref 201), ([79, 80, 69, 78, 73, 78, 71], 453, .str ⟨⟨[40]⟩⟩ 452), ([67, 76, 79, 83, 73, 78, 71], 455, .str ⟨⟨[41]⟩⟩ 454), ([99, 104, 97, 114, 115, 95, 101, 110, 100], 465, .ref 208), ([108, 101, 110, 95, 101, 110, 100], 474, .ref 215), ([112, 111, 115, 95, 101, 110, 100], 482, .ref 222), ([114, 112, 111, 115, 95, 101, 110, 100], 491, .ref 229), ([116, 97, 98, 95, 101, 110, 100], 500, .ref 236), ([114, 116, 97, 98, 95, 101, 110, 100], 510, .ref 243), ([114, 101, 109, 95, 101, 110, 100], 517, .ref 250), ([97, 110, 121, 95, 97, 116], 526, .ref 257), ([110, 111, 116, 97, 110, 121, 95, 97, 116], 535, .ref 264), ([114, 117, 110, 95, 101, 110, 100], 545, .ref 271), ([115, 112, 97, 110, 95, 101, 110, 100], 555, .ref 278), ([98, 114, 101, 97, 107, 95, 101, 110, 100], 565, .ref 285), ([97, 114, 98, 95, 101, 110, 100, 115], 573, .ref 292), ([98, 97, 108, 95, 101, 110, 100], 582, .ref 299), ([98, 97, 108, 95, 101, 110, 100, 115], 592, .ref 306), ([111, 110, 101, 95, 101, 110, 100], 602, .ref 313), ([112, 108, 97, 105, 110, 95, 101, 110, 100], 611, .ref 320), ([101, 110, 100, 115, 95, 111, 102], 622, .ref 327), ([76, 79, 83, 84], 626, .str ⟨⟨[108, 111, 115, 116]⟩⟩ 625), ([109, 97, 116, 99, 104, 95, 112, 108, 97, 105, 110], 638, .ref 334), ([109, 97, 116, 99, 104, 95, 97, 116], 649, .ref 341)]
noncomputable def L3 : List Value := L2 ++ [.int 76 0, .int 0 0, .ref 186, .int 85 0, .int 0 0, .ref 193, .int 87 0, .int 0 0, .ref 200, .int 99 0, .int 0 0, .ref 207, .int 102 0, .int 0 0, .ref 214, .int 104 0, .int 0 0, .ref 221, .int 106 0, .int 0 0, .ref 228, .int 108 0, .int 0 0, .ref 235, .int 110 0, .int 0 0, .ref 242, .int 113 0, .int 0 0, .ref 249, .int 115 0, .int 0 0, .ref 256, .int 117 0, .int 0 0, .ref 263, .int 119 0, .int 0 0, .ref 270, .int 123 0, .int 0 0, .ref 277, .int 126 0, .int 0 0, .ref 284, .int 129 0, .int 0 0, .ref 291, .int 131 0, .int 0 0, .ref 298, .int 144 0, .int 0 0, .ref 305, .int 150 0, .int 0 0, .ref 312, .int 170 0, .int 0 0, .ref 319, .int 172 0, .int 0 0, .ref 326, .int 183 0, .int 0 0, .ref 333, .int 189 0, .int 0 0, .ref 340]
noncomputable def A3 (P : Params) : Obj := o2 P [([116, 121, 112, 101, 46, 95, 95, 115, 117, 98, 99, 108, 97, 115, 115, 101, 115, 95, 95, 46, 69, 120, 99, 101, 112, 116, 105, 111, 110, 46, 48], 219, .int 34 0), ([116, 121, 112, 101, 46, 95, 95, 115, 117, 98, 99, 108, 97, 115, 115, 101, 115, 95, 95, 46, 69, 120, 99, 101, 112, 116, 105, 111, 110, 46, 110], 220, .int 1 0)] 2
noncomputable def B3 (P : Params) : Obj := mainO P (some (.str ⟨⟨[115, 110, 111, 98, 111, 108, 46, 116, 114, 105, 97, 108]⟩⟩ 623)) E3 52
noncomputable def S3 (w : World) (os : OsState) (g : Nat → Obj) : SharedT := stT w os (A3 w.params) (B3 w.params) (o12 L3) 342 650 g
noncomputable def R2 (w : World) (os : OsState) (g : Nat → Obj) := runT w 766 (S2 w os g) 19 28 ⟨71, 0, 75, 15⟩
noncomputable def G2 (w : World) (os : OsState) (g : Nat → Obj) : Nat → Obj := newAt (R2 w os g) 181 g
theorem piece2 (w : World) (os : OsState) (g : Nat → Obj) : R2 w os g = some (.next, S3 w os (G2 w os g), tcode, ⟨189, 0, 191, 83⟩) := by kernel_rfl
noncomputable def E4 : List (List Nat × Nat × Value) := E3 ++ [([116, 114, 105, 101, 100], 664, .ref 348), ([97, 100, 118, 97, 110, 99, 101, 100], 680, .ref 355), ([108, 101, 100, 95, 105, 110], 692, .ref 362), ([108, 101, 100, 95, 111, 117, 116], 708, .ref 369), ([115, 116, 101, 101, 114, 101, 100], 720, .ref 376), ([116, 97, 107, 101, 110], 737, .ref 383), ([79, 78, 69], 741, .str ⟨⟨[111, 110, 101]⟩⟩ 740), ([87, 65, 89, 83], 743, .str ⟨⟨[119, 97, 121, 115]⟩⟩ 742), ([83, 80, 76, 73, 84], 745, .str ⟨⟨[115, 112, 108, 105, 116]⟩⟩ 744), ([74, 85, 77, 80], 747, .str ⟨⟨[106, 117, 109, 112]⟩⟩ 746), ([77, 65, 82, 75], 749, .str ⟨⟨[109, 97, 114, 107]⟩⟩ 748), ([78, 65, 77, 69], 751, .str ⟨⟨[110, 97, 109, 101]⟩⟩ 750), ([83, 69, 84], 753, .str ⟨⟨[115, 101, 116]⟩⟩ 752), ([71, 65, 73, 78], 755, .str ⟨⟨[103, 97, 105, 110]⟩⟩ 754), ([80, 76, 65, 67, 69], 757, .str ⟨⟨[112, 108, 97, 99, 101]⟩⟩ 756), ([65, 83, 75], 759, .str ⟨⟨[97, 115, 107]⟩⟩ 758), ([70, 69, 78, 67, 69], 761, .str ⟨⟨[102, 101, 110, 99, 101]⟩⟩ 760), ([70, 65, 73, 76], 763, .str ⟨⟨[102, 97, 105, 108]⟩⟩ 762), ([65, 66, 79, 82, 84], 765, .str ⟨⟨[97, 98, 111, 114, 116]⟩⟩ 764), ([83, 85, 67, 67, 69, 69, 68], 767, .str ⟨⟨[115, 117, 99, 99, 101, 101, 100]⟩⟩ 766), ([68, 79, 78, 69], 769, .str ⟨⟨[100, 111, 110, 101]⟩⟩ 768), ([80, 85, 84], 771, .str ⟨⟨[112, 117, 116]⟩⟩ 770), ([69, 77, 73, 84], 773, .str ⟨⟨[101, 109, 105, 116]⟩⟩ 772), ([79, 80, 69, 78], 775, .str ⟨⟨[111, 112, 101, 110]⟩⟩ 774), ([83, 72, 85, 84], 777, .str ⟨⟨[115, 104, 117, 116]⟩⟩ 776), ([77, 69, 69, 84], 779, .str ⟨⟨[109, 101, 101, 116]⟩⟩ 778), ([83, 73, 78, 71, 76, 69], 791, .ref 384), ([65, 76, 79, 78, 69], 796, .ref 385), ([114, 111, 119, 95, 111, 102], 807, .ref 392), ([105, 115, 95, 112, 108, 97, 105, 110, 95, 116, 101, 120, 116], 814, .ref 399), ([119, 105, 116, 104, 95, 116, 101, 120, 116, 115, 95, 106, 111, 105, 110, 101, 100], 823, .ref 406)]
noncomputable def L4 : List Value := L3 ++ [.int 192 0, .int 0 0, .ref 347, .int 210 0, .int 0 0, .ref 354, .int 225 0, .int 0 0, .ref 361, .int 236 0, .int 0 0, .ref 368, .int 243 0, .int 0 0, .ref 375, .int 251 0, .int 0 0, .ref 382, .int 290 0, .int 0 0, .ref 391, .int 299 0, .int 0 0, .ref 398, .int 301 0, .int 0 0, .ref 405]
noncomputable def A4 (P : Params) : Obj := o2 P [([116, 121, 112, 101, 46, 95, 95, 115, 117, 98, 99, 108, 97, 115, 115, 101, 115, 95, 95, 46, 69, 120, 99, 101, 112, 116, 105, 111, 110, 46, 48], 219, .int 34 0), ([116, 121, 112, 101, 46, 95, 95, 115, 117, 98, 99, 108, 97, 115, 115, 101, 115, 95, 95, 46, 69, 120, 99, 101, 112, 116, 105, 111, 110, 46, 110], 220, .int 1 0)] 2
noncomputable def B4 (P : Params) : Obj := mainO P (some (.str ⟨⟨[115, 110, 111, 98, 111, 108, 46, 99, 111, 109, 112, 105, 108, 101, 95, 112, 97, 116, 116, 101, 114, 110]⟩⟩ 738)) E4 83
noncomputable def S4 (w : World) (os : OsState) (g : Nat → Obj) : SharedT := stT w os (A4 w.params) (B4 w.params) (o12 L4) 407 824 g
noncomputable def R3 (w : World) (os : OsState) (g : Nat → Obj) := runT w 538 (S3 w os g) 47 32 ⟨189, 0, 191, 83⟩
noncomputable def G3 (w : World) (os : OsState) (g : Nat → Obj) : Nat → Obj := newAt (R3 w os g) 342 g
theorem piece3 (w : World) (os : OsState) (g : Nat → Obj) : R3 w os g = some (.next, S4 w os (G3 w os g), tcode, ⟨301, 0, 310, 16⟩) := by kernel_rfl
noncomputable def E5 : List (List Nat × Nat × Value) := E4 ++ [([80, 97, 116, 116, 101, 114, 110, 67, 111, 100, 101], 907, .ref 463), ([115, 116, 114, 97, 105, 103, 104, 116, 101, 110, 101, 100], 917, .ref 474), ([99, 111, 109, 112, 105, 108, 101, 95, 112, 97, 116, 116, 101, 114, 110], 925, .ref 481)]
noncomputable def L5 : List Value := L4 ++ [.int 311 0, .int 0 0, .ref 412, .int 372 0, .int 0 0, .ref 473, .int 382 0, .int 0 0, .ref 480]
noncomputable def A5 (P : Params) : Obj := o2 P [([116, 121, 112, 101, 46, 95, 95, 115, 117, 98, 99, 108, 97, 115, 115, 101, 115, 95, 95, 46, 69, 120, 99, 101, 112, 116, 105, 111, 110, 46, 48], 219, .int 34 0), ([116, 121, 112, 101, 46, 95, 95, 115, 117, 98, 99, 108, 97, 115, 115, 101, 115, 95, 95, 46, 69, 120, 99, 101, 112, 116, 105, 111, 110, 46, 110], 220, .int 1 0)] 2
noncomputable def B5 (P : Params) : Obj := mainO P (some (.str ⟨⟨[115, 110, 111, 98, 111, 108, 46, 104, 111, 115, 116, 115]⟩⟩ 926)) E5 86
noncomputable def S5 (w : World) (os : OsState) (g : Nat → Obj) : SharedT := stT w os (A5 w.params) (B5 w.params) (o12 L5) 482 928 g
noncomputable def R4 (w : World) (os : OsState) (g : Nat → Obj) := runT w 491 (S4 w os g) 79 4 ⟨301, 0, 310, 16⟩
noncomputable def G4 (w : World) (os : OsState) (g : Nat → Obj) : Nat → Obj := newAt (R4 w os g) 407 g
theorem piece4 (w : World) (os : OsState) (g : Nat → Obj) : R4 w os g = some (.next, S5 w os (G4 w os g), tcode, ⟨387, 0, 387, 8⟩) := by kernel_rfl
noncomputable def E6 : List (List Nat × Nat × Value) := E5 ++ [([80, 108, 97, 105, 110, 72, 111, 115, 116], 987, .ref 519), ([77, 69, 84], 991, .int 0 990), ([70, 65, 73, 76, 69, 68], 993, .int 1 992), ([79, 86, 69, 82], 995, .int 2 994), ([87, 97, 121], 1042, .ref 547)]
noncomputable def L6 : List Value := L5 ++ [.int 388 0, .int 0 0, .ref 487, .int 418 0, .int 0 0, .ref 529]
noncomputable def A6 (P : Params) : Obj := o2 P [([116, 121, 112, 101, 46, 95, 95, 115, 117, 98, 99, 108, 97, 115, 115, 101, 115, 95, 95, 46, 69, 120, 99, 101, 112, 116, 105, 111, 110, 46, 48], 219, .int 34 0), ([116, 121, 112, 101, 46, 95, 95, 115, 117, 98, 99, 108, 97, 115, 115, 101, 115, 95, 95, 46, 69, 120, 99, 101, 112, 116, 105, 111, 110, 46, 110], 220, .int 1 0)] 2
noncomputable def B6 (P : Params) : Obj := mainO P (some (.str ⟨⟨[115, 110, 111, 98, 111, 108, 46, 112, 97, 116, 116, 101, 114, 110, 95, 109, 97, 99, 104, 105, 110, 101]⟩⟩ 988)) E6 91
noncomputable def S6 (w : World) (os : OsState) (g : Nat → Obj) : SharedT := stT w os (A6 w.params) (B6 w.params) (o12 L6) 552 1043 g
noncomputable def R5 (w : World) (os : OsState) (g : Nat → Obj) := runT w 626 (S5 w os g) 83 6 ⟨387, 0, 387, 8⟩
noncomputable def G5 (w : World) (os : OsState) (g : Nat → Obj) : Nat → Obj := newAt (R5 w os g) 482 g
theorem piece5 (w : World) (os : OsState) (g : Nat → Obj) : R5 w os g = some (.next, S6 w os (G5 w os g), tcode, ⟨418, 0, 429, 80⟩) := by kernel_rfl
noncomputable def E7 : List (List Nat × Nat × Value) := E6 ++ [([77, 97, 116, 99, 104], 1157, .ref 624), ([110, 97, 109, 101, 100, 95, 114, 111, 119, 115], 1166, .ref 635), ([109, 97, 116, 99, 104, 95, 111, 114, 100, 101, 114, 115], 1179, .ref 642), ([95, 108, 97, 119, 95, 110, 101, 120, 116], 1191, .ref 649), ([95, 108, 97, 119, 95, 108, 101, 97, 102], 1200, .ref 656), ([95, 108, 97, 119, 95, 110, 111, 100, 101], 1211, .ref 663), ([95, 108, 97, 119, 95, 104, 97, 115, 95, 114, 111, 117, 110, 100, 115], 1218, .ref 670), ([95, 108, 97, 119, 95, 116, 111, 108, 100], 1224, .ref 675), ([95, 108, 97, 119, 95, 104, 111, 115, 116], 1230, .ref 682), ([95, 108, 97, 119, 95, 102, 114, 111, 109], 1244, .ref 689)]
noncomputable def L7 : List Value := L6 ++ [.int 430 0, .int 0 0, .ref 557, .int 538 0, .int 0 0, .ref 634, .int 545 0, .int 0 0, .ref 641, .int 554 0, .int 0 0, .ref 648, .int 560 0, .int 0 0, .ref 655, .int 571 0, .int 0 0, .ref 662, .int 581 0, .int 0 0, .ref 669, .int 585 0, .int 0 0, .ref 674, .int 589 0, .int 0 0, .ref 681, .int 591 0, .int 0 0, .ref 688]
noncomputable def A7 (P : Params) : Obj := o2 P [([116, 121, 112, 101, 46, 95, 95, 115, 117, 98, 99, 108, 97, 115, 115, 101, 115, 95, 95, 46, 69, 120, 99, 101, 112, 116, 105, 111, 110, 46, 48], 219, .int 34 0), ([116, 121, 112, 101, 46, 95, 95, 115, 117, 98, 99, 108, 97, 115, 115, 101, 115, 95, 95, 46, 69, 120, 99, 101, 112, 116, 105, 111, 110, 46, 110], 220, .int 1 0)] 2
noncomputable def B7 (P : Params) : Obj := mainO P (some (.str ⟨⟨[108, 97, 119, 95, 115, 97, 48, 54, 48, 52, 95, 48, 49]⟩⟩ 1180)) E7 101
noncomputable def S7 (w : World) (os : OsState) (g : Nat → Obj) : SharedT := stT w os (A7 w.params) (B7 w.params) (o12 L7) 690 1245 g
noncomputable def R6 (w : World) (os : OsState) (g : Nat → Obj) := runT w 791 (S6 w os g) 89 11 ⟨418, 0, 429, 80⟩
noncomputable def G6 (w : World) (os : OsState) (g : Nat → Obj) : Nat → Obj := newAt (R6 w os g) 552 g
theorem piece6 (w : World) (os : OsState) (g : Nat → Obj) : R6 w os g = some (.next, S7 w os (G6 w os g), tcode, ⟨591, 0, 596, 113⟩) := by kernel_rfl
noncomputable def E8 : List (List Nat × Nat × Value) := E7 ++ [([95, 108, 97, 119, 95, 105, 115, 95, 102, 105, 114, 115, 116], 1259, .ref 696), ([108, 97, 119], 1265, .ref 701)]
noncomputable def L8 : List Value := L7 ++ [.int 597 0, .int 0 0, .ref 695, .int 610 0, .int 0 0, .ref 700]
noncomputable def A8 (P : Params) : Obj := o2 P [([116, 121, 112, 101, 46, 95, 95, 115, 117, 98, 99, 108, 97, 115, 115, 101, 115, 95, 95, 46, 69, 120, 99, 101, 112, 116, 105, 111, 110, 46, 48], 219, .int 34 0), ([116, 121, 112, 101, 46, 95, 95, 115, 117, 98, 99, 108, 97, 115, 115, 101, 115, 95, 95, 46, 69, 120, 99, 101, 112, 116, 105, 111, 110, 46, 110], 220, .int 1 0)] 2
noncomputable def B8 (P : Params) : Obj := mainO P (some (.str ⟨⟨[108, 97, 119, 95, 115, 97, 48, 54, 48, 52, 95, 48, 49]⟩⟩ 1180)) E8 103
noncomputable def S8 (w : World) (os : OsState) (g : Nat → Obj) : SharedT := stT w os (A8 w.params) (B8 w.params) (o12 L8) 702 1266 g
noncomputable def R7 (w : World) (os : OsState) (g : Nat → Obj) := runT w 64 (S7 w os g) 100 2 ⟨591, 0, 596, 113⟩
noncomputable def G7 (w : World) (os : OsState) (g : Nat → Obj) : Nat → Obj := newAt (R7 w os g) 690 g
theorem piece7 (w : World) (os : OsState) (g : Nat → Obj) : R7 w os g = some (.next, S8 w os (G7 w os g), tcode, ⟨610, 0, 624, 15⟩) := by kernel_rfl
end
end
section
open PySem PySem.W PyProof.Rows
noncomputable section
theorem runT_eq (w : World) (N : Nat) (s : SharedT) (i j : Nat) (pos : Pos) : runT w N s i j pos = segRunT treeTable tpw w 11 (some (.ref 6)) 1 N s (piecesOf ((tbody.drop i).take j) tenv tcode pos fr0) := by
  unfold runT
  rw [← PySem.W.Fast.te10110043849684766642, ← PySem.W.Fast.te14364793385576792824, ← PySem.W.Fast.te12563942051412417395]
theorem preRun_eq (w : World) (os : OsState) : preRun w os = topGo treeTable tpw w 11 (some (.ref 6)) 12 ⟨boot_heap w.params, Array.mk [], boot_drawn, boot_toks, os⟩ (topStub tpw) := by
  unfold preRun
  rw [← PySem.W.Fast.te15667345088766844465, ← PySem.W.Fast.te14364793385576792824]
noncomputable def sa (w : World) (os : OsState) : Shared := ⟨Sa w os, Array.mk [], {}, 187, os⟩
theorem pre_is (w : World) (os : OsState) : preRun w os = some (sa w os, ⟨PySem.W.Fast.tw11892475500146522536 PySem.W.Fast.tw14364793385576792824 tcode, tcode, ⟨0, 0, 0, 0⟩, fr0⟩) := by kernel_rfl
theorem block_is (w : World) (os : OsState) : PySem.W.Fast.tw14374325043358763698 PySem.W.Fast.tw14364793385576792824 tpw w 11 (some (.ref 6)) 1 1 (sa w os) ⟨(PySem.W.Fast.tw1066825118222455980 tbody tenv).wrap (fun _ => doneF .next) deadEnd id id, tcode, ⟨0, 0, 0, 0⟩, fr0⟩ = some (.next, (S0 w os (ga w os)).abs, tcode, ⟨0, 0, 0, 0⟩) := by kernel_rfl
theorem take_drop (i j : Nat) : tbody.drop i = (tbody.drop i).take j ++ tbody.drop (i + j) := by rw [← List.drop_drop, List.take_append_drop]
theorem step_piece {w : World} {N N' : Nat} {s s' : SharedT} {r : Shared} {i j : Nat} {pos pos' : Pos} (h : runT w N s i j pos = some (.next, s', tcode, pos')) (k : topRun treeTable tpw w 11 (some (.ref 6)) N' s'.abs (restOf (tbody.drop (i + j)) tenv tcode pos' fr0) = some r) :
    topRun treeTable tpw w 11 (some (.ref 6)) (N + N') s.abs (restOf (tbody.drop i) tenv tcode pos fr0) = some r := by
  rw [runT_eq] at h
  rw [take_drop i j]
  exact piece_app (segRun_of h) k
end
end
section
open PySem PySem.W PyProof.Rows
noncomputable section
noncomputable def H0 (w : World) (os : OsState) : Nat → Obj := ga w os
noncomputable def H1 (w : World) (os : OsState) : Nat → Obj := G0 w os (H0 w os)
noncomputable def H2 (w : World) (os : OsState) : Nat → Obj := G1 w os (H1 w os)
noncomputable def H3 (w : World) (os : OsState) : Nat → Obj := G2 w os (H2 w os)
noncomputable def H4 (w : World) (os : OsState) : Nat → Obj := G3 w os (H3 w os)
noncomputable def H5 (w : World) (os : OsState) : Nat → Obj := G4 w os (H4 w os)
noncomputable def H6 (w : World) (os : OsState) : Nat → Obj := G5 w os (H5 w os)
noncomputable def H7 (w : World) (os : OsState) : Nat → Obj := G6 w os (H6 w os)
noncomputable def H8 (w : World) (os : OsState) : Nat → Obj := G7 w os (H7 w os)
noncomputable def finT (w : World) (os : OsState) : SharedT := S8 w os (H8 w os)
noncomputable def allSteps : Nat := 12 + (1 + (670 + (774 + (766 + (538 + (491 + (626 + (791 + (64 + 2)))))))))
theorem fin_is (w : World) (os : OsState) (g : Nat → Obj) : PySem.W.Fast.tw14082659384304107361 PySem.W.Fast.tw14364793385576792824 tpw w 11 (some (.ref 6)) 2 (S8 w os g).abs ⟨doneF .next, tcode, ⟨610, 0, 624, 15⟩, fr0⟩ = some (S8 w os g).abs := by kernel_rfl
theorem fin_run (w : World) (os : OsState) : topRun treeTable tpw w 11 (some (.ref 6)) 2 (finT w os).abs (restOf (tbody.drop 102) tenv tcode ⟨610, 0, 624, 15⟩ fr0) = some (finT w os).abs := by
  have e : tbody.drop 102 = [] := by kernel_rfl
  rw [e]
  refine piece_nil ?_
  have := fin_is w os (H8 w os)
  rw [← PySem.W.Fast.te14082659384304107361, ← PySem.W.Fast.te14364793385576792824] at this
  exact this
theorem whole_run (w : World) (os : OsState) : topRun treeTable tpw w 11 (some (.ref 6)) allSteps ⟨boot_heap w.params, Array.mk [], boot_drawn, boot_toks, os⟩ (topStub tpw) = some (finT w os).abs := by
  have h := pre_is w os
  rw [preRun_eq, ← PySem.W.Fast.te11892475500146522536, ← PySem.W.Fast.te14364793385576792824] at h
  refine go_top h ?_
  have b := block_is w os
  rw [← PySem.W.Fast.te14374325043358763698, ← PySem.W.Fast.te14364793385576792824, ← PySem.W.Fast.te1066825118222455980] at b
  refine piece_block b ?_
  have e0 : tbody = tbody.drop 0 := rfl
  rw [e0]
  exact step_piece (piece0 w os (H0 w os)) (step_piece (piece1 w os (H1 w os)) (step_piece (piece2 w os (H2 w os)) (step_piece (piece3 w os (H3 w os)) (step_piece (piece4 w os (H4 w os)) (step_piece (piece5 w os (H5 w os)) (step_piece (piece6 w os (H6 w os)) (step_piece (piece7 w os (H7 w os)) (fin_run w os))))))))
end
end
section
open PySem PySem.W PyProof.Rows
noncomputable section
noncomputable def lawStmts : List Stmt := (behindTheImports pw).drop 101
noncomputable def qv : Program := { pw with main := { pw.main with body := lawStmts } }
noncomputable def looseN : List Str := pw.boundNames.filter fun n => !(n == ("law" : Str))
noncomputable def tq : Program := { tpw with main := { tpw.main with body := tbody.drop 101 } }
noncomputable def tloose : List Str := tpw.boundNames.filter fun n => !(n == ("law" : Str))
noncomputable def bigN : Nat := 10000
theorem statics_is (w : World) (os : OsState) : (staticsOk (importedModules tpw.main.body) (boot_heap w.params) (finT w os).abs.heap && namesBound tpw (finT w os).abs.heap && gensDone (finT w os).abs && laidKept (boot_heap w.params) (finT w os).abs.heap) = true := by kernel_rfl
theorem seen_is (w : World) (os : OsState) : PySem.W.Fast.tw4187177175401517315 tq tloose (importedModules tpw.main.body) (fun s => xlAt tq [] s && recOk [] s) true (finT w os).abs = openGood tq tloose := by kernel_rfl
theorem opened (w : World) : (fencedOpening treeTable tpw w bigN).map (fun s => (s.heap, s.gens, s.drawn, s.toks)) = some (boot_heap w.params, Array.mk [], boot_drawn, boot_toks) :=
  boot_open (p := tpw) (N := bigN) (by kernel_rfl) (by kernel_rfl) (fun s => by kernel_rfl) w
theorem boot_size (w : World) : ((boot_heap w.params).isNs mainGlobals && (Array.mk ([] : List GenState)).size == 0, (boot_heap w.params).objs.size, (boot_heap w.params).nsMap mainGlobals "__annotations__") = (true, 11, some (.ref 6)) := by kernel_rfl
end
end
section
open PySem PySem.W PyProof.Rows
noncomputable section
noncomputable def aliveB (o : Obj) : Bool := match o with | ⟨_, _, .freed, _⟩ => false | _ => true
theorem treeOf_get : ∀ (k : Nat) (f : Nat → Obj) (n A b i : Nat), 0 < A → i + 1 < 2 ^ k → (treeOf k f n A b).get i = if A * i + b < n then some (f (A * i + b)) else none
  | 0, f, n, A, b, i, _, h => by simp at h
  | k + 1, f, n, A, b, i, hA, h => by
    unfold treeOf
    by_cases hb : n ≤ b
    · rw [Nat.ble_eq_true_of_le hb]
      have : ¬ A * i + b < n := by have := Nat.zero_le (A * i); exact (fun z0 => lin3 (.l (.v 0) (.v 1) (.t (.a (.v 2) (.v 1)) (.v 0) (.z))) rfl hb z0)
      rw [if_neg this]; rfl
    · have : Nat.ble n b = false := by
        cases q : Nat.ble n b with
        | false => rfl
        | true => exact absurd (Nat.le_of_ble_eq_true q) hb
      rw [this]
      dsimp only
      rw [BT.get_node]
      by_cases h0 : i = 0
      · subst h0; rw [if_pos rfl, if_pos (by exact lin3 (.t (.v 0) (.v 1) (.b (.a (.w (.v 2) 0) (.v 0)) (.v 1))) rfl (Nat.lt_of_not_le hb))]; simp
      · rw [if_neg h0]
        by_cases p : i % 2 = 1
        · rw [if_pos p, treeOf_get k f n (2 * A) (A + b) (i / 2) (by exact lin1 (.t (.k 0) (.v 0) (.b (.k 0) (.m 2 (.v 0)))) rfl hA) (by rw [Nat.pow_succ] at h; lia -abstractProof), ← X.KT.arith1 p]
        · rw [if_neg p, treeOf_get k f n (2 * A) (2 * A + b) (i / 2 - 1) (by exact lin1 (.t (.k 0) (.v 0) (.b (.k 0) (.m 2 (.v 0)))) rfl hA) (by rw [Nat.pow_succ] at h; lia -abstractProof), ← X.KT.arith2 h0 p]
theorem newAt_old {r : Option (Flow × SharedT × Code × Pos)} {n : Nat} {g : Nat → Obj} {i : Nat} (h : i < n) : newAt r n g i = g i := by
  unfold newAt
  have : Nat.ble n i = false := by
    cases q : Nat.ble n i with
    | false => rfl
    | true => exact absurd (Nat.le_of_ble_eq_true q) (Nat.not_le.mpr h)
  rw [this]
set_option tactic.hygienic true
theorem alive_of {o : Obj} (h : aliveB o = true) : alive o = some o := by
  unfold aliveB at h
  unfold alive
  split at h
  · cases h
  · rename_i hx
    split
    · rename_i a b c; exact absurd rfl (hx a b c)
    · rfl
set_option tactic.hygienic false
noncomputable def ad0 : List Nat := [23, 30, 31, 33, 34, 46, 47, 64, 65, 67, 68]
noncomputable def ad1 : List Nat := [85, 86, 88, 89, 106, 107, 109, 110, 120, 121, 127, 128, 134, 135, 141, 142, 148, 149, 155, 156, 162, 163, 164, 165, 166, 172, 173, 179, 180]
noncomputable def ad2 : List Nat := [186, 187, 193, 194, 200, 201, 207, 208, 214, 215, 221, 222, 228, 229, 235, 236, 242, 243, 249, 250, 256, 257, 263, 264, 270, 271, 277, 278, 284, 285, 291, 292, 298, 299, 305, 306, 312, 313, 319, 320, 326, 327, 333, 334, 340, 341]
noncomputable def ad3 : List Nat := [347, 348, 354, 355, 361, 362, 368, 369, 375, 376, 382, 383, 384, 385, 391, 392, 398, 399, 405, 406]
noncomputable def ad4 : List Nat := [419, 420, 426, 427, 433, 434, 438, 439, 445, 446, 452, 453, 459, 460, 462, 463, 473, 474, 480, 481]
noncomputable def ad5 : List Nat := [494, 495, 501, 502, 508, 509, 515, 516, 518, 519, 536, 537, 543, 544, 546, 547]
noncomputable def ad6 : List Nat := [564, 565, 571, 572, 578, 579, 585, 586, 592, 593, 599, 600, 606, 607, 613, 614, 620, 621, 623, 624, 634, 635, 641, 642, 648, 649, 655, 656, 662, 663, 669, 670, 674, 675, 681, 682, 688, 689]
noncomputable def ad7 : List Nat := [695, 696, 700, 701]
noncomputable def addrs : List Nat := 3 :: (ad0 ++ (ad1 ++ (ad2 ++ (ad3 ++ (ad4 ++ (ad5 ++ (ad6 ++ (ad7))))))))
theorem alive0 (w : World) (os : OsState) (g : Nat → Obj) : ad0.all (fun a => aliveB (G0 w os g a)) = true := by kernel_rfl
theorem adin0 : ad0.all (fun a => Nat.blt a 73 && Nat.blt 13 a) = true := by decide +kernel
theorem alive1 (w : World) (os : OsState) (g : Nat → Obj) : ad1.all (fun a => aliveB (G1 w os g a)) = true := by kernel_rfl
theorem adin1 : ad1.all (fun a => Nat.blt a 181 && Nat.blt 13 a) = true := by decide +kernel
theorem alive2 (w : World) (os : OsState) (g : Nat → Obj) : ad2.all (fun a => aliveB (G2 w os g a)) = true := by kernel_rfl
theorem adin2 : ad2.all (fun a => Nat.blt a 342 && Nat.blt 13 a) = true := by decide +kernel
theorem alive3 (w : World) (os : OsState) (g : Nat → Obj) : ad3.all (fun a => aliveB (G3 w os g a)) = true := by kernel_rfl
theorem adin3 : ad3.all (fun a => Nat.blt a 407 && Nat.blt 13 a) = true := by decide +kernel
theorem alive4 (w : World) (os : OsState) (g : Nat → Obj) : ad4.all (fun a => aliveB (G4 w os g a)) = true := by kernel_rfl
theorem adin4 : ad4.all (fun a => Nat.blt a 482 && Nat.blt 13 a) = true := by decide +kernel
theorem alive5 (w : World) (os : OsState) (g : Nat → Obj) : ad5.all (fun a => aliveB (G5 w os g a)) = true := by kernel_rfl
theorem adin5 : ad5.all (fun a => Nat.blt a 552 && Nat.blt 13 a) = true := by decide +kernel
theorem alive6 (w : World) (os : OsState) (g : Nat → Obj) : ad6.all (fun a => aliveB (G6 w os g a)) = true := by kernel_rfl
theorem adin6 : ad6.all (fun a => Nat.blt a 690 && Nat.blt 13 a) = true := by decide +kernel
theorem alive7 (w : World) (os : OsState) (g : Nat → Obj) : ad7.all (fun a => aliveB (G7 w os g a)) = true := by kernel_rfl
theorem adin7 : ad7.all (fun a => Nat.blt a 702 && Nat.blt 13 a) = true := by decide +kernel
theorem at8 (w : World) (os : OsState) (a : Nat) (h : a < 702) : H8 w os a = H8 w os a := rfl
theorem at7 (w : World) (os : OsState) (a : Nat) (h : a < 690) : H8 w os a = H7 w os a := (at8 w os a (by exact lin1 (.t (.v 0) (.k 690) (.b (.v 0) (.k 702))) rfl h)).trans (newAt_old (r := R7 w os (H7 w os)) h)
theorem at6 (w : World) (os : OsState) (a : Nat) (h : a < 552) : H8 w os a = H6 w os a := (at7 w os a (by exact lin1 (.t (.v 0) (.k 552) (.b (.v 0) (.k 690))) rfl h)).trans (newAt_old (r := R6 w os (H6 w os)) h)
theorem at5 (w : World) (os : OsState) (a : Nat) (h : a < 482) : H8 w os a = H5 w os a := (at6 w os a (by exact lin1 (.t (.v 0) (.k 482) (.b (.v 0) (.k 552))) rfl h)).trans (newAt_old (r := R5 w os (H5 w os)) h)
theorem at4 (w : World) (os : OsState) (a : Nat) (h : a < 407) : H8 w os a = H4 w os a := (at5 w os a (by exact lin1 (.t (.v 0) (.k 407) (.b (.v 0) (.k 482))) rfl h)).trans (newAt_old (r := R4 w os (H4 w os)) h)
theorem at3 (w : World) (os : OsState) (a : Nat) (h : a < 342) : H8 w os a = H3 w os a := (at4 w os a (by exact lin1 (.t (.v 0) (.k 342) (.b (.v 0) (.k 407))) rfl h)).trans (newAt_old (r := R3 w os (H3 w os)) h)
theorem at2 (w : World) (os : OsState) (a : Nat) (h : a < 181) : H8 w os a = H2 w os a := (at3 w os a (by exact lin1 (.t (.v 0) (.k 181) (.b (.v 0) (.k 342))) rfl h)).trans (newAt_old (r := R2 w os (H2 w os)) h)
theorem at1 (w : World) (os : OsState) (a : Nat) (h : a < 73) : H8 w os a = H1 w os a := (at2 w os a (by exact lin1 (.t (.v 0) (.k 73) (.b (.v 0) (.k 181))) rfl h)).trans (newAt_old (r := R1 w os (H1 w os)) h)
noncomputable def osOf (w : World) : OsState := match fencedOpening treeTable tpw w bigN with | some s => s.os | none => default
noncomputable def objF (w : World) : Nat → Obj := ov (boot_o_0 w.params) (A8 w.params) (B8 w.params) (boot_o_4 w.params) (o12 L8) (o13 w (osOf w)) (H8 w (osOf w))
theorem objF_at (w : World) (a : Nat) (h : 13 < a) : objF w a = H8 w (osOf w) a := by
  have e (n : Nat) (hn : n ≤ 13) : Nat.beq a n = false := by
    cases q : Nat.beq a n with
    | false => rfl
    | true => have := Nat.eq_of_beq_eq_true q; exact False.elim (lin2 (.t (.k 13) (.v 0) (.e (.v 0) (.v 1) (.l (.v 1) (.k 13) (.z)))) rfl h this hn)
  unfold objF ov
  rw [e 3 (by decide), e 12 (by decide), e 13 (by decide), e 4 (by decide), e 2 (by decide), e 0 (by decide)]
theorem get_fin (w : World) (a : Nat) (h : a < 702) : (finT w (osOf w)).tree.get a = some (objF w a) := by
  have := treeOf_get 12 (objF w) 702 1 0 a (by decide) (Nat.lt_of_lt_of_le (by exact lin1 (.t (.v 0) (.k 702) (.b (.a (.v 0) (.k 1)) (.k 4096))) rfl h : a + 1 < 4096) (by decide))
  rw [Nat.one_mul, Nat.add_zero, if_pos h] at this
  exact this
theorem alive_main (w : World) : aliveB (objF w 3) = true := by kernel_rfl
theorem live0 (w : World) (a : Nat) (h : a ∈ ad0) : a < 702 ∧ aliveB (objF w a) = true := by
  have h1 := List.all_eq_true.mp adin0 a h
  rw [Bool.and_eq_true, Nat.blt_eq, Nat.blt_eq] at h1
  refine ⟨by exact lin1 (.t (.v 0) (.k 73) (.b (.v 0) (.k 702))) rfl h1.1, ?_⟩
  rw [objF_at w a h1.2, at1 w (osOf w) a h1.1]
  exact List.all_eq_true.mp (alive0 w (osOf w) (H0 w (osOf w))) a h
theorem live1 (w : World) (a : Nat) (h : a ∈ ad1) : a < 702 ∧ aliveB (objF w a) = true := by
  have h1 := List.all_eq_true.mp adin1 a h
  rw [Bool.and_eq_true, Nat.blt_eq, Nat.blt_eq] at h1
  refine ⟨by exact lin1 (.t (.v 0) (.k 181) (.b (.v 0) (.k 702))) rfl h1.1, ?_⟩
  rw [objF_at w a h1.2, at2 w (osOf w) a h1.1]
  exact List.all_eq_true.mp (alive1 w (osOf w) (H1 w (osOf w))) a h
theorem live2 (w : World) (a : Nat) (h : a ∈ ad2) : a < 702 ∧ aliveB (objF w a) = true := by
  have h1 := List.all_eq_true.mp adin2 a h
  rw [Bool.and_eq_true, Nat.blt_eq, Nat.blt_eq] at h1
  refine ⟨by exact lin1 (.t (.v 0) (.k 342) (.b (.v 0) (.k 702))) rfl h1.1, ?_⟩
  rw [objF_at w a h1.2, at3 w (osOf w) a h1.1]
  exact List.all_eq_true.mp (alive2 w (osOf w) (H2 w (osOf w))) a h
theorem live3 (w : World) (a : Nat) (h : a ∈ ad3) : a < 702 ∧ aliveB (objF w a) = true := by
  have h1 := List.all_eq_true.mp adin3 a h
  rw [Bool.and_eq_true, Nat.blt_eq, Nat.blt_eq] at h1
  refine ⟨by exact lin1 (.t (.v 0) (.k 407) (.b (.v 0) (.k 702))) rfl h1.1, ?_⟩
  rw [objF_at w a h1.2, at4 w (osOf w) a h1.1]
  exact List.all_eq_true.mp (alive3 w (osOf w) (H3 w (osOf w))) a h
theorem live4 (w : World) (a : Nat) (h : a ∈ ad4) : a < 702 ∧ aliveB (objF w a) = true := by
  have h1 := List.all_eq_true.mp adin4 a h
  rw [Bool.and_eq_true, Nat.blt_eq, Nat.blt_eq] at h1
  refine ⟨by exact lin1 (.t (.v 0) (.k 482) (.b (.v 0) (.k 702))) rfl h1.1, ?_⟩
  rw [objF_at w a h1.2, at5 w (osOf w) a h1.1]
  exact List.all_eq_true.mp (alive4 w (osOf w) (H4 w (osOf w))) a h
theorem live5 (w : World) (a : Nat) (h : a ∈ ad5) : a < 702 ∧ aliveB (objF w a) = true := by
  have h1 := List.all_eq_true.mp adin5 a h
  rw [Bool.and_eq_true, Nat.blt_eq, Nat.blt_eq] at h1
  refine ⟨by exact lin1 (.t (.v 0) (.k 552) (.b (.v 0) (.k 702))) rfl h1.1, ?_⟩
  rw [objF_at w a h1.2, at6 w (osOf w) a h1.1]
  exact List.all_eq_true.mp (alive5 w (osOf w) (H5 w (osOf w))) a h
theorem live6 (w : World) (a : Nat) (h : a ∈ ad6) : a < 702 ∧ aliveB (objF w a) = true := by
  have h1 := List.all_eq_true.mp adin6 a h
  rw [Bool.and_eq_true, Nat.blt_eq, Nat.blt_eq] at h1
  refine ⟨by exact lin1 (.t (.v 0) (.k 690) (.b (.v 0) (.k 702))) rfl h1.1, ?_⟩
  rw [objF_at w a h1.2, at7 w (osOf w) a h1.1]
  exact List.all_eq_true.mp (alive6 w (osOf w) (H6 w (osOf w))) a h
theorem live7 (w : World) (a : Nat) (h : a ∈ ad7) : a < 702 ∧ aliveB (objF w a) = true := by
  have h1 := List.all_eq_true.mp adin7 a h
  rw [Bool.and_eq_true, Nat.blt_eq, Nat.blt_eq] at h1
  refine ⟨by exact lin1 (.t (.v 0) (.k 702) (.b (.v 0) (.k 702))) rfl h1.1, ?_⟩
  rw [objF_at w a h1.2, at8 w (osOf w) a h1.1]
  exact List.all_eq_true.mp (alive7 w (osOf w) (H7 w (osOf w))) a h
theorem live_all (w : World) (a : Nat) (h : a ∈ addrs) : a < 702 ∧ aliveB (objF w a) = true := by
  rcases List.mem_cons.mp h with rfl | h
  · exact ⟨by decide, alive_main w⟩
  rcases List.mem_append.mp h with h | h
  · exact live0 w a h
  rcases List.mem_append.mp h with h | h
  · exact live1 w a h
  rcases List.mem_append.mp h with h | h
  · exact live2 w a h
  rcases List.mem_append.mp h with h | h
  · exact live3 w a h
  rcases List.mem_append.mp h with h | h
  · exact live4 w a h
  rcases List.mem_append.mp h with h | h
  · exact live5 w a h
  rcases List.mem_append.mp h with h | h
  · exact live6 w a h
  exact live7 w a h
theorem get_heap (w : World) (a : Nat) (h : a ∈ addrs) : (finT w (osOf w)).abs.heap.get? a = some (objF w a) := by
  obtain ⟨h1, h2⟩ := live_all w a h
  exact (abs_get h1 (get_fin w a h1)).trans (alive_of h2)
noncomputable def KO (w : World) : Frag := addrs.map fun a => (a, objF w a)
noncomputable def myHook : Hook where
  α := List (Option Obj)
  obs s := addrs.map s.heap.get?
  val w := addrs.map fun a => some (objF w a)
  says w h := (KO w).In h
  of w s e := fun a o h => by
    have key : ∀ (l : List Nat), l.map s.heap.get? = l.map (fun a => some (objF w a)) → List.lookup a (l.map fun a => (a, objF w a)) = some o → s.heap.get? a = some o := by
      intro l hl e
      induction l with
      | nil => cases e
      | cons b l ih =>
        rw [List.map_cons, List.map_cons, List.cons.injEq] at hl
        rw [List.map_cons, List.lookup_cons] at e
        by_cases q : (a == b) = true
        · rw [q] at e; cases e
          have := beq_iff_eq.mp q
          subst this
          exact hl.1
        · rw [Bool.not_eq_true] at q; rw [q] at e
          exact ih hl.2 e
    exact key addrs e h
  keeps w h h' x k := fun a o e => k a o (x a o e)
theorem topFrom_of {tb : String → Option Builtin} {p : Program} {w : World} {N m : Nat} {ann : Option Value} {s₀ s₁ : Shared} (h1 : (s₀.heap.isNs mainGlobals && s₀.gens.size == 0) = true) (h2 : s₀.heap.objs.size = m) (h3 : s₀.heap.nsMap mainGlobals "__annotations__" = ann)
    (h4 : topRun tb p w m ann N s₀ (topStub p) = some s₁) (h5 : (staticsOk (importedModules p.main.body) s₀.heap s₁.heap && namesBound p s₁.heap && gensDone s₁ && laidKept s₀.heap s₁.heap) = true) : topFrom tb p w N s₀ = some s₁ := by
  subst h2 h3
  unfold topFrom
  rw [h1]
  dsimp only
  rw [h4]
  show (match staticsOk (importedModules p.main.body) s₀.heap s₁.heap && namesBound p s₁.heap && gensDone s₁ && laidKept s₀.heap s₁.heap with | true => some s₁ | false => none) = some s₁
  rw [h5]
theorem leftAt {p q : Program} {loose : List Str} {Xt : Shared → Bool} {α : Type} {Yf : Shared → α} {Ya : World → α} {w : World} {N : Nat} {s₀ s₁ : Shared} (h1 : fencedOpening treeTable p w N = some s₀) (h2 : topFrom treeTable p w N s₀ = some s₁)
    (h3 : openSeen q loose (importedModules p.main.body) Xt true s₁ = openGood q loose) (h4 : Yf s₁ = Ya w) : (openEnds treeTable p w N).map (fun s => (openSeen q loose (importedModules p.main.body) Xt true s, Yf s)) = some (openGood q loose, Ya w) := by
  unfold openEnds
  rw [h1]
  show (topFrom treeTable p w N s₀).map _ = _
  rw [h2]
  exact congrArg some (Prod.ext h3 h4)
theorem steps_fit : allSteps + (bigN - allSteps) = bigN := by
  have : Nat.ble allSteps bigN = true := by kernel_rfl
  have := Nat.le_of_ble_eq_true this
  lia
theorem run_big (w : World) (os : OsState) : topRun treeTable tpw w 11 (some (.ref 6)) bigN ⟨boot_heap w.params, Array.mk [], boot_drawn, boot_toks, os⟩ (topStub tpw) = some (finT w os).abs := by
  have r := topRun_mono (bigN - allSteps) _ _ _ _ (whole_run w os)
  rw [steps_fit] at r
  exact r
theorem seen_plain (w : World) (os : OsState) : openSeen tq tloose (importedModules tpw.main.body) (fun s => xlAt tq [] s && recOk [] s) true (finT w os).abs = openGood tq tloose := by
  have sn := seen_is w os
  rw [← PySem.W.Fast.te4187177175401517315] at sn
  exact sn
theorem obs_is (w : World) : myHook.obs (finT w (osOf w)).abs = myHook.val w := List.map_congr_left fun a h => get_heap w a h
theorem osOf_is {w : World} {s : Shared} (h : fencedOpening treeTable tpw w bigN = some s) : osOf w = s.os := by unfold osOf; rw [h]
theorem fenced (w : World) : ∃ os, fencedOpening treeTable tpw w bigN = some ⟨boot_heap w.params, Array.mk [], boot_drawn, boot_toks, os⟩ := by
  obtain ⟨⟨h, gs, d, k, os⟩, e, e'⟩ := Option.map_eq_some_iff.mp (opened w)
  simp only [Prod.mk.injEq] at e'
  obtain ⟨rfl, rfl, rfl, rfl⟩ := e'
  exact ⟨os, e⟩
theorem top_is (w : World) (os : OsState) : topFrom treeTable tpw w bigN ⟨boot_heap w.params, Array.mk [], boot_drawn, boot_toks, os⟩ = some (finT w os).abs :=
  topFrom_of (congrArg Prod.fst (boot_size w)) (congrArg (fun x => x.2.1) (boot_size w)) (congrArg (fun x => x.2.2) (boot_size w)) (run_big w os) (statics_is w os)
theorem leftT : LeftO tpw tq tloose (fun s => xlAt tq [] s && recOk [] s) myHook.obs myHook.val bigN := fun w => by
  obtain ⟨os, hf⟩ := fenced w
  have eos : osOf w = os := osOf_is hf
  subst eos
  exact leftAt hf (top_is w _) (seen_plain w _) (obs_is w)
theorem left : LeftO pw qv looseN (fun s => xlAt qv [] s && recOk [] s) myHook.obs myHook.val bigN := by
  have h := leftT
  unfold tq tloose tbody at h
  unfold qv looseN lawStmts
  have e : pw = tpw := rfl
  rw [e]
  exact h
end
end
section
open PySem PySem.W PyProof.Rows
noncomputable section
def lawRow : OpenRow := PySem.Challenge.rw_sa0604_01.row
theorem law_there : (defOf qv "law").isSome = true := by kernel_rfl
noncomputable def lawD : DefRec × List (Str × Expr) := (defOf qv "law").get law_there
end
theorem well : PySem.Challenge.rw_sa0604_01.wellSaid = true := by kernel_rfl
set_option tactic.hygienic true
theorem reduce (call : WalkO qv looseN (XL qv []) myHook.says lawRow.toRowW lawD.1 lawD.2 fun f vs => PySem.call f vs) : PySem.Challenge.rw_sa0604_01.Holds := by
  refine holds_law well fun said => ?_
  show lawRow.Holds
  refine PySem.W.holds_open (r := lawRow) (q := qv) (loose := looseN) (Xt := fun s => xlAt qv [] s && recOk [] s) (XP := XL qv []) (Yf := myHook.obs) (Ya := myHook.val) (YP := myHook.says) (N := bigN) (d := lawD.1) (kwd := lawD.2) left myHook.of myHook.keeps (fun s e => xl_of s (Bool.and_eq_true_iff.mp e).1) XL.keeps ?a1 ?a2 ?a3 (fun s e => recFacts_of (Bool.and_eq_true_iff.mp e).2) ?a4 said ?a5 ⟨rfl, rfl, rfl, rfl, rfl, ?a6⟩ ?hw call
  case a1 => kernel_rfl
  case a2 => kernel_rfl
  case a3 => kernel_rfl
  case a4 => rfl
  case a5 => decide +kernel
  case a6 => decide +kernel
  case hw => w_witness2
end
section
open PySem PySem.W PyProof.Rows PySem.Calls
inductive V where
  | none | bool (b : Bool) | int (i : Int) | str (x : Str) | tup (l : List V)
  | lst (a : Addr) | dct (a : Addr) | inst (C d : Addr) | glob (v : Value) | rng (a b : Int)
  deriving Inhabited

set_option tactic.hygienic false
theorem vk_inst (C d : Addr) : ∀ w, V.inst C d ≠ .glob w := fun _ h => by cases h
theorem vk_lst (a : Addr) : ∀ w, V.lst a ≠ .glob w := fun _ h => by cases h
theorem vk_int (i : Int) : ∀ w, V.int i ≠ .glob w := fun _ h => by cases h
theorem vk_str (x : Str) : ∀ w, V.str x ≠ .glob w := fun _ h => by cases h
theorem vk_tup (l : List V) : ∀ w, V.tup l ≠ .glob w := fun _ h => by cases h
theorem vk_bool (b : Bool) : ∀ w, V.bool b ≠ .glob w := fun _ h => by cases h
theorem vk_none : ∀ w, V.none ≠ .glob w := fun _ h => by cases h

inductive AO where
  | list (l : List V)
  | dict (l : List (Str × V))
  deriving Inhabited

abbrev AH := Addr → Option AO
abbrev Loc := List (Str × V)

theorem ne_dl {σ : AH} {x a : Addr} {d : List (Str × V)} {l : List V} (e : σ x = some (.dict d)) (h : σ a = some (.list l)) : x ≠ a := fun z => by subst z; rw [h] at e; cases e
theorem ne_ld {σ : AH} {x a : Addr} {d : List (Str × V)} {l : List V} (e : σ x = some (.list l)) (h : σ a = some (.dict d)) : x ≠ a := (ne_dl h e).symm
noncomputable def AH.put (σ : AH) (a : Addr) (o : AO) : AH := fun b => if b = a then some o else σ b
theorem AH.put_self (σ : AH) (a : Addr) (o : AO) : σ.put a o a = some o := by simp [AH.put]
theorem AH.put_ne (σ : AH) {a b : Addr} (o : AO) (h : b ≠ a) : σ.put a o b = σ b := by simp [AH.put, h]

mutual
inductive VRep (h : Heap) : Value → V → Prop
  | none : VRep h .none .none
  | bool (b : Bool) : VRep h (.bool b) (.bool b)
  | int (i : Int) (t : Tok) : VRep h (.int i t) (.int i)
  | str (x : Str) (t : Tok) : VRep h (.str x t) (.str x)
  | tup {a : Addr} {vs : Array Value} {l : List V} {n : Nat} (ho : IsT h a vs n) (hs : VsRep h vs.toList l) : VRep h (.ref a) (.tup l)
  | lst (a : Addr) : VRep h (.ref a) (.lst a)
  | dct (a : Addr) : VRep h (.ref a) (.dct a)
  | inst {x C d : Addr} (ho : h.get? x = some (instObj C d)) : VRep h (.ref x) (.inst C d)
  | glob (v : Value) : VRep h v (.glob v)
  | rng {r : Addr} {a b : Int} {t u v : Tok} (ho : IsRange h r a b 1 t u v) : VRep h (.ref r) (.rng a b)
inductive VsRep (h : Heap) : List Value → List V → Prop
  | nil : VsRep h [] []
  | cons {u : Value} {v : V} {us : List Value} {vs : List V} (hv : VRep h u v) (hs : VsRep h us vs) : VsRep h (u :: us) (v :: vs)
end

inductive KRep (h : Heap) : List (Str × Value) → List (Str × V) → Prop
  | nil : KRep h [] []
  | cons {k : Str} {u : Value} {v : V} {kvs : List (Str × Value)} {l : List (Str × V)} (hv : VRep h u v) (hs : KRep h kvs l) : KRep h ((k, u) :: kvs) ((k, v) :: l)

structure Cx where
  prog : Program
  w : World
  K : Frag
  p : Program
  loose : List Str
  mg : Str → Option Value
  mb : Str → Option Value
  h0 : Heap
noncomputable def bodyOf {Q : Prop} {P : World → Shared → Shared → (Str → Option Value) → (Str → Option Value) → Prop} (_ : Q = ∀ w s t mg mb, P w s t mg mb) : World × Shared × Shared × (Str → Option Value) × (Str → Option Value) → Prop := fun x => P x.1 x.2.1 x.2.2.1 x.2.2.2.1 x.2.2.2.2
noncomputable def LawAt : World × Shared × Shared × (Str → Option Value) × (Str → Option Value) → Prop := bodyOf (Q := WalkO qv looseN (XL qv []) myHook.says lawRow.toRowW lawD.1 lawD.2 fun f vs => PySem.call f vs) rfl
theorem state_ne : Nonempty (World × Shared × Shared × (Str → Option Value) × (Str → Option Value)) := by
  exact ⟨⟨⟨fun _ _ => 0, { strHash := fun _ => 0, shareClass := fun _ => 0, mergeTok := fun t => t, idOf := fun _ => 0, idOfShared := fun _ _ => 0, followText := fun _ => false, idOfImm := fun _ => 0 }⟩, {}, {}, fun _ => none, fun _ => none⟩⟩
noncomputable def x0 : World × Shared × Shared × (Str → Option Value) × (Str → Option Value) := @Classical.epsilon _ state_ne fun x => ¬ LawAt x
noncomputable def w : World := x0.1
noncomputable def c : Cx := ⟨lawRow.toRowW.prog, w, KO w, qv, looseW qv looseN, x0.2.2.2.1, x0.2.2.2.2, x0.2.2.1.heap⟩
theorem eps_all {α : Type} {P : α → Prop} (ne : Nonempty α) (h : P (@Classical.epsilon α ne fun x => ¬ P x)) (a : α) : P a := Classical.byContradiction fun n => (@Classical.epsilon_spec α (fun x => ¬ P x) ⟨a, n⟩) h
theorem hK : c.K = KO w := rfl

inductive ORep (h : Heap) (a : Addr) : AO → Prop
  | list {vs : Array Value} {n : Nat} {l : List V} (ho : IsL h a vs n) (hs : VsRep h vs.toList l) : ORep h a (.list l)
  | dict {kvs : List (Str × Value)} {l : List (Str × V)} (ho : h.DictOf (strKind c.prog c.w) a kvs) (hs : KRep h kvs l) : ORep h a (.dict l)

noncomputable def Fixed (o : Obj) : Prop := (∃ vs n, o = { cls := .type "tuple", dict := none, data := .seq vs n, slots := #[] }) ∨ (∃ C d, o = instObj C d) ∨ ∃ fs, o = { cls := .type "range", dict := none, data := .fields fs, slots := #[] }
noncomputable def Loose (o : Obj) : Prop := ¬ Fixed o
theorem loose_dict {o : Obj} {es ep} (h : o.data = .dict es ep) : Loose o := by rintro (⟨_, _, rfl⟩ | ⟨_, _, rfl⟩ | ⟨_, rfl⟩) <;> cases h
theorem loose_cell {o : Obj} {v} (h : o.data = .cell v) : Loose o := by rintro (⟨_, _, rfl⟩ | ⟨_, _, rfl⟩ | ⟨_, rfl⟩) <;> cases h
theorem loose_cls {o : Obj} {t : String} (h : o.cls = .type t) (h1 : t ≠ "tuple") (h2 : t ≠ "range") : Loose o := by rintro (⟨_, _, rfl⟩ | ⟨_, _, rfl⟩ | ⟨_, rfl⟩) <;> cases h <;> contradiction

theorem VRep.keep {h h' : Heap} (k : ∀ b o, h.get? b = some o → ¬ Loose o → h'.get? b = some o) {u : Value} {v : V} (r : VRep h u v) : VRep h' u v :=
  @VRep.rec h (fun u v _ => VRep h' u v) (fun us vs _ => VsRep h' us vs) .none .bool .int .str (fun ho _ ih => .tup (k _ _ ho (fun l => l (.inl ⟨_, _, rfl⟩))) ih) .lst .dct (fun ho => .inst (k _ _ ho (fun l => l (.inr (.inl ⟨_, _, rfl⟩))))) .glob (fun ho => .rng (k _ _ ho (fun l => l (.inr (.inr ⟨_, rfl⟩))))) .nil (fun _ _ a b => .cons a b) u v r
theorem VsRep.keep {h h' : Heap} (k : ∀ b o, h.get? b = some o → ¬ Loose o → h'.get? b = some o) {us : List Value} {vs : List V} (r : VsRep h us vs) : VsRep h' us vs :=
  @VsRep.rec h (fun _ _ _ => True) (fun us vs _ => VsRep h' us vs) trivial (fun _ => trivial) (fun _ _ => trivial) (fun _ _ => trivial) (fun _ _ _ => trivial) (fun _ => trivial) (fun _ => trivial) (fun _ => trivial) (fun _ => trivial) (fun _ => trivial) .nil (fun hv _ _ b => .cons (hv.keep k) b) us vs r
theorem KRep.keep {h h' : Heap} (k : ∀ b o, h.get? b = some o → ¬ Loose o → h'.get? b = some o) {es : List (Str × Value)} {l : List (Str × V)} (r : KRep h es l) : KRep h' es l :=
  @KRep.rec h (fun es l _ => KRep h' es l) .nil (fun hv _ ih => .cons (hv.keep k) ih) es l r
theorem ORep.at {h : Heap} {a : Addr} {o : AO} : ORep h a o → ∃ ob, h.get? a = some ob ∧ Loose ob
  | .list ho _ => ⟨_, ho, loose_cls (t := "list") rfl (by decide) (by decide)⟩
  | .dict ⟨ob, _, _, ho, hx, _⟩ _ => ⟨ob, ho, loose_cls (t := "dict") hx.1 (by decide) (by decide)⟩
theorem ORep.keep {h h' : Heap} {a : Addr} {o : AO} (k : ∀ b o, h.get? b = some o → ¬ Loose o → h'.get? b = some o) (e : ∀ ob, h.get? a = some ob → h'.get? a = some ob) : ORep h a o → ORep h' a o
  | .list ho hs => .list (e _ ho) (hs.keep k)
  | .dict ⟨ob, es, ep, ho, r⟩ hs => .dict ⟨ob, es, ep, e _ ho, r⟩ (hs.keep k)

theorem VsRep.length {h : Heap} {us : List Value} {vs : List V} (r : VsRep h us vs) : us.length = vs.length := by
  induction vs generalizing us with
  | nil => cases r; rfl
  | cons v vs ih => cases r with | cons _ hs => simp [ih hs]
theorem VsRep.get {h : Heap} {us : List Value} {vs : List V} (r : VsRep h us vs) {i : Nat} {v : V} (e : vs[i]? = some v) : ∃ u, us[i]? = some u ∧ VRep h u v := by
  induction vs generalizing us i with
  | nil => simp at e
  | cons w vs ih =>
    cases r with
    | cons hv hs =>
      cases i with
      | zero => simp at e; subst e; exact ⟨_, rfl, hv⟩
      | succ i => simpa using ih hs (by simpa using e)
theorem VsRep.append {h : Heap} {us us' : List Value} {vs vs' : List V} (r : VsRep h us vs) (r' : VsRep h us' vs') : VsRep h (us ++ us') (vs ++ vs') := by
  induction vs generalizing us with
  | nil => cases r; exact r'
  | cons v vs ih => cases r with | cons hv hs => exact .cons hv (ih hs)
theorem VsRep.take {h : Heap} (n : Nat) {us : List Value} {vs : List V} (r : VsRep h us vs) : VsRep h (us.take n) (vs.take n) := by
  induction n generalizing us vs with
  | zero => simp; exact .nil
  | succ n ih => cases r with | nil => exact .nil | cons hv hs => exact .cons hv (ih hs)
theorem VsRep.drop {h : Heap} (n : Nat) {us : List Value} {vs : List V} (r : VsRep h us vs) : VsRep h (us.drop n) (vs.drop n) := by
  induction n generalizing us vs with
  | zero => exact r
  | succ n ih => cases r with | nil => exact .nil | cons hv hs => exact ih hs
theorem VsRep.set {h : Heap} {us : List Value} {vs : List V} (r : VsRep h us vs) (i : Nat) {u : Value} {v : V} (q : VRep h u v) : VsRep h (us.set i u) (vs.set i v) := by
  induction vs generalizing us i with
  | nil => cases r; exact .nil
  | cons w vs ih =>
    cases r with
    | cons hv hs => cases i with
      | zero => exact .cons q hs
      | succ i => exact .cons hv (ih hs i)
theorem VsRep.snoc {h : Heap} {us : List Value} {vs : List V} (r : VsRep h us vs) {u : Value} {v : V} (q : VRep h u v) : VsRep h (us ++ [u]) (vs ++ [v]) := r.append (.cons q .nil)
theorem VsRep.reverse {h : Heap} {us : List Value} {vs : List V} (r : VsRep h us vs) : VsRep h us.reverse vs.reverse := by
  induction vs generalizing us with
  | nil => cases r; exact .nil
  | cons v vs ih => cases r with | cons hv hs => simpa using (ih hs).snoc hv

structure COk : Prop where
  inK : c.K.In c.h0
  top : TopRead c.p c.loose c.mg c.mb c.h0
  nolim : c.h0.NoLimit

structure St (h : Heap) (σ : AH) : Prop where
  keep0 : ∀ b o, c.h0.get? b = some o → h.get? b = some o
  objs : ∀ a o, σ a = some o → ORep h a o
  new : ∀ a o, σ a = some o → c.h0.get? a = none
  lo : ∀ a o, σ a = some o → a ≠ 1
  base : ∃ o, c.h0.get? 2 = some o
  ok : COk

theorem St.two {h : Heap} {σ : AH} (S : St h σ) {a : Addr} (ha : h.objs.size ≤ a) : a ≠ 1 := by
  obtain ⟨o, e⟩ := S.base
  have := Heap.lt_size (S.keep0 _ _ e)
  rintro rfl
  exact absurd (Nat.lt_of_lt_of_le this ha) (by decide)
theorem St.inK {h : Heap} {σ : AH} (S : St h σ) : c.K.In h := S.ok.inK.keeps S.keep0
theorem St.top {h : Heap} {σ : AH} (S : St h σ) : TopRead c.p c.loose c.mg c.mb h := S.ok.top.keeps S.keep0

noncomputable def frameAddrs (env : Env) : List Addr := env.locals :: env.cells.map (·.2)

noncomputable def NameHas (env : Env) (h : Heap) (x : Str) (u : Value) : Prop :=
  (env.kindOf x = some .local ∧ ∃ m, h.Ns env.locals m ∧ m x = some u) ∨
  ((env.kindOf x = some .cell ∨ env.kindOf x = some .free) ∧ ∃ a o, env.cells.lookup x = some a ∧ h.get? a = some o ∧ o.data = .cell (some u))

structure Frm (env : Env) (h : Heap) (σ : AH) (ρ : Loc) : Prop where
  has : ∀ x v, ρ.lookup x = some v → ∃ u, NameHas env h x u ∧ VRep h u v
  ns : ∃ m, h.Ns env.locals m
  sep : ∀ b ∈ frameAddrs env, σ b = none ∧ c.h0.get? b = none ∧ ∃ o, h.get? b = some o ∧ Loose o
  nodup : (frameAddrs env).Nodup
  cell : ∀ q ∈ env.cells, ∃ v, h.IsCell q.2 v
  kind : env.scope.kind = .function
  glob : env.globals = mainGlobals ∧ env.builtins = builtinsNs

structure Fm (env : Env) (σ : AH) (h h' : Heap) (σ' : AH) : Prop where
  keep : ∀ b o, h.get? b = some o → σ b = none → b ∉ frameAddrs env → h'.get? b = some o
  pres : ∀ b o, h.get? b = some o → ∃ o', h'.get? b = some o'
  fresh : ∀ b o, σ' b = some o → σ b = none → h.get? b = none

theorem Fm.refl (env : Env) (σ : AH) (h : Heap) : Fm env σ h h σ := ⟨fun _ _ e _ _ => e, fun _ o e => ⟨o, e⟩, fun _ _ e1 e2 => by rw [e1] at e2; cases e2⟩
theorem Fm.nope {env : Env} {σ σ' : AH} {h h' : Heap} (a : Fm env σ h h' σ') {b : Addr} (e : h'.get? b = none) : h.get? b = none := by
  cases q : h.get? b with
  | none => rfl
  | some o => obtain ⟨o', e'⟩ := a.pres b o q; rw [e] at e'; cases e'
theorem Fm.still {env : Env} {σ σ' : AH} {h h' : Heap} (a : Fm env σ h h' σ') {b : Addr} {o : Obj} (e : h.get? b = some o) (n : σ b = none) : σ' b = none := by
  cases q : σ' b with
  | none => rfl
  | some o' => rw [a.fresh b o' q n] at e; cases e
theorem Fm.trans {env : Env} {σ σ' σ'' : AH} {h h' h'' : Heap} (a : Fm env σ h h' σ') (b : Fm env σ' h' h'' σ'') : Fm env σ h h'' σ'' := by
  refine ⟨fun x o e n f => b.keep x o (a.keep x o e n f) (a.still e n) f, fun x o e => ?_, fun x o e n => ?_⟩
  · obtain ⟨o', e'⟩ := a.pres x o e; exact b.pres x o' e'
  · cases q : σ' x with
    | none => exact a.nope (b.fresh x o e q)
    | some o' => exact a.fresh x o' q n
theorem keepLoose {env : Env} {σ σ' : AH} {h h' : Heap} {ρ : Loc} (S : St h σ) (F : Frm env h σ ρ) (M : Fm env σ h h' σ') :
    ∀ b o, h.get? b = some o → ¬ Loose o → h'.get? b = some o := fun b o e n => by
  refine M.keep b o e ?_ ?_
  · cases q : σ b with
    | none => rfl
    | some ao => obtain ⟨ob, e', l⟩ := (S.objs b ao q).at; rw [e] at e'; cases e'; exact absurd l n
  · intro m
    obtain ⟨_, _, ob, e', l⟩ := F.sep b m
    rw [e] at e'; cases e'; exact absurd l n
theorem VRep.step {env : Env} {σ σ' : AH} {h h' : Heap} {ρ : Loc} {u : Value} {v : V} (r : VRep h u v) (S : St h σ) (F : Frm env h σ ρ) (M : Fm env σ h h' σ') : VRep h' u v := r.keep (keepLoose S F M)
theorem VsRep.step {env : Env} {σ σ' : AH} {h h' : Heap} {ρ : Loc} {u : List Value} {v : List V} (r : VsRep h u v) (S : St h σ) (F : Frm env h σ ρ) (M : Fm env σ h h' σ') : VsRep h' u v := r.keep (keepLoose S F M)

structure Room (A : Around) (n : Nat) : Prop where
  depth : A.depth + n < recursionLimit
  units : A.units + 10 * n < cLine
  hand : A.handled = none

theorem Room.dep {A : Around} {n : Nat} (r : Room A n) : A.depth < recursionLimit := Nat.lt_of_le_of_lt (Nat.le_add_right _ _) r.depth
theorem Room.unt {A : Around} {n : Nat} (r : Room A n) : A.units < cLine := Nat.lt_of_le_of_lt (Nat.le_add_right _ _) r.units
theorem Room.less {A : Around} {n m : Nat} (r : Room A n) (h : m ≤ n) : Room A m := ⟨by have := r.depth; exact lin3 (.t (.a (.v 0) (.v 1)) (.k 1000) (.l (.v 2) (.v 1) (.b (.a (.v 0) (.v 2)) (.k 1000)))) rfl this h, by have := r.units; lia, r.hand⟩

abbrev NoE : Value → Shared → Prop := fun _ _ => False

inductive Post (env : Env) (σ : AH) (s : Shared) {α β : Type} (R : Heap → α → β → Prop) (Q : β → Loc → AH → Prop) (u : α) (s' : Shared) : Prop
  | mk (h' : Heap) (tk : Nat) (v : β) (ρ' : Loc) (σ' : AH) (e : s' = { s with heap := h', toks := tk }) (S : St h' σ') (F : Frm env h' σ' ρ') (M : Fm env σ s.heap h' σ') (r : R h' u v) (q : Q v ρ' σ')

structure HP where
  p : Heap → Prop
  keep : ∀ h h' : Heap, (∀ b o, h.get? b = some o → ¬ Loose o → h'.get? b = some o) → p h → p h'
noncomputable def HP.top : HP := ⟨fun _ => True, fun _ _ _ _ => trivial⟩
noncomputable def HP.v (u : Value) (v : V) : HP := ⟨fun h => VRep h u v, fun _ _ k r => r.keep k⟩
noncomputable def HP.vs (us : List Value) (vs : List V) : HP := ⟨fun h => VsRep h us vs, fun _ _ k r => r.keep k⟩
noncomputable def HP.and (a b : HP) : HP := ⟨fun h => a.p h ∧ b.p h, fun h h' k x => ⟨a.keep h h' k x.1, b.keep h h' k x.2⟩⟩

noncomputable def Tr (n : Nat) (env : Env) (ρ : Loc) (σ : AH) (H : HP) {α β : Type} (t : Sem α) (R : Heap → α → β → Prop) (Q : β → Loc → AH → Prop) : Prop :=
  ∀ (A : Around) (s : Shared), Room A n → St s.heap σ → Frm env s.heap σ ρ → H.p s.heap → wpAny (model c.prog c.w) A t (Post env σ s R Q) NoE s

noncomputable def Ex (n : Nat) (env : Env) (e : Expr) (ρ : Loc) (σ : AH) (Q : V → Loc → AH → Prop) : Prop := Tr n env ρ σ .top (eval e env) VRep Q
noncomputable def Exs (n : Nat) (env : Env) (es : List Expr) (ρ : Loc) (σ : AH) (Q : List V → Loc → AH → Prop) : Prop := ∀ pos, Tr n env ρ σ .top (spliced (backTo pos (starEach es env))) VsRep Q

theorem Post.trans {env : Env} {σ : AH} {s : Shared} {α β : Type} {R : Heap → α → β → Prop} {Q : β → Loc → AH → Prop} {h' : Heap} {tk : Nat} {σ' : AH} (M : Fm env σ s.heap h' σ') {u : α} {s' : Shared}
    (p : Post env σ' { s with heap := h', toks := tk } R Q u s') : Post env σ s R Q u s' := by
  obtain ⟨h2, tk2, v, ρ2, σ2, rfl, S, F, M2, r, q⟩ := p
  exact ⟨h2, tk2, v, ρ2, σ2, rfl, S, F, M.trans M2, r, q⟩
theorem Post.here {env : Env} {σ σ' : AH} {ρ : Loc} {s : Shared} {α β : Type} {R : Heap → α → β → Prop} {Q : β → Loc → AH → Prop} {u : α} {v : β} {h' : Heap} {tk : Nat} (S : St h' σ') (F : Frm env h' σ' ρ) (M : Fm env σ s.heap h' σ') (r : R h' u v) (q : Q v ρ σ') :
    Post env σ s R Q u { s with heap := h', toks := tk } := ⟨h', tk, v, ρ, σ', rfl, S, F, M, r, q⟩
theorem Post.stay {env : Env} {σ : AH} {ρ : Loc} {s : Shared} {α β : Type} {R : Heap → α → β → Prop} {Q : β → Loc → AH → Prop} {u : α} {v : β} {tk : Nat} (S : St s.heap σ) (F : Frm env s.heap σ ρ) (r : R s.heap u v) (q : Q v ρ σ) :
    Post env σ s R Q u { s with toks := tk } := ⟨s.heap, tk, v, ρ, σ, rfl, S, F, .refl .., r, q⟩

section
variable {n : Nat} {env : Env} {ρ : Loc} {σ : AH} {H : HP} {α β γ δ : Type} {R : Heap → α → β → Prop} {R' : Heap → γ → δ → Prop}

theorem Tr.go {ρ' : Loc} {σ' : AH} {t : Sem α} {Q : β → Loc → AH → Prop}
    (h : Tr n env ρ' σ' H t R Q) {A : Around} {s : Shared} {h' : Heap} {tk : Nat} (hA : Room A n) (M : Fm env σ s.heap h' σ') (S : St h' σ') (F : Frm env h' σ' ρ') (hH : H.p h') :
    wpAny (model c.prog c.w) A t (Post env σ s R Q) NoE { s with heap := h', toks := tk } :=
  wpAny_mono (h A { s with heap := h', toks := tk } hA S F hH) (fun _ _ z => z.trans M) fun _ _ z => z

theorem Tr.mono {t : Sem α} {Q Q' : β → Loc → AH → Prop} (h : Tr n env ρ σ H t R Q) (k : ∀ v ρ' σ', Q v ρ' σ' → Q' v ρ' σ') : Tr n env ρ σ H t R Q' :=
  fun A s hA S F hH => wpAny_mono (h A s hA S F hH) (fun _ _ ⟨h', tk, v, ρ', σ', e, S', F', M, r, q⟩ => ⟨h', tk, v, ρ', σ', e, S', F', M, r, k v ρ' σ' q⟩) fun _ _ x => x
theorem Tr.with {t : Sem α} {Q : β → Loc → AH → Prop} {H' : HP} (h : Tr n env ρ σ H t R Q) (k : ∀ h, H'.p h → H.p h) : Tr n env ρ σ H' t R Q := fun A s hA S F hH => h A s hA S F (k _ hH)
theorem Tr.w0 {t : Sem α} {Q : β → Loc → AH → Prop} (h : Tr n env ρ σ .top t R Q) : Tr n env ρ σ H t R Q := h.with fun _ _ => trivial
theorem Tr.w1 {t : Sem α} {Q : β → Loc → AH → Prop} {G : HP} (h : Tr n env ρ σ G t R Q) : Tr n env ρ σ (G.and H) t R Q := h.with fun _ x => x.1
theorem Tr.w2 {t : Sem α} {Q : β → Loc → AH → Prop} {G G' : HP} (h : Tr n env ρ σ (G.and G') t R Q) : Tr n env ρ σ (G'.and (G.and H)) t R Q := h.with fun _ x => ⟨x.2.1, x.1⟩
theorem Tr.w3 {t : Sem α} {Q : β → Loc → AH → Prop} {G G' G2 : HP} (h : Tr n env ρ σ (G.and G') t R Q) : Tr n env ρ σ (G'.and (G2.and (G.and H))) t R Q := h.with fun _ x => ⟨x.2.2.1, x.1⟩
theorem Tr.drop1 {t : Sem α} {Q : β → Loc → AH → Prop} {G : HP} (h : Tr n env ρ σ H t R Q) : Tr n env ρ σ (G.and H) t R Q := h.with fun _ x => x.2
theorem Tr.bind {m : Sem α} {f : α → Sem γ} {Q : δ → Loc → AH → Prop} (G : α → β → HP) (hG : ∀ h u v, R h u v → (G u v).p h)
    (h : Tr n env ρ σ H m R (fun v ρ' σ' => ∀ u, Tr n env ρ' σ' ((G u v).and H) (f u) R' Q)) : Tr n env ρ σ H (m >>= f) R' Q := fun A s hA S F hH => by
  refine wpAny_bind (wpAny_mono (h A s hA S F hH) (fun u s' p => ?_) fun _ _ x => x)
  obtain ⟨h', tk, v, ρ', σ', rfl, S', F', M, r, q⟩ := p
  exact (q u).go hA M S' F' ⟨hG _ _ _ r, H.keep _ _ (keepLoose S F M) hH⟩
end
section
variable {n : Nat} {env : Env} {ρ : Loc} {σ : AH} {H : HP} {α β : Type} {R : Heap → α → β → Prop} {Q : β → Loc → AH → Prop}
theorem Tr.bindV {m : Sem Value} {f : Value → Sem α} (h : Tr n env ρ σ H m VRep (fun v ρ' σ' => ∀ u, Tr n env ρ' σ' ((HP.v u v).and H) (f u) R Q)) : Tr n env ρ σ H (m >>= f) R Q := Tr.bind HP.v (fun _ _ _ r => r) h
noncomputable def Same {α : Type} : Heap → α → α → Prop := fun _ a b => a = b
theorem Tr.bindS {γ : Type} {m : Sem γ} {f : γ → Sem α} (h : Tr n env ρ σ H m Same (fun v ρ' σ' => Tr n env ρ' σ' H (f v) R Q)) : Tr n env ρ σ H (m >>= f) R Q :=
  Tr.bind (R := Same) (fun u v => ⟨fun _ => u = v, fun _ _ _ e => e⟩) (fun _ _ _ r => r) (h.mono fun v ρ' σ' q u A s hA S F hH => by obtain ⟨e, hH⟩ := hH; cases e; exact q A s hA S F hH)
theorem Tr.standAt {p : Pos} {t : Unit → Sem α} (h : Tr n env ρ σ H (t ()) R Q) : Tr n env ρ σ H (PySem.standAt p >>= t) R Q := fun A s hA S F hH => wpAny_bind (wpAny_standAt (h A s hA S F hH))
theorem Tr.holding {vs : List Value} {t : Sem α} (h : Tr n env ρ σ H t R Q) : Tr n env ρ σ H (PySem.holding vs t) R Q := fun A s hA S F hH => wpAny_holding (h A s hA S F hH)
theorem Tr.release {vs ks : List Value} {t : Unit → Sem α} (h : Tr n env ρ σ H (t ()) R Q) : Tr n env ρ σ H (PySem.release vs ks >>= t) R Q := fun A s hA S F hH => wpAny_bind (wpAny_release (h A s hA S F hH))
theorem Tr.pure {u : α} {v : β} (r : ∀ h, H.p h → R h u v) (q : Q v ρ σ) : Tr n env ρ σ H (Pure.pure u) R Q := fun _ s _ S F hH => wpAny_pure (Post.stay (tk := s.toks) S F (r _ hH) q)
theorem Tr.eq {t t' : Sem α} (e : t = t') (h : Tr n env ρ σ H t' R Q) : Tr n env ρ σ H t R Q := e ▸ h
end
section
variable {n : Nat} {env : Env} {ρ : Loc} {σ : AH} {H : HP} {β : Type} {R : Heap → Value → β → Prop} {Q : β → Loc → AH → Prop}
theorem Tr.operate {vs : List Value} {t : Sem Value} (h : Tr n env ρ σ H t R Q) : Tr n env ρ σ H (PySem.operate vs t) R Q := fun A s hA S F hH => wpAny_operateT (h A s hA S F hH)
end

section
variable {env : Env} {σ : AH} {ρ : Loc} {h h' : Heap}
theorem NameHas.ext {x : Str} {u : Value} (k : ∀ b o, h.get? b = some o → h'.get? b = some o) : NameHas env h x u → NameHas env h' x u
  | .inl ⟨hl, m, hn, hv⟩ => .inl ⟨hl, m, hn.keeps k, hv⟩
  | .inr ⟨hk, a, o, hc, ho, hd⟩ => .inr ⟨hk, a, o, hc, k _ _ ho, hd⟩
theorem St.ext (S : St h σ) (k : ∀ b o, h.get? b = some o → h'.get? b = some o) : St h' σ :=
  ⟨fun b o e => k b o (S.keep0 b o e), fun a o e => by obtain ⟨ob, e1, _⟩ := (S.objs a o e).at; exact (S.objs a o e).keep (fun b o e _ => k b o e) (k a), S.new, S.lo, S.base, S.ok⟩
theorem IsCell.keep {a : Addr} (k : ∀ o, h.get? a = some o → h'.get? a = some o) : (∃ v, h.IsCell a v) → ∃ v, h'.IsCell a v := fun ⟨v, o, ho, hd⟩ => ⟨v, o, k o ho, hd⟩
theorem Frm.ext {σ' : AH} (F : Frm env h σ ρ) (k : ∀ b o, h.get? b = some o → h'.get? b = some o) (hσ : ∀ b ∈ frameAddrs env, σ' b = none) : Frm env h' σ' ρ :=
  ⟨fun x v e => let ⟨u, hu, r⟩ := F.has x v e; ⟨u, hu.ext k, r.keep fun b o e _ => k b o e⟩, let ⟨m, hm⟩ := F.ns; ⟨m, hm.keeps k⟩, fun b hb => let ⟨_, e2, o, e3, e4⟩ := F.sep b hb; ⟨hσ b hb, e2, o, k _ _ e3, e4⟩, F.nodup, fun q hq => IsCell.keep (k q.2) (F.cell q hq), F.kind, F.glob⟩
theorem Frm.ext' (F : Frm env h σ ρ) (k : ∀ b o, h.get? b = some o → h'.get? b = some o) : Frm env h' σ ρ := F.ext k fun b hb => (F.sep b hb).1
theorem Fm.ext (k : ∀ b o, h.get? b = some o → h'.get? b = some o) : Fm env σ h h' σ := ⟨fun b o e _ _ => k b o e, fun b o e => ⟨o, k b o e⟩, fun b o e1 e2 => by rw [e1] at e2; cases e2⟩

theorem St.putNew (S : St h σ) (k : ∀ b o, h.get? b = some o → h'.get? b = some o) {a : Addr} {ao : AO} (ha : h.get? a = none) (hlo : a ≠ 1) (r : ORep h' a ao) : St h' (σ.put a ao) := by
  have S' := S.ext k
  refine ⟨S'.keep0, fun b o e => ?_, fun b o e => ?_, fun b o e => ?_, S.base, S.ok⟩
  rotate_left 2
  · by_cases q : b = a
    · rw [q]; exact hlo
    · rw [AH.put_ne _ _ q] at e; exact S.lo b o e
  rotate_right 2
  · by_cases q : b = a
    · subst q; rw [AH.put_self] at e; cases e; exact r
    · rw [AH.put_ne _ _ q] at e; exact S'.objs b o e
  · by_cases q : b = a
    · subst q
      cases z : c.h0.get? b with
      | none => rfl
      | some o' => rw [S.keep0 b o' z] at ha; cases ha
    · rw [AH.put_ne _ _ q] at e; exact S'.new b o e
theorem Frm.putNew (F : Frm env h σ ρ) (k : ∀ b o, h.get? b = some o → h'.get? b = some o) {a : Addr} {ao : AO} (ha : h.get? a = none) : Frm env h' (σ.put a ao) ρ :=
  F.ext k fun b hb => by
    obtain ⟨e1, _, o, e3, _⟩ := F.sep b hb
    rw [AH.put_ne]; exact e1
    rintro rfl; rw [ha] at e3; cases e3
theorem Fm.putNew (k : ∀ b o, h.get? b = some o → h'.get? b = some o) {a : Addr} {ao : AO} (ha : h.get? a = none) : Fm env σ h h' (σ.put a ao) :=
  ⟨fun b o e _ _ => k b o e, fun b o e => ⟨o, k b o e⟩, fun b o e1 e2 => by
    by_cases q : b = a
    · subst q; exact ha
    · rw [AH.put_ne _ _ q] at e1; rw [e1] at e2; cases e2⟩
theorem get_none_of_size {a : Addr} (ha : h.objs.size ≤ a) : h.get? a = none := by
  cases z : h.get? a with
  | none => rfl
  | some o => exact absurd (Heap.lt_size z) (Nat.not_lt.mpr ha)

theorem sameBut_loose {a : Addr} {ao : AO} (r0 : ORep h a ao) (sb : Heap.SameBut a h h') : ∀ b o, h.get? b = some o → ¬ Loose o → h'.get? b = some o := fun b o e n => by
  by_cases q : b = a
  · subst q; obtain ⟨ob, e1, l⟩ := r0.at; rw [e] at e1; cases e1; exact absurd l n
  · exact (sb.2 b q).trans e
theorem St.update (S : St h σ) {a : Addr} {ao ao' : AO} (ha : σ a = some ao) (sb : Heap.SameBut a h h') (r : ORep h' a ao') : St h' (σ.put a ao') := by
  refine ⟨fun b o e => ?_, fun b o e => ?_, fun b o e => ?_, fun b o e => ?_, S.base, S.ok⟩
  rotate_left 3
  · by_cases q : b = a
    · rw [q]; exact S.lo a ao ha
    · rw [AH.put_ne _ _ q] at e; exact S.lo b o e
  rotate_right 3
  · by_cases q : b = a
    · subst q; rw [S.new b ao ha] at e; cases e
    · exact (sb.2 b q).trans (S.keep0 b o e)
  · by_cases q : b = a
    · subst q; rw [AH.put_self] at e; cases e; exact r
    · rw [AH.put_ne _ _ q] at e; exact (S.objs b o e).keep (sameBut_loose (S.objs a ao ha) sb) (fun ob e => (sb.2 b q).trans e)
  · by_cases q : b = a
    · subst q; exact S.new b ao ha
    · rw [AH.put_ne _ _ q] at e; exact S.new b o e
theorem NameHas.sameBut {a : Addr} {x : Str} {u : Value} (sb : Heap.SameBut a h h') (n : a ∉ frameAddrs env) : NameHas env h x u → NameHas env h' x u
  | .inl ⟨hl, m, hn, hv⟩ => .inl ⟨hl, m, hn.sameBut sb (fun e => n (by rw [← e]; exact .head _)), hv⟩
  | .inr ⟨hk, b, o, hc, ho, hd⟩ => .inr ⟨hk, b, o, hc, (sb.2 b (fun e => n (by
      rw [← e]; refine .tail _ (List.mem_map.mpr ⟨(x, b), ?_, rfl⟩)
      have := List.lookup_eq_some_iff.mp hc
      obtain ⟨l1, l2, e1, _⟩ := this
      rw [e1]; simp))).trans ho, hd⟩
theorem Frm.update (S : St h σ) (F : Frm env h σ ρ) {a : Addr} {ao ao' : AO} (ha : σ a = some ao) (sb : Heap.SameBut a h h') : Frm env h' (σ.put a ao') ρ := by
  have nf : a ∉ frameAddrs env := fun m => by rw [(F.sep a m).1] at ha; cases ha
  refine ⟨fun x v e => ?_, ?_, fun b hb => ?_, F.nodup, fun q hq => IsCell.keep (fun o e => (sb.2 q.2 fun z => nf (by rw [← z]; exact .tail _ (List.mem_map_of_mem hq))).trans e) (F.cell q hq), F.kind, F.glob⟩
  · obtain ⟨u, hu, r⟩ := F.has x v e
    exact ⟨u, hu.sameBut sb nf, r.keep (sameBut_loose (S.objs a ao ha) sb)⟩
  · obtain ⟨m, hm⟩ := F.ns; exact ⟨m, hm.sameBut sb fun e => nf (by rw [← e]; exact .head _)⟩
  · obtain ⟨e1, e2, o, e3, e4⟩ := F.sep b hb
    have q : b ≠ a := fun e => nf (e ▸ hb)
    exact ⟨by rw [AH.put_ne _ _ q]; exact e1, e2, o, (sb.2 b q).trans e3, e4⟩
theorem Fm.update {a : Addr} {ao ao' : AO} (ha : σ a = some ao) (sb : Heap.SameBut a h h') (ro : ORep h' a ao') : Fm env σ h h' (σ.put a ao') :=
  ⟨fun b o e n _ => (sb.2 b (fun q => by rw [q, ha] at n; cases n)).trans e, fun b o e => by
    by_cases q : b = a
    · subst q; obtain ⟨ob, e', _⟩ := ro.at; exact ⟨ob, e'⟩
    · exact ⟨o, (sb.2 b q).trans e⟩, fun b o e1 e2 => by
    by_cases q : b = a
    · subst q; rw [ha] at e2; cases e2
    · rw [AH.put_ne _ _ q] at e1; rw [e1] at e2; cases e2⟩

theorem Post.extend {s : Shared} {α β : Type} {R : Heap → α → β → Prop} {Q : β → Loc → AH → Prop} {u : α} {v : β} {tk : Nat} (S : St s.heap σ) (F : Frm env s.heap σ ρ) (k : ∀ b o, s.heap.get? b = some o → h'.get? b = some o) (z : s.heap.objs.size ≤ h'.objs.size) (r : R h' u v) (q : Q v ρ σ) :
    Post env σ s R Q u { s with heap := h', toks := tk } := ⟨h', tk, v, ρ, σ, rfl, S.ext k, F.ext' k, .ext k, r, q⟩
theorem Post.new {s : Shared} {α β : Type} {R : Heap → α → β → Prop} {Q : β → Loc → AH → Prop} {u : α} {v : β} {tk : Nat} (S : St s.heap σ) (F : Frm env s.heap σ ρ) (k : ∀ b o, s.heap.get? b = some o → h'.get? b = some o) (z : s.heap.objs.size ≤ h'.objs.size) {a : Addr} {ao : AO} (ha : s.heap.objs.size ≤ a) (ro : ORep h' a ao) (r : R h' u v) (q : Q v ρ (σ.put a ao)) :
    Post env σ s R Q u { s with heap := h', toks := tk } := ⟨h', tk, v, ρ, _, rfl, S.putNew k (get_none_of_size ha) (S.two ha) ro, F.putNew k (get_none_of_size ha), .putNew k (get_none_of_size ha), r, q⟩
theorem Post.upd {s : Shared} {α β : Type} {R : Heap → α → β → Prop} {Q : β → Loc → AH → Prop} {u : α} {v : β} {tk : Nat} (S : St s.heap σ) (F : Frm env s.heap σ ρ) {a : Addr} {ao ao' : AO} (ha : σ a = some ao) (sb : Heap.SameBut a s.heap h') (ro : ORep h' a ao') (r : R h' u v) (q : Q v ρ (σ.put a ao')) :
    Post env σ s R Q u { s with heap := h', toks := tk } := ⟨h', tk, v, ρ, _, rfl, S.update ha sb ro, F.update S ha sb, .update ha sb ro, r, q⟩
end
theorem push_keeps {h : Heap} (o : Obj) : ∀ b o', h.get? b = some o' → (h.push o).get? b = some o' := fun _ _ e => Heap.get?_push_of_some _ e
theorem push_size {h : Heap} (o : Obj) : h.objs.size ≤ (h.push o).objs.size := by rw [Heap.size_push]; exact Nat.le_succ _
end
section
open PySem PySem.W PyProof.Rows PySem.Calls
section
variable (n : Nat) (env : Env)
noncomputable def Op1 (f : Value → Sem Value) (a : V) (ρ : Loc) (σ : AH) (Q : V → Loc → AH → Prop) : Prop := ∀ u, Tr n env ρ σ (HP.v u a) (f u) VRep Q
noncomputable def Op2 (f : Value → Value → Sem Value) (a b : V) (ρ : Loc) (σ : AH) (Q : V → Loc → AH → Prop) : Prop := ∀ u v, Tr n env ρ σ ((HP.v u a).and (HP.v v b)) (f u v) VRep Q
noncomputable def Tru (a : V) (ρ : Loc) (σ : AH) (Q : Bool → Loc → AH → Prop) : Prop := ∀ u, Tr n env ρ σ (HP.v u a) (truthy u) Same Q
noncomputable def Test (e : Expr) (ρ : Loc) (σ : AH) (Q : Bool → Loc → AH → Prop) : Prop := Tr n env ρ σ .top (isTrue e env (eval e env)) Same Q
noncomputable def AllT (op : BoolOp) (es : List Expr) (ρ : Loc) (σ : AH) (Q : Bool → Loc → AH → Prop) : Prop := Tr n env ρ σ .top (allTrue op es env) Same Q
noncomputable def BoolV (op : BoolOp) (es : List Expr) (ρ : Loc) (σ : AH) (Q : V → Loc → AH → Prop) : Prop := ∀ pos, Tr n env ρ σ .top (boolOp pos op (evalEach es env)) VRep Q
noncomputable def CallJ (f : Value) (vs : List V) (ρ : Loc) (σ : AH) (Q : V → Loc → AH → Prop) : Prop := ∀ us, Tr n env ρ σ (HP.vs us vs) (call f us) VRep Q
end

section
variable (n : Nat) (env : Env)
abbrev OpK (op : Value → Value → Sem Value) (a : V) (Q : V → Loc → AH → Prop) : V → Loc → AH → Prop := fun b ρ σ => Op2 n env op a b ρ σ Q
abbrev BinK (op : Value → Value → Sem Value) (r : Expr) (Q : V → Loc → AH → Prop) : V → Loc → AH → Prop := fun a ρ σ => Ex n env r ρ σ (OpK n env op a Q)
abbrev UnK (op : Value → Sem Value) (Q : V → Loc → AH → Prop) : V → Loc → AH → Prop := fun a ρ σ => Op1 n env op a ρ σ Q
abbrev IfEK (a b : Expr) (Q : V → Loc → AH → Prop) : Bool → Loc → AH → Prop := fun y ρ σ => if y then Ex n env a ρ σ Q else Ex n env b ρ σ Q
abbrev TruK (Q : Bool → Loc → AH → Prop) : V → Loc → AH → Prop := fun a ρ σ => Tru n env a ρ σ Q
abbrev NotK (Q : Bool → Loc → AH → Prop) : Bool → Loc → AH → Prop := fun y => Q (!y)
abbrev ConsK (v : V) (Q : List V → Loc → AH → Prop) : List V → Loc → AH → Prop := fun vs => Q (v :: vs)
abbrev ExsK (es : List Expr) (Q : List V → Loc → AH → Prop) : V → Loc → AH → Prop := fun v ρ σ => Exs n env es ρ σ (ConsK v Q)
abbrev TupK (Q : V → Loc → AH → Prop) : List V → Loc → AH → Prop := fun vs ρ σ => vs.length ≤ 1000 ∧ Q (.tup vs) ρ σ
abbrev LstK (Q : V → Loc → AH → Prop) : List V → Loc → AH → Prop := fun vs ρ σ => vs.length ≤ 1000 ∧ ∀ a, σ a = none → Q (.lst a) ρ (σ.put a (.list vs))
abbrev BvK2 (op : BoolOp) (a : V) (es : List Expr) (Q : V → Loc → AH → Prop) : Bool → Loc → AH → Prop := fun y ρ σ => if y = (op == .Or) then Q a ρ σ else BoolV n env op es ρ σ Q
abbrev BvK (op : BoolOp) (es : List Expr) (Q : V → Loc → AH → Prop) : V → Loc → AH → Prop := fun a ρ σ => Tru n env a ρ σ (BvK2 n env op a es Q)
abbrev AllK (op : BoolOp) (es : List Expr) (Q : Bool → Loc → AH → Prop) : Bool → Loc → AH → Prop := fun y ρ σ => if y = (op == .Or) then Q y ρ σ else AllT n env op es ρ σ Q
end

theorem VRep.bool_inv {h : Heap} {u : Value} {b : Bool} (r : VRep h u (.bool b)) : u = .bool b := by cases r; rfl
theorem VRep.int_inv {h : Heap} {u : Value} {i : Int} (r : VRep h u (.int i)) : ∃ t, u = .int i t := by cases r; exact ⟨_, rfl⟩
theorem VRep.str_inv {h : Heap} {u : Value} {i : Str} (r : VRep h u (.str i)) : ∃ t, u = .str i t := by cases r; exact ⟨_, rfl⟩
theorem VRep.none_inv {h : Heap} {u : Value} (r : VRep h u .none) : u = .none := by cases r; rfl
theorem VRep.lst_inv {h : Heap} {u : Value} {a : Addr} (r : VRep h u (.lst a)) : u = .ref a := by cases r; rfl
theorem VRep.dct_inv {h : Heap} {u : Value} {a : Addr} (r : VRep h u (.dct a)) : u = .ref a := by cases r; rfl
theorem VRep.glob_inv {h : Heap} {u w : Value} (r : VRep h u (.glob w)) : u = w := by cases r; rfl
theorem VRep.tup_inv {h : Heap} {u : Value} {l : List V} (r : VRep h u (.tup l)) : ∃ a vs n, u = .ref a ∧ IsT h a vs n ∧ VsRep h vs.toList l := by cases r with | tup ho hs => exact ⟨_, _, _, rfl, ho, hs⟩
theorem VRep.inst_inv {h : Heap} {u : Value} {C d : Addr} (r : VRep h u (.inst C d)) : ∃ x, u = .ref x ∧ h.get? x = some (instObj C d) := by cases r with | inst ho => exact ⟨_, rfl, ho⟩

section
variable {n : Nat} {env : Env} {ρ : Loc} {σ : AH} {Q : V → Loc → AH → Prop}

theorem ex_none {k pos} (q : Q .none ρ σ) : Ex n env (.Constant .none k pos) ρ σ Q := fun _ s _ S F _ => wpAny_pure (Post.stay (tk := s.toks) S F .none q)
theorem ex_bool {b k pos} (q : Q (.bool b) ρ σ) : Ex n env (.Constant (.bool b) k pos) ρ σ Q := fun _ s _ S F _ => wpAny_pure (Post.stay (tk := s.toks) S F (.bool b) q)
theorem ex_int {i k pos} (q : Q (.int i) ρ σ) : Ex n env (.Constant (.int i) k pos) ρ σ Q := fun _ s _ S F _ => wpAny_Constant_int (Post.stay (tk := s.toks + 1) S F (.int i _) q)
theorem ex_str {i k pos} (q : Q (.str i) ρ σ) : Ex n env (.Constant (.str i) k pos) ρ σ Q := fun _ s _ S F _ => Constant_str (Post.stay (tk := s.toks + 1) S F (.str i _) q)

theorem loadName_has {A : Around} {E : Value → Shared → Prop} {s : Shared} {x : Str} {u : Value} {Q : Value → Shared → Prop} (hk : env.scope.kind = .function) (h : NameHas env s.heap x u) (q : Q u s) (hc : (x == ("__classdict__" : Str)) = false) : wpAny (model c.prog c.w) A (loadName env x) Q E s := by
  rcases h with ⟨hl, m, hn, hv⟩ | ⟨hk', a, o, hc', ho, hd⟩
  · exact wpAny_loadName_local hk hl hn hv q
  · have hv : s.heap.IsCell a (some u) := ⟨o, ho, hd⟩
    rcases hk' with hk' | hk'
    · exact wpAny_loadName_cell hk hk' hc' hv q
    · exact wpAny_loadName_free hk hk' hc' hv q hc

theorem Tr.loadName {x : Str} {v : V} {H : HP} (e : ρ.lookup x = some v) (q : Q v ρ σ) (hc : autoParam ((x == ("__classdict__" : Str)) = false) aRfl) : Tr n env ρ σ H (PySem.loadName env x) VRep Q := fun A s _ S F _ => by
  obtain ⟨u, hu, r⟩ := F.has x v e
  exact loadName_has F.kind hu (Post.stay (tk := s.toks) S F r q) hc

theorem ex_name {x : Str} {pos : Pos} {v : V} (e : ρ.lookup x = some v) (q : Q v ρ σ) (hd : autoParam ((x == ("__debug__" : Str)) = false) aRfl) (hc : autoParam ((x == ("__classdict__" : Str)) = false) aRfl) : Ex n env (.Name x pos) ρ σ Q := fun A s hA S F hH =>
  wpAny_Name (Tr.loadName (H := .top) e q hc A s hA S F hH) hd

theorem ex_global {x : Str} {pos : Pos} {u : Value} {v : V} (hx : env.kindOf x = some .globalImplicit) (e : nsIn c.K mainGlobals x = some (some u)) (r : COk → VRep c.h0 u v) (q : Q v ρ σ) (hd : autoParam ((x == ("__debug__" : Str)) = false) aRfl) : Ex n env (.Name x pos) ρ σ Q := fun A s _ S F _ => by
  refine Name_function_global F.kind hx (loadGlobal_global (mg := c.mg) ?_ (mg_of (S.ok.inK.keeps fun _ _ e => e) S.ok.top.g e) (Post.stay (tk := s.toks) S F ((r S.ok).keep fun b o e _ => S.keep0 b o e) q)) hd
  rw [F.glob.1]; exact (S.top).g

theorem ex_builtin {x : Str} {pos : Pos} {u : Value} (hx : env.kindOf x = some .globalImplicit) (e : nsIn c.K mainGlobals x = some Option.none) (hb : bootBuiltins x = some u) (hn : x ≠ "__name__") (q : Q (.glob u) ρ σ) (hd : autoParam ((x == ("__debug__" : Str)) = false) aRfl) : Ex n env (.Name x pos) ρ σ Q := fun A s _ S F _ => by
  refine Name_function_global F.kind hx (loadGlobal_builtin (mg := c.mg) (mb := c.mb) ?_ (mg_none_of (S.ok.inK.keeps fun _ _ e => e) S.ok.top.g e) ?_ ((S.ok.top.builtins x hn).trans hb) (Post.stay (tk := s.toks) S F (.glob u) q)) hd
  · rw [F.glob.1]; exact (S.top).g
  · rw [F.glob.2]; exact (S.top).b

theorem exs_nil {Q : List V → Loc → AH → Prop} (q : Q [] ρ σ) : Exs n env [] ρ σ Q := fun _ _ s _ S F _ => spliced_nil (Post.stay (tk := s.toks) S F .nil q)
noncomputable def plainE (e : Expr) : Bool := !Nat.beq e.ctorIdx (Expr.Starred e ⟨0, 0, 0, 0⟩).ctorIdx
theorem plain_star {e : Expr} (h : plainE e = true) (es : List Expr) (env : Env) : starEach (e :: es) env = (false, eval e env) :: starEach es env := by cases e <;> first | rfl | cases h
theorem plain_any : ∀ {es : List Expr} (_ : es.all plainE = true) (pos : Pos) (env : Env), (backTo pos (starEach es env)).any (·.1) = false
  | [], _, _, _ => rfl
  | e :: es, h, pos, env => by
    rw [List.all_cons, Bool.and_eq_true] at h
    rw [plain_star h.1]
    exact plain_any h.2 pos env
theorem exs_cons {e : Expr} {es : List Expr} {Q : List V → Loc → AH → Prop} (h : Ex n env e ρ σ (ExsK n env es Q)) (he : autoParam (plainE e = true) aRfl) : Exs n env (e :: es) ρ σ Q := fun pos A s hA S F hH => by
  rw [plain_star he]
  refine spliced_cons (wpAny_mono (h A s hA S F hH) (fun u s' p => ?_) fun _ _ e => e)
  obtain ⟨h', tk, v, ρ', σ', rfl, S', F', M, r, q⟩ := p
  refine wpAny_mono ((q pos) A { s with heap := h', toks := tk } hA S' F' trivial) (fun us s' p => ?_) fun _ _ z => z
  obtain ⟨h2, tk2, vs, ρ2, σ2, rfl, S2, F2, M2, r2, q2⟩ := p
  exact ⟨h2, tk2, v :: vs, ρ2, σ2, rfl, S2, F2, M.trans M2, .cons (r.step S' F' M2) r2, q2⟩

theorem ex_tuple {elts : List Expr} {k : Nat} {pos : Pos} (h : Exs n env elts ρ σ (TupK Q)) : Ex n env (.Tuple elts k pos) ρ σ Q := fun A s hA S F _ => by
  refine wpAny_Tuple_spliced (wpAny_mono (h pos A s hA S F trivial) (fun us s' p => ?_) fun _ _ e => e)
  obtain ⟨h', tk, vs, ρ', σ', rfl, S', F', M, r, hl, q⟩ := p
  have hlen : us.length ≤ sizeLine := by rw [r.length]; exact Nat.le_trans hl (by decide)
  refine ⟨hlen, Post.trans M (Post.extend S' F' (push_keeps _) (push_size _) (.tup (IsT.new _ _) ?_) q)⟩
  simpa using r.keep fun b o e _ => push_keeps _ b o e
theorem ex_list {elts : List Expr} {pos : Pos} (h : Exs n env elts ρ σ (LstK Q)) : Ex n env (.List elts pos) ρ σ Q := fun A s hA S F _ => by
  refine wpAny_List_spliced (wpAny_mono (h pos A s hA S F trivial) (fun us s' p => ?_) fun _ _ e => e)
  obtain ⟨h', tk, vs, ρ', σ', rfl, S', F', M, r, hl, q⟩ := p
  have hlen : us.length ≤ sizeLine := by rw [r.length]; exact Nat.le_trans hl (by decide)
  refine ⟨hlen, Post.trans M (Post.new (a := h'.objs.size) (ao := .list vs) S' F' (push_keeps _) (push_size _) (Nat.le_refl _) (.list (IsL.new _ _) ?_) (.lst _) (q _ ?_))⟩
  · simpa using r.keep fun b o e _ => push_keeps _ b o e
  · cases z : σ' h'.objs.size with
    | none => rfl
    | some ao => obtain ⟨ob, e1, _⟩ := (S'.objs _ _ z).at; exact absurd (Heap.lt_size e1) (Nat.lt_irrefl _)

theorem two {α β : Type} {R : Heap → α → β → Prop} {Q : β → Loc → AH → Prop} {l r : Expr} {f : Value → Value → Sem α}
    (h : Ex n env l ρ σ (fun a ρ1 σ1 => Ex n env r ρ1 σ1 (fun b ρ2 σ2 => ∀ u v, Tr n env ρ2 σ2 ((HP.v u a).and (HP.v v b)) (f u v) R Q))) {A : Around} {s : Shared} (hA : Room A n) (S : St s.heap σ) (F : Frm env s.heap σ ρ) :
    wpAny (model c.prog c.w) A (eval l env) (fun u s₁ => wpAny (model c.prog c.w) A (eval r env) (fun v s₂ => wpAny (model c.prog c.w) A (f u v) (Post env σ s R Q) NoE s₂) NoE s₁) NoE s := by
  refine wpAny_mono (h A s hA S F trivial) (fun u s1 p => ?_) fun _ _ x => x
  obtain ⟨h1, tk1, a, ρ1, σ1, rfl, S1, F1, M1, r1, q1⟩ := p
  refine wpAny_mono (q1 A { s with heap := h1, toks := tk1 } hA S1 F1 trivial) (fun v s2 p => ?_) fun _ _ z => z
  obtain ⟨h2, tk2, b, ρ2, σ2, rfl, S2, F2, M2, r2, q2⟩ := p
  exact (q2 u v).go (s := s) hA (M1.trans M2) S2 F2 ⟨r1.step S1 F1 M2, r2⟩
theorem ex_bin {l r : Expr} {op : Operator} {pos : Pos} (h : Ex n env l ρ σ (BinK n env (binaryOp op) r Q)) : Ex n env (.BinOp l op r pos) ρ σ Q :=
  fun A s hA S F _ => wpAny_BinOp (two h hA S F)
theorem ex_cmp {l r : Expr} {op : CmpOp} {pos : Pos} (h : Ex n env l ρ σ (BinK n env (compareOp op) r Q)) (hm : behindInMarks op r = false := by with_unfolding_all rfl) : Ex n env (.Compare l [op] [r] pos) ρ σ Q :=
  fun A s hA S F _ => wpAny_Compare1 (two h hA S F) hm
theorem ex_un {e : Expr} {op : UnaryOp} {pos : Pos} (h : Ex n env e ρ σ (UnK n env (unaryOp op) Q)) : Ex n env (.UnaryOp op e pos) ρ σ Q :=
  Tr.eq (arm_eval_UnaryOp ..) (Tr.bindV (h.mono fun a ρ1 σ1 q u => Tr.standAt (Tr.holding ((q u).with fun _ x => x.1))))
theorem ex_if {t a b : Expr} {pos : Pos} (h : Test n env t ρ σ (IfEK n env a b Q)) : Ex n env (.IfExp t a b pos) ρ σ Q :=
  Tr.eq (arm_eval_IfExp ..) (Tr.bindS (h.mono fun y ρ1 σ1 q => by cases y <;> exact q))
theorem ex_bool_op {op : BoolOp} {es : List Expr} {pos : Pos} (h : BoolV n env op es ρ σ Q) : Ex n env (.BoolOp op es pos) ρ σ Q := h pos
theorem boolv_one {op : BoolOp} {e : Expr} (h : Ex n env e ρ σ Q) : BoolV n env op [e] ρ σ Q := fun _ => h
theorem boolv_cons {op : BoolOp} {e e2 : Expr} {es : List Expr} (h : Ex n env e ρ σ (BvK n env op (e2 :: es) Q)) : BoolV n env op (e :: e2 :: es) ρ σ Q := fun pos A s hA S F _ => by
  show wpAny _ A (do
    let v ← eval e env
    PySem.standAt pos
    let t ← PySem.holding [v] (truthy v)
    match op, t with
    | .And, false | .Or, true => Pure.pure v
    | _, _ => boolOp pos op (evalEach (e2 :: es) env)) _ _ s
  refine wpAny_bind (wpAny_mono (h A s hA S F trivial) (fun u s1 p => ?_) fun _ _ x => x)
  obtain ⟨h1, tk1, a, ρ1, σ1, rfl, S1, F1, M1, r1, q1⟩ := p
  refine wpAny_bind (wpAny_standAt (wpAny_bind (wpAny_holding (wpAny_mono (q1 u A { s with heap := h1, toks := tk1 } hA S1 F1 r1) (fun v s2 p => ?_) fun _ _ z => z))))
  obtain ⟨h2, tk2, b, ρ2, σ2, rfl, S2, F2, M2, r2, q2⟩ := p
  cases r2
  have r1' := r1.step S1 F1 M2
  dsimp only [BvK2] at q2
  cases op <;> cases v <;> simp at q2 <;> dsimp only
  · exact wpAny_pure (Post.here (s := s) S2 F2 (M1.trans M2) r1' q2)
  · exact (q2 pos).go (s := s) hA (M1.trans M2) S2 F2 trivial
  · exact (q2 pos).go (s := s) hA (M1.trans M2) S2 F2 trivial
  · exact wpAny_pure (Post.here (s := s) S2 F2 (M1.trans M2) r1' q2)

theorem test_value {e : Expr} {Q : Bool → Loc → AH → Prop} (h : Ex n env e ρ σ (TruK n env Q)) (he : autoParam (isTrue e env (eval e env) = (do let v ← eval e env; PySem.standAt e.pos; PySem.holding [v] (truthy v))) aRfl) : Test n env e ρ σ Q :=
  Tr.eq he (Tr.bindV (h.mono fun a ρ1 σ1 q u => Tr.standAt (Tr.holding ((q u).with fun _ x => x.1))))
theorem test_not {e : Expr} {pos : Pos} {Q : Bool → Loc → AH → Prop} (h : Test n env e ρ σ (NotK Q)) : Test n env (.UnaryOp .Not e pos) ρ σ Q :=
  Tr.eq (arm_isTrue_UnaryOp ..) (Tr.bindS (h.mono fun y ρ1 σ1 q => Tr.pure (fun _ _ => rfl) q))
theorem test_bool {op : BoolOp} {es : List Expr} {pos : Pos} {Q : Bool → Loc → AH → Prop} (h : AllT n env op es ρ σ Q) : Test n env (.BoolOp op es pos) ρ σ Q := h
theorem allt_nil {op : BoolOp} {Q : Bool → Loc → AH → Prop} (q : Q (op == .And) ρ σ) : AllT n env op [] ρ σ Q := Tr.pure (fun _ _ => rfl) q
theorem allt_cons {op : BoolOp} {e : Expr} {es : List Expr} {Q : Bool → Loc → AH → Prop} (h : Test n env e ρ σ (AllK n env op es Q)) : AllT n env op (e :: es) ρ σ Q :=
  Tr.eq (arm_allTrue_cons ..) (Tr.bindS (h.mono fun y ρ1 σ1 q => by
    dsimp only [AllK] at q
    cases op <;> cases y <;> simp at q <;> dsimp only <;> first | exact Tr.pure (fun _ _ => rfl) q | exact q))
theorem test_cmp {l r : Expr} {op : CmpOp} {pos : Pos} {Q : Bool → Loc → AH → Prop} (h : Ex n env l ρ σ (BinK n env (compareOp op) r (TruK n env Q))) (hm : behindInMarks op r = false := by with_unfolding_all rfl) : Test n env (.Compare l [op] [r] pos) ρ σ Q := by
  refine Tr.eq (isTrue_Compare1 ..) ?_
  rw [markedBehindIn_of_false hm]
  exact Tr.bindV (h.mono fun a ρ1 σ1 q u => Tr.bindV (Tr.holding (q.w0.mono fun b ρ2 σ2 q v => Tr.standAt (Tr.bindV (Tr.operate ((q u v).w2.mono fun y ρ3 σ3 q w => Tr.holding (q w).w1))))))

theorem chain2 {α β : Type} {R : Heap → α → β → Prop} {Q : β → Loc → AH → Prop} {l r r2 : Expr} {o1 o2 : CmpOp} {pos : Pos} {fin : Value → Sem α} {neg : Value → Sem α}
    (h : Ex n env l ρ σ (fun a ρ1 σ1 => Ex n env r ρ1 σ1 (fun b ρ2 σ2 => Op2 n env (compareOp o1) a b ρ2 σ2 (fun y ρ3 σ3 => Tru n env y ρ3 σ3 (fun k ρ4 σ4 =>
      if k then Ex n env r2 ρ4 σ4 (fun d ρ5 σ5 => Op2 n env (compareOp o2) b d ρ5 σ5 (fun z ρ6 σ6 => ∀ w, Tr n env ρ6 σ6 (HP.v w z) (fin w) R Q))
      else ∀ w, Tr n env ρ4 σ4 (HP.v w y) (neg w) R Q))))) :
    Tr n env ρ σ .top (eval l env >>= fun a => PySem.holding [a] (eval r env) >>= fun rv => PySem.standAt pos >>= fun _ => PySem.holding [a, rv] (compareOp o1 a rv) >>= fun cv => PySem.release [a, rv] [cv] >>= fun _ =>
      PySem.holding [cv, rv] (truthy cv) >>= fun b => if b = true then (PySem.holding [rv] (eval r2 env) >>= fun rv2 => PySem.standAt pos >>= fun _ => PySem.operate [rv, rv2] (compareOp o2 rv rv2) >>= fun w => fin w) else neg cv) R Q := by
  refine Tr.bindV (h.mono fun a ρ1 σ1 q u => Tr.bindV (Tr.holding (q.w0.mono fun b ρ2 σ2 q v => Tr.standAt (Tr.bindV (Tr.holding ((q u v).w2.mono fun y ρ3 σ3 q w => Tr.release (Tr.bindS (Tr.holding ((q w).w1.mono fun k ρ4 σ4 q => ?_)))))))))
  cases k
  · simp only [Bool.false_eq_true, if_false] at q ⊢
    exact (q w).w1
  · simp only [if_true] at q ⊢
    exact Tr.bindV (Tr.holding (q.w0.mono fun d ρ5 σ5 q v2 => Tr.standAt (Tr.bindV (Tr.operate ((q v v2).w3.mono fun z ρ6 σ6 q w2 => (q w2).w1)))))
theorem test_cmp2 {l r r2 : Expr} {o1 o2 : CmpOp} {pos : Pos} {Q : Bool → Loc → AH → Prop} (h : Ex n env l ρ σ (fun a ρ1 σ1 => Ex n env r ρ1 σ1 (fun b ρ2 σ2 => Op2 n env (compareOp o1) a b ρ2 σ2 (fun y ρ3 σ3 => Tru n env y ρ3 σ3 (fun k ρ4 σ4 =>
      if k then Ex n env r2 ρ4 σ4 (fun d ρ5 σ5 => Op2 n env (compareOp o2) b d ρ5 σ5 (fun z ρ6 σ6 => Tru n env z ρ6 σ6 Q)) else Q false ρ4 σ4)))))
    (he : isTrue (.Compare l [o1, o2] [r, r2] pos) env (eval (.Compare l [o1, o2] [r, r2] pos) env) = (eval l env >>= fun a => testChain pos a [o1, o2] [eval r env, eval r2 env]) := by with_unfolding_all rfl) : Test n env (.Compare l [o1, o2] [r, r2] pos) ρ σ Q := by
  have z := chain2 (pos := pos) (n := n) (env := env) (ρ := ρ) (σ := σ) (R := Same) (Q := Q) (fin := fun w => PySem.holding [w] (truthy w)) (neg := fun _ => (Pure.pure false : Sem Bool)) (h.mono fun a ρ1 σ1 q => q.mono fun b ρ2 σ2 q u v => (q u v).mono fun y ρ3 σ3 q w => (q w).mono fun k ρ4 σ4 q => by
    cases k
    · simp only [Bool.false_eq_true, if_false] at q ⊢
      exact fun w => Tr.pure (fun _ _ => rfl) q
    · simp only [if_true] at q ⊢
      exact q.mono fun d ρ5 σ5 q u v => (q u v).mono fun z ρ6 σ6 q w => Tr.holding (q w))
  refine Tr.eq he fun A s hA S F H => ?_
  intro Γ p hΓ
  have y' := z A s hA S F H Γ p hΓ
  simp only [Sem.wp_bind', Sem.wp_holding, Sem.wp_cmd_standAt, Sem.wp_release, Sem.wp_operate, Sem.wp_pure', testChain] at y' ⊢
  refine Sem.wp_mono _ _ _ (fun a p1 s1 h1 => ?_) (fun _ _ _ h => h) _ _ y'
  refine Sem.wp_mono _ _ _ (fun b p2 s2 h2 => ?_) (fun _ _ _ h => h) _ _ h1
  refine Sem.wp_mono _ _ _ (fun d p3 s3 h3 => ?_) (fun _ _ _ h => h) _ _ h2
  refine Sem.wp_mono _ _ _ (fun k p4 s4 h4 => ?_) (fun _ _ _ h => h) _ _ h3
  cases k
  · simpa using h4
  · simpa using h4
end
end
section
open PySem PySem.W PyProof.Rows PySem.Calls
noncomputable def V.isNone : V → Bool | .none => true | _ => false
section
variable {n : Nat} {env : Env} {ρ : Loc} {σ : AH} {Q : V → Loc → AH → Prop}

theorem tru_bool {b : Bool} {Q : Bool → Loc → AH → Prop} (q : Q b ρ σ) : Tru n env (.bool b) ρ σ Q := fun u A s hA S F r => by
  obtain rfl := VRep.bool_inv r
  exact wpAny_truthy_bool (Post.stay (tk := s.toks) S F rfl q)

theorem op_add {a b : Int} (q : Q (.int (a + b)) ρ σ) : Op2 n env (binaryOp .Add) (.int a) (.int b) ρ σ Q := fun u v A s hA S F r => by
  obtain ⟨t, rfl⟩ := VRep.int_inv r.1; obtain ⟨t', rfl⟩ := VRep.int_inv r.2
  exact P.add_int (Post.stay (tk := s.toks + 1) S F (.int _ _) q)
theorem op_sub {a b : Int} (q : Q (.int (a - b)) ρ σ) : Op2 n env (binaryOp .Sub) (.int a) (.int b) ρ σ Q := fun u v A s hA S F r => by
  obtain ⟨t, rfl⟩ := VRep.int_inv r.1; obtain ⟨t', rfl⟩ := VRep.int_inv r.2
  exact P.sub_int (Post.stay (tk := s.toks + 1) S F (.int _ _) q)
theorem op_mul {a b : Int} (q : Q (.int (a * b)) ρ σ) (hm : IntMulOk a b) : Op2 n env (binaryOp .Mult) (.int a) (.int b) ρ σ Q := fun u v A s hA S F r => by
  obtain ⟨t, rfl⟩ := VRep.int_inv r.1; obtain ⟨t', rfl⟩ := VRep.int_inv r.2
  exact P.mul_int (Post.stay (tk := s.toks + 1) S F (.int _ _) q) hm
theorem op_mod {a b : Int} (hb : b ≠ 0) (q : Q (.int (a.fmod b)) ρ σ) : Op2 n env (binaryOp .Mod) (.int a) (.int b) ρ σ Q := fun u v A s hA S F r => by
  obtain ⟨t, rfl⟩ := VRep.int_inv r.1; obtain ⟨t', rfl⟩ := VRep.int_inv r.2
  exact mod_int' hb (Post.stay (tk := s.toks + 1) S F (.int _ _) q)
theorem op_fdiv {a b : Int} (hb : b ≠ 0) (hp : Builtin.divisionGoesByPylong a b = false) (q : Q (.int (a.fdiv b)) ρ σ) : Op2 n env (binaryOp .FloorDiv) (.int a) (.int b) ρ σ Q := fun u v A s hA S F r => by
  obtain ⟨t, rfl⟩ := VRep.int_inv r.1; obtain ⟨t', rfl⟩ := VRep.int_inv r.2
  exact floordiv_int hb (Post.stay (tk := s.toks + 1) S F (.int _ _) q) (.inl hp)
theorem op_neg {a : Int} (q : Q (.int (-a)) ρ σ) : Op1 n env (unaryOp .USub) (.int a) ρ σ Q := fun u A s hA S F r => by
  obtain ⟨t, rfl⟩ := VRep.int_inv r
  exact P.neg_int (Post.stay (tk := s.toks + 1) S F (.int _ _) q)
theorem op_iadd {a b : Int} (q : Q (.int (a + b)) ρ σ) : Op2 n env (inplaceOp .Add) (.int a) (.int b) ρ σ Q := fun u v A s hA S F r => by
  obtain ⟨t, rfl⟩ := VRep.int_inv r.1; obtain ⟨t', rfl⟩ := VRep.int_inv r.2
  exact P.iadd_int (Post.stay (tk := s.toks + 1) S F (.int _ _) q)
theorem cmp_eq {a b : Int} (q : Q (.bool (a == b)) ρ σ) : Op2 n env (compareOp .Eq) (.int a) (.int b) ρ σ Q := fun u v A s hA S F r => by
  obtain ⟨t, rfl⟩ := VRep.int_inv r.1; obtain ⟨t', rfl⟩ := VRep.int_inv r.2
  exact P.eq_int (Post.stay (tk := s.toks) S F (.bool _) q)
theorem cmp_lt {a b : Int} (q : Q (.bool (decide (a < b))) ρ σ) : Op2 n env (compareOp .Lt) (.int a) (.int b) ρ σ Q := fun u v A s hA S F r => by
  obtain ⟨t, rfl⟩ := VRep.int_inv r.1; obtain ⟨t', rfl⟩ := VRep.int_inv r.2
  exact P.lt_int (Post.stay (tk := s.toks) S F (.bool _) q)
theorem cmp_le {a b : Int} (q : Q (.bool (decide (a ≤ b))) ρ σ) : Op2 n env (compareOp .LtE) (.int a) (.int b) ρ σ Q := fun u v A s hA S F r => by
  obtain ⟨t, rfl⟩ := VRep.int_inv r.1; obtain ⟨t', rfl⟩ := VRep.int_inv r.2
  exact P.le_int (Post.stay (tk := s.toks) S F (.bool _) q)
theorem cmp_gt {a b : Int} (q : Q (.bool (decide (a > b))) ρ σ) : Op2 n env (compareOp .Gt) (.int a) (.int b) ρ σ Q := fun u v A s hA S F r => by
  obtain ⟨t, rfl⟩ := VRep.int_inv r.1; obtain ⟨t', rfl⟩ := VRep.int_inv r.2
  exact P.gt_int (Post.stay (tk := s.toks) S F (.bool _) q)
theorem is_none {a : V} (q : Q (.bool a.isNone) ρ σ) (hg : ∀ v, a ≠ .glob v := by intro _ h; cases h) : Op2 n env (compareOp .Is) a .none ρ σ Q := fun u v A s hA S F r => by
  obtain rfl := VRep.none_inv r.2
  have e : plainIs u .none = true ∧ (u == .none) = a.isNone := by
    have r1 : VRep s.heap u a := r.1
    cases r1 <;> first | exact ⟨rfl, rfl⟩ | exact absurd rfl (hg _)
  exact wpAny_is_plain e.1 (by rw [e.2]; exact Post.stay (tk := s.toks) S F (.bool _) q)
theorem isnot_none {a : V} (q : Q (.bool (!a.isNone)) ρ σ) (hg : ∀ v, a ≠ .glob v := by intro _ h; cases h) : Op2 n env (compareOp .IsNot) a .none ρ σ Q := fun u v A s hA S F r => by
  obtain rfl := VRep.none_inv r.2
  have e : plainIs u .none = true ∧ (!(u == .none)) = !a.isNone := by
    have r1 : VRep s.heap u a := r.1
    cases r1 <;> first | exact ⟨rfl, rfl⟩ | exact absurd rfl (hg _)
  exact wpAny_isNot_plain e.1 (by rw [e.2]; exact Post.stay (tk := s.toks) S F (.bool _) q)

theorem cmp_eq_str {a b : Str} (q : Q (.bool (a == b)) ρ σ) : Op2 n env (compareOp .Eq) (.str a) (.str b) ρ σ Q := fun u v A s hA S F r => by
  obtain ⟨t, rfl⟩ := VRep.str_inv r.1; obtain ⟨t', rfl⟩ := VRep.str_inv r.2
  exact P.eq_str (Post.stay (tk := s.toks) S F (by rw [SeqAt.str_beq]; exact .bool _) q)
theorem cmp_in_str {a b : Str} (q : Q (.bool (!(Builtin.Str.occurrences b a 0 b.length 1).isEmpty)) ρ σ) : Op2 n env (compareOp .In) (.str a) (.str b) ρ σ Q := fun u v A s hA S F r => by
  obtain ⟨t, rfl⟩ := VRep.str_inv r.1; obtain ⟨t', rfl⟩ := VRep.str_inv r.2
  exact P.in_str (Post.stay (tk := s.toks) S F (.bool _) q)
set_option tactic.hygienic true
theorem str_add_if {x y : Str} {t u : Tok} {Q : Value → Shared → Prop} {s : Shared} (hl : (x ++ y).length ≤ sizeLine) (h : ∀ t k, Q (.str (x ++ y) t) { s with toks := k }) :
    (if x.length == 0 then Made.val (.str y u) else if y.length == 0 then Made.val (.str x t) else Made.str (x ++ y)).post Q s := by
  have e0 : ∀ z : Str, z.length = 0 → z = ⟨#[]⟩ := fun z hz => by obtain ⟨a⟩ := z; simp [Str.length] at hz; rw [hz]
  split
  · rename_i hz
    have : x ++ y = y := by rw [e0 x (by simpa using hz)]; obtain ⟨a⟩ := y; show (⟨#[] ++ a⟩ : Str) = ⟨a⟩; simp
    have := this ▸ h u s.toks; exact this
  · split
    · rename_i hz
      have : x ++ y = x := by rw [e0 y (by simpa using hz)]; obtain ⟨a⟩ := x; show (⟨a ++ #[]⟩ : Str) = ⟨a⟩; simp
      have := this ▸ h t s.toks; exact this
    · exact ⟨hl, h s.toks (s.toks + 1)⟩
set_option tactic.hygienic false
theorem op_add_str {a b : Str} (hl : (a ++ b).length ≤ sizeLine) (q : Q (.str (a ++ b)) ρ σ) : Op2 n env (binaryOp .Add) (.str a) (.str b) ρ σ Q := fun u v A s hA S F r => by
  obtain ⟨t, rfl⟩ := VRep.str_inv r.1; obtain ⟨t', rfl⟩ := VRep.str_inv r.2
  exact P.add_str (str_add_if hl fun t k => Post.stay (tk := k) S F (.str _ _) q)

theorem cmp_of_rc {a b : V} {k : Bool} (h : ∀ A s u v, Room A n → St s.heap σ → VRep s.heap u a → VRep s.heap v b → SeqAt.RcAt A s u v k) (q : Q (.bool k) ρ σ) : Op2 n env (compareOp .Eq) a b ρ σ Q := fun u v A s hA S F r =>
  cmp_ofEq (h A s u v hA S r.1 r.2 _ _ _ _ (Post.stay (tk := s.toks) S F (.bool _) q))
theorem cmp_tup_str {l : List V} {b : Str} (q : Q (.bool false) ρ σ) : Op2 n env (compareOp .Eq) (.tup l) (.str b) ρ σ Q :=
  cmp_of_rc (fun A s u v hA S r1 r2 => by
    obtain ⟨a, vs, m, rfl, ht, hs⟩ := r1.tup_inv; obtain ⟨t', rfl⟩ := r2.str_inv
    exact .tuple_str b t' ⟨_, ht, rfl, _, rfl⟩ hA.unt) q
theorem cmp_bool_bool {a b : Bool} (q : Q (.bool (a == b)) ρ σ) : Op2 n env (compareOp .Eq) (.bool a) (.bool b) ρ σ Q :=
  cmp_of_rc (fun A s u v hA S r1 r2 => by obtain rfl := r1.bool_inv; obtain rfl := r2.bool_inv; exact .bool_bool a b) q

theorem any_str {h : Heap} {vs : List Value} {l : List Str} (r : VsRep h vs (l.map V.str)) (b : Str) : vs.any (fun y => Value.isStr y b) = l.contains b := by
  induction l generalizing vs with
  | nil => cases r; rfl
  | cons x l ih =>
    cases r with
    | cons hv hs =>
      obtain ⟨t, rfl⟩ := hv.str_inv
      rw [List.any_cons, ih hs, List.contains_cons]
      have e : (x == b) = (b == x) := by rw [Bool.eq_iff_iff]; simp only [beq_iff_eq]; exact eq_comm
      show ((x == b) || l.contains b) = _
      rw [e]
theorem mem_str {h : Heap} {vs : List Value} {l : List Str} (r : VsRep h vs (l.map V.str)) {y : Value} (m : y ∈ vs) : ∃ x t, y = .str x t := by
  induction l generalizing vs with
  | nil => cases r; cases m
  | cons x l ih =>
    cases r with
    | cons hv hs =>
      obtain ⟨t, rfl⟩ := hv.str_inv
      cases m with
      | head => exact ⟨_, _, rfl⟩
      | tail _ m => exact ih hs m
theorem eqat_str {A : Around} {s : Shared} {vs : List Value} {l : List Str} (r : VsRep s.heap vs (l.map V.str)) (b : Str) (t : Tok) : ∀ y, y ∈ vs.toArray → SeqAt.EqAt A s y (.str b t) (Value.isStr y b) := fun y m => by
  obtain ⟨x, t', rfl⟩ := mem_str r (by simpa using m)
  exact SeqAt.EqAt.str_str (A := A) (s := s) x t' b t
theorem cmp_in_tup {b : Str} {l : List Str} (q : Q (.bool (l.contains b)) ρ σ) : Op2 n env (compareOp .In) (.str b) (.tup (l.map V.str)) ρ σ Q := fun u v A s hA S F r => by
  obtain ⟨t, rfl⟩ := VRep.str_inv r.1; obtain ⟨a, vs, m, rfl, ht, hs⟩ := VRep.tup_inv r.2
  refine SeqAt.in_tupleAt (fun y => Value.isStr y b) ⟨_, ht, rfl, _, rfl⟩ (by simpa using eqat_str hs b t) ?_
  rw [← Array.any_toList, any_str hs b]
  exact Post.stay (tk := s.toks) S F (.bool _) q
theorem cmp_in_lst {b : Str} {a : Addr} {l : List Str} (ha : σ a = some (.list (l.map V.str))) (q : Q (.bool (l.contains b)) ρ σ) : Op2 n env (compareOp .In) (.str b) (.lst a) ρ σ Q := fun u v A s hA S F r => by
  obtain ⟨t, rfl⟩ := VRep.str_inv r.1; obtain rfl := VRep.lst_inv r.2
  have o := S.objs _ _ ha
  cases o with
  | list ho hs =>
    refine SeqAt.in_listAt (fun y => Value.isStr y b) ho.isList (by simpa using eqat_str hs b t) ?_
    rw [← Array.any_toList, any_str hs b]
    exact Post.stay (tk := s.toks) S F (.bool _) q
end
end
section
open PySem PySem.W PyProof.Rows PySem.Calls
abbrev SubJ (n : Nat) (env : Env) (value slice : Expr) (a b : V) (ρ : Loc) (σ : AH) (Q : V → Loc → AH → Prop) : Prop := Op2 n env (subscriptTail value slice) a b ρ σ Q
noncomputable def PlainSlice (slice : Expr) : Prop := ∀ o i, subscripted slice false o i = operate [o, i] (getItem o i)

section
variable {n : Nat} {env : Env} {ρ : Loc} {σ : AH} {Q : V → Loc → AH → Prop}
theorem ex_sub {value slice : Expr} {pos : Pos} (h : Ex n env value ρ σ (BinK n env (subscriptTail value slice) slice Q)) : Ex n env (.Subscript value slice pos) ρ σ Q :=
  fun A s hA S F _ => Subscript_ (two h hA S F)

theorem seqIndex_nat {k : Int} {m j : Nat} (h0 : k = (j : Int)) (h1 : j < m) : seqIndex? k m = some j := by
  subst h0; rw [seqIndex_of (by lia) (by lia)]; simp
theorem sub_tup {value slice : Expr} {l : List V} {k : Int} {j : Nat} {v : V} (hk : k = (j : Int)) (hv : l[j]? = some v) (hj : j < 2 ^ 62) (q : Q v ρ σ) (hs : PlainSlice slice := by intro o i; with_unfolding_all rfl) : SubJ n env value slice (.tup l) (.int k) ρ σ Q := fun u w A s hA S F r => by
  obtain ⟨a, vs, m, rfl, ht, rs⟩ := VRep.tup_inv r.1; obtain ⟨t, rfl⟩ := VRep.int_inv r.2
  obtain ⟨y, hy, ry⟩ := rs.get hv
  have hlt : j < vs.size := by have := List.getElem?_eq_some_iff.mp hy; simpa using this.1
  have htu : s.heap.IsTuple a vs := ⟨_, ht, rfl, _, rfl⟩
  refine tail_any (T := "tuple") htu.typeIs slot_tuple_getitem.lookup (P.getItem_tuple (k := j) ht (by lia) (by lia) (seqIndex_nat hk hlt) (by simpa using hy) ?_) (hs _ _)
  exact Post.stay (tk := s.toks) S F ry q
theorem sub_lst {value slice : Expr} {a : Addr} {l : List V} {k : Int} {j : Nat} {v : V} (ha : σ a = some (.list l)) (hk : k = (j : Int)) (hv : l[j]? = some v) (hj : j < 2 ^ 62) (q : Q v ρ σ) (hs : PlainSlice slice := by intro o i; with_unfolding_all rfl) : SubJ n env value slice (.lst a) (.int k) ρ σ Q := fun u w A s hA S F r => by
  obtain rfl := VRep.lst_inv r.1; obtain ⟨t, rfl⟩ := VRep.int_inv r.2
  have o := S.objs _ _ ha
  cases o with
  | list ho rs =>
    obtain ⟨y, hy, ry⟩ := rs.get hv
    refine tail_any ho.isList.typeIs slot_list_getitem.lookup (wpAny_getItem_list ho.isList (by lia) (by lia) (x := y) (by rw [hk]; simpa using hy) ?_) (hs _ _)
    exact Post.stay (tk := s.toks) S F ry q
theorem sub_str {value slice : Expr} {x : Str} {k : Int} {j : Nat} {d : Nat} (hk : k = (j : Int)) (hv : x.cps.toList[j]? = some d) (hj : j < 2 ^ 62) (q : Q (.str ⟨#[d]⟩) ρ σ) (hs : PlainSlice slice := by intro o i; with_unfolding_all rfl) : SubJ n env value slice (.str x) (.int k) ρ σ Q := fun u w A s hA S F r => by
  obtain ⟨t, rfl⟩ := VRep.str_inv r.1; obtain ⟨t', rfl⟩ := VRep.int_inv r.2
  have hlt : j < x.length := by have := List.getElem?_eq_some_iff.mp hv; have h2 := this.1; rw [Array.length_toList] at h2; exact h2
  refine tail_any (T := "str") (typeIs_str s x t) PySem.F.slot_str_getitem.lookup (P.getItem_str (c := d) ?_ ?_ ?_) (hs _ _)
  · simp only [Bool.or_eq_false_iff, decide_eq_false_iff_not]; lia
  · rw [seqIndex_nat hk hlt]; simpa using hv
  · exact Post.stay (tk := s.toks + 1) S F (.str _ _) q

noncomputable def ExP (n : Nat) (env : Env) (o : Option Expr) (ρ : Loc) (σ : AH) (Q : Option Int → Loc → AH → Prop) : Prop := match o with
  | none => Q none ρ σ
  | some e => Ex n env e ρ σ (fun v ρ' σ' => match v with | .int i => Q (some i) ρ' σ' | _ => False)
noncomputable def SlJ (n : Nat) (env : Env) (value slice : Expr) (a : V) (l u k : Option Int) (ρ : Loc) (σ : AH) (Q : V → Loc → AH → Prop) : Prop :=
  ∀ (A : Around) (s : Shared) (w : Value) (sl : Addr) (vl vu vk : Value), Room A n → St s.heap σ → Frm env s.heap σ ρ → VRep s.heap w a → s.heap.IsSliceOf sl vl vu vk → IsPart vl l → IsPart vu u → IsPart vk k →
    wpAny (model c.prog c.w) A (subscriptTail value slice w (.ref sl)) (Post env σ s VRep Q) NoE s

theorem exp_part {o : Option Expr} {Q : Option Int → Loc → AH → Prop} (h : ExP n env o ρ σ Q) {A : Around} {s : Shared} (hA : Room A n) (S : St s.heap σ) (F : Frm env s.heap σ ρ) {P : Value → Shared → Prop}
    (k : ∀ u h' tk i ρ' σ', St h' σ' → Frm env h' σ' ρ' → Fm env σ s.heap h' σ' → IsPart u i → Q i ρ' σ' → P u { s with heap := h', toks := tk }) : wpAny (model c.prog c.w) A (evalPart o env) P NoE s := by
  cases o with
  | none => rw [evalPart_none]; exact wpAny_pure (k .none s.heap s.toks none ρ σ S F (.refl ..) .none h)
  | some e =>
    rw [evalPart_some]
    refine wpAny_mono (h A s hA S F trivial) (fun u s' p => ?_) fun _ _ z => z
    obtain ⟨h', tk, v, ρ', σ', rfl, S', F', M, r, q⟩ := p
    cases v <;> first | exact False.elim q | skip
    obtain ⟨t, rfl⟩ := r.int_inv
    exact k _ h' tk _ ρ' σ' S' F' M (.int _ t) q
theorem ex_slice {value : Expr} {lo hi st : Option Expr} {p pos : Pos} (h : Ex n env value ρ σ (fun a ρ1 σ1 => ExP n env lo ρ1 σ1 (fun l ρ2 σ2 => ExP n env hi ρ2 σ2 (fun u ρ3 σ3 => ExP n env st ρ3 σ3 (fun k ρ4 σ4 => SlJ n env value (.Slice lo hi st p) a l u k ρ4 σ4 Q))))) : Ex n env (.Subscript value (.Slice lo hi st p) pos) ρ σ Q := fun A s hA S F _ => by
  refine Subscript_ (wpAny_mono (h A s hA S F trivial) (fun w s1 p1 => wpAny_Slice ?_) fun _ _ x => x)
  obtain ⟨h1, tk1, a, ρ1, σ1, rfl, S1, F1, M1, r1, q1⟩ := p1
  refine exp_part q1 (s := { s with heap := h1, toks := tk1 }) hA S1 F1 fun vl h2 tk2 l ρ2 σ2 S2 F2 M2 pl q2 => ?_
  refine exp_part q2 (s := { s with heap := h2, toks := tk2 }) hA S2 F2 fun vu h3 tk3 u ρ3 σ3 S3 F3 M3 pu q3 => ?_
  refine exp_part q3 (s := { s with heap := h3, toks := tk3 }) hA S3 F3 fun vk h4 tk4 k ρ4 σ4 S4 F4 M4 pk q4 => ?_
  have r4 := ((r1.step S1 F1 M2).step S2 F2 M3).step S3 F3 M4
  have M := ((M1.trans M2).trans M3).trans M4
  have kp := push_keeps (h := h4) { cls := .type "slice", data := .fields #[vl, vu, vk] }
  have M5 : Fm env σ4 h4 (h4.push { cls := .type "slice", data := .fields #[vl, vu, vk] }) σ4 := .ext kp
  exact wpAny_mono (q4 A { s with heap := _, toks := tk4 } w _ vl vu vk hA (S4.ext kp) (F4.ext' kp) (r4.keep fun b o e _ => kp b o e) (Heap.IsSliceOf.new ..) pl pu pk) (fun _ _ z => z.trans (M.trans M5)) fun _ _ z => z

theorem sl_str {value slice : Expr} {x : Str} {l u : Option Int} (hx : x.length ≤ sizeLine) (q : Q (.str (Txt.slice x l u)) ρ σ) (hs : ∀ o i, ∃ ops, subscripted slice false o i = operate ops (getItem o i) := by intro o i; exact ⟨_, by with_unfolding_all rfl⟩) : SlJ n env value slice (.str x) l u none ρ σ Q := fun A s w sl vl vu vk hA S F r hsl pl pu pk => by
  obtain ⟨t, rfl⟩ := VRep.str_inv r
  obtain ⟨ops, ho⟩ := hs (.str x t) (.ref sl)
  cases pk
  have mk : ∀ {v : Value} {i : Option Int}, IsPart v i → ∃ p : Option (Int × Tok), partValue p = v ∧ p.map (·.1) = i := fun z => by
    cases z with
    | none => exact ⟨none, rfl, rfl⟩
    | int i t => exact ⟨some (i, t), rfl, rfl⟩
  obtain ⟨pl', rfl, el⟩ := mk pl
  obtain ⟨pu', rfl, eu⟩ := mk pu
  refine tail_any (T := "str") (typeIs_str s x t) PySem.F.slot_str_getitem.lookup (wpAny_getItem_str_slice (l := pl') (u := pu') (st := none) hsl rfl ?_) ho
  refine post_val_or_str ⟨?_, fun t' k => ?_⟩
  · show (Txt.slice x (pl'.map (·.1)) (pu'.map (·.1))).length ≤ sizeLine
    exact Nat.le_trans (Txt.slice_le x _ _) hx
  · show Post env σ s VRep Q (.str (Txt.slice x (pl'.map (·.1)) (pu'.map (·.1))) t') { s with toks := k }
    rw [el, eu]; exact Post.stay (tk := k) S F (.str _ _) q
end
end
section
open PySem PySem.W PyProof.Rows PySem.Calls
noncomputable def getK (l : List (Str × V)) (k : Str) : Option V := (l.find? fun kv => kv.1 = k).map (·.2)
noncomputable def setK (l : List (Str × V)) (k : Str) (v : V) : List (Str × V) :=
  if l.any (fun kv => kv.1 = k) then l.map (fun kv => if kv.1 = k then (kv.1, v) else kv) else l ++ [(k, v)]
theorem KRep.length {h : Heap} {kvs : List (Str × Value)} {l : List (Str × V)} (r : KRep h kvs l) : kvs.length = l.length := by
  induction l generalizing kvs with
  | nil => cases r; rfl
  | cons p l ih => cases r with | cons hv hs => simp [ih hs]
theorem KRep.get {h : Heap} {kvs : List (Str × Value)} {l : List (Str × V)} (r : KRep h kvs l) (k : Str) :
    (∀ v, getK l k = some v → ∃ u, valueAt kvs k = some u ∧ VRep h u v) ∧ (getK l k = none → valueAt kvs k = none) := by
  induction l generalizing kvs with
  | nil => cases r; exact ⟨fun v e => by simp [getK] at e, fun _ => rfl⟩
  | cons p l ih =>
    cases r with
    | @cons k' u v kvs l hv hs =>
      unfold getK valueAt
      simp only [List.find?_cons]
      by_cases hk : k' = k
      · subst hk; simp only [decide_true, Option.map_some]; exact ⟨fun w e => by cases e; exact ⟨_, rfl, hv⟩, fun e => by cases e⟩
      · simp only [hk, decide_false]; exact ih hs
theorem KRep.any {h : Heap} {kvs : List (Str × Value)} {l : List (Str × V)} (r : KRep h kvs l) (k : Str) : kvs.any (fun kv => kv.1 = k) = l.any (fun kv => kv.1 = k) := by
  induction l generalizing kvs with
  | nil => cases r; rfl
  | cons p l ih => cases r with | cons hv hs => simp only [List.any_cons, ih hs]
theorem KRep.mapset {h : Heap} {kvs : List (Str × Value)} {l : List (Str × V)} (r : KRep h kvs l) (k : Str) {u : Value} {v : V} (q : VRep h u v) :
    KRep h (kvs.map fun kv => if kv.1 = k then (kv.1, u) else kv) (l.map fun kv => if kv.1 = k then (kv.1, v) else kv) := by
  induction l generalizing kvs with
  | nil => cases r; exact .nil
  | cons p l ih =>
    cases r with
    | @cons k' u' v' kvs l hv hs =>
      simp only [List.map_cons]
      by_cases hk : k' = k
      · simp only [hk, if_true]; exact .cons q (ih hs)
      · simp only [hk, if_false]; exact .cons hv (ih hs)
theorem KRep.snoc {h : Heap} {kvs : List (Str × Value)} {l : List (Str × V)} (r : KRep h kvs l) (k : Str) {u : Value} {v : V} (q : VRep h u v) : KRep h (kvs ++ [(k, u)]) (l ++ [(k, v)]) := by
  induction l generalizing kvs with
  | nil => cases r; exact .cons q .nil
  | cons p l ih => cases r with | cons hv hs => exact .cons hv (ih hs)
theorem KRep.stored {h : Heap} {kvs : List (Str × Value)} {l : List (Str × V)} (r : KRep h kvs l) (k : Str) {u : Value} {v : V} (q : VRep h u v) : KRep h (PySem.stored kvs k u) (setK l k v) := by
  unfold PySem.stored setK
  rw [r.any k]
  split
  · exact r.mapset k q
  · exact r.snoc k q

theorem dict_obj {prog : Program} {h : Heap} {a : Addr} {kvs : List (Str × Value)} (d : h.DictOf (strKind prog w) a kvs) : ∃ es ep, h.get? a = some { cls := .type "dict", data := .dict es ep } ∧ KeysOf (strKind prog w) es ∧ Pairs (strKind prog w) es.toList kvs := by
  obtain ⟨⟨oc, od, odt, os⟩, es, ep, ho, ⟨hc, hd, hs⟩, hdt, hk, hp, _⟩ := d
  cases hc; cases hd; cases hs; cases hdt
  exact ⟨es, ep, ho, hk, hp⟩
set_option tactic.hygienic true
theorem find_isStr {prog : Program} {es : List DictEntry} {kvs : List (Str × Value)} (hp : Pairs (strKind prog w) es kvs) (k : Str) : (es.find? fun e => e.key.isStr k).map (·.val) = valueAt kvs k := by
  rw [← hp.find k]
  have : (fun e : DictEntry => (strKind prog w).is k e.key) = fun e => e.key.isStr k := funext fun e => (isStr_of k e.key).symm
  rw [this]
set_option tactic.hygienic false
theorem no_refKey {prog : Program} {es : Array DictEntry} (hk : KeysOf (strKind prog w) es) : es.toList.any (fun x => x.refKey) = false := by
  rw [List.any_eq_false]
  intro e he
  obtain ⟨k, h1, _⟩ := hk e (Array.mem_toList_iff.mp he)
  obtain ⟨t, h2⟩ := Value.isStrOf_shape h1
  unfold DictEntry.refKey
  rw [h2]; simp
theorem look_dict {prog : Program} {es : Array DictEntry} {ep : Nat} {kvs : List (Str × Value)} (hk : KeysOf (strKind prog w) es) (hp : Pairs (strKind prog w) es.toList kvs) (k : Str) : lookIn k { cls := .type "dict", data := .dict es ep } = some (valueAt kvs k) := by
  have e := find_isStr hp k
  unfold lookIn
  dsimp only
  cases z : List.find? (fun x => x.key.isStr k) es.toList with
  | some en => rw [z] at e; dsimp only; rw [← e]; rfl
  | none => rw [z] at e; dsimp only; rw [no_refKey hk, ← e]; rfl

structure ClsOk (C : Addr) : Prop where
  get : plainGet c.K C "x" = true
  dict : hasDictIn c.K C = true
  set : findIn c.K (.ref C) "__setattr__" = some (some (.builtin "object.__setattr__"))
  over : plainOver c.K C = true
noncomputable def NoAttr (C : Addr) (x : Str) : Prop := findIn c.K (.ref C) x = some none

theorem handed_of {h : Heap} {u : Value} {v : V} (r : VRep h u v) (hg : ∀ w, v ≠ .glob w) : handedIn u = true := by cases r <;> first | rfl | exact absurd rfl (hg _)

section
variable {n : Nat} {env : Env} {ρ : Loc} {σ : AH} {Q : V → Loc → AH → Prop}

theorem ex_attr {value : Expr} {attr : Str} {pos : Pos} (h : Ex n env value ρ σ (UnK n env (fun o => getAttr o attr true) Q))
    (he : eval (.Attribute value attr pos) env = (do
      let o ← eval value env
      PySem.standAt pos.atName
      let r ← PySem.holding [o] (getAttr o attr true)
      letTemporaryGo value o r
      Pure.pure r) := by with_unfolding_all rfl) : Ex n env (.Attribute value attr pos) ρ σ Q := fun A s hA S F _ => by
  refine Attribute_any_ (wpAny_mono (h A s hA S F trivial) (fun u s1 p => ?_) fun _ _ x => x) he
  obtain ⟨h1, tk1, a, ρ1, σ1, rfl, S1, F1, M1, r1, q1⟩ := p
  exact (q1 u).go (s := s) hA M1 S1 F1 r1

theorem op_attr {C d : Addr} {attr : Str} {l : List (Str × V)} {v : V} (co : ClsOk C) (na : NoAttr C attr) (hd : σ d = some (.dict l)) (hv : getK l attr = some v) (hg : ∀ w, v ≠ .glob w) (q : Q v ρ σ) : Op1 n env (fun o => getAttr o attr true) (.inst C d) ρ σ Q := fun u A s hA S F r => by
  obtain ⟨x, rfl, hx⟩ := VRep.inst_inv r
  have o := S.objs _ _ hd
  cases o with
  | dict ho hs =>
    obtain ⟨es, ep, hob, hk, hp⟩ := dict_obj ho
    obtain ⟨w, hw, rw_⟩ := (hs.get attr).1 v hv
    have I : InstAt s.heap x (instObj C d) C (some { cls := .type "dict", data := .dict es ep }) := ⟨hx, rfl, rfl, hob⟩
    refine get_value (S.inK) I (plainGet_of co.get).1 (findObj_own (attr := none) co.dict na rfl (by rw [look_dict hk hp, hw])) (handed_of rw_ hg) ?_
    exact Post.stay (tk := s.toks + 1) S F rw_ q
end

set_option tactic.hygienic true
theorem nsSet_dict {prog : Program} {A : Around} {E : Value → Shared → Prop} {s : Shared} {d : Addr} {kvs : List (Str × Value)} {name : Str} {v : Value} {Q : Unit → Shared → Prop} (hm : s.heap.DictOf (strKind prog w) d kvs)
    (hQ : ∀ h', h'.DictOf (strKind prog w) d (stored kvs name v) → Heap.SameBut d s.heap h' → Q () { s with heap := h', toks := s.toks + 1 }) : wpAny (model prog w) A (nsSet d name v) Q E s := by
  obtain ⟨⟨oc, od, odt, os⟩, es, ep, ho, ⟨hc, hd, hs⟩, hdt, hk, hp, hn⟩ := hm
  cases hc; cases hd; cases hs; cases hdt
  unfold nsSet
  refine wpAny_bind (wpAny_bind (wpAny_askSetting (wpAny_pure (wpAny_bind (wpAny_mkText (wpAny_bind (wpAny_loadPart ho ?_)))))))
  dsimp only
  have c : aRefKeyMayBeTheName name es = false := by
    rw [aRefKeyMayBeTheName_at, ← Array.any_toList, ← Array.any_toList, no_refKey hk, Bool.and_false]
  rw [c]
  have key : (PySem.strKind prog w).is name (.str name s.toks) = true := by show (name == name) = true; simp
  have idx : (es.findIdx? fun e => e.key.isStr name) = kvs.findIdx? fun kv => decide (kv.1 = name) := by
    rw [← hp.findIdx name]
    have : (fun e : DictEntry => (strKind prog w).is name e.key) = fun e => e.key.isStr name := funext fun e => (isStr_of name e.key).symm
    rw [this]; obtain ⟨l⟩ := es; simp
  refine wpAny_updatePart ho ?_
  refine hQ _ ?_ (Heap.SameBut.update ..)
  rw [Obj.putName_eq]
  cases hi : es.findIdx? fun e => e.key.isStr name with
  | some i =>
    have hl : (es.toList.findIdx? fun e => (strKind prog w).is name e.key) = some i := by
      rw [hp.findIdx name, ← idx, hi]
    have e1 : Obj.putNameByArray name (hashStr w name) (.str name s.toks) v { cls := .type "dict", dict := none, data := .dict es ep, slots := #[] } = { cls := .type "dict", dict := none, data := .dict (es.modify i fun e => { e with val := v }) ep, slots := #[] } := by
      unfold Obj.putNameByArray; dsimp only; rw [hi]
    have hget := Heap.get?_update_self (Obj.putNameByArray name (hashStr w name) (.str name s.toks) v) ho (by rw [e1]; rfl)
    rw [e1] at hget
    refine ⟨_, _, ep, hget, ⟨rfl, rfl, rfl⟩, rfl, hk.modify _ _, ?_, ?_⟩
    · rw [stored, if_pos (any_of_findIdx_some (idx ▸ hi))]
      have := hp.modify hn hl v
      obtain ⟨l⟩ := es
      simpa using this
    · rw [stored, if_pos (any_of_findIdx_some (idx ▸ hi)), keys_map_store]; exact hn
  | none =>
    have hnot : name ∉ kvs.map (·.1) := not_mem_of_findIdx_none (idx ▸ hi)
    have hany : ¬ (kvs.any fun kv => decide (kv.1 = name)) = true := by
      rw [List.any_eq_true]; rintro ⟨kv, hkv, he⟩
      exact hnot (List.mem_map.mpr ⟨kv, hkv, of_decide_eq_true he⟩)
    have e1 : Obj.putNameByArray name (hashStr w name) (.str name s.toks) v { cls := .type "dict", dict := none, data := .dict es ep, slots := #[] } = { cls := .type "dict", dict := none, data := .dict (es.push ⟨hashStr w name, .str name s.toks, v⟩) (ep + 1), slots := #[] } := by
      unfold Obj.putNameByArray; dsimp only; rw [hi]
    have hget := Heap.get?_update_self (Obj.putNameByArray name (hashStr w name) (.str name s.toks) v) ho (by rw [e1]; rfl)
    rw [e1] at hget
    refine ⟨_, _, ep + 1, hget, ⟨rfl, rfl, rfl⟩, rfl, hk.push key _, ?_, ?_⟩
    · rw [stored, if_neg hany]
      have := hp.append key (hashStr w name) v
      obtain ⟨l⟩ := es
      simpa using this
    · rw [stored, if_neg hany, List.map_append, List.nodup_append]
      refine ⟨hn, by simp, ?_⟩
      intro a ha b hb
      simp only [List.map_cons, List.map_nil, List.mem_singleton] at hb
      subst hb
      exact fun e => hnot (e ▸ ha)

section
variable {n : Nat} {env : Env} {ρ : Loc} {σ : AH}
set_option tactic.hygienic false
theorem st_attr {C d : Addr} {attr : Str} {l : List (Str × V)} {v : V} {Q : Unit → Loc → AH → Prop} (co : ClsOk C) (na : NoAttr C attr) (hd : σ d = some (.dict l)) (hl : l.length ≤ 1000) (q : Q () ρ (σ.put d (.dict (setK l attr v)))) :
    ∀ u w, Tr n env ρ σ ((HP.v u (.inst C d)).and (HP.v w v)) (setAttr u attr w) Same Q := fun u w A s hA S F r => by
  obtain ⟨r1, r2⟩ := r
  obtain ⟨x, rfl, hx⟩ := VRep.inst_inv r1
  have o := S.objs _ _ hd
  have X0 := S.inK
  cases o with
  | @dict kvs _ ho hs =>
    obtain ⟨es, ep, hob, hk, hp⟩ := dict_obj ho
    have I : InstAt s.heap x (instObj C d) C (some { cls := .type "dict", data := .dict es ep }) := ⟨hx, rfl, rfl, hob⟩
    refine set_plain X0 I co.set ?_
    obtain ⟨cd, hc, hd'⟩ := any_some co.dict
    refine osa_open (s := { s with toks := s.toks + 1 }) (r := none) X0 I co.over (by unfold takerIn; rw [na]; rfl) fun b => ?_
    have Lk : Looks (model c.prog c.w) ({ s with toks := s.toks + 1 } : Shared).heap (classData C) cd := looks_clsIn X0 hc
    refine wpAny_bind (wpAny_pure (wpAny_bind (wpAny_bind (wpAny_loadPart hx (wpAny_bind (Lk.here (s := { s with toks := s.toks + 1 }) ?_))))))
    rw [hd']
    refine wpAny_pure (a := some d) (wpAny_bind (wpAny_pure (wpAny_bind (nsSet_dict (s := { s with toks := s.toks + 1 }) ho fun h' ho' sb => ?_))))
    obtain ⟨es', ep', hob', hk', hp'⟩ := dict_obj ho'
    have hz : es'.size ≤ sizeLine + 1 := by
      have e1 := hp'.length
      have e2 : (stored kvs attr w).length ≤ kvs.length + 1 := by unfold stored; split <;> simp
      have e3 := hs.length
      rw [Array.length_toList] at e1
      rw [sizeLine_eq]; exact lin4 (.e (.v 0) (.v 1) (.e (.v 2) (.v 3) (.l (.v 3) (.a (.v 0) (.k 1)) (.l (.v 1) (.k 1000) (.g (.v 2) (.a (.k 16777216) (.k 1))))))) rfl e3 e1 e2 hl
    refine wpAny_bind (wpAny_lookBehind hob' (pastItsLine_dict hz) (wpAny_pure ?_))
    refine Post.upd (s := s) S F hd sb (.dict ho' ?_) rfl q
    exact (hs.stored attr r2).keep (sameBut_loose (S.objs _ _ hd) sb)
end
end
section
open PySem PySem.W PyProof.Rows PySem.Calls
noncomputable def Keeps (f : Value) : Prop := ∀ h : Heap, c.K.In h → ∃ k, (k = Keeper.frame ∨ k = Keeper.machine ∨ k = Keeper.boundFrame) ∧ Looks (model c.prog c.w) h (keeperOf f) k
theorem keeps_ref {a : Addr} (h : keepIn c.K (.ref a) = true) : Keeps (.ref a) := keeps_K h
theorem keeps_builtin {i : String} : Keeps (.builtin i) := fun h _ => ⟨.machine, .inr (.inl rfl), Looks.of_pure rfl⟩
theorem keeps_type {i : String} : Keeps (.type i) := fun h _ => ⟨.machine, .inr (.inl rfl), Looks.of_pure rfl⟩

theorem evalArgs_any {M : Model} {A : Around} {E : Value → Shared → Prop} {s : Shared} {f : Value} {args : List (Bool × Sem Value)} {Q : Args → Shared → Prop} (hp : args.any (·.1) = false) (h : wpAny M A (spliced args) (fun vs s' => Q ⟨vs, []⟩ s') E s) : wpAny M A (evalArgs f true args []) Q E s := by
  cases args with
  | nil =>
    unfold evalArgs
    show wpAny M A (spliced [] >>= _) Q E s
    refine wpAny_bind (wpAny_mono h (fun vs s' h' => ?_) fun _ _ x => x)
    refine wpAny_bind (wpAny_pure ?_)
    refine wpAny_holding ?_
    exact wpAny_bind (wpAny_pure (wpAny_bind (wpAny_pure (wpAny_pure h'))))
  | cons x r =>
    obtain ⟨b, x⟩ := x
    simp only [List.any_cons, Bool.or_eq_false_iff] at hp
    cases hp.1
    exact evalArgs_plain h

noncomputable def GetM (n : Nat) (env : Env) (name : Str) (a : V) (f : Value) (ρ : Loc) (σ : AH) : Prop :=
  ∀ (A : Around) (s : Shared) (pl : Sem Bool) (u : Value) (Q : Value × List Value → Shared → Prop) (E : Value → Shared → Prop), Room A n → St s.heap σ → VRep s.heap u a → (∀ tk, Q (f, [u]) { s with toks := tk }) → wpAny (model c.prog c.w) A (getMethod u name pl) Q E s

section
variable (n : Nat) (env : Env)
abbrev CallK (f : Value) (Q : V → Loc → AH → Prop) : List V → Loc → AH → Prop := fun vs ρ σ => CallJ n env f vs ρ σ Q
abbrev CallM (f : Value) (a : V) (Q : V → Loc → AH → Prop) : List V → Loc → AH → Prop := fun vs ρ σ => CallJ n env f (a :: vs) ρ σ Q
abbrev FunK (args : List Expr) (Q : V → Loc → AH → Prop) : V → Loc → AH → Prop := fun a ρ σ => ∃ f, a = .glob f ∧ Keeps f ∧ Exs n env args ρ σ (CallK n env f Q)
abbrev MethK (name : Str) (args : List Expr) (Q : V → Loc → AH → Prop) : V → Loc → AH → Prop := fun a ρ σ => ∃ f, GetM n env name a f ρ σ ∧ Keeps f ∧ Exs n env args ρ σ (CallM n env f a Q)
end

section
variable {n : Nat} {env : Env} {ρ : Loc} {σ : AH} {Q : V → Loc → AH → Prop}

theorem callWith_go {pos : Pos} {f : Value} {first : List Value} {fv : List V} {args : List Expr} (kf : Keeps f) (hp : args.all plainE = true)
    (h : Exs n env args ρ σ (fun vs ρ2 σ2 => CallJ n env f (fv ++ vs) ρ2 σ2 Q)) : Tr n env ρ σ (HP.vs first fv) (callWith pos f first (backTo pos (starEach args env)) []) VRep Q := fun A s hA S F r => by
  have hp := plain_any hp pos env
  refine callWith_of (P := c.K.In) (by rw [hp]; rfl) kf (evalArgs_any hp (wpAny_mono (h pos A s hA S F trivial) (fun us s1 p => ?_) fun _ _ x => x))
  obtain ⟨h1, tk1, vs, ρ1, σ1, rfl, S1, F1, M1, r1, q1⟩ := p
  exact ⟨S1.inK, (q1 _).go (s := s) hA M1 S1 F1 ((r.step S F M1).append r1)⟩

theorem ex_call {func : Expr} {args : List Expr} {pos : Pos}
    (h : Ex n env func ρ σ (FunK n env args Q))
    (he : autoParam (eval (.Call func args [] pos) env = (do callWith pos (← eval func env) [] (backTo pos (starEach args env)) (backToKw pos (keywordEach [] env)))) aRfl)
    (hp : autoParam (args.all plainE = true) aRfl) : Ex n env (.Call func args [] pos) ρ σ Q := fun A s hA S F _ => by
  rw [he]
  refine wpAny_bind (wpAny_mono (h A s hA S F trivial) (fun u s1 p => ?_) fun _ _ x => x)
  obtain ⟨h1, tk1, a, ρ1, σ1, rfl, S1, F1, M1, r1, f, rfl, kf, q1⟩ := p
  obtain rfl := r1.glob_inv
  exact (callWith_go (fv := []) kf hp q1).go (s := s) hA M1 S1 F1 .nil

theorem ex_meth {o : Expr} {name : Str} {args : List Expr} {apos pos : Pos}
    (h : Ex n env o ρ σ (MethK n env name args Q))
    (hb : attributeBase o name env (eval o env) = eval o env := by with_unfolding_all rfl)
    (hform : autoParam (methodCallForm (args.length + ([] : List Keyword).length) (backTo pos (starEach args env)) (backToKw pos (keywordEach [] env)) = true) aRfl) (hl : autoParam ((apos.endLine == pos.line) = true) aRfl)
    (hp : autoParam (args.all plainE = true) aRfl) : Ex n env (.Call (.Attribute o name apos) args [] pos) ρ σ Q := fun A s hA S F _ => by
  rw [arm_eval_Call, hb]
  refine wpAny_bind (wpAny_mono (h A s hA S F trivial) (fun u s1 p => ?_) fun _ _ x => x)
  obtain ⟨h1, tk1, a, ρ1, σ1, rfl, S1, F1, M1, r1, f, gm, kf, q1⟩ := p
  have hpos : methodCallPos true o env apos pos = Pure.pure pos := by unfold methodCallPos; simp [hl]
  refine wpAny_bind (wpAny_standAt ?_)
  unfold methodCall
  rw [hform]
  refine wpAny_bind (wpAny_holding (gm A _ _ u _ _ hA S1 r1 fun tk => ?_))
  refine wpAny_bind (wpAny_of_eq hpos ?_)
  exact (callWith_go (fv := [a]) kf hp q1).go (s := s) hA M1 S1 F1 (.cons r1 .nil)

theorem gm_inst {C d : Addr} {name : Str} {f : Addr} {l : List (Str × V)} (co : ClsOk C) (hf : findIn c.K (.ref C) name = some (some (.ref f))) (ht : isFn c.K (.ref f) = true) (hd : σ d = some (.dict l)) (hn : getK l name = none) : GetM n env name (.inst C d) (.ref f) ρ σ := fun A s pl u Q E hA S r q => by
  obtain ⟨x, rfl, hx⟩ := VRep.inst_inv r
  have o := S.objs _ _ hd
  cases o with
  | dict ho hs =>
    obtain ⟨es, ep, hob, hk, hp⟩ := dict_obj ho
    have I : InstAt s.heap x (instObj C d) C (some { cls := .type "dict", data := .dict es ep }) := ⟨hx, rfl, rfl, hob⟩
    refine method_fn (S.inK) I (plainGet_of co.get).1 (plainGet_of co.get).2 hf (beq_iff_eq.mp ht) ?_ (q s.toks)
    show (lookIn name _).map _ = _
    rw [look_dict hk hp, (hs.get name).2 hn]; rfl
theorem gm_list {a : Addr} {l : List V} {name : Str} {id : String} (slot : Slot "list" name id) (ty : typeOf (.builtin id) = pure (.type "method_descriptor")) (ha : σ a = some (.list l)) : GetM n env name (.lst a) (.builtin id) ρ σ := fun A s pl u Q E hA S r q => by
  obtain rfl := VRep.lst_inv r
  have o := S.objs _ _ ha
  cases o with
  | list ho hs => exact getMethod_builtin (T := "list") ⟨_, ho, rfl⟩ PySem.F.plainAttrs_list slot ty (fun b e => by cases e; exact ⟨_, ho, rfl⟩) (q s.toks)
theorem gm_dict {a : Addr} {l : List (Str × V)} {name : Str} {id : String} (slot : Slot "dict" name id) (ty : typeOf (.builtin id) = pure (.type "method_descriptor")) (ha : σ a = some (.dict l)) : GetM n env name (.dct a) (.builtin id) ρ σ := fun A s pl u Q E hA S r q => by
  obtain rfl := VRep.dct_inv r
  have o := S.objs _ _ ha
  cases o with
  | dict ho hs =>
    obtain ⟨es, ep, hob, hk, hp⟩ := dict_obj ho
    exact getMethod_builtin (T := "dict") ⟨_, hob, rfl⟩ PySem.F.plainAttrs_dict slot ty (fun b e => by cases e; exact ⟨_, hob, rfl⟩) (q s.toks)
theorem gm_str {x : Str} {name : Str} {id : String} (slot : Slot "str" name id) (ty : typeOf (.builtin id) = pure (.type "method_descriptor")) : GetM n env name (.str x) (.builtin id) ρ σ := fun A s pl u Q E hA S r q => by
  obtain ⟨t, rfl⟩ := VRep.str_inv r
  exact getMethod_builtin (T := "str") (typeIs_str _ _ _) PySem.F.plainAttrs_str slot ty (fun b e => by cases e) (q s.toks)

theorem vs_one {h : Heap} {us : List Value} {a : V} (r : VsRep h us [a]) : ∃ u, us = [u] ∧ VRep h u a := by cases r with | cons hv hs => cases hs; exact ⟨_, rfl, hv⟩
theorem vs_two {h : Heap} {us : List Value} {a b : V} (r : VsRep h us [a, b]) : ∃ u v, us = [u, v] ∧ VRep h u a ∧ VRep h v b := by cases r with | cons hv hs => obtain ⟨v, rfl, r⟩ := vs_one hs; exact ⟨_, _, rfl, hv, r⟩
theorem vs_three {h : Heap} {us : List Value} {a b d : V} (r : VsRep h us [a, b, d]) : ∃ u v w, us = [u, v, w] ∧ VRep h u a ∧ VRep h v b ∧ VRep h w d := by cases r with | cons hv hs => obtain ⟨v, w, rfl, r, r'⟩ := vs_two hs; exact ⟨_, _, _, rfl, hv, r, r'⟩

theorem call_append {a : Addr} {l : List V} {v : V} (ha : σ a = some (.list l)) (hl : l.length ≤ 1000000) (q : Q .none ρ (σ.put a (.list (l ++ [v])))) : CallJ n env (.builtin "list.append") [.lst a, v] ρ σ Q := fun us A s hA S F r => by
  obtain ⟨u, w, rfl, r1, r2⟩ := vs_two r
  obtain rfl := VRep.lst_inv r1
  have o := S.objs _ _ ha
  cases o with
  | @list vs m _ ho hs =>
    have el : vs.size ≤ sizeLine := by have := hs.length; rw [Array.length_toList] at this; rw [sizeLine_eq]; omega
    refine call_meets PySem.F.slot_list_append (T := "list") ⟨_, ho, rfl⟩ PySem.F.entry_list_append (PySem.F.args_list_append_2 _ _) (list_append a vs m w el) ⟨ho, ?_⟩
    refine Post.upd (s := s) (tk := s.toks) S F ha (Heap.SameBut.update ..) (.list (ho.update _) ?_) .none q
    have k := sameBut_loose (S.objs _ _ ha) (Heap.SameBut.update s.heap a (Obj.mapSeq fun x => x.push w))
    simpa using (hs.keep k).snoc (r2.keep k)
theorem call_pop {a : Addr} {l : List V} {v : V} (ha : σ a = some (.list (l ++ [v]))) (hl : l.length ≤ 1000000) (q : Q v ρ (σ.put a (.list l))) : CallJ n env (.builtin "list.pop") [.lst a] ρ σ Q := fun us A s hA S F r => by
  obtain ⟨u, rfl, r1⟩ := vs_one r
  obtain rfl := VRep.lst_inv r1
  have o := S.objs _ _ ha
  cases o with
  | @list vs m _ ho hs =>
    have e0 := hs.length
    rw [Array.length_toList] at e0
    simp only [List.length_append, List.length_cons, List.length_nil] at e0
    have el : vs.size ≤ sizeLine := by rw [sizeLine_eq]; exact lin2 (.e (.v 0) (.a (.v 1) (.a (.k 0) (.k 1))) (.l (.v 1) (.k 1000000) (.g (.v 0) (.k 16777216)))) rfl e0 hl
    obtain ⟨y, hy, ry⟩ := hs.get (i := l.length) (v := v) (by simp)
    have hy' : vs[vs.size - 1]? = some y := by rw [e0]; simpa using hy
    refine call_meets PySem.F.slot_list_pop (T := "list") ⟨_, ho, rfl⟩ PySem.F.entry_list_pop (PySem.F.args_list_pop_1 _) (MeetsSeq.list_pop_last a vs m y hy' el) ⟨ho, ?_⟩
    have k := sameBut_loose (S.objs _ _ ha) (Heap.SameBut.update s.heap a (Obj.mapSeq fun xs => xs.eraseIdxIfInBounds (vs.size - 1)))
    refine Post.upd (s := s) (tk := s.toks) S F ha (Heap.SameBut.update ..) (.list (ho.update _) ?_) (ry.keep k) q
    have h2 := (hs.keep k).take l.length
    rw [List.take_left] at h2
    obtain ⟨vl⟩ := vs
    simp only [List.size_toArray] at e0
    have : (vl.toArray.eraseIdxIfInBounds (vl.toArray.size - 1)).toList = vl.take l.length := by
      simp only [List.size_toArray, e0, Nat.add_sub_cancel, List.eraseIdxIfInBounds_toArray]
      rw [List.eraseIdx_eq_take_drop_succ, List.drop_eq_nil_of_le (by exact lin2 (.e (.v 0) (.a (.v 1) (.a (.k 0) (.k 1))) (.g (.v 0) (.a (.v 1) (.k 1)))) rfl e0), List.append_nil]
    rw [this]; exact h2
theorem call_reverse {a : Addr} {l : List V} (ha : σ a = some (.list l)) (hl : l.length ≤ 1000000) (q : Q .none ρ (σ.put a (.list l.reverse))) : CallJ n env (.builtin "list.reverse") [.lst a] ρ σ Q := fun us A s hA S F r => by
  obtain ⟨u, rfl, r1⟩ := vs_one r
  obtain rfl := VRep.lst_inv r1
  have o := S.objs _ _ ha
  cases o with
  | @list vs m _ ho hs =>
    have el : vs.size ≤ sizeLine := by have := hs.length; rw [Array.length_toList] at this; rw [sizeLine_eq]; exact lin2 (.e (.v 0) (.v 1) (.l (.v 1) (.k 1000000) (.g (.v 0) (.k 16777216)))) rfl this hl
    refine call_meets PySem.F.slot_list_reverse (T := "list") ⟨_, ho, rfl⟩ PySem.F.entry_list_reverse (PySem.F.args_list_reverse_1 _) (AutoSeq1.list_reverse_list_0 a vs m el) ⟨ho, ?_⟩
    refine Post.upd (s := s) (tk := s.toks) S F ha (Heap.SameBut.update ..) (.list (ho.update _) ?_) .none q
    have k := sameBut_loose (S.objs _ _ ha) (Heap.SameBut.update s.heap a (Obj.mapSeq fun x => x.reverse))
    simpa using (hs.keep k).reverse
theorem call_extend {a b : Addr} {l m : List V} (ha : σ a = some (.list l)) (hb : σ b = some (.list m)) (hl : l.length ≤ 100000) (hm : m.length ≤ 100000) (q : Q .none ρ (σ.put a (.list (l ++ m)))) : CallJ n env (.builtin "list.extend") [.lst a, .lst b] ρ σ Q := fun us A s hA S F r => by
  obtain ⟨u, w, rfl, r1, r2⟩ := vs_two r
  obtain rfl := VRep.lst_inv r1; obtain rfl := VRep.lst_inv r2
  have o := S.objs _ _ ha
  have o2 := S.objs _ _ hb
  cases o with
  | @list vs k _ ho hs =>
    cases o2 with
    | @list vs2 k2 _ ho2 hs2 =>
      have e1 := hs.length; have e2 := hs2.length
      rw [Array.length_toList] at e1 e2
      have el : vs.size ≤ sizeLine := by rw [sizeLine_eq]; exact lin2 (.e (.v 0) (.v 1) (.l (.v 1) (.k 100000) (.g (.v 0) (.k 16777216)))) rfl e1 hl
      have el2 : vs.size + vs2.size ≤ sizeLine + 1 := by rw [sizeLine_eq]; exact lin4 (.e (.v 0) (.v 1) (.e (.v 2) (.v 3) (.l (.v 1) (.k 100000) (.l (.v 3) (.k 100000) (.g (.a (.v 0) (.v 2)) (.a (.k 16777216) (.k 1))))))) rfl e1 e2 hl hm
      have door : ¬(!vs.isEmpty && Builtin.List.listTooLong (vs.size + vs2.size)) = true := by
        have : Builtin.List.listTooLong (vs.size + vs2.size) = false := by
          unfold Builtin.List.listTooLong
          have : vs.size + vs2.size ≤ 200000 := by exact lin4 (.e (.v 0) (.v 1) (.e (.v 2) (.v 3) (.l (.v 1) (.k 100000) (.l (.v 3) (.k 100000) (.g (.a (.v 0) (.v 2)) (.k 200000)))))) rfl e1 e2 hl hm
          exact decide_eq_false (by rw [sizeLine_eq]; exact (fun z0 => lin4 (.e (.v 0) (.v 1) (.e (.v 2) (.v 3) (.l (.v 1) (.k 100000) (.l (.v 3) (.k 100000) (.t (.k 16777216) (.a (.v 0) (.v 2)) (.z)))))) rfl e1 e2 hl hm z0))
        rw [this, Bool.and_false]; exact Bool.false_ne_true
      refine call_meets PySem.F.slot_list_extend (T := "list") ⟨_, ho, rfl⟩ PySem.F.entry_list_extend (PySem.F.args_list_extend_2 _ _) (AutoSeq1.list_extend_list_list_0 a vs k b vs2 k2 door el el2) ⟨ho, ho2, ?_⟩
      refine Post.upd (s := s) (tk := s.toks) S F ha (Heap.SameBut.update ..) (.list (ho.update _) ?_) .none q
      have k := sameBut_loose (S.objs _ _ ha) (Heap.SameBut.update s.heap a (Obj.mapSeq fun xs => xs ++ vs2))
      simpa using (hs.keep k).append (hs2.keep k)

theorem call_len_str {x : Str} (hx : x.length ≤ 1000000) (q : Q (.int x.length) ρ σ) : CallJ n env (.builtin "len") [.str x] ρ σ Q := fun us A s hA S F r => by
  obtain ⟨u, rfl, r1⟩ := vs_one r; obtain ⟨t, rfl⟩ := VRep.str_inv r1
  exact P.len_str (by lia -abstractProof) (Post.stay (tk := s.toks + 1 + 1) S F (.int _ _) q)
theorem call_len_lst {a : Addr} {l : List V} (ha : σ a = some (.list l)) (hx : l.length ≤ 1000000) (q : Q (.int l.length) ρ σ) : CallJ n env (.builtin "len") [.lst a] ρ σ Q := fun us A s hA S F r => by
  obtain ⟨u, rfl, r1⟩ := vs_one r; obtain rfl := VRep.lst_inv r1
  have o := S.objs _ _ ha
  cases o with
  | @list vs m _ ho hs =>
    have e1 := hs.length; rw [Array.length_toList] at e1
    exact PySem.Calls.call_len_list ho.isList (by omega) (by rw [e1]; exact Post.stay (tk := s.toks + 1 + 1) S F (.int _ _) q)
theorem call_len_tup {l : List V} (hx : l.length ≤ 1000000) (q : Q (.int l.length) ρ σ) : CallJ n env (.builtin "len") [.tup l] ρ σ Q := fun us A s hA S F r => by
  obtain ⟨u, rfl, r1⟩ := vs_one r; obtain ⟨a, vs, m, rfl, ht, hs⟩ := VRep.tup_inv r1
  have e1 := hs.length; rw [Array.length_toList] at e1
  exact P.len_tuple ht (by lia -abstractProof) (by rw [e1]; exact Post.stay (tk := s.toks + 1 + 1) S F (.int _ _) q)
theorem call_abs {i : Int} (q : Q (.int (if i < 0 then -i else i)) ρ σ) : CallJ n env (.builtin "abs") [.int i] ρ σ Q := fun us A s hA S F r => by
  obtain ⟨u, rfl, r1⟩ := vs_one r; obtain ⟨t, rfl⟩ := VRep.int_inv r1
  exact call_abs_int fun u tk => Post.stay (tk := tk) S F (.int _ _) q
theorem call_int {i : Int} (q : Q (.int i) ρ σ) : CallJ n env (.type "int") [.int i] ρ σ Q := fun us A s hA S F r => by
  obtain ⟨u, rfl, r1⟩ := vs_one r; obtain ⟨t, rfl⟩ := VRep.int_inv r1
  exact call_int_int (Post.stay (tk := s.toks) S F (.int _ _) q)
theorem call_range1 {i : Int} (q : Q (.rng 0 i) ρ σ) : CallJ n env (.type "range") [.int i] ρ σ Q := fun us A s hA S F r => by
  obtain ⟨u, rfl, r1⟩ := vs_one r; obtain ⟨t, rfl⟩ := VRep.int_inv r1
  exact call_range_1 (Post.extend (tk := s.toks + 1 + 1) S F (push_keeps _) (push_size _) (.rng (Heap.get?_push_size _ rfl)) q)
theorem call_range2 {i j : Int} (q : Q (.rng i j) ρ σ) : CallJ n env (.type "range") [.int i, .int j] ρ σ Q := fun us A s hA S F r => by
  obtain ⟨u, v, rfl, r1, r2⟩ := vs_two r; obtain ⟨t, rfl⟩ := VRep.int_inv r1; obtain ⟨t', rfl⟩ := VRep.int_inv r2
  exact call_range_2 (Post.extend (tk := s.toks + 1) S F (push_keeps _) (push_size _) (.rng (Heap.get?_push_size _ rfl)) q)
end
end
section
open PySem PySem.W PyProof.Rows PySem.Calls
inductive Fl where | next | brk | cont | ret (v : V)
inductive FRep (h : Heap) : Flow → Fl → Prop
  | next : FRep h .next .next
  | brk : FRep h .brk .brk
  | cont : FRep h .cont .cont
  | ret {u : Value} {v : V} (r : VRep h u v) : FRep h (.ret u) (.ret v)

section
variable (n : Nat) (env : Env)
noncomputable def Stm (st : Stmt) (ρ : Loc) (σ : AH) (Q : Fl → Loc → AH → Prop) : Prop := Tr n env ρ σ .top (exec st env) FRep Q
noncomputable def Stms (ss : List Stmt) (ρ : Loc) (σ : AH) (Q : Fl → Loc → AH → Prop) : Prop := Tr n env ρ σ .top (execs ss env) FRep Q
noncomputable def Asg (t : Expr) (v : V) (ρ : Loc) (σ : AH) (Q : Loc → AH → Prop) : Prop := ∀ u, Tr n env ρ σ (HP.v u v) (assign t env u) Same (fun _ => Q)
noncomputable def Sto (x : Str) (v : V) (ρ : Loc) (σ : AH) (Q : Loc → AH → Prop) : Prop := ∀ u, Tr n env ρ σ (HP.v u v) (storeName env x u) Same (fun _ => Q)
set_option tactic.hygienic true
abbrev NextK (rest : List Stmt) (Q : Fl → Loc → AH → Prop) : Fl → Loc → AH → Prop := fun f ρ σ => match f with | .next => Stms n env rest ρ σ Q | f => Q f ρ σ
abbrev NxtK (Q : Fl → Loc → AH → Prop) : Loc → AH → Prop := fun ρ σ => Q .next ρ σ
abbrev ExprK (Q : Fl → Loc → AH → Prop) : V → Loc → AH → Prop := fun _ ρ σ => Q .next ρ σ
set_option tactic.hygienic false
abbrev RetK (Q : Fl → Loc → AH → Prop) : V → Loc → AH → Prop := fun v ρ σ => Q (.ret v) ρ σ
abbrev IfK (b o : List Stmt) (Q : Fl → Loc → AH → Prop) : Bool → Loc → AH → Prop := fun y ρ σ => if y then Stms n env b ρ σ Q else Stms n env o ρ σ Q
abbrev AsgK (t : Expr) (Q : Loc → AH → Prop) : V → Loc → AH → Prop := fun v ρ σ => Asg n env t v ρ σ Q
abbrev StoK (x : Str) (Q : Loc → AH → Prop) : V → Loc → AH → Prop := fun v ρ σ => Sto n env x v ρ σ Q
abbrev SetA (attr : Str) (v : V) (Q : Loc → AH → Prop) : V → Loc → AH → Prop := fun a ρ σ => ∀ u w, Tr n env ρ σ ((HP.v u a).and (HP.v w v)) (setAttr u attr w) Same (fun _ => Q)
abbrev SetR (attr : Str) (a : V) (Q : Loc → AH → Prop) : V → Loc → AH → Prop := fun r ρ σ => ∀ u w, Tr n env ρ σ ((HP.v u a).and (HP.v w r)) (setAttr u attr w) Same (fun _ => Q)
abbrev AugK3 (op : Operator) (attr : Str) (a old : V) (Q : Loc → AH → Prop) : V → Loc → AH → Prop := fun w ρ σ => Op2 n env (inplaceOp op) old w ρ σ (SetR n env attr a Q)
abbrev AugK2 (op : Operator) (value : Expr) (attr : Str) (a : V) (Q : Loc → AH → Prop) : V → Loc → AH → Prop := fun old ρ σ => Ex n env value ρ σ (AugK3 n env op attr a old Q)
abbrev AugK1 (op : Operator) (value : Expr) (attr : Str) (Q : Loc → AH → Prop) : V → Loc → AH → Prop := fun a ρ σ => Op1 n env (fun y => getAttr y attr true) a ρ σ (AugK2 n env op value attr a Q)
end

section
variable {env : Env} {σ : AH} {ρ : Loc} {h h' : Heap}
theorem loose_upd {a : Addr} {o : Obj} (ho : h.get? a = some o) (l : Loose o) (k : ∀ b o, b ≠ a → h.get? b = some o → h'.get? b = some o) : ∀ b o, h.get? b = some o → ¬ Loose o → h'.get? b = some o := fun b o' e n => by
  by_cases q : b = a
  · subst q; rw [ho] at e; cases e; exact absurd l n
  · exact k b o' q e
theorem St.other (S : St h σ) {a : Addr} {o : Obj} (ho : h.get? a = some o) (l : Loose o) (hσ : σ a = none) (h0 : c.h0.get? a = none) (k : ∀ b o, b ≠ a → h.get? b = some o → h'.get? b = some o) : St h' σ := by
  refine ⟨fun b o' e => k b o' (fun q => by rw [q, h0] at e; cases e) (S.keep0 b o' e), fun b ao e => ?_, S.new, S.lo, S.base, S.ok⟩
  exact (S.objs b ao e).keep (loose_upd ho l k) fun ob e' => k b ob (fun q => by rw [q, hσ] at e; cases e) e'
set_option tactic.hygienic true
theorem Ns.uniq {a : Addr} {m m' : Str → Option Value} (x : h.Ns a m) (y : h.Ns a m') : m = m' := by
  obtain ⟨o, es, ep, ho, hd, _, hf⟩ := x
  obtain ⟨o', es', ep', ho', hd', _, hf'⟩ := y
  rw [ho] at ho'; cases ho'
  rw [hd] at hd'; cases hd'
  exact funext fun x => (hf x).symm.trans (hf' x)
set_option tactic.hygienic false
theorem Frm.store (S : St h σ) (F : Frm env h σ ρ) {x : Str} {u : Value} {v : V} {m : Str → Option Value} (hx : env.kindOf x = some .local) (hm : h.Ns env.locals m) (hn : h'.Ns env.locals fun y => if y = x then some u else m y) (sb : Heap.SameBut env.locals h h') (r : VRep h u v) :
    Frm env h' σ ((x, v) :: ρ) := by
  have mem : env.locals ∈ frameAddrs env := .head _
  obtain ⟨e1, e2, o, e3, e4⟩ := F.sep _ mem
  have lk := loose_upd e3 e4 fun b o q e => (sb.2 b q).trans e
  have nd0 := F.nodup
  unfold frameAddrs at nd0
  rw [List.nodup_cons] at nd0
  refine ⟨fun y w e => ?_, ⟨_, hn⟩, fun b hb => ?_, F.nodup, fun q hq => IsCell.keep (fun o e => (sb.2 q.2 fun z => nd0.1 (by rw [← z]; exact List.mem_map_of_mem hq)).trans e) (F.cell q hq), F.kind, F.glob⟩
  · rw [List.lookup_cons] at e
    by_cases q : y = x
    · subst q
      simp only [BEq.rfl] at e
      cases e
      exact ⟨u, .inl ⟨hx, _, hn, if_pos rfl⟩, r.keep lk⟩
    · have : (y == x) = false := by simpa using q
      rw [this] at e
      obtain ⟨u', hu, r'⟩ := F.has y w e
      refine ⟨u', ?_, r'.keep lk⟩
      rcases hu with ⟨hl, m', hn', hv⟩ | ⟨hk, a, o', hc, ho, hd⟩
      · exact .inl ⟨hl, _, hn, by rw [if_neg q, Ns.uniq hm hn']; exact hv⟩
      · refine .inr ⟨hk, a, o', hc, (sb.2 a fun q' => ?_).trans ho, hd⟩
        have nd := F.nodup
        unfold frameAddrs at nd
        rw [List.nodup_cons] at nd
        refine nd.1 (q' ▸ List.mem_map.mpr ⟨(y, a), ?_, rfl⟩)
        obtain ⟨l1, l2, e1, _⟩ := List.lookup_eq_some_iff.mp hc
        rw [e1]; simp
  · obtain ⟨f1, f2, o', f3, f4⟩ := F.sep b hb
    by_cases q : b = env.locals
    · subst q
      obtain ⟨o'', es, ep, ho, hd, _⟩ := hn
      exact ⟨f1, f2, o'', ho, loose_dict hd⟩
    · exact ⟨f1, f2, o', (sb.2 b q).trans f3, f4⟩
theorem Frm.storeCell (S : St h σ) (F : Frm env h σ ρ) {x : Str} {u : Value} {v : V} {a : Addr} (hx : env.kindOf x = some .cell) (hc : env.cells.lookup x = some a) (hn : h'.IsCell a (some u)) (sb : Heap.SameBut a h h') (r : VRep h u v) :
    Frm env h' σ ((x, v) :: ρ) := by
  obtain ⟨l1, l2, ec, hl1⟩ := List.lookup_eq_some_iff.mp hc
  have mem : a ∈ frameAddrs env := .tail _ (List.mem_map.mpr ⟨(x, a), by rw [ec]; simp, rfl⟩)
  obtain ⟨e1, e2, o, e3, e4⟩ := F.sep _ mem
  have lk := loose_upd e3 e4 fun b o q e => (sb.2 b q).trans e
  have nd := F.nodup
  unfold frameAddrs at nd
  rw [List.nodup_cons] at nd
  have nl : env.locals ≠ a := fun q => nd.1 (q ▸ List.mem_map.mpr ⟨(x, a), by rw [ec]; simp, rfl⟩)
  refine ⟨fun y w e => ?_, ?_, fun b hb => ?_, F.nodup, fun q hq => ?_, F.kind, F.glob⟩
  rotate_left 3
  · by_cases z : q.2 = a
    · rw [z]; exact ⟨_, hn⟩
    · exact IsCell.keep (fun o e => (sb.2 q.2 z).trans e) (F.cell q hq)
  rotate_right 3
  · rw [List.lookup_cons] at e
    by_cases q : y = x
    · subst q
      simp only [BEq.rfl] at e
      cases e
      obtain ⟨oc, hoc, hdc⟩ := hn
      exact ⟨u, .inr ⟨.inl hx, a, oc, hc, hoc, hdc⟩, r.keep lk⟩
    · have : (y == x) = false := by simpa using q
      rw [this] at e
      obtain ⟨u', hu, r'⟩ := F.has y w e
      refine ⟨u', ?_, r'.keep lk⟩
      rcases hu with ⟨hl, m', hn', hv⟩ | ⟨hk, b, o', hb, ho, hd⟩
      · exact .inl ⟨hl, m', hn'.sameBut sb nl, hv⟩
      · refine .inr ⟨hk, b, o', hb, (sb.2 b fun q' => ?_).trans ho, hd⟩
        subst q'
        obtain ⟨k1, k2, ek, _⟩ := List.lookup_eq_some_iff.mp hb
        have m1 : (x, b) ∈ env.cells := by rw [ec]; simp
        have m2 : (y, b) ∈ env.cells := by rw [ek]; simp
        exact q (congrArg Prod.fst ((inj_of_nodup nd.2 m2 m1 rfl)))
  · obtain ⟨m, hm⟩ := F.ns; exact ⟨m, hm.sameBut sb nl⟩
  · obtain ⟨f1, f2, o', f3, f4⟩ := F.sep b hb
    by_cases q : b = a
    · subst q
      obtain ⟨o'', ho, hd⟩ := hn
      exact ⟨f1, f2, o'', ho, loose_cell hd⟩
    · exact ⟨f1, f2, o', (sb.2 b q).trans f3, f4⟩
where
  inj_of_nodup : ∀ {l : List (Str × Addr)}, (l.map (·.2)).Nodup → ∀ {p q : Str × Addr}, p ∈ l → q ∈ l → p.2 = q.2 → p = q
  | [], _, _, _, h, _, _ => by cases h
  | z :: l, nd, p, q, hp, hq, e => by
    rw [List.map_cons, List.nodup_cons] at nd
    rcases List.mem_cons.mp hp with rfl | hp' <;> rcases List.mem_cons.mp hq with rfl | hq'
    · rfl
    · exact absurd (e ▸ List.mem_map_of_mem (f := Prod.snd) hq') nd.1
    · exact absurd (e.symm ▸ List.mem_map_of_mem (f := Prod.snd) hp') nd.1
    · exact inj_of_nodup nd.2 hp' hq' e
theorem Fm.frame {a : Addr} (ha : a ∈ frameAddrs env) (there : ∃ o, h'.get? a = some o) (sb : Heap.SameBut a h h') : Fm env σ h h' σ :=
  ⟨fun b o e _ nf => (sb.2 b fun q => nf (q ▸ ha)).trans e, fun b o e => by
    by_cases q : b = a
    · subst q; exact there
    · exact ⟨o, (sb.2 b q).trans e⟩, fun b o e1 e2 => by rw [e1] at e2; cases e2⟩
end

section
variable {n : Nat} {env : Env} {ρ : Loc} {σ : AH} {Q : Fl → Loc → AH → Prop}

theorem sto_local {x : Str} {v : V} {Q : Loc → AH → Prop} (hx : env.kindOf x = some .local) (q : Q ((x, v) :: ρ) σ) : Sto n env x v ρ σ Q := fun u A s _ S F r => by
  obtain ⟨m, hm⟩ := F.ns
  have mem : env.locals ∈ frameAddrs env := .head _
  obtain ⟨e1, e2, o, e3, e4⟩ := F.sep _ mem
  refine wpAny_storeName_local hx hm (fun h' hn sb => ?_) (by rw [F.kind]; rfl)
  refine ⟨h', s.toks + 1, (), _, σ, rfl, S.other e3 e4 e1 e2 fun b o q e => (sb.2 b q).trans e, F.store S hx hm hn sb r, .frame mem ?_ sb, rfl, q⟩
  obtain ⟨o', _, _, ho, _⟩ := hn; exact ⟨o', ho⟩
theorem sto_cell {x : Str} {v : V} {a : Addr} {Q : Loc → AH → Prop} (hx : env.kindOf x = some .cell) (hc : env.cells.lookup x = some a) (q : Q ((x, v) :: ρ) σ) : Sto n env x v ρ σ Q := fun u A s _ S F r => by
  have mc : (x, a) ∈ env.cells := by
    obtain ⟨l1, l2, ec, _⟩ := List.lookup_eq_some_iff.mp hc
    rw [ec]; simp
  have mem : a ∈ frameAddrs env := .tail _ (List.mem_map.mpr ⟨(x, a), mc, rfl⟩)
  obtain ⟨w, hw⟩ := F.cell _ mc
  obtain ⟨e1, e2, o, e3, e4⟩ := F.sep _ mem
  refine wpAny_storeName_cell F.kind hx hc hw (fun h' hn sb => ?_)
  refine ⟨h', s.toks, (), _, σ, rfl, S.other e3 e4 e1 e2 fun b o q e => (sb.2 b q).trans e, F.storeCell S hx hc hn sb r, .frame mem ?_ sb, rfl, q⟩
  obtain ⟨o', ho, _⟩ := hn; exact ⟨o', ho⟩

theorem asg_name {x : Str} {pos : Pos} {v : V} {Q : Loc → AH → Prop} (h : Sto n env x v ρ σ Q) : Asg n env (.Name x pos) v ρ σ Q := fun u A s hA S F r => wpAny_assign_Name (h u A s hA S F r)
theorem asg_local {x : Str} {pos : Pos} {v : V} {Q : Loc → AH → Prop} (hx : env.kindOf x = some .local) (q : Q ((x, v) :: ρ) σ) : Asg n env (.Name x pos) v ρ σ Q := asg_name (sto_local hx q)
theorem asg_attr {o : Expr} {attr : Str} {pos : Pos} {v : V} {Q : Loc → AH → Prop}
    (h : Ex n env o ρ σ (SetA n env attr v Q)) : Asg n env (.Attribute o attr pos) v ρ σ Q := fun u => by
  refine Tr.eq (arm_assign_Attribute ..) ?_
  refine Tr.bindV (Tr.holding (h.w0.mono fun a ρ1 σ1 q w => Tr.standAt (Tr.bindS (Tr.holding ?_))))
  refine (q w u).mono fun y ρ2 σ2 q => ?_
  exact Tr.eq (t' := PySem.release [u, w] [] >>= fun _ => Pure.pure ()) (by simp) (Tr.release (Tr.pure (fun _ _ => rfl) q))
noncomputable def SetJ (n : Nat) (env : Env) (a i v : V) (ρ : Loc) (σ : AH) (Q : Loc → AH → Prop) : Prop := ∀ u k w, Tr n env ρ σ ((HP.v u a).and ((HP.v k i).and (HP.v w v))) (setItem u k w) Same (fun _ => Q)
theorem asg_sub {o i : Expr} {pos : Pos} {v : V} {Q : Loc → AH → Prop}
    (h : Ex n env o ρ σ (fun a ρ1 σ1 => Ex n env i ρ1 σ1 (fun k ρ2 σ2 => SetJ n env a k v ρ2 σ2 Q))) : Asg n env (.Subscript o i pos) v ρ σ Q := fun u => by
  refine Tr.eq (arm_assign_Subscript ..) ?_
  refine Tr.bindV (Tr.holding (h.w0.mono fun a ρ1 σ1 q w => Tr.bindV (Tr.holding (q.w0.mono fun k ρ2 σ2 q y => Tr.standAt (Tr.bindS (Tr.holding ?_))))))
  have q' : Tr n env ρ2 σ2 ((HP.v y k).and ((HP.v w a).and (HP.v u v))) _ _ _ := (q w y u).with fun _ x => ⟨x.2.1, x.1, x.2.2⟩
  refine q'.mono fun z ρ3 σ3 q => ?_
  exact Tr.eq (t' := PySem.release _ [] >>= fun _ => Pure.pure ()) (by simp; rfl) (Tr.release (Tr.pure (fun _ _ => rfl) q))

noncomputable def Asgs (n : Nat) (env : Env) : List Expr → List V → Loc → AH → (Loc → AH → Prop) → Prop
  | [], [], ρ, σ, Q => Q ρ σ
  | t :: ts, v :: vs, ρ, σ, Q => Asg n env t v ρ σ (fun ρ1 σ1 => Asgs n env ts vs ρ1 σ1 Q)
  | _, _, _, _, _ => False
theorem asgs_any : ∀ {ts : List Expr} {vs : List V} {ρ : Loc} {σ : AH} {Q : Loc → AH → Prop} , ((assignEach ts env).map (·.2)) = ts.map (fun t => assign t env) → Asgs n env ts vs ρ σ Q → ∀ us, Tr n env ρ σ (HP.vs us vs) (assignInOrder (ts.map fun t => assign t env) us) Same (fun _ => Q)
  | [], [], ρ, σ, Q, _, h, us => fun A s hA S F r => by cases r; exact wpAny_pure (Post.stay (tk := s.toks) (v := ()) S F rfl h)
  | t :: ts, v :: vs, ρ, σ, Q, e, h, us => fun A s hA S F r => by
    cases r with
    | @cons u _ us _ hv hs =>
      have e' : ((assignEach ts env).map (·.2)) = ts.map (fun t => assign t env) := (show ((assignEach (t :: ts) env).map (·.2)).tail = ((assignEach ts env).map (·.2)) by cases t <;> rfl).symm.trans (congrArg List.tail e)
      show wpAny _ A (do holding us (assign t env u); assignInOrder (ts.map fun t => assign t env) us) _ _ s
      exact (Tr.bindS (H := (HP.v u v).and (HP.vs us vs)) (Tr.holding (((h u).w1).mono fun y ρ1 σ1 q => (asgs_any e' q us).drop1))) A s hA S F ⟨hv, hs⟩
  | [], _ :: _, _, _, _, _, h, _ => h.elim
  | _ :: _, [], _, _, _, _, h, _ => h.elim
theorem asg_tuple {ts : List Expr} {k : Nat} {pos : Pos} {vs : List V} {Q : Loc → AH → Prop} (h : Asgs n env ts vs ρ σ Q) (hl : autoParam (ts.length = vs.length) aRfl)
    (he : autoParam (assignEach ts env = ts.map fun t => (false, assign t env)) aRfl) : Asg n env (.Tuple ts k pos) (.tup vs) ρ σ Q := fun u A s hA S F r => by
  obtain ⟨a, items, m, rfl, ht, hs⟩ := VRep.tup_inv r
  have e0 := hs.length; rw [Array.length_toList] at e0
  have e2 : ((assignEach ts env).map (·.2)) = ts.map (fun t => assign t env) := by rw [he, List.map_map]; rfl
  refine wpAny_assign_Tuple hA.hand ⟨_, ht, rfl, _, rfl⟩ (by rw [he, List.length_map, hl, e0]) (by rw [he, List.findIdx?_map]; simp [Function.comp_def]) fun h' eb => ?_
  rw [e2]
  have kp : ∀ b o, s.heap.get? b = some o → h'.get? b = some o := fun b o e => eb b o (Nat.ne_of_lt (Heap.lt_size e)) e
  exact (asgs_any e2 h _).go (s := s) hA (.ext kp) (S.ext kp) (F.ext' kp) (hs.keep fun b o e _ => kp b o e)

set_option tactic.hygienic true
theorem ss_nil (q : Q .next ρ σ) : Stms n env [] ρ σ Q := fun A s hA S F _ => wpAny_execs_nil (Post.stay (tk := s.toks) S F .next q)
theorem ss_cons {st : Stmt} {rest : List Stmt} (h : Stm n env st ρ σ (NextK n env rest Q)) : Stms n env (st :: rest) ρ σ Q := fun A s hA S F _ => by
  refine wpAny_execs_cons (wpAny_mono (h A s hA S F trivial) (fun f s' p => ?_) fun _ _ x => x)
  obtain ⟨h1, tk1, v, ρ1, σ1, rfl, S1, F1, M1, r1, q1⟩ := p
  cases r1 with
  | next => exact Tr.go q1 (s := s) hA M1 S1 F1 trivial
  | brk => exact ⟨h1, tk1, _, ρ1, σ1, rfl, S1, F1, M1, .brk, q1⟩
  | cont => exact ⟨h1, tk1, _, ρ1, σ1, rfl, S1, F1, M1, .cont, q1⟩
  | ret r => exact ⟨h1, tk1, _, ρ1, σ1, rfl, S1, F1, M1, .ret r, q1⟩
set_option tactic.hygienic false
theorem st_expr {e : Expr} {pos : Pos} (h : Ex n env e ρ σ (ExprK Q)) (hi : autoParam (interactive env = false) aRfl) (hs : autoParam (swapsWith e none pos.line env = pure false) aRfl) : Stm n env (.Expr e pos) ρ σ Q := fun A s hA S F _ => by
  refine wpAny_Expr_any (wpAny_mono (h A s hA S F trivial) (fun u s1 p => ?_) fun _ _ x => x) hi hs
  obtain ⟨h1, tk1, a, ρ1, σ1, rfl, S1, F1, M1, r1, q1⟩ := p
  exact ⟨h1, tk1, _, ρ1, σ1, rfl, S1, F1, M1, .next, q1⟩
theorem st_ret {e : Expr} {pos : Pos} (h : Ex n env e ρ σ (RetK Q)) : Stm n env (.Return (some e) pos) ρ σ Q := fun A s hA S F _ => by
  refine wpAny_Return_some (wpAny_mono (h A s hA S F trivial) (fun u s1 p => ?_) fun _ _ x => x)
  obtain ⟨h1, tk1, a, ρ1, σ1, rfl, S1, F1, M1, r1, q1⟩ := p
  exact ⟨h1, tk1, _, ρ1, σ1, rfl, S1, F1, M1, .ret r1, q1⟩
theorem st_if {t : Expr} {b o : List Stmt} {pos : Pos} (h : Test n env t ρ σ (IfK n env b o Q)) : Stm n env (.If t b o pos) ρ σ Q := fun A s hA S F _ => by
  refine wpAny_If (wpAny_mono (h A s hA S F trivial) (fun u s1 p => ?_) fun _ _ x => x)
  obtain ⟨h1, tk1, a, ρ1, σ1, rfl, S1, F1, M1, r1, q1⟩ := p
  cases r1
  cases u <;> exact Tr.go q1 (s := s) hA M1 S1 F1 trivial
theorem st_break {pos} (q : Q .brk ρ σ) : Stm n env (.Break pos) ρ σ Q := fun A s hA S F _ => wpAny_Break (Post.stay (tk := s.toks) S F .brk q)
theorem st_continue {pos} (q : Q .cont ρ σ) : Stm n env (.Continue pos) ρ σ Q := fun A s hA S F _ => wpAny_Continue (Post.stay (tk := s.toks) S F .cont q)
theorem st_assign {t : Expr} {value : Expr} {pos : Pos} (h : Ex n env value ρ σ (AsgK n env t (NxtK Q)))
    (hs : autoParam (swapsWithSole [t] value pos.line env = pure false) aRfl) (hw : autoParam (swappedStores [t] value env = pure none) aRfl) (ha : autoParam ((assignEach [t] env).map (·.2) = [assign t env]) aRfl) : Stm n env (.Assign [t] value pos) ρ σ Q := fun A s hA S F _ => by
  refine wpAny_Assign_stores (wpAny_mono (h A s hA S F trivial) (fun u s1 p => ?_) fun _ _ x => x) hs hw
  obtain ⟨h1, tk1, a, ρ1, σ1, rfl, S1, F1, M1, r1, q1⟩ := p
  rw [ha]
  refine wpAny_mono ((q1 u).go (s := s) hA M1 S1 F1 r1) (fun _ s2 p => ?_) fun _ _ x => x
  obtain ⟨h2, tk2, a2, ρ2, σ2, rfl, S2, F2, M2, r2, q2⟩ := p
  exact ⟨h2, tk2, _, ρ2, σ2, rfl, S2, F2, M2, .next, q2⟩
noncomputable def Stos (n : Nat) (env : Env) : List Str → List V → Loc → AH → (Loc → AH → Prop) → Prop
  | [], [], ρ, σ, Q => Q ρ σ
  | t :: ts, v :: vs, ρ, σ, Q => Sto n env t v ρ σ (fun ρ1 σ1 => Stos n env ts vs ρ1 σ1 Q)
  | _, _, _, _, _ => False
theorem stos_any : ∀ {ts : List Str} {vs : List V} {ρ : Loc} {σ : AH} {Q : Loc → AH → Prop} , Stos n env ts vs ρ σ Q → ∀ us, Tr n env ρ σ (HP.vs us vs) (assignInOrder (ts.map fun t => bindName env t) us) Same (fun _ => Q)
  | [], [], ρ, σ, Q, h, us => fun A s hA S F r => by cases r; exact wpAny_pure (Post.stay (tk := s.toks) (v := ()) S F rfl h)
  | t :: ts, v :: vs, ρ, σ, Q, h, us => fun A s hA S F r => by
    cases r with
    | @cons u _ us _ hv hs =>
      show wpAny _ A (do holding us (bindName env t u); assignInOrder (ts.map fun t => bindName env t) us) _ _ s
      refine (Tr.bindS (H := (HP.v u v).and (HP.vs us vs)) (Tr.holding (?_ : Tr n env ρ σ ((HP.v u v).and (HP.vs us vs)) (bindName env t u) Same _))) A s hA S F ⟨hv, hs⟩
      intro A s hA S F r
      refine wpAny_bindName (((h u).w1.mono fun y ρ1 σ1 q => ?_) A s hA S F r)
      exact (stos_any q us).drop1
  | [], _ :: _, _, _, _, h, _ => h.elim
  | _ :: _, [], _, _, _, h, _ => h.elim
theorem st_swap {ts : List Expr} {k : Nat} {tpos : Pos} {value : Expr} {pos : Pos} {names : List Str} (h : Ex n env value ρ σ (fun v ρ1 σ1 => ∃ vs, v = .tup vs ∧ vs.length = names.length ∧ Stos n env names.reverse vs.reverse ρ1 σ1 (NxtK Q)))
    (hw : swappedStores [.Tuple ts k tpos] value env = pure (some names)) (hs : autoParam (swapsWithSole [.Tuple ts k tpos] value pos.line env = pure false) aRfl) : Stm n env (.Assign [.Tuple ts k tpos] value pos) ρ σ Q := fun A s hA S F _ => by
  rw [exec_Assign_arm]
  refine wpAny_bind (wpAny_standAt ?_)
  rw [hs]
  refine wpAny_bind (wpAny_pure ?_)
  rw [if_neg (by decide)]
  refine wpAny_bind (wpAny_mono (h A s hA S F trivial) (fun v s1 p => ?_) fun _ _ x => x)
  obtain ⟨h1, tk1, a, ρ1, σ1, rfl, S1, F1, M1, r1, vs, rfl, hl, q1⟩ := p
  rw [hw]
  refine wpAny_bind (wpAny_pure ?_)
  obtain ⟨a, items, m, rfl, ht, hsr⟩ := VRep.tup_inv r1
  have e0 := hsr.length; rw [Array.length_toList] at e0
  show wpAny _ A (do
    rule "assign.swapped-stores"
    let items ← unpackItems (.ref a) names.length none
    assignInOrder (names.reverse.map fun n => bindName env n) items.reverse
    pure Flow.next) _ _ _
  refine wpAny_bind (wpAny_rule (wpAny_bind ?_))
  rw [← hl, ← e0]
  refine wpAny_unpackItems_tuple hA.hand ⟨_, ht, rfl, _, rfl⟩ fun h' eb => ?_
  have kp : ∀ b o, h1.get? b = some o → h'.get? b = some o := fun b o e => eb b o (Nat.ne_of_lt (Heap.lt_size e)) e
  refine wpAny_bind (wpAny_mono ((stos_any q1 items.toList.reverse).go (s := s) hA (M1.trans (.ext kp)) (S1.ext kp) (F1.ext' kp) ((hsr.reverse).keep fun b o e _ => kp b o e)) (fun _ s2 p => ?_) fun _ _ x => x)
  obtain ⟨h2, tk2, a2, ρ2, σ2, rfl, S2, F2, M2, r2, q2⟩ := p
  exact wpAny_pure ⟨h2, tk2, Fl.next, ρ2, σ2, rfl, S2, F2, M2, FRep.next, q2⟩
theorem st_aug_name {x : Str} {pos' pos : Pos} {op : Operator} {value : Expr} {v : V} (e : ρ.lookup x = some v)
    (h : Ex n env value ρ σ (OpK n env (inplaceOp op) v (StoK n env x (NxtK Q)))) (hc : autoParam ((x == ("__classdict__" : Str)) = false) aRfl) : Stm n env (.AugAssign (.Name x pos') op value pos) ρ σ Q := fun A s hA S F _ => by
  refine wpAny_AugAssign_Name ?_
  obtain ⟨u, hu, r⟩ := F.has x v e
  refine loadName_has F.kind hu ?_ hc
  refine wpAny_mono (h A s hA S F trivial) (fun w s1 p => ?_) fun _ _ x => x
  obtain ⟨h1, tk1, a, ρ1, σ1, rfl, S1, F1, M1, r1, q1⟩ := p
  refine wpAny_mono ((q1 u w).go (s := s) hA M1 S1 F1 ⟨r.step S F M1, r1⟩) (fun y s2 p => ?_) fun _ _ x => x
  obtain ⟨h2, tk2, a2, ρ2, σ2, rfl, S2, F2, M2, r2, q2⟩ := p
  refine wpAny_mono ((q2 y).go (s := s) hA M2 S2 F2 r2) (fun _ s3 p => ?_) fun _ _ x => x
  obtain ⟨h3, tk3, a3, ρ3, σ3, rfl, S3, F3, M3, r3, q3⟩ := p
  exact ⟨h3, tk3, _, ρ3, σ3, rfl, S3, F3, M3, .next, q3⟩
theorem st_aug_attr {o value : Expr} {attr : Str} {tpos pos : Pos} {op : Operator}
    (h : Ex n env o ρ σ (AugK1 n env op value attr (NxtK Q))) : Stm n env (.AugAssign (.Attribute o attr tpos) op value pos) ρ σ Q := fun A s hA S F _ => by
  refine wpAny_AugAssign_AttributeAny (wpAny_mono (h A s hA S F trivial) (fun ov s1 p => ?_) fun _ _ x => x)
  obtain ⟨h1, tk1, a, ρ1, σ1, rfl, S1, F1, M1, r1, q1⟩ := p
  refine wpAny_mono ((q1 ov) A { s with heap := h1, toks := tk1 } hA S1 F1 r1) (fun old s2 p => ?_) fun _ _ z => z
  obtain ⟨h2, tk2, b, ρ2, σ2, rfl, S2, F2, M2, r2, q2⟩ := p
  refine wpAny_mono (q2 A { s with heap := h2, toks := tk2 } hA S2 F2 trivial) (fun w s3 p => ?_) fun _ _ z => z
  obtain ⟨h3, tk3, d, ρ3, σ3, rfl, S3, F3, M3, r3, q3⟩ := p
  refine wpAny_mono (q3 old w A { s with heap := h3, toks := tk3 } hA S3 F3 ⟨r2.step S2 F2 M3, r3⟩) (fun y s4 p => ?_) fun _ _ z => z
  obtain ⟨h4, tk4, f, ρ4, σ4, rfl, S4, F4, M4, r4, q4⟩ := p
  refine wpAny_mono ((q4 ov y).go (s := s) hA (((M1.trans M2).trans M3).trans M4) S4 F4 ⟨((r1.step S1 F1 M2).step S2 F2 M3).step S3 F3 M4, r4⟩) (fun _ s5 p => ?_) fun _ _ x => x
  obtain ⟨h5, tk5, f5, ρ5, σ5, rfl, S5, F5, M5, r5, q5⟩ := p
  exact ⟨h5, tk5, _, ρ5, σ5, rfl, S5, F5, M5, .next, q5⟩

set_option tactic.hygienic true
noncomputable def LoopQ (k : Nat) (I : Nat → Loc → AH → Prop) (Q : Fl → Loc → AH → Prop) : Fl → Loc → AH → Prop := fun f ρ σ => match f with
  | .next | .cont => ∃ m, m < k ∧ I m ρ σ
  | .brk => Q .next ρ σ
  | .ret v => Q (.ret v) ρ σ
set_option tactic.hygienic false
abbrev WhK (n : Nat) (env : Env) (body orelse : List Stmt) (Q' Q : Fl → Loc → AH → Prop) : Bool → Loc → AH → Prop := fun b ρ σ => if b then Stms n env body ρ σ Q' else Stms n env orelse ρ σ Q
inductive WhI (env : Env) (σ : AH) (s : Shared) (I : Nat → Loc → AH → Prop) (k : Nat) (s' : Shared) : Prop
  | mk (h' : Heap) (tk : Nat) (ρ' : Loc) (σ' : AH) (e : s' = { s with heap := h', toks := tk }) (S : St h' σ') (F : Frm env h' σ' ρ') (M : Fm env σ s.heap h' σ') (i : I k ρ' σ')
set_option tactic.hygienic true
theorem st_while {test : Expr} {body orelse : List Stmt} {pos : Pos} (I : Nat → Loc → AH → Prop) (k : Nat) (h0 : I k ρ σ)
    (turn : ∀ k ρ σ, I k ρ σ → Test n env test ρ σ (WhK n env body orelse (LoopQ k I Q) Q)) : Stm n env (.While test body orelse pos) ρ σ Q := fun A s hA S F _ => by
  refine wpAny_While ?_
  refine codeAny_whileLoop (WhI env σ s I) ?_ k ⟨s.heap, s.toks, ρ, σ, rfl, S, F, .refl .., h0⟩
  rintro k s' ⟨h1, tk1, ρ1, σ1, rfl, S1, F1, M1, i1⟩
  refine wpAny_mono (turn k ρ1 σ1 i1 A { s with heap := h1, toks := tk1 } hA S1 F1 trivial) (fun b s2 p => ?_) fun _ _ x => x.elim
  obtain ⟨h2, tk2, b', ρ2, σ2, rfl, S2, F2, M2, r2, q2⟩ := p
  cases r2
  have M := M1.trans M2
  cases b
  · simp only [Bool.false_eq_true, if_false] at q2 ⊢
    refine wpAny_mono (Tr.go q2 (s := s) hA M S2 F2 trivial) (fun f s3 p => p) fun _ _ x => x.elim
  · simp only [if_true] at q2 ⊢
    refine wpAny_mono (Tr.go q2 (s := s) hA M S2 F2 trivial) (fun f s3 p => ?_) fun _ _ x => x.elim
    obtain ⟨h3, tk3, f', ρ3, σ3, rfl, S3, F3, M3, r3, q3⟩ := p
    cases r3 with
    | next => obtain ⟨m, hm, i⟩ := q3; exact ⟨m, hm, h3, tk3, ρ3, σ3, rfl, S3, F3, M3, i⟩
    | cont => obtain ⟨m, hm, i⟩ := q3; exact ⟨m, hm, h3, tk3, ρ3, σ3, rfl, S3, F3, M3, i⟩
    | brk => exact ⟨h3, tk3, _, ρ3, σ3, rfl, S3, F3, M3, .next, q3⟩
    | ret r => exact ⟨h3, tk3, _, ρ3, σ3, rfl, S3, F3, M3, .ret r, q3⟩
end
end
section
open PySem PySem.W PyProof.Rows PySem.Calls
noncomputable def ForJ (n : Nat) (env : Env) (target : Expr) (body orelse : List Stmt) (G : AH → Prop) : List V → Loc → AH → (Fl → Loc → AH → Prop) → Prop
  | [], ρ, σ, Q => G σ ∧ Stms n env orelse ρ σ Q
  | v :: vs, ρ, σ, Q => G σ ∧ Asg n env target v ρ σ (fun ρ1 σ1 => Stms n env body ρ1 σ1 (fun f ρ2 σ2 => match f with
      | .next | .cont => ForJ n env target body orelse G vs ρ2 σ2 Q
      | .brk => Q .next ρ2 σ2
      | .ret v => Q (.ret v) ρ2 σ2))

set_option tactic.hygienic false
theorem go_plain {prog : Program} {A : Around} {E : Value → Shared → Prop} {s : Shared} {I : Addr} {o : Obj} {n : String} {vs : Array Value} {elts : List Expr} {x1 : Nat} {pos : Pos} {v : Value} {Q : Unit → Shared → Prop} (ho : s.heap.get? I = some o) (hc : o.cls = .type n) (hd : o.data = .fields vs)
    (hn : (["enumerate", "zip", "dict_itemiterator", "dict_reverseitemiterator", "odict_iterator", "itertools.zip_longest", "itertools.pairwise"].contains n) = false) (hQ : Q () s) : wpAny (model prog w) A (letOwnedTupleGo (.Tuple elts x1 pos) (.ref I) v) Q E s := by
  unfold letOwnedTupleGo
  cases v <;> first | exact wpAny_pure hQ | skip
  refine wpAny_bind (wpAny_load ho ?_)
  rw [hc, hd]
  dsimp only
  rw [hn, Bool.false_and]
  exact wpAny_pure hQ
structure ItJ (G : AH → Prop) (I : Addr) (vs : List V) (T : Nat → Heap → Prop) : Prop where
  keep : ∀ i h h', T i h → (∀ o, h.get? I = some o → h'.get? I = some o) → (∀ b o, h.get? b = some o → ¬ Loose o → h'.get? b = some o) → T i h'
  loose : ∀ i h, T i h → ∃ o, h.get? I = some o ∧ Loose o
  item : ∀ i v (A : Around) (s : Shared) (σ : AH) (Q : Option Value → Shared → Prop) (E : Value → Shared → Prop), A.handled = none → T i s.heap → St s.heap σ → σ I = none → G σ → vs[i]? = some v →
    (∀ u h' tk, VRep s.heap u v → T (i + 1) h' → (∀ b o, b ≠ I → s.heap.get? b = some o → h'.get? b = some o) → Q (some u) { s with heap := h', toks := tk }) → wpAny (model c.prog c.w) A (pyNext (.ref I)) Q E s
  self : ∀ i (A : Around) (s : Shared) (Q : Value → Shared → Prop) (E : Value → Shared → Prop), T i s.heap → Q (.ref I) s → wpAny (model c.prog c.w) A (pyIter (.ref I)) Q E s
  go : ∀ i (A : Around) (s : Shared) (elts : List Expr) (x1 : Nat) (pos : Pos) (v : Value) (Q : Unit → Shared → Prop) (E : Value → Shared → Prop), T i s.heap → Q () s → wpAny (model c.prog c.w) A (letOwnedTupleGo (.Tuple elts x1 pos) (.ref I) v) Q E s
  done : ∀ (A : Around) (s : Shared) (σ : AH) (Q : Option Value → Shared → Prop) (E : Value → Shared → Prop), A.handled = none → T vs.length s.heap → St s.heap σ → σ I = none → G σ →
    (∀ h' tk, (∀ b o, b ≠ I → s.heap.get? b = some o → h'.get? b = some o) → Q none { s with heap := h', toks := tk }) → wpAny (model c.prog c.w) A (pyNext (.ref I)) Q E s

section
variable {env : Env} {σ : AH} {ρ : Loc} {h h' : Heap}
theorem Frm.other (F : Frm env h σ ρ) {a : Addr} {o : Obj} (ho : h.get? a = some o) (l : Loose o) (na : a ∉ frameAddrs env) (k : ∀ b o, b ≠ a → h.get? b = some o → h'.get? b = some o) : Frm env h' σ ρ := by
  have kf : ∀ b ∈ frameAddrs env, ∀ o, h.get? b = some o → h'.get? b = some o := fun b hb o e => k b o (fun q => na (q ▸ hb)) e
  refine ⟨fun x v e => ?_, ?_, fun b hb => ?_, F.nodup, fun q hq => IsCell.keep (kf q.2 (.tail _ (List.mem_map_of_mem hq))) (F.cell q hq), F.kind, F.glob⟩
  · obtain ⟨u, hu, r⟩ := F.has x v e
    refine ⟨u, ?_, r.keep (loose_upd ho l k)⟩
    rcases hu with ⟨hl, m', hn', hv⟩ | ⟨hk, b, o', hc, ho', hd⟩
    · exact .inl ⟨hl, m', hn'.at' (kf _ (.head _)), hv⟩
    · refine .inr ⟨hk, b, o', hc, kf b (.tail _ ?_) o' ho', hd⟩
      obtain ⟨l1, l2, ec, _⟩ := List.lookup_eq_some_iff.mp hc
      exact List.mem_map.mpr ⟨(x, b), by rw [ec]; simp, rfl⟩
  · obtain ⟨m, hm⟩ := F.ns; exact ⟨m, hm.at' (kf _ (.head _))⟩
  · obtain ⟨e1, e2, o', e3, e4⟩ := F.sep b hb
    exact ⟨e1, e2, o', kf b hb o' e3, e4⟩
theorem Fm.other {g : Heap} {σ₀ : AH} (M : Fm env σ₀ g h σ) {a : Addr} (ha : g.get? a = none) (k : ∀ b o, b ≠ a → h.get? b = some o → h'.get? b = some o) : Fm env σ₀ g h' σ := by
  refine ⟨fun b o e n f => k b o (fun q => by rw [q, ha] at e; cases e) (M.keep b o e n f), fun b o e => ?_, M.fresh⟩
  obtain ⟨o', e'⟩ := M.pres b o e
  exact ⟨o', k b o' (fun q => by rw [q, ha] at e; cases e) e'⟩
end

inductive ForI (n : Nat) (env : Env) (target : Expr) (body orelse : List Stmt) (G : AH → Prop) (σ : AH) (s : Shared) (I : Addr) (vs : List V) (T : Nat → Heap → Prop) (Q : Fl → Loc → AH → Prop) (k : Nat) (s' : Shared) : Prop
  | mk (i : Nat) (h' : Heap) (tk : Nat) (ρ' : Loc) (σ' : AH) (e : s' = { s with heap := h', toks := tk }) (S : St h' σ') (F : Frm env h' σ' ρ') (M : Fm env σ s.heap h' σ') (hI : σ' I = none) (hT : T i h') (q : ForJ n env target body orelse G (vs.drop i) ρ' σ' Q) (hi : i ≤ vs.length) (hk : k = vs.length - i)
section
variable {n : Nat} {env : Env} {ρ : Loc} {σ : AH} {Q : Fl → Loc → AH → Prop}
set_option tactic.hygienic true
theorem for_loop {target : Expr} {body orelse : List Stmt} {G : AH → Prop} {I : Addr} {vs : List V} {T : Nat → Heap → Prop} (J : ItJ G I vs T) {A : Around} (hA : Room A n) {s s1 : Shared} {h1 : Heap} {tk1 : Nat} (hI : s.heap.get? I = none) (S : St s.heap σ) (F : Frm env s.heap σ ρ)
    {ρ1 : Loc} {σ1 : AH} (hs1 : s1 = { s with heap := h1, toks := tk1 }) (S1 : St h1 σ1) (F1 : Frm env h1 σ1 ρ1) (M1 : Fm env σ s.heap h1 σ1) (hσI : σ1 I = none) (hT : T 0 h1) (q : ForJ n env target body orelse G vs ρ1 σ1 Q) {R : Result → Shared → Prop}
    (hR : ∀ f s', Post env σ s FRep Q f s' → R (.ok f) s') (ht : ∀ v, letOwnedTupleGo target (.ref I) v = Pure.pure () := by intro _; rfl) : codeAny (model c.prog c.w) A (.forLoop target (.ref I) body orelse env) R s1 := by
  subst hs1
  have h0 : c.h0.get? I = none := by
    cases z : c.h0.get? I with
    | none => rfl
    | some o => rw [S.keep0 I o z] at hI; cases hI
  have nf : I ∉ frameAddrs env := fun m => by obtain ⟨_, _, o, e, _⟩ := F.sep I m; rw [hI] at e; cases e
  refine codeAny_forLoop (ForI n env target body orelse G σ s I vs T Q) ?_ vs.length
    ⟨0, h1, tk1, ρ1, σ1, rfl, S1, F1, M1, hσI, hT, q, Nat.zero_le _, rfl⟩ ht
  rintro k s' ⟨i, h2, tk2, ρ2, σ2, rfl, S2, F2, M2, hσ2, hT2, q2, hi, rfl⟩
  obtain ⟨oI, hoI, lI⟩ := J.loose _ _ hT2
  by_cases hlt : i < vs.length
  · have ed : vs.drop i = vs[i] :: vs.drop (i + 1) := (List.drop_eq_getElem_cons hlt)
    rw [ed] at q2
    obtain ⟨g2, q2⟩ := q2
    refine J.item i vs[i] A { s with heap := h2, toks := tk2 } σ2 _ _ hA.hand hT2 S2 hσ2 g2 (List.getElem?_eq_getElem hlt) fun u h3 tk3 r3 hT3 k3 => ?_
    have S3 := S2.other hoI lI hσ2 h0 k3
    have F3 := F2.other hoI lI nf k3
    have M3 := M2.other hI k3
    have r3' := r3.keep (loose_upd hoI lI k3)
    refine wpAny_mono (q2 u A { s with heap := h3, toks := tk3 } hA S3 F3 r3') (fun _ s4 p => ?_) fun _ _ x => x.elim
    obtain ⟨h4, tk4, _, ρ4, σ4, rfl, S4, F4, M4, _, q4⟩ := p
    refine wpAny_mono (q4 A { s with heap := h4, toks := tk4 } hA S4 F4 trivial) (fun f s5 p => ?_) fun _ _ x => x.elim
    obtain ⟨h5, tk5, f', ρ5, σ5, rfl, S5, F5, M5, r5, q5⟩ := p
    have M35 := M4.trans M5
    have M05 := M3.trans M35
    obtain ⟨oJ, hoJ, lJ⟩ := J.loose _ _ hT3
    have again : ForJ n env target body orelse G (vs.drop (i + 1)) ρ5 σ5 Q → ∃ m, m < vs.length - i ∧ ForI n env target body orelse G σ s I vs T Q m { s with heap := h5, toks := tk5 } := fun q5 =>
      ⟨vs.length - (i + 1), by omega, i + 1, h5, tk5, ρ5, σ5, rfl, S5, F5, M05, M35.still hoJ hσ2, J.keep _ _ _ hT3 (fun o e => M35.keep I o e hσ2 nf) (keepLoose S3 F3 M35), q5, hlt, rfl⟩
    cases r5 with
    | next => exact again q5
    | cont => exact again q5
    | brk => exact hR _ _ ⟨h5, tk5, .next, ρ5, σ5, rfl, S5, F5, M05, .next, q5⟩
    | ret r => exact hR _ _ ⟨h5, tk5, .ret _, ρ5, σ5, rfl, S5, F5, M05, .ret r, q5⟩
  · have hin : i = vs.length := by omega
    subst hin
    rw [List.drop_length] at q2
    obtain ⟨g2, q2⟩ := q2
    refine J.done A { s with heap := h2, toks := tk2 } σ2 _ _ hA.hand hT2 S2 hσ2 g2 fun h3 tk3 k3 => ?_
    have S3 := S2.other hoI lI hσ2 h0 k3
    have F3 := F2.other hoI lI nf k3
    have M3 := M2.other hI k3
    exact wpAny_mono (Tr.go q2 (s := s) hA M3 S3 F3 trivial) (fun f s4 p => hR _ _ p) fun _ _ x => x.elim

set_option tactic.hygienic false
noncomputable def IterJ (a : V) (σ : AH) (G : AH → Prop) (vs : List V) : Prop :=
  ∀ (A : Around) (s : Shared) (u : Value) (Q : Value → Shared → Prop) (E : Value → Shared → Prop), A.handled = none → St s.heap σ → VRep s.heap u a →
    (∀ o T tk, ItJ G s.heap.objs.size vs T → T 0 (s.heap.push o) → Q (.ref s.heap.objs.size) { s with heap := s.heap.push o, toks := tk }) → wpAny (model c.prog c.w) A (pyIter u) Q E s
theorem iter_lst {a : Addr} {vs : List V} (ha : σ a = some (.list vs)) : IterJ (.lst a) σ (fun σ' => σ' a = some (.list vs)) vs := fun A s u Q E hh S r hQ => by
  obtain rfl := r.lst_inv
  have o := S.objs _ _ ha
  cases o with
  | @list us m _ ho hs =>
    refine wpAny_pyIter_list ⟨_, ho, rfl, _, rfl⟩ (hQ _ (fun i h => h.IsListIter s.heap.objs.size a i) s.toks ⟨?_, ?_, ?_, (fun _ _ _ _ _ st hQ => wpAny_pyIter_listiter st hQ), (fun _ _ _ _ _ _ _ _ _ st hQ => by obtain ⟨o, e, hc, hd⟩ := st; exact go_plain e hc hd (by decide) hQ), ?_⟩ ⟨_, Heap.get?_push_size _ rfl, rfl, rfl⟩)
    · rintro i h h' ⟨o, e, x⟩ k _; exact ⟨o, k _ e, x⟩
    · rintro i h ⟨o, e, hc, x⟩; exact ⟨o, e, loose_cls hc (by decide) (by decide)⟩
    · intro i v A s σ Q E hh ht S hI g hv hQ
      have o := S.objs _ _ g
      cases o with
      | @list us m _ ho hs =>
        obtain ⟨u, hu, r⟩ := hs.get hv
        exact wpAny_pyNext_list_item ht ⟨_, ho, rfl, _, rfl⟩ (by simpa using hu) fun h' hit sb => hQ u h' s.toks r hit fun b o n e => (sb.2 b n).trans e
    · intro A s σ Q E hh ht S hI g hQ
      have o := S.objs _ _ g
      cases o with
      | @list us m _ ho hs =>
        have e0 := hs.length; rw [Array.length_toList] at e0
        exact wpAny_pyNext_list_end hh ht ⟨_, ho, rfl, _, rfl⟩ (by simp [e0]) fun h' eb => hQ h' s.toks fun b o n e => eb b o n e
theorem iter_tup {vs : List V} : IterJ (.tup vs) σ (fun _ => True) vs := fun A s u Q E hh S r hQ => by
  obtain ⟨a, items, m, rfl, ht, hs⟩ := VRep.tup_inv r
  have ne : ∀ {h : Heap} {I t : Addr} {i us m}, h.IsTupleIter I t i → IsT h t us m → t ≠ I := by
    rintro h I t i us m ⟨o, e, hc, _⟩ e2 rfl
    rw [e2] at e; cases e; simp at hc
  refine wpAny_pyIter_tuple ⟨_, ht, rfl, _, rfl⟩ (hQ _ (fun i h => ∃ t us m, h.IsTupleIter s.heap.objs.size t i ∧ IsT h t us m ∧ VsRep h us.toList vs) s.toks ⟨?_, ?_, ?_, (fun _ _ _ _ _ st hQ => by obtain ⟨_, _, _, st, _⟩ := st; exact wpAny_pyIter_tupleiter st hQ), (fun _ _ _ _ _ _ _ _ _ st hQ => by obtain ⟨_, _, _, ⟨o, e, hc, hd⟩, _⟩ := st; exact go_plain e hc hd (by decide) hQ), ?_⟩ ⟨a, items, m, ⟨_, Heap.get?_push_size _ rfl, rfl, rfl⟩, push_keeps _ _ _ ht, hs.keep fun b o e _ => push_keeps _ b o e⟩)
  · rintro i h h' ⟨t, us, m, ⟨o, e, x⟩, ht, hs⟩ k kl; exact ⟨t, us, m, ⟨o, k _ e, x⟩, kl _ _ ht (fun l => l (.inl ⟨_, _, rfl⟩)), hs.keep kl⟩
  · rintro i h ⟨_, _, _, ⟨o, e, hc, x⟩, _⟩; exact ⟨o, e, loose_cls hc (by decide) (by decide)⟩
  · intro i v A s σ Q E hh ⟨t, us, m, hit, ht, hs⟩ S hI g hv hQ
    obtain ⟨u, hu, r⟩ := hs.get hv
    have n1 := ne hit ht
    refine wpAny_pyNext_tuple_item hit ⟨_, ht, rfl, _, rfl⟩ (by simpa using hu) fun h' hit' sb => ?_
    obtain ⟨oI, hoI, hcI, hdI⟩ := hit
    exact hQ u h' s.toks r ⟨t, us, m, hit', (sb.2 t n1).trans ht, hs.keep (loose_upd hoI (loose_cls hcI (by decide) (by decide)) fun b o n e => (sb.2 b n).trans e)⟩ fun b o n e => (sb.2 b n).trans e
  · intro A s σ Q E hh ⟨t, us, m, hit, ht, hs⟩ S hI g hQ
    have e0 := hs.length; rw [Array.length_toList] at e0
    exact wpAny_pyNext_tuple_end hh hit ⟨_, ht, rfl, _, rfl⟩ (by simp [e0]) fun h' eb => hQ h' s.toks fun b o n e => eb b o n e
noncomputable def rangeVs (a b : Int) : List V := (List.range (b - a).toNat).map fun i => .int (a + (i : Nat))
theorem rangeVs_length (a b : Int) : (rangeVs a b).length = (b - a).toNat := by simp [rangeVs]
theorem iter_rng {a b : Int} (ha : -1000000 ≤ a) (ha' : a ≤ 1000000) (hb : -1000000 ≤ b) (hb' : b ≤ 1000000) : IterJ (.rng a b) σ (fun _ => True) (rangeVs a b) := fun A s u Q E hh S r hQ => by
  cases r with
  | @rng r _ _ t u v ho =>
  have sz : Builtin.Range.rangeSize a b 1 = ((b - a).toNat : Int) := by unfold Builtin.Range.rangeSize; simp; lia
  refine wpAny_pyIter_range ho (small_one (by lia) (by lia) (by lia) (by lia)) ?_
  refine (hQ _ (fun i h => IsRangeIter h s.heap.objs.size (a + (i : Nat)) (((b - a).toNat : Int) - (i : Nat)) 1) s.toks ⟨?_, ?_, ?_, (fun _ _ _ _ _ st hQ => wpAny_pyIter_rangeiter st hQ), (fun _ _ _ _ _ _ _ _ _ st hQ => go_plain st rfl rfl (by decide) hQ), ?_⟩ ?_)
  · intro i h h' x k _; exact k _ x
  · intro i h x; exact ⟨_, x, loose_cls (t := "range_iterator") rfl (by decide) (by decide)⟩
  · intro i w A s σ Q E hh hit S hI g hv hQ
    have hlt : i < (b - a).toNat := by have := (List.getElem?_eq_some_iff.mp hv).1; rwa [rangeVs_length] at this
    have ev : w = .int (a + (i : Nat)) := by simp [rangeVs, List.getElem?_range hlt] at hv; exact hv.symm
    subst ev
    refine wpAny_pyNext_range_item hit (by lia) fun h' hit' sb => hQ _ h' _ (.int _ _) ?_ fun b o n e => (sb.2 b n).trans e
    have e1 : a + ((i + 1 : Nat) : Int) = a + (i : Int) + 1 := by lia
    have e2 : ((b - a).toNat : Int) - ((i + 1 : Nat) : Int) = ((b - a).toNat : Int) - (i : Int) - 1 := by lia
    rw [e1, e2]; exact hit'
  · intro A s σ Q E hh hit S hI g hQ
    rw [rangeVs_length] at hit
    exact wpAny_pyNext_range_end hh hit (by lia) fun h' eb => hQ h' s.toks fun b o n e => eb b o n e
  · rw [← sz]
    have : a + ((0 : Nat) : Int) = a := by lia
    rw [this]
    have : Builtin.Range.rangeSize a b 1 - ((0 : Nat) : Int) = Builtin.Range.rangeSize a b 1 := by lia
    rw [this]
    exact Heap.get?_push_size _ rfl
theorem st_for {target iter : Expr} {body orelse : List Stmt} {pos : Pos} (h : Ex n env iter ρ σ (fun a ρ1 σ1 => ∃ G vs, IterJ a σ1 G vs ∧ ForJ n env target body orelse G vs ρ1 σ1 Q))
    (hs : ∀ x, foldedSetIterable iter env x = Pure.pure x := by intro _; rfl) (ht : ∀ I v, letOwnedTupleGo target (.ref I) v = Pure.pure () := by intro _ _; rfl) : Stm n env (.For target iter body orelse pos) ρ σ Q := fun A s hA S F _ => by
  refine wpAny_For (wpAny_mono (h A s hA S F trivial) (fun u s1 p => ?_) fun _ _ x => x) hs
  obtain ⟨h1, tk1, a, ρ1, σ1, rfl, S1, F1, M1, r1, G, vs, J, q1⟩ := p
  refine J A { s with heap := h1, toks := tk1 } u _ _ hA.hand S1 r1 fun o T tk J hT => ?_
  have kp := push_keeps (h := h1) o
  have nI : h1.get? h1.objs.size = none := get_none_of_size (Nat.le_refl _)
  have hσI : σ1 h1.objs.size = none := by
    cases z : σ1 h1.objs.size with
    | none => rfl
    | some ao => obtain ⟨ob, e1, _⟩ := (S1.objs _ _ z).at; rw [nI] at e1; cases e1
  exact for_loop J hA (s := s) (M1.nope nI) S F rfl (S1.ext kp) (F1.ext' kp) (M1.trans (.ext kp)) hσI hT q1 (fun f s' p => p) (ht _)
end
end
section
open PySem PySem.W PyProof.Rows PySem.Calls
noncomputable def CompJ (n : Nat) (env' : Env) (target elt : Expr) (G : AH → Prop) (K : Loc → Prop) : List V → List V → Loc → AH → (List V → AH → Prop) → Prop
  | [], acc, ρ, σ, Q => G σ ∧ Q acc σ
  | v :: vs, acc, ρ, σ, Q => G σ ∧ Asg n env' target v ρ σ (fun ρ1 σ1 => Ex n env' elt ρ1 σ1 (fun y ρ2 σ2 => acc.length ≤ 1000000 ∧ K ρ2 ∧ CompJ n env' target elt G K vs (acc ++ [y]) ρ2 σ2 Q))
section
variable {env : Env} {σ : AH} {ρ : Loc} {h : Heap}
theorem St.adopt (S : St h σ) {a : Addr} {ao : AO} (r : ORep h a ao) (h0 : c.h0.get? a = none) (h1 : a ≠ 1) : St h (σ.put a ao) := by
  refine ⟨S.keep0, fun b o e => ?_, fun b o e => ?_, fun b o e => ?_, S.base, S.ok⟩
  · by_cases q : b = a
    · subst q; rw [AH.put_self] at e; cases e; exact r
    · rw [AH.put_ne _ _ q] at e; exact S.objs b o e
  · by_cases q : b = a
    · subst q; exact h0
    · rw [AH.put_ne _ _ q] at e; exact S.new b o e
  · by_cases q : b = a
    · rw [q]; exact h1
    · rw [AH.put_ne _ _ q] at e; exact S.lo b o e
theorem Frm.adopt (F : Frm env h σ ρ) {a : Addr} {ao : AO} (na : a ∉ frameAddrs env) : Frm env h (σ.put a ao) ρ :=
  F.ext (fun _ _ e => e) fun b hb => by
    rw [AH.put_ne]
    · exact (F.sep b hb).1
    · rintro rfl; exact na hb
theorem Fm.adopt {g : Heap} {σ₀ : AH} (M : Fm env σ₀ g h σ) {a : Addr} {ao : AO} (ha : g.get? a = none) : Fm env σ₀ g h (σ.put a ao) :=
  ⟨M.keep, M.pres, fun b o e1 e2 => by
    by_cases q : b = a
    · rw [q]; exact ha
    · rw [AH.put_ne _ _ q] at e1; exact M.fresh b o e1 e2⟩
theorem Frm.across {env' : Env} {h' : Heap} {σ' : AH} {ρa ρb : Loc} (S : St h σ) (F : Frm env h σ ρ) (F0 : Frm env' h σ ρa) (M : Fm env' σ h h' σ') (F' : Frm env' h' σ' ρb)
    (hl : env.locals ∉ frameAddrs env')
    (hcl : ∀ p ∈ env.cells, p.2 ∈ frameAddrs env' → env'.kindOf p.1 = some .cell ∧ env'.cells.lookup p.1 = some p.2)
    (hk : ∀ p ∈ env'.cells, ∀ v, ρ.lookup p.1 = some v → ρb.lookup p.1 = some v) (hin : ∀ p ∈ env'.cells, p.2 ∈ frameAddrs env') : Frm env h' σ' ρ := by
  have keep : ∀ b ∈ frameAddrs env, b ∉ frameAddrs env' → ∀ o, h.get? b = some o → h'.get? b = some o := fun b hb nb o e => M.keep b o e (F.sep b hb).1 nb
  refine ⟨fun x v e => ?_, ?_, fun b hb => ?_, F.nodup, fun q hq => ?_, F.kind, F.glob⟩
  · obtain ⟨u, hu, r⟩ := F.has x v e
    rcases hu with ⟨hlx, m, hn, hv⟩ | ⟨hkx, a, o, hc, ho, hd⟩
    · exact ⟨u, .inl ⟨hlx, m, hn.at' (keep _ (.head _) hl), hv⟩, r.step S F0 M⟩
    · obtain ⟨l1, l2, ec, _⟩ := List.lookup_eq_some_iff.mp hc
      have mc : (x, a) ∈ env.cells := by rw [ec]; simp
      by_cases q : a ∈ frameAddrs env'
      · obtain ⟨k1, k2⟩ := hcl _ mc q
        have m2 : (x, a) ∈ env'.cells := by
          obtain ⟨j1, j2, ej, _⟩ := List.lookup_eq_some_iff.mp k2
          rw [ej]; simp
        obtain ⟨u', hu', r'⟩ := F'.has x v (hk _ m2 v e)
        rcases hu' with ⟨hlx, _⟩ | ⟨_, a', o', hc', ho', hd'⟩
        · rw [k1] at hlx; cases hlx
        · rw [k2] at hc'; cases hc'
          exact ⟨u', .inr ⟨hkx, a, o', hc, ho', hd'⟩, r'⟩
      · exact ⟨u, .inr ⟨hkx, a, o, hc, keep a (.tail _ (List.mem_map.mpr ⟨(x, a), mc, rfl⟩)) q o ho, hd⟩, r.step S F0 M⟩
  · obtain ⟨m, hm⟩ := F.ns; exact ⟨m, hm.at' (keep _ (.head _) hl)⟩
  · obtain ⟨e1, e2, o, e3, e4⟩ := F.sep b hb
    by_cases q : b ∈ frameAddrs env'
    · obtain ⟨f1, _, o', f3, f4⟩ := F'.sep b q
      exact ⟨f1, e2, o', f3, f4⟩
    · exact ⟨M.still e3 e1, e2, o, keep b hb q o e3, e4⟩
  · by_cases z : q.2 ∈ frameAddrs env'
    · obtain ⟨k1, k2⟩ := hcl _ hq z
      have m2 : (q.1, q.2) ∈ env'.cells := by
        obtain ⟨j1, j2, ej, _⟩ := List.lookup_eq_some_iff.mp k2
        rw [ej]; simp
      exact F'.cell _ m2
    · exact IsCell.keep (keep _ (.tail _ (List.mem_map_of_mem hq)) z) (F.cell q hq)
theorem Fm.across {env' : Env} {g h' : Heap} {σ₀ σ' : AH} (M : Fm env σ₀ g h σ) (N : Fm env' σ h h' σ') (hf : ∀ b ∈ frameAddrs env', b ∈ frameAddrs env ∨ g.get? b = none) : Fm env σ₀ g h' σ' := by
  refine ⟨fun b o e n f => ?_, fun b o e => ?_, fun b o e n => ?_⟩
  · have e2 := M.keep b o e n f
    refine N.keep b o e2 (M.still e n) fun q => ?_
    rcases hf b q with q | q
    · exact f q
    · rw [q] at e; cases e
  · obtain ⟨o', e'⟩ := M.pres b o e
    exact N.pres b o' e'
  · cases z : σ b with
    | none => exact M.nope (N.fresh b o e z)
    | some o' => exact M.fresh b o' z n
end
section
variable {n : Nat} {env : Env} {ρ : Loc} {σ : AH} {Q : V → Loc → AH → Prop}
inductive CompI (n : Nat) (env env' : Env) (target elt : Expr) (G : AH → Prop) (K : Loc → Prop) (ρ1 : Loc) (σ : AH) (s : Shared) (I D : Addr) (vs : List V) (T : Nat → Heap → Prop) (Q : List V → AH → Prop) (k : Nat) (s' : Shared) : Prop
  | mk (i : Nat) (h' : Heap) (tk : Nat) (ρ' : Loc) (σ' : AH) (us : Array Value) (m : Nat) (acc : List V) (e : s' = { s with heap := h', toks := tk }) (S : St h' σ') (F' : Frm env' h' σ' ρ') (F : Frm env h' σ' ρ1) (M : Fm env σ s.heap h' σ') (hI : σ' I = none) (hD : σ' D = none) (hT : T i h') (L : IsL h' D us m) (R : VsRep h' us.toList acc)
    (q : CompJ n env' target elt G K (vs.drop i) acc ρ' σ' Q) (hi : i ≤ vs.length) (hk : k = vs.length - i)
def CompRule (target : Expr) : Prop := ∀ {prog : Program} {A : Around} {elt iter : Expr} {scope : Scope} {pos : Pos} {it acc : Value} {env : Env} {R : Result → Shared → Prop} (I : Nat → Shared → Prop)
    (turn : ∀ n s, I n s → wpAny (model prog w) A (pyNext it) (fun r s₁ => match r with
      | none => R (.ok .next) s₁
      | some v => (∀ (elts : List Expr) (x1 : Nat) (tp : Pos) (Q : Unit → Shared → Prop) (E : Value → Shared → Prop), Q () s₁ → wpAny (model prog w) A (letOwnedTupleGo (.Tuple elts x1 tp) it v) Q E s₁) ∧ wpAny (model prog w) A (assign target env v) (fun _ s₂ =>
          wpAny (model prog w) A (eval elt env) (fun x s₄ =>
              wpAny (model prog w) A (call (.builtin "list.append") [acc, x]) (fun _ s₅ => ∃ m, m < n ∧ I m s₅) (notedBy (model prog w) A env fun e s' => R (.error e) s') s₄) (notedBy (model prog w) A env fun e s' => R (.error e) s') s₂)
          (notedBy (model prog w) A env fun e s' => R (.error e) s') s₁) (notedBy (model prog w) A env fun e s' => R (.error e) s') s)
    (n : Nat), (∀ s, I n s → codeAny (model prog w) A (.compLoop (.ListComp elt [⟨target, iter, [], 0⟩] scope pos) 0 it acc env) R s)
theorem rule_plain {target : Expr} (ht : ∀ it v, letOwnedTupleGo target it v = Pure.pure ()) : CompRule target := fun I turn n s h =>
  codeAny_compLoop_tests I (fun n s hI => wpAny_mono (turn n s hI) (fun r s₁ h₁ => by
    cases r with
    | none => exact h₁
    | some v => exact wpAny_mono h₁.2 (fun _ s₂ h₂ => wpAny_tests_nil (by simp only [if_true]; exact h₂)) fun _ _ x => x) fun _ _ x => x) n h (ht _)
theorem rule_tuple {elts : List Expr} {x1 : Nat} {tp : Pos} : CompRule (.Tuple elts x1 tp) := fun I turn n s h =>
  LCp.codeAny_compLoop_pair I (fun n s hI => wpAny_mono (turn n s hI) (fun r s₁ h₁ => by
    cases r with
    | none => exact h₁
    | some v => exact h₁.1 _ _ _ _ _ h₁.2) fun _ _ x => x) n h
inductive LcQ (n : Nat) (env : Env) (scope : Scope) (cl : List (Str × Addr)) (target elt : Expr) (Q : V → Loc → AH → Prop) (a : V) (ρ1 : Loc) (σ1 : AH) : Prop
  | mk (G : AH → Prop) (vs : List V) (ρ0 : Loc) (J : IterJ a σ1 G vs) (hρ : ∀ x v, ρ0.lookup x = some v → ρ1.lookup x = some v ∧ x ∈ cl.map (·.1))
    (q : ∀ C, CompJ n (compEnvC scope cl C env) target elt G (fun ρ' => ∀ p ∈ cl, ∀ v, ρ1.lookup p.1 = some v → ρ'.lookup p.1 = some v) vs [] ρ0 σ1 (fun ys σ2 => ∀ D, σ2 D = none → Q (.lst D) ρ1 (σ2.put D (.list ys))))
theorem ex_listcomp {elt target iter : Expr} {scope : Scope} {cl : List (Str × Addr)} {pos : Pos}
    (hclos : closureFor scope env = pure cl) (hcell : ∀ y ∈ scope.names, y.2 ≠ .cell) (hkind : scope.kind = .function)
    (hnames : ∀ y ∈ scope.names, y.2 = .local → scope.names.lookup y.1 = some .local)
    (hcl : ∀ p ∈ cl, env.cells.lookup p.1 = some p.2 ∧ cl.lookup p.1 = some p.2 ∧ (relabel scope env).names.lookup p.1 = some .cell ∧ (env.kindOf p.1 = some .cell ∨ env.kindOf p.1 = some .free)) (hnd : (cl.map (·.2)).Nodup)
    (hback : ∀ p ∈ env.cells, p.2 ∈ cl.map (·.2) → p ∈ cl)
    (h : Ex n env iter ρ σ (LcQ n env scope cl target elt Q))
    (hs : ∀ x, foldedSetIterable iter env x = Pure.pure x := by intro _; rfl) (hr : CompRule target := by exact rule_plain fun _ _ => rfl) : Ex n env (.ListComp elt [⟨target, iter, [], 0⟩] scope pos) ρ σ Q := fun A s hA S F _ => by
  rw [eval_ListComp]
  refine wpAny_comprehension_free (use := none) rfl hs hclos hkind hnames (wpAny_mono (h A s hA S F trivial) (fun u s1 p => ?_) fun _ _ x => x.elim)
  obtain ⟨h1, tk1, a, ρ1, σ1, rfl, S1, F1, M1, r1, G, vs, ρ0, J, hρ, q1⟩ := p
  refine J A { s with heap := h1, toks := tk1 } u _ _ hA.hand S1 r1 fun o T tk2 J hT => ?_
  dsimp only at J hT ⊢
  generalize hI : h1.objs.size = I at J hT ⊢
  have kI := push_keeps (h := h1) o
  have nI : h1.get? I = none := by rw [← hI]; exact get_none_of_size (Nat.le_refl _)
  have sz2 : (h1.push o).objs.size = I + 1 := by rw [Heap.size_push, hI]
  generalize hh2 : h1.push o = h2 at hT kI sz2 ⊢
  refine wpAny_newObj_type (wpAny_newFunctionEnv hcell (by intro y hy; simp at hy) (fun h4 hns4 hsb4 => ?_) hkind)
  dsimp only at hns4 hsb4 ⊢
  generalize hh3 : h2.push { cls := .type "list", dict := none, data := .seq ([] : List Value).toArray } = h3 at hns4 hsb4 ⊢
  have kD : ∀ b o, h2.get? b = some o → h3.get? b = some o := by rw [← hh3]; exact push_keeps _
  have hD3 : h3.get? h2.objs.size = some { cls := .type "list", dict := none, data := .seq ([] : List Value).toArray, slots := #[] } := by rw [← hh3]; exact Heap.get?_push_size _ rfl
  have sz3 : h3.objs.size = h2.objs.size + 1 := by rw [← hh3, Heap.size_push]
  generalize hD : h2.objs.size = D at hD3 sz3 ⊢
  generalize hC : h3.objs.size = C at hns4 hsb4 ⊢
  have nID : I ≠ D := by exact (fun z0 => lin3 (.f (.v 0) (.a (.v 1) (.k 1)) (.e (.v 0) (.v 2) (.f (.v 1) (.v 2) (.z)))) rfl sz2 hD z0)
  have nIC : I ≠ C := by exact (fun z0 => lin5 (.f (.v 0) (.a (.v 1) (.k 1)) (.f (.v 2) (.a (.v 3) (.k 1)) (.e (.v 0) (.v 4) (.e (.v 2) (.v 1) (.f (.v 3) (.v 4) (.z)))))) rfl sz3 sz2 hC hD z0)
  have nDC : D ≠ C := by exact (fun z0 => lin3 (.f (.v 0) (.a (.v 1) (.k 1)) (.e (.v 0) (.v 2) (.f (.v 1) (.v 2) (.z)))) rfl sz3 hC z0)
  have n1 : ∀ b, h1.objs.size ≤ b → h1.get? b = none := fun b hb => get_none_of_size hb
  have n1D : h1.get? D = none := n1 D (by exact lin4 (.f (.v 0) (.a (.v 1) (.k 1)) (.e (.v 0) (.v 2) (.e (.v 3) (.v 1) (.g (.v 3) (.v 2))))) rfl sz2 hD hI)
  have n1C : h1.get? C = none := n1 C (by exact lin6 (.f (.v 0) (.a (.v 1) (.k 1)) (.f (.v 2) (.a (.v 3) (.k 1)) (.e (.v 0) (.v 4) (.e (.v 2) (.v 1) (.e (.v 5) (.v 3) (.g (.v 5) (.v 4))))))) rfl sz3 sz2 hC hD hI)
  have k4 : ∀ b o, b ≠ C → h3.get? b = some o → h4.get? b = some o := fun b o nb e => hsb4.extBut b o nb (push_keeps _ b o e)
  have k14 : ∀ b o, h1.get? b = some o → h4.get? b = some o := fun b o e => k4 b o (fun q => by rw [q, n1C] at e; cases e) (kD b o (kI b o e))
  have none_of : ∀ {a : Addr}, h1.get? a = none → σ1 a = none := fun {a} ha => by
    cases z : σ1 a with
    | none => rfl
    | some ao => obtain ⟨ob, e1, _⟩ := (S1.objs _ _ z).at; rw [ha] at e1; cases e1
  have h0_of : ∀ {a : Addr}, h1.get? a = none → c.h0.get? a = none := fun {a} ha => by
    cases z : c.h0.get? a with
    | none => rfl
    | some ao => rw [S1.keep0 _ _ z] at ha; cases ha
  have nfr : ∀ {a : Addr}, h1.get? a = none → a ∉ frameAddrs env := fun {a} ha m => by obtain ⟨_, _, o, e, _⟩ := F1.sep a m; rw [ha] at e; cases e
  have hE : frameAddrs (compEnvC scope cl C env) = C :: cl.map (·.2) := rfl
  have S4 : St h4 σ1 := S1.ext k14
  have F4 : Frm env h4 σ1 ρ1 := F1.ext' k14
  have M4 : Fm env σ s.heap h4 σ1 := M1.trans (.ext k14)
  have clcell : ∀ p ∈ cl, p.2 ∈ frameAddrs env := fun p hp => by
    obtain ⟨l1, l2, ec, _⟩ := List.lookup_eq_some_iff.mp (hcl p hp).1
    exact .tail _ (List.mem_map.mpr ⟨p, by rw [ec]; simp, rfl⟩)
  have F4' : Frm (compEnvC scope cl C env) h4 σ1 ρ0 := by
    refine ⟨fun x v e => ?_, ⟨_, hns4⟩, fun b hb => ?_, ?_, fun q hq => ?_, hkind, F1.glob⟩
    · obtain ⟨e1, m1⟩ := hρ x v e
      obtain ⟨p, hp, rfl⟩ := List.mem_map.mp m1
      obtain ⟨c1, c2, c3, c4⟩ := hcl p hp
      obtain ⟨u, hu, r⟩ := F4.has _ _ e1
      rcases hu with ⟨hlx, _⟩ | ⟨_, a, o, hc, ho, hd⟩
      · rcases c4 with c4 | c4 <;> (rw [c4] at hlx; cases hlx)
      · rw [c1] at hc; cases hc
        exact ⟨u, .inr ⟨.inl c3, p.2, o, c2, ho, hd⟩, r⟩
    · rw [hE] at hb
      rcases List.mem_cons.mp hb with rfl | hb
      · obtain ⟨oL, es, ep, hoL, hd, _⟩ := hns4
        exact ⟨none_of n1C, h0_of n1C, oL, hoL, loose_dict hd⟩
      · obtain ⟨p, hp, rfl⟩ := List.mem_map.mp hb
        exact F4.sep _ (clcell p hp)
    · rw [hE, List.nodup_cons]
      refine ⟨fun m => ?_, hnd⟩
      obtain ⟨p, hp, e⟩ := List.mem_map.mp m
      exact nfr n1C (e ▸ clcell p hp)
    · have hq' : q ∈ cl := hq
      obtain ⟨l1, l2, ec, _⟩ := List.lookup_eq_some_iff.mp (hcl q hq').1
      exact F4.cell q (by rw [ec]; simp)
  have T4 : T 0 h4 := J.keep 0 h2 h4 hT (fun o e => k4 I o nIC (kD I o e)) fun b o e _ => k4 b o (fun q => by
    have l : @LT.lt Nat _ b h2.objs.size := Heap.lt_size e
    have q' : @Eq Nat b C := q
    exact lin5 (.t (.v 0) (.v 1) (.f (.v 2) (.a (.v 3) (.k 1)) (.e (.v 1) (.v 3) (.e (.v 2) (.v 4) (.f (.v 0) (.v 4) (.z)))))) rfl l sz3 hD hC q) (kD b o e)
  have hD4 : IsL h4 D #[] 0 := k4 D _ nDC hD3
  have key : codeAny (model c.prog c.w) A (.compLoop (.ListComp elt [⟨target, iter, [], 0⟩] scope pos) 0 (.ref I) (.ref D) (compEnvC scope cl C env)) (compPost (model c.prog c.w) A NoE none (Post env σ s VRep Q) (.ref D) C) { s with heap := h4, toks := tk2 } := by
    refine hr (fun k s' => CompI n env (compEnvC scope cl C env) target elt G (fun ρ' => ∀ p ∈ cl, ∀ v, ρ1.lookup p.1 = some v → ρ'.lookup p.1 = some v) ρ1 σ s I D vs T (fun ys σ2 => ∀ D, σ2 D = none → Q (.lst D) ρ1 (σ2.put D (.list ys))) k s') ?_ vs.length _
      ⟨0, h4, tk2, ρ0, σ1, #[], 0, [], rfl, S4, F4', F4, M4, none_of (by rw [← hI]; exact n1 _ (Nat.le_refl _)), none_of n1D, T4, hD4, .nil, q1 C, Nat.zero_le _, rfl⟩
    rintro k s' ⟨i, h5, tk5, ρ5, σ5, us, m, acc, rfl, S5, F5', F5, M5, hI5, hD5, T5, L5, R5, q5, hi, rfl⟩
    obtain ⟨oI, hoI, lI⟩ := J.loose _ _ T5
    have nI0 : s.heap.get? I = none := M1.nope nI
    have nD0 : s.heap.get? D = none := M1.nope n1D
    have nC0 : s.heap.get? C = none := M1.nope n1C
    have n1I : h1.get? I = none := nI
    have nfr' : ∀ {a : Addr}, h1.get? a = none → a ≠ C → a ∉ frameAddrs (compEnvC scope cl C env) := fun {a} ha nc m => by
      rw [hE] at m
      rcases List.mem_cons.mp m with q | q
      · exact nc q
      · obtain ⟨p, hp, e⟩ := List.mem_map.mp q
        exact nfr ha (e ▸ clcell p hp)
    have lD : Loose { cls := .type "list", dict := none, data := .seq us m, slots := #[] } := loose_cls (t := "list") rfl (by decide) (by decide)
    by_cases hlt : i < vs.length
    · have ed : vs.drop i = vs[i] :: vs.drop (i + 1) := (List.drop_eq_getElem_cons hlt)
      rw [ed] at q5
      obtain ⟨g5, q5⟩ := q5
      refine J.item i vs[i] A { s with heap := h5, toks := tk5 } σ5 _ _ hA.hand T5 S5 hI5 g5 (List.getElem?_eq_getElem hlt) fun u h6 tk6 r6 T6 k6 => ?_
      have S6 := S5.other hoI lI hI5 (h0_of n1I) k6
      have F6' := F5'.other hoI lI (nfr' n1I nIC) k6
      have F6 := F5.other hoI lI (nfr n1I) k6
      have M6 := M5.other nI0 k6
      have R6 := R5.keep (loose_upd hoI lI k6)
      have L6 : IsL h6 D us m := k6 D _ (fun q => nID q.symm) L5
      refine ⟨fun elts x1 tp Q E hq => J.go (i + 1) A { s with heap := h6, toks := tk6 } elts x1 tp u Q E T6 hq, ?_⟩
      refine wpAny_mono (q5 u A { s with heap := h6, toks := tk6 } hA S6 F6' (r6.keep (loose_upd hoI lI k6))) (fun _ s7 p => ?_) fun _ _ x => x.elim
      obtain ⟨h7, tk7, _, ρ7, σ7, rfl, S7, F7', M7, _, q7⟩ := p
      refine wpAny_mono (q7 A { s with heap := h7, toks := tk7 } hA S7 F7' trivial) (fun y s8 p => ?_) fun _ _ x => x.elim
      obtain ⟨h8, tk8, yv, ρ8, σ8, rfl, S8, F8', M8, r8, hl8, K8, q8⟩ := p
      have M78 : Fm (compEnvC scope cl C env) σ5 h6 h8 σ8 := M7.trans M8
      have hE' : frameAddrs (compEnvC scope cl C env) = C :: cl.map (·.2) := rfl
      have F8 : Frm env h8 σ8 ρ1 := F6.across S6 F6' M78 F8' (by
        rw [hE']; intro q
        rcases List.mem_cons.mp q with q | q
        · exact nfr n1C (q ▸ .head _)
        · obtain ⟨p, hp, e⟩ := List.mem_map.mp q
          have nd := F1.nodup
          unfold frameAddrs at nd
          rw [List.nodup_cons] at nd
          obtain ⟨l1, l2, ec, _⟩ := List.lookup_eq_some_iff.mp (hcl p hp).1
          exact nd.1 (e ▸ List.mem_map.mpr ⟨p, by rw [ec]; simp, rfl⟩)) (fun p hp q => by
        rw [hE'] at q
        rcases List.mem_cons.mp q with q | q
        · exact absurd (List.mem_cons_of_mem _ (List.mem_map_of_mem hp)) (q ▸ nfr n1C)
        · obtain ⟨c1, c2, c3, c4⟩ := hcl p (hback p hp q)
          exact ⟨c3, c2⟩) K8 (fun p hp => by rw [hE']; exact List.mem_cons_of_mem _ (List.mem_map_of_mem hp))
      have M8o : Fm env σ s.heap h8 σ8 := M6.across M78 fun b hb => by
        rw [hE'] at hb
        rcases List.mem_cons.mp hb with q | q
        · exact .inr (q ▸ nC0)
        · obtain ⟨p, hp, e⟩ := List.mem_map.mp q
          exact .inl (e ▸ clcell p hp)
      have nfD := nfr' n1D nDC
      have L8 : IsL h8 D us m := M78.keep D _ L6 hD5 nfD
      have T8 : T (i + 1) h8 := J.keep _ _ _ T6 (fun o e => M78.keep I o e hI5 (nfr' n1I nIC)) (keepLoose S6 F6' M78)
      have hI8 : σ8 I = none := by
        obtain ⟨oJ, hoJ, _⟩ := J.loose _ _ T6
        exact M78.still hoJ hI5
      have hD8 : σ8 D = none := M78.still L6 hD5
      have R8 := R6.step S6 F6' M78
      have el : us.size ≤ sizeLine := by have := R8.length; rw [Array.length_toList] at this; rw [sizeLine_eq]; exact lin2 (.e (.v 0) (.v 1) (.l (.v 1) (.k 1000000) (.g (.v 0) (.k 16777216)))) rfl this hl8
      refine call_meets PySem.F.slot_list_append (T := "list") ⟨_, L8, rfl⟩ PySem.F.entry_list_append (PySem.F.args_list_append_2 _ _) (list_append D us m y el) ⟨L8, ?_⟩
      have sb := Heap.SameBut.update h8 D (Obj.mapSeq fun x => x.push y)
      have k9 : ∀ b o, b ≠ D → h8.get? b = some o → (h8.update D (Obj.mapSeq fun x => x.push y)).get? b = some o := fun b o nb e => (sb.2 b nb).trans e
      have lk := loose_upd L8 lD k9
      refine ⟨vs.length - (i + 1), by lia -abstractProof, i + 1, _, _, ρ8, σ8, _, _, acc ++ [yv], rfl, S8.other L8 lD hD8 (h0_of n1D) k9, F8'.other L8 lD nfD k9, F8.other L8 lD (nfr n1D) k9, M8o.other nD0 k9, hI8, hD8, J.keep _ _ _ T8 (fun o e => k9 I o nID e) lk, L8.update _, ?_, q8, hlt, rfl⟩
      simpa using (R8.keep lk).snoc (r8.keep lk)
    · have hin : i = vs.length := by exact Nat.le_antisymm (lin2 (.l (.v 0) (.v 1) (.g (.v 0) (.v 1))) rfl hi) (lin2 (.l (.v 0) (.v 1) (.g (.v 0) (.v 1))) rfl (Nat.le_of_not_lt hlt))
      subst hin
      rw [List.drop_length] at q5
      obtain ⟨g5, q5⟩ := q5
      refine J.done A { s with heap := h5, toks := tk5 } σ5 _ _ hA.hand T5 S5 hI5 g5 fun h6 tk6 k6 => ?_
      have S6 := S5.other hoI lI hI5 (h0_of n1I) k6
      have F6' := F5'.other hoI lI (nfr' n1I nIC) k6
      have F6 := F5.other hoI lI (nfr n1I) k6
      have M6 := M5.other nI0 k6
      have R6 := R5.keep (loose_upd hoI lI k6)
      have L6 : IsL h6 D us m := k6 D _ (fun q => nID q.symm) L5
      obtain ⟨mC, hmC⟩ := F6'.ns
      obtain ⟨fC1, fC2, oC, fC3, fC4⟩ := F6'.sep C (.head _)
      refine ⟨mC, hmC, fun h7 sb7 => ?_⟩
      have k7 : ∀ b o, b ≠ C → h6.get? b = some o → h7.get? b = some o := fun b o nb e => (sb7.2 b nb).trans e
      have lk := loose_upd fC3 fC4 k7
      have S7 := S6.other fC3 fC4 fC1 fC2 k7
      have F7 := F6.other fC3 fC4 (nfr n1C) k7
      have M7 := M6.other nC0 k7
      have L7 : IsL h7 D us m := k7 D _ nDC L6
      have hD2 : D ≠ 1 := by
        obtain ⟨o2, e2⟩ := S1.base
        have := Heap.lt_size (S1.keep0 _ _ e2)
        have l : @LT.lt Nat _ 2 h1.objs.size := this
        intro q
        have q' : @Eq Nat D 1 := q
        exact lin4 (.t (.k 2) (.v 0) (.f (.v 1) (.a (.v 2) (.k 1)) (.e (.v 3) (.k 1) (.e (.v 0) (.v 2) (.e (.v 1) (.v 3) (.z)))))) rfl this sz2 q hI hD
      exact ⟨h7, tk6, .lst D, ρ1, σ5.put D (.list acc), rfl, S7.adopt (.list L7 (R6.keep lk)) (h0_of n1D) hD2, F7.adopt (nfr n1D), M7.adopt nD0, .lst D, q5 D hD5⟩
  exact codeAny_compStart_list key (J.self 0 A _ _ _ T4 key)
end
end
section
open PySem PySem.W PyProof.Rows PySem.Calls
set_option tactic.hygienic true
noncomputable def ForQ (I : Loc → AH → Prop) (Q : Fl → Loc → AH → Prop) : Fl → Loc → AH → Prop := fun f ρ σ => match f with
  | .next | .cont => I ρ σ
  | .brk => Q .next ρ σ
  | .ret v => Q (.ret v) ρ σ
theorem forj_inv {n : Nat} {env : Env} {Q : Fl → Loc → AH → Prop} {target : Expr} {body orelse : List Stmt} {G : AH → Prop} (I : List V → Loc → AH → Prop) (hG : ∀ vs ρ σ, I vs ρ σ → G σ)
    (turn : ∀ v vs ρ σ, I (v :: vs) ρ σ → Asg n env target v ρ σ (fun ρ1 σ1 => Stms n env body ρ1 σ1 (ForQ (I vs) Q))) (fin : ∀ ρ σ, I [] ρ σ → Stms n env orelse ρ σ Q) :
    ∀ (vs : List V) (ρ : Loc) (σ : AH), I vs ρ σ → ForJ n env target body orelse G vs ρ σ Q
  | [], ρ, σ, h => ⟨hG _ _ _ h, fin ρ σ h⟩
  | v :: vs, ρ, σ, h => ⟨hG _ _ _ h, fun u => Tr.mono (turn v vs ρ σ h u) fun _ ρ1 σ1 q => Tr.mono q fun f ρ2 σ2 q => by
      cases f with
      | next => exact forj_inv I hG turn fin vs ρ2 σ2 q
      | cont => exact forj_inv I hG turn fin vs ρ2 σ2 q
      | brk => exact q
      | ret v => exact q⟩
set_option tactic.hygienic false
theorem rangeVs_nat (m : Nat) : rangeVs 0 m = (List.range' 0 m).map fun i => .int (i : Nat) := by
  unfold rangeVs
  rw [List.range_eq_range']
  have : ((m : Int) - 0).toNat = m := by lia
  rw [this]
  refine List.map_congr_left fun i _ => ?_
  rw [Int.zero_add]
theorem compj_inv {n : Nat} {env' : Env} {target elt : Expr} {G : AH → Prop} {K : Loc → Prop} {Q : List V → AH → Prop} (I : List V → List V → Loc → AH → Prop) (hG : ∀ vs acc ρ σ, I vs acc ρ σ → G σ)
    (turn : ∀ v vs acc ρ σ, I (v :: vs) acc ρ σ → Asg n env' target v ρ σ (fun ρ1 σ1 => Ex n env' elt ρ1 σ1 (fun y ρ2 σ2 => acc.length ≤ 1000000 ∧ K ρ2 ∧ I vs (acc ++ [y]) ρ2 σ2))) (fin : ∀ acc ρ σ, I [] acc ρ σ → Q acc σ) :
    ∀ (vs acc : List V) (ρ : Loc) (σ : AH), I vs acc ρ σ → CompJ n env' target elt G K vs acc ρ σ Q
  | [], acc, ρ, σ, h => ⟨hG _ _ _ _ h, fin acc ρ σ h⟩
  | v :: vs, acc, ρ, σ, h => ⟨hG _ _ _ _ h, fun u => Tr.mono (turn v vs acc ρ σ h u) fun _ ρ1 σ1 q => Tr.mono q fun y ρ2 σ2 q => ⟨q.1, q.2.1, compj_inv I hG turn fin vs _ ρ2 σ2 q.2.2⟩⟩
noncomputable def WhT (n : Nat) (env : Env) (test : Expr) (body orelse : List Stmt) (Q : Fl → Loc → AH → Prop) : Nat → Loc → AH → Prop
  | 0, _, _ => False
  | k + 1, ρ, σ => Test n env test ρ σ (fun b ρ1 σ1 => if b then Stms n env body ρ1 σ1 (ForQ (WhT n env test body orelse Q k) Q) else Stms n env orelse ρ1 σ1 Q)
section
variable {n : Nat} {env : Env} {ρ : Loc} {σ : AH}
set_option tactic.hygienic true
theorem st_while_t {Q : Fl → Loc → AH → Prop} {test : Expr} {body orelse : List Stmt} {pos : Pos} (k : Nat) (h : WhT n env test body orelse Q k ρ σ) : Stm n env (.While test body orelse pos) ρ σ Q :=
  st_while (fun k ρ σ => WhT n env test body orelse Q k ρ σ) k h fun k ρ σ h => by
    cases k with
    | zero => exact h.elim
    | succ k =>
      refine Tr.mono h fun b ρ1 σ1 q => ?_
      cases b with
      | false => exact q
      | true =>
        simp only [if_true] at q ⊢
        refine Tr.mono q fun f ρ2 σ2 q => ?_
        cases f with
        | next => exact ⟨k, Nat.lt_succ_self k, q⟩
        | cont => exact ⟨k, Nat.lt_succ_self k, q⟩
        | brk => exact q
        | ret v => exact q
variable {Q : V → Loc → AH → Prop}
set_option tactic.hygienic false
theorem sl_by {value slice : Expr} {a : Addr} {xs : List V} {l u k : Option Int} (f : List V → List V) (ha : σ a = some (.list xs)) (hk : k ≠ some 0) (hz : xs.length ≤ sizeLine)
    (hf : ∀ (h : Heap) (vs : Array Value), vs.size = xs.length → VsRep h vs.toList xs → VsRep h (slicePick vs l u k).toList (f xs)) (q : ∀ b, σ b = none → Q (.lst b) ρ (σ.put b (.list (f xs))))
    (hs : ∀ o i, ∃ ops, subscripted slice false o i = operate ops (getItem o i) := by intro o i; exact ⟨_, by with_unfolding_all rfl⟩) : SlJ n env value slice (.lst a) l u k ρ σ Q := fun A s w sl vl vu vk hA S F r hsl pl pu pk => by
  obtain rfl := VRep.lst_inv r
  obtain ⟨ops, ho⟩ := hs (.ref a) (.ref sl)
  have o := S.objs _ _ ha
  cases o with
  | @list vs m _ hob rs =>
    have el : vs.size = xs.length := by have := rs.length; simpa using this
    refine tail_any hob.isList.typeIs slot_list_getitem.lookup (wpAny_getItem_list_slice (lo := l) (hi := u) (st := k) hob.isList hsl pl pu pk hk ?_ (by rw [el]; exact hz)) ho
    refine Post.new (a := s.heap.objs.size) S F (push_keeps _) (push_size _) (Nat.le_refl _) (.list (IsL.new _ _) ?_) (.lst _) (q _ ?_)
    · have kp := push_keeps (h := s.heap) { cls := .type "list", data := .seq (slicePick vs l u k) }
      exact hf _ vs el (rs.keep (h' := s.heap.push _) fun b o e _ => kp b o e)
    · cases z : σ s.heap.objs.size with
      | none => rfl
      | some ao => obtain ⟨ob, e1, _⟩ := (S.objs _ _ z).at; exact absurd (Heap.lt_size e1) (Nat.lt_irrefl _)
theorem sl_rev {value slice : Expr} {a : Addr} {xs : List V} (ha : σ a = some (.list xs)) (hz : xs.length ≤ 1000000) (q : ∀ b, σ b = none → Q (.lst b) ρ (σ.put b (.list xs.reverse)))
    (hs : ∀ o i, ∃ ops, subscripted slice false o i = operate ops (getItem o i) := by intro o i; exact ⟨_, by with_unfolding_all rfl⟩) : SlJ n env value slice (.lst a) none none (some (-1)) ρ σ Q :=
  sl_by List.reverse ha (by decide) (by rw [sizeLine_eq]; exact lin1 (.l (.v 0) (.k 1000000) (.g (.v 0) (.k 16777216))) rfl hz) (fun h vs _ rs => by rw [krv_pick]; exact rs.reverse) q hs
theorem sl_upto {value slice : Expr} {a : Addr} {xs : List V} {k : Nat} {i : Int} (ha : σ a = some (.list xs)) (hz : xs.length ≤ 1000000) (hk : k ≤ xs.length) (hi : i = (k : Nat)) (q : ∀ b, σ b = none → Q (.lst b) ρ (σ.put b (.list (xs.take k))))
    (hs : ∀ o i, ∃ ops, subscripted slice false o i = operate ops (getItem o i) := by intro o i; exact ⟨_, by with_unfolding_all rfl⟩) : SlJ n env value slice (.lst a) none (some i) none ρ σ Q := by
  subst hi
  exact sl_by (List.take k) ha (by decide) (by rw [sizeLine_eq]; exact lin1 (.l (.v 0) (.k 1000000) (.g (.v 0) (.k 16777216))) rfl hz) (fun h vs e rs => by rw [slicePick_upto vs k (by exact lin3 (.f (.v 0) (.v 1) (.l (.v 2) (.v 1) (.g (.v 2) (.v 0)))) rfl e hk)]; exact rs.take k) q hs
theorem pick_tail_rev (items : Array Value) (h : 0 < items.size) : slicePick items none (some 0) (some (-1)) = items.toList.tail.reverse.toArray := by
  obtain ⟨l⟩ := items
  cases l with
  | nil => simp at h
  | cons x l =>
    unfold slicePick
    have hb : sliceBounds none (some 0) (some (-1)) (Array.size ⟨x :: l⟩) = ((l.length : Int), 0, -1) := by
      simp [sliceBounds]; lia
    rw [hb]
    show ((sliceRange (l.length : Int) 0 (-1)).filterMap _).toArray = _
    have e : sliceRange (l.length : Int) 0 (-1) = (List.range l.length).map fun k => l.length - k := by
      unfold sliceRange
      have h1 : ¬ ((-1 : Int) > 0) := by decide
      by_cases h : (l.length : Int) > 0
      · have e : ((l.length : Int) - 0 - -1 - 1) / (- -1) = (l.length : Int) := by
          rw [show (- -1 : Int) = 1 by decide, Int.ediv_one]; lia
        simp only [h1, if_false, h, if_true, e, Int.toNat_natCast]
        apply List.map_congr_left
        intro k hk
        have := List.mem_range.mp hk
        lia
      · have e : l.length = 0 := by lia
        simp [e]
    have e2 : ((List.range l.length).map fun k => l.length - k) = ((List.range l.length).map (1 + ·)).reverse := by
      refine List.ext_getElem (by simp) fun i h1 h2 => ?_
      simp at h1
      rw [List.getElem_map, List.getElem_reverse]
      simp
      lia
    have h3 := pick_run (⟨x :: l⟩ : Array Value) 1 l.length
    rw [e, e2, List.filterMap_reverse, h3]
    simp
theorem sl_tail_rev {value slice : Expr} {a : Addr} {x : V} {xs : List V} (ha : σ a = some (.list (x :: xs))) (hz : xs.length ≤ 100000) (q : ∀ b, σ b = none → Q (.lst b) ρ (σ.put b (.list xs.reverse)))
    (hs : ∀ o i, ∃ ops, subscripted slice false o i = operate ops (getItem o i) := by intro o i; exact ⟨_, by with_unfolding_all rfl⟩) : SlJ n env value slice (.lst a) none (some 0) (some (-1)) ρ σ Q :=
  sl_by (fun l => l.tail.reverse) ha (by decide) (by rw [sizeLine_eq]; simp; exact lin1 (.l (.v 0) (.k 100000) (.g (.v 0) (.k 16777215))) rfl hz) (fun h vs e rs => by
    rw [pick_tail_rev vs (by rw [e]; simp)]
    have := rs.drop 1
    rw [List.drop_one, List.drop_one] at this
    exact this.reverse) q hs
end
end
section
open PySem PySem.W PyProof.Rows PySem.Calls
theorem draw_list {prog : Program} {A : Around} {E : Value → Shared → Prop} {it t : Addr} {items : Array Value} (hne : t ≠ it) : ∀ (n i : Nat) (s : Shared) (Q : List Value → Shared → Prop), s.heap.IsListIter it t i → s.heap.IsList t items → i + n ≤ items.size →
    (∀ h', h'.IsListIter it t (i + n) → Heap.SameBut it s.heap h' → Q ((items.toList.drop i).take n) { s with heap := h' }) → wpAny (model prog w) A (draw (.ref it) n) Q E s
  | 0, i, s, Q, hit, _, _, hQ => by
    show wpAny _ _ (Pure.pure []) Q E s
    exact wpAny_pure (by simpa using hQ s.heap hit (Heap.SameBut.refl ..))
  | n + 1, i, s, Q, hit, ht, hle, hQ => by
    have hlt : i < items.size := by exact lin3 (.l (.a (.v 0) (.a (.v 1) (.k 1))) (.v 2) (.b (.v 0) (.v 2))) rfl hle
    show wpAny _ _ (pyNext (.ref it) >>= _) Q E s
    refine wpAny_bind (wpAny_pyNext_list_item hit ht (x := items[i]) (by simp [hlt]) fun h₁ hit₁ hs₁ => ?_)
    refine wpAny_bind (wpAny_holding (draw_list hne n (i + 1) _ _ hit₁ (ht.extBut hs₁.extBut hne) (by exact lin3 (.l (.a (.v 0) (.a (.v 1) (.k 1))) (.v 2) (.g (.a (.a (.v 0) (.k 1)) (.v 1)) (.v 2))) rfl hle) fun h₂ hit₂ hs₂ => wpAny_pure ?_))
    have hd : items.toList.drop i = items[i] :: items.toList.drop (i + 1) := by simp [List.drop_eq_getElem_cons, hlt]
    have := hQ h₂ (by rw [show i + (n + 1) = i + 1 + n by exact Nat.le_antisymm (lin2 (.g (.a (.v 0) (.a (.v 1) (.k 1))) (.a (.a (.v 0) (.k 1)) (.v 1))) rfl) (lin2 (.g (.a (.a (.v 0) (.k 1)) (.v 1)) (.a (.v 0) (.a (.v 1) (.k 1)))) rfl)]; exact hit₂) (hs₁.trans hs₂)
    rw [hd, List.take_succ_cons] at this
    exact this
theorem unpack_list {prog : Program} {A : Around} {E : Value → Shared → Prop} {s : Shared} {t : Addr} {items : Array Value} {Q : List Value → Shared → Prop} (hh : A.handled = none) (ht : s.heap.IsList t items)
    (hQ : ∀ h', Heap.ExtBut s.heap.objs.size s.heap h' → Q items.toList { s with heap := h' }) : wpAny (model prog w) A (unpackItems (.ref t) items.size none) Q E s := by
  have hlt : t ≠ s.heap.objs.size := by obtain ⟨o, ho, _⟩ := ht; exact Nat.ne_of_lt (Heap.lt_size ho)
  unfold unpackItems
  refine wpAny_bind ?_
  · unfold notIterableAtAll
    refine wpAny_bind (wpAny_specialOf ht.typeIs slot_list_iter.lookup ?_)
    refine wpAny_pure ?_
    simp only [Bool.false_eq_true, if_false]
    refine wpAny_bind (wpAny_holding (wpAny_pyIter_list ht ?_))
    refine wpAny_bind (wpAny_holding (draw_list hlt items.size 0 _ _ ⟨_, Heap.get?_push_size _ rfl, rfl, rfl⟩ (ht.push _) (by exact lin1 (.g (.a (.k 0) (.v 0)) (.v 0)) rfl) fun h₁ hit₁ hs₁ => ?_))
    have hall : List.take items.size (List.drop 0 items.toList) = items.toList := by
      rw [List.drop_zero]; exact List.take_of_length_le (by simp)
    rw [hall]
    rw [if_neg (by simp)]
    have ht₁ : h₁.IsList t items := (ht.push _).extBut hs₁.extBut hlt
    refine wpAny_bind (wpAny_holding (wpAny_pyNext_list_end hh hit₁ ht₁ (by simp) fun h₂ he₂ => ?_))
    simp only [Option.isSome_none, Bool.false_eq_true, if_false]
    refine wpAny_pure (hQ h₂ fun b o hb e => he₂ b o hb (hs₁.extBut b o hb (Heap.get?_push_of_some _ e)))
section
variable {n : Nat} {env : Env} {ρ : Loc} {σ : AH}
theorem asg_unlist {ts : List Expr} {k : Nat} {pos : Pos} {a : Addr} {vs : List V} {Q : Loc → AH → Prop} (ha : σ a = some (.list vs)) (h : Asgs n env ts vs ρ σ Q) (hl : autoParam (ts.length = vs.length) aRfl)
    (he : autoParam (assignEach ts env = ts.map fun t => (false, assign t env)) aRfl) : Asg n env (.Tuple ts k pos) (.lst a) ρ σ Q := fun u A s hA S F r => by
  obtain rfl := VRep.lst_inv r
  have o := S.objs _ _ ha
  cases o with
  | @list items m _ ho hs =>
    have e0 := hs.length; rw [Array.length_toList] at e0
    have e2 : ((assignEach ts env).map (·.2)) = ts.map (fun t => assign t env) := by rw [he, List.map_map]; rfl
    rw [arm_assign_Tuple]
    refine wpAny_bind (wpAny_standAt ?_)
    unfold unpack
    have hn : (assignEach ts env).length = items.size := by rw [he, List.length_map, hl, e0]
    have hstar : (assignEach ts env).findIdx? (·.1) = none := by rw [he, List.findIdx?_map]; simp [Function.comp_def]
    rw [hn, hstar]
    refine wpAny_bind (wpAny_holding (unpack_list hA.hand ⟨_, ho, rfl, _, rfl⟩ fun h' eb => ?_))
    rw [e2]
    have kp : ∀ b o, s.heap.get? b = some o → h'.get? b = some o := fun b o e => eb b o (Nat.ne_of_lt (Heap.lt_size e)) e
    exact (asgs_any e2 h _).go (s := s) hA (.ext kp) (S.ext kp) (F.ext' kp) (hs.keep fun b o e _ => kp b o e)
end
mutual
inductive VSame (σ : AH) : Nat → V → V → Prop
  | none {k : Nat} : VSame σ k .none .none
  | int {k : Nat} (i : Int) : VSame σ k (.int i) (.int i)
  | str {k : Nat} (x : Str) : VSame σ k (.str x) (.str x)
  | tup {k : Nat} {l m : List V} (h : VsSame σ k l m) : VSame σ (k + 1) (.tup l) (.tup m)
  | lst {k : Nat} {a b : Addr} {l m : List V} (ha : σ a = some (.list l)) (hb : σ b = some (.list m)) (h : VsSame σ k l m) : VSame σ (k + 1) (.lst a) (.lst b)
inductive VsSame (σ : AH) : Nat → List V → List V → Prop
  | nil {k : Nat} : VsSame σ k [] []
  | cons {k : Nat} {u v : V} {us vs : List V} (h : VSame σ k u v) (hs : VsSame σ k us vs) : VsSame σ k (u :: us) (v :: vs)
end
theorem VsSame.len {σ : AH} {k : Nat} {l m : List V} (r : VsSame σ k l m) : l.length = m.length :=
  @VsSame.rec σ (fun _ _ _ _ => True) (fun _ l m _ => l.length = m.length) trivial (fun _ => trivial) (fun _ => trivial) (fun _ _ => trivial) (fun _ _ _ _ => trivial) rfl (fun _ _ _ ih => congrArg (· + 1) ih) k l m r
theorem VsSame.get {σ : AH} {k : Nat} {l m : List V} (r : VsSame σ k l m) : ∀ (j : Nat) (u v : V), l[j]? = some u → m[j]? = some v → VSame σ k u v :=
  @VsSame.rec σ (fun _ _ _ _ => True) (fun k l m _ => ∀ (j : Nat) (u v : V), l[j]? = some u → m[j]? = some v → VSame σ k u v) trivial (fun _ => trivial) (fun _ => trivial) (fun _ _ => trivial) (fun _ _ _ _ => trivial) (fun j u v e _ => nomatch e) (fun h _ _ ih j u v e1 e2 => match j, e1, e2 with
    | 0, e1, e2 => Option.some.inj e1 ▸ Option.some.inj e2 ▸ h
    | j + 1, e1, e2 => ih j u v e1 e2) k l m r
theorem VsRep.at_ {h : Heap} {us : List Value} {vs : List V} (r : VsRep h us vs) {j : Nat} (hj : j < us.length) : ∃ v, vs[j]? = some v ∧ VRep h us[j] v := by
  have hl := r.length
  obtain ⟨u, hu, ru⟩ := r.get (i := j) (v := vs[j]'(by exact lin3 (.t (.v 0) (.v 1) (.e (.v 1) (.v 2) (.b (.v 0) (.v 2)))) rfl hj hl)) (List.getElem?_eq_getElem (by exact lin3 (.t (.v 0) (.v 1) (.e (.v 1) (.v 2) (.b (.v 0) (.v 2)))) rfl hj hl))
  rw [List.getElem?_eq_getElem hj] at hu
  cases hu
  exact ⟨_, List.getElem?_eq_getElem (by exact lin3 (.t (.v 0) (.v 1) (.e (.v 1) (.v 2) (.b (.v 0) (.v 2)))) rfl hj hl), ru⟩
theorem all_tt (n : Nat) : ((List.range n).all fun _ => true) = true := List.all_eq_true.mpr fun _ _ => rfl
theorem same_at {s : Shared} {σ : AH} (S : St s.heap σ) : ∀ (k : Nat) {a b : V}, VSame σ k a b → ∀ (A : Around) (u v : Value), A.units + k < cLine → VRep s.heap u a → VRep s.heap v b → SeqAt.EqAt A s u v true ∧ (k ≠ 0 → ∀ l m x y, (a = .tup l ∧ b = .tup m) ∨ (a = .lst x ∧ b = .lst y) → SeqAt.RcAt A s u v true)
  | k, _, _, .none, A, u, v, hA, r1, r2 => by
    obtain rfl := r1.none_inv; obtain rfl := r2.none_inv
    exact ⟨.same _, fun _ l m x y h => by rcases h with ⟨h, _⟩ | ⟨h, _⟩ <;> cases h⟩
  | k, _, _, .int i, A, u, v, hA, r1, r2 => by
    obtain ⟨t, rfl⟩ := r1.int_inv; obtain ⟨t', rfl⟩ := r2.int_inv
    refine ⟨?_, fun _ l m x y h => by rcases h with ⟨h, _⟩ | ⟨h, _⟩ <;> cases h⟩
    have := SeqAt.EqAt.int_int (A := A) (s := s) i t i t'
    simpa using this
  | k, _, _, .str i, A, u, v, hA, r1, r2 => by
    obtain ⟨t, rfl⟩ := r1.str_inv; obtain ⟨t', rfl⟩ := r2.str_inv
    refine ⟨?_, fun _ l m x y h => by rcases h with ⟨h, _⟩ | ⟨h, _⟩ <;> cases h⟩
    have := SeqAt.EqAt.str_str (A := A) (s := s) i t i t'
    simpa using this
  | k + 1, _, _, .tup h, A, u, v, hA, r1, r2 => by
    obtain ⟨x, vs, n, rfl, ht, hs⟩ := r1.tup_inv
    obtain ⟨y, vs2, n2, rfl, ht2, hs2⟩ := r2.tup_inv
    have e1 := hs.length; have e2 := hs2.length; have e3 := h.len
    rw [Array.length_toList] at e1 e2
    have hA1 : A.in1.units + k < cLine := by have e : A.in1.units = A.units + 1 := rfl; rw [e]; exact lin2 (.t (.a (.v 0) (.a (.v 1) (.k 1))) (.k 9900) (.b (.a (.a (.v 0) (.k 1)) (.v 1)) (.k 9900))) rfl hA
    have rc : SeqAt.RcAt A s (.ref x) (.ref y) true := by
      have := SeqAt.RcAt.tuples (A := A) (e := fun _ => true) ⟨_, ht, rfl, _, rfl⟩ ⟨_, ht2, rfl, _, rfl⟩ (by exact lin2 (.t (.a (.v 0) (.a (.v 1) (.k 1))) (.k 9900) (.b (.v 0) (.k 9900))) rfl hA) fun j h1 h2 => by
        obtain ⟨a, ea, ra⟩ := hs.at_ (j := j) (by simpa using h1)
        obtain ⟨b, eb, rb⟩ := hs2.at_ (j := j) (by simpa using h2)
        exact (same_at S k (h.get j a b ea eb) A.in1 _ _ hA1 (by simpa using ra) (by simpa using rb)).1
      have ee : vs.size = vs2.size := by exact Nat.le_antisymm (lin4 (.e (.v 0) (.v 1) (.e (.v 2) (.v 0) (.f (.v 3) (.v 1) (.g (.v 2) (.v 3))))) rfl e3 e1 e2) (lin4 (.f (.v 0) (.v 1) (.f (.v 2) (.v 0) (.e (.v 3) (.v 1) (.g (.v 3) (.v 2))))) rfl e3 e1 e2)
      rw [all_tt, ee] at this
      simpa using this
    refine ⟨?_, fun _ _ _ _ _ _ => rc⟩
    by_cases q : x = y
    · subst q; exact .same _
    · exact .of_refs q rc
  | k + 1, _, _, .lst (a := x) (b := y) ha hb h, A, u, v, hA, r1, r2 => by
    obtain rfl := r1.lst_inv
    obtain rfl := r2.lst_inv
    have o1 := S.objs _ _ ha
    have o2 := S.objs _ _ hb
    cases o1 with
    | @list vs n _ ht hs =>
      cases o2 with
      | @list vs2 n2 _ ht2 hs2 =>
        have e1 := hs.length; have e2 := hs2.length; have e3 := h.len
        rw [Array.length_toList] at e1 e2
        have hA1 : A.in1.units + k < cLine := by have e : A.in1.units = A.units + 1 := rfl; rw [e]; exact lin2 (.t (.a (.v 0) (.a (.v 1) (.k 1))) (.k 9900) (.b (.a (.a (.v 0) (.k 1)) (.v 1)) (.k 9900))) rfl hA
        have rc : SeqAt.RcAt A s (.ref x) (.ref y) true := by
          have := SeqAt.RcAt.lists (A := A) (e := fun _ => true) ⟨_, ht, rfl, _, rfl⟩ ⟨_, ht2, rfl, _, rfl⟩ (by exact Nat.le_antisymm (lin4 (.e (.v 0) (.v 1) (.e (.v 2) (.v 0) (.f (.v 3) (.v 1) (.g (.v 2) (.v 3))))) rfl e3 e1 e2) (lin4 (.f (.v 0) (.v 1) (.f (.v 2) (.v 0) (.e (.v 3) (.v 1) (.g (.v 3) (.v 2))))) rfl e3 e1 e2)) (by exact lin2 (.t (.a (.v 0) (.a (.v 1) (.k 1))) (.k 9900) (.b (.v 0) (.k 9900))) rfl hA) fun j h1 h2 => by
            obtain ⟨a, ea, ra⟩ := hs.at_ (j := j) (by simpa using h1)
            obtain ⟨b, eb, rb⟩ := hs2.at_ (j := j) (by simpa using h2)
            exact (same_at S k (h.get j a b ea eb) A.in1 _ _ hA1 (by simpa using ra) (by simpa using rb)).1
          rw [all_tt] at this
          exact this
        refine ⟨?_, fun _ _ _ _ _ _ => rc⟩
        by_cases q : x = y
        · subst q; exact .same _
        · exact .of_refs q rc
section
variable {n : Nat} {env : Env} {ρ : Loc} {σ : AH} {Q : V → Loc → AH → Prop}
theorem cmp_eq_same {l m : List V} (h : VSame σ 9 (.tup l) (.tup m)) (q : Q (.bool true) ρ σ) : Op2 (n + 1) env (compareOp .Eq) (.tup l) (.tup m) ρ σ Q :=
  cmp_of_rc (fun A s u v hA S r1 r2 => (same_at S 9 h A u v (by have := hA.units; exact lin2 (.t (.a (.v 0) (.m 10 (.a (.v 1) (.k 1)))) (.k 9900) (.b (.a (.v 0) (.k 9)) (.k 9900))) rfl this) r1 r2).2 (by decide) l m 0 0 (.inl ⟨rfl, rfl⟩)) q
theorem cmp_ne_same {l m : List V} (h : VSame σ 9 (.tup l) (.tup m)) (q : Q (.bool false) ρ σ) : Op2 (n + 1) env (compareOp .NotEq) (.tup l) (.tup m) ρ σ Q := fun u v A s hA S F r => by
  obtain ⟨x, vs, k, rfl, ht, hs⟩ := VRep.tup_inv r.1
  obtain ⟨y, vs2, k2, rfl, ht2, hs2⟩ := VRep.tup_inv r.2
  cases h with
  | tup h =>
    have e1 := hs.length; have e2 := hs2.length; have e3 := h.len
    rw [Array.length_toList] at e1 e2
    have hu := hA.units
    have := SeqAt.RcNeAt.tuples (A := A) (s := s) (e := fun _ => true) ⟨_, ht, rfl, _, rfl⟩ ⟨_, ht2, rfl, _, rfl⟩ (by exact lin2 (.t (.a (.v 0) (.m 10 (.a (.v 1) (.k 1)))) (.k 9900) (.b (.v 0) (.k 9900))) rfl hu) fun j h1 h2 => by
        obtain ⟨a, ea, ra⟩ := hs.at_ (j := j) (by simpa using h1)
        obtain ⟨b, eb, rb⟩ := hs2.at_ (j := j) (by simpa using h2)
        exact (same_at S 8 (h.get j a b ea eb) A.in1 _ _ (by have e : A.in1.units = A.units + 1 := rfl; rw [e]; exact lin2 (.t (.a (.v 0) (.m 10 (.a (.v 1) (.k 1)))) (.k 9900) (.b (.a (.a (.v 0) (.k 1)) (.k 8)) (.k 9900))) rfl hu) (by simpa using ra) (by simpa using rb)).1
    have ee : vs.size = vs2.size := by exact Nat.le_antisymm (lin4 (.e (.v 0) (.v 1) (.e (.v 2) (.v 0) (.f (.v 3) (.v 1) (.g (.v 2) (.v 3))))) rfl e3 e1 e2) (lin4 (.f (.v 0) (.v 1) (.f (.v 2) (.v 0) (.e (.v 3) (.v 1) (.g (.v 3) (.v 2))))) rfl e3 e1 e2)
    rw [all_tt, ee] at this
    refine cmp_ofNotEq (this _ _ _ _ ?_)
    have e4 : (!(true && vs2.size == vs2.size)) = false := by simp
    rw [e4]
    exact Post.stay (tk := s.toks) S F (.bool _) q
end
end
section
open PySem PySem.W PyProof.Rows PySem.Calls
inductive FnObj (f : Addr) (qual : Str) (scope : Scope) (cdv : Value) (names : List Str) (body : List Stmt) : Prop
  | mk (name : _) (params : _) (dV : _) (kV : _) (doc : _) (pm : _) (an : _) (ct : _) (oc : _) (od : _) (osl : _) (ho : c.K.lookup f = some ⟨oc, od, .func (fnOf name qual params body scope dV kV doc pm an cdv ct), osl⟩) (hb : ∀ (us : List Value) (s : Shared), c.K.In s.heap → us.length = names.length → BindsTo s (fnOf name qual params body scope dV kV doc pm an cdv ct) ⟨us, []⟩ (names.zip us))
structure FnAt (f : Addr) (qual : Str) (scope : Scope) (cdv : Value) (names : List Str) (body : List Stmt) : Prop where
  at_ : FnObj f qual scope cdv names body
  code : codeIn c.K cdv qual = true
  locals : ∀ x ∈ names, scope.names.lookup x = some .local
  co : scope.isCoroutine = false
  gen : scope.isGenerator = false
  kind : scope.kind = .function
  cell : ∀ x ∈ scope.names, x.2 ≠ .cell

noncomputable def Fl.val : Fl → V
  | .ret v => v
  | _ => .none

noncomputable def Con (n : Nat) (f : Value) (vs : List V) (σ : AH) (Q : V → AH → Prop) : Prop :=
  ∀ (env : Env) (ρ : Loc) (A : Around) (s : Shared) (us : List Value), Room A n → St s.heap σ → Frm env s.heap σ ρ → VsRep s.heap us vs →
    codeAny (model c.prog c.w) A (.call f ⟨us, []⟩) (fun r s' => match r with
      | .ok (.ret v) => Post env σ s VRep (fun v ρ' σ' => ρ' = ρ ∧ Q v σ') v s'
      | .ok _ => False
      | .error e => False) s

theorem Con.mono {n : Nat} {f : Value} {vs : List V} {σ : AH} {Q Q' : V → AH → Prop} (h : Con n f vs σ Q) (k : ∀ v σ', Q v σ' → Q' v σ') : Con n f vs σ Q' := fun env ρ A s us hA S F r =>
  codeAny_mono (h env ρ A s us hA S F r) fun r s' z => by
    rcases r with e | (v | _ | _ | _) <;> first | exact z | skip
    obtain ⟨h', tk, v, ρ', σ', e, S', F', M, r, e2, q⟩ := z
    exact ⟨h', tk, v, ρ', σ', e, S', F', M, r, e2, k _ _ q⟩
theorem Con.less {n m : Nat} {f : Value} {vs : List V} {σ : AH} {Q : V → AH → Prop} (h : Con n f vs σ Q) (k : n ≤ m) : Con m f vs σ Q := fun env ρ A s us hA S F r => h env ρ A s us (hA.less k) S F r
abbrev RetQ (Q : V → Loc → AH → Prop) (ρ : Loc) : V → AH → Prop := fun v σ => Q v ρ σ
abbrev BodyQ (Q : V → AH → Prop) : Fl → Loc → AH → Prop := fun fl _ σ => Q fl.val σ
theorem Con.call {n : Nat} {env : Env} {ρ : Loc} {f : Value} {vs : List V} {σ : AH} {Q : V → Loc → AH → Prop} (h : Con n f vs σ (RetQ Q ρ)) : CallJ n env f vs ρ σ Q := fun us A s hA S F r => by
  refine wpAny_call (codeAny_mono (h env ρ A s us hA S F r) fun r s' z => ?_)
  rcases r with e | (v | _ | _ | _) <;> first | exact z | skip
  obtain ⟨h', tk, v, ρ', σ', e, S', F', M, r, e2, q⟩ := z
  subst e2
  exact ⟨h', tk, v, _, σ', e, S', F', M, r, q⟩

theorem VsRep.zip {h : Heap} : ∀ {names : List Str} {us : List Value} {vs : List V}, VsRep h us vs → ∀ (acc : List (Str × Value)) (acc' : Loc), (∀ y v, acc'.lookup y = some v → ∃ u, acc.lookup y = some u ∧ VRep h u v) →
    ∀ y v, ((names.zip vs).reverse ++ acc').lookup y = some v → ∃ u, ((names.zip us).reverse ++ acc).lookup y = some u ∧ VRep h u v
  | [], us, vs, r, acc, acc', ha, y, v, e => by simpa using ha y v (by simpa using e)
  | x :: names, _, _, .nil, acc, acc', ha, y, v, e => by simpa using ha y v (by simpa using e)
  | x :: names, u :: us, w :: vs, .cons hv hs, acc, acc', ha, y, v, e => by
    simp only [List.zip_cons_cons, List.reverse_cons, List.append_assoc, List.cons_append, List.nil_append] at e ⊢
    refine VsRep.zip hs ((x, u) :: acc) ((x, w) :: acc') (fun z b eb => ?_) y v e
    rw [List.lookup_cons] at eb ⊢
    by_cases q : (z == x) = true
    · rw [q] at eb ⊢; cases eb; exact ⟨u, rfl, hv⟩
    · simp only [Bool.not_eq_true] at q; rw [q] at eb ⊢; exact ha z b eb
theorem zip_mem {names : List Str} {vs : List V} {y : Str} {v : V} (e : ((names.zip vs).reverse).lookup y = some v) : y ∈ names := by
  obtain ⟨l1, l2, e1, _⟩ := List.lookup_eq_some_iff.mp e
  have : (y, v) ∈ (names.zip vs).reverse := by rw [e1]; simp
  exact (List.of_mem_zip (List.mem_reverse.mp this)).1

noncomputable def rzip : List Str → List V → Loc → Loc
  | [], _, acc => acc
  | x :: xs, vs, acc => match vs with
    | [] => acc
    | v :: vs => rzip xs vs ((x, v) :: acc)
theorem rzip_eq : ∀ (xs : List Str) (vs : List V) (acc : Loc), rzip xs vs acc = (xs.zip vs).reverse ++ acc
  | [], vs, acc => by simp [rzip]
  | _ :: _, [], acc => by simp [rzip]
  | x :: xs, v :: vs, acc => by simp [rzip, rzip_eq xs vs]
theorem body_in {n : Nat} {env : Env} {b b' : List Stmt} {ρ ρ' : Loc} {σ : AH} {Q : Fl → Loc → AH → Prop} (eb : b = b') (er : ρ = ρ') (h : Stms n env b' ρ' σ Q) : Stms n env b ρ σ Q := by subst eb er; exact h
set_option tactic.hygienic true
theorem con_fn {n : Nat} {f : Addr} {qual : Str} {scope : Scope} {cdv : Value} {names : List Str} {body : List Stmt} {vs : List V} {σ : AH} {Q : V → AH → Prop} (fa : FnAt f qual scope cdv names body) (hl : vs.length = names.length)
    (h : ∀ L, Stms n (envOf qual scope L f cdv) body (rzip names vs []) σ (BodyQ Q)) : Con (n + 1) (.ref f) vs σ Q := fun env ρ A s us hA S F r => by
  rw [rzip_eq, List.append_nil] at h
  obtain ⟨name, params, dV, kV, doc, pm, an, ct, oc, od, osl, ho, hb⟩ := fa.at_
  have X0 := S.inK
  have hlu : us.length = names.length := by rw [r.length, hl]
  refine codeAny_call_def (fd := fnOf name qual params body scope dV kV doc pm an cdv ct) (body := body) (binds := names.zip us) hA.dep (X0 _ _ ho) rfl (S.ok.nolim.keeps S.keep0) (codeRec_of X0 fa.code) rfl (hb us s X0 hlu) fa.cell (fun x hx => fa.locals _ (List.of_mem_zip (b := x.2) (by exact hx)).1) (fun h₀ hns hk => ?_) fa.co fa.gen fa.kind
  show wpAny _ (A.deeper (envOf qual scope s.heap.objs.size f cdv)) (execs body (envOf qual scope s.heap.objs.size f cdv)) _ _ _
  have nL : s.heap.get? s.heap.objs.size = none := get_none_of_size (Nat.le_refl _)
  have hA' : Room (A.deeper (envOf qual scope s.heap.objs.size f cdv)) n := ⟨by have := hA.depth; simp [Around.deeper]; exact lin2 (.t (.a (.v 0) (.a (.v 1) (.k 1))) (.k 1000) (.b (.a (.a (.v 0) (.k 1)) (.v 1)) (.k 1000))) rfl this, by have := hA.units; simp [Around.deeper]; exact lin2 (.t (.a (.v 0) (.m 10 (.a (.v 1) (.k 1)))) (.k 9900) (.b (.a (.a (.v 0) (.k 3)) (.m 10 (.v 1))) (.k 9900))) rfl this, hA.hand⟩
  have hσL : σ s.heap.objs.size = none := by
    cases z : σ s.heap.objs.size with
    | none => rfl
    | some ao => obtain ⟨ob, e1, _⟩ := (S.objs _ _ z).at; rw [nL] at e1; cases e1
  have h0L : c.h0.get? s.heap.objs.size = none := by
    cases z : c.h0.get? s.heap.objs.size with
    | none => rfl
    | some ao => rw [S.keep0 _ _ z] at nL; cases nL
  have S0 : St h₀ σ := S.ext hk
  have r0 : VsRep h₀ us vs := r.keep fun b o e _ => hk b o e
  have F0 : Frm (envOf qual scope s.heap.objs.size f cdv) h₀ σ (names.zip vs).reverse := by
    refine ⟨fun y v e => ?_, ⟨_, hns⟩, fun b hb => ?_, by simp [frameAddrs, envOf], (fun q hq => by cases hq), fa.kind, ⟨rfl, rfl⟩⟩
    · obtain ⟨u, hu, ru⟩ := VsRep.zip (names := names) r0 [] [] (fun _ _ e => by cases e) y v (by simpa using e)
      simp only [List.append_nil] at hu
      exact ⟨u, .inl ⟨fa.locals y (zip_mem e), _, hns, hu⟩, ru⟩
    · have : b = s.heap.objs.size := by simpa [frameAddrs, envOf] using hb
      subst this
      obtain ⟨oL, es, ep, hoL, hd, _⟩ := hns
      exact ⟨hσL, h0L, oL, hoL, loose_dict hd⟩
  refine wpAny_mono (h s.heap.objs.size _ { s with heap := h₀, toks := s.toks + (names.zip us).length } hA' S0 F0 trivial) (fun fl s' p => ?_) fun _ _ x => x.elim
  obtain ⟨h1, tk1, fv, ρ1, σ1, rfl, S1, F1, M1, r1, q1⟩ := p
  have nfr : ∀ b o, s.heap.get? b = some o → b ∉ frameAddrs (envOf qual scope s.heap.objs.size f cdv) := fun b o e m => by
    have : b = s.heap.objs.size := by simpa [frameAddrs, envOf] using m
    subst this; rw [nL] at e; cases e
  have kp : ∀ b o, s.heap.get? b = some o → σ b = none → h1.get? b = some o := fun b o e n => M1.keep b o (hk b o e) n (nfr b o e)
  have kl : ∀ b o, s.heap.get? b = some o → ¬ Loose o → h1.get? b = some o := fun b o e nl => kp b o e (by
    cases z : σ b with
    | none => rfl
    | some ao => obtain ⟨ob, e1, l⟩ := (S.objs b ao z).at; rw [e] at e1; cases e1; exact absurd l nl)
  have kf : ∀ b ∈ frameAddrs env, ∀ o, s.heap.get? b = some o → h1.get? b = some o := fun b hb o e => kp b o e (F.sep b hb).1
  have F1' : Frm env h1 σ1 ρ := by
    refine ⟨fun x v e => ?_, ?_, fun b hb => ?_, F.nodup, fun q hq => IsCell.keep (kf q.2 (.tail _ (List.mem_map_of_mem hq))) (F.cell q hq), F.kind, F.glob⟩
    · obtain ⟨u, hu, r⟩ := F.has x v e
      refine ⟨u, ?_, r.keep kl⟩
      rcases hu with ⟨hl, m', hn', hv⟩ | ⟨hk, b, o', hc, ho', hd⟩
      · exact .inl ⟨hl, m', hn'.at' (kf _ (.head _)), hv⟩
      · refine .inr ⟨hk, b, o', hc, kf b (.tail _ ?_) o' ho', hd⟩
        obtain ⟨l1, l2, ec, _⟩ := List.lookup_eq_some_iff.mp hc
        exact List.mem_map.mpr ⟨(x, b), by rw [ec]; simp, rfl⟩
    · obtain ⟨m, hm⟩ := F.ns; exact ⟨m, hm.at' (kf _ (.head _))⟩
    · obtain ⟨e1, e2, o', e3, e4⟩ := F.sep b hb
      exact ⟨M1.still (hk _ _ e3) e1, e2, o', kf b hb o' e3, e4⟩
  have M : Fm env σ s.heap h1 σ1 := ⟨fun b o e n _ => kp b o e n, fun b o e => M1.pres b o (hk b o e), fun b o e1 e2 => by
    have := M1.fresh b o e1 e2
    cases z : s.heap.get? b with
    | none => rfl
    | some ob => have e3 := hk b ob z; dsimp only at this; rw [this] at e3; cases e3⟩
  cases r1 with
  | ret rv => exact ⟨h1, tk1, _, ρ, σ1, rfl, S1, F1', M, rv, rfl, q1⟩
  | next => exact ⟨h1, tk1, .none, ρ, σ1, rfl, S1, F1', M, .none, rfl, q1⟩
  | brk => exact ⟨h1, tk1, .none, ρ, σ1, rfl, S1, F1', M, .none, rfl, q1⟩
  | cont => exact ⟨h1, tk1, .none, ρ, σ1, rfl, S1, F1', M, .none, rfl, q1⟩

set_option tactic.hygienic false
theorem tc_room {A : Around} {n : Nat} {C : Addr} {us : List Value} (hA : Room A (n + 1)) : Room (A.under (.builtin "type.__call__" ⟨.ref C :: us, []⟩)) n :=
  ⟨by have := hA.depth; have e : (A.under (.builtin "type.__call__" ⟨.ref C :: us, []⟩)).depth = A.depth + 1 := rfl
      rw [e]; omega, by have := hA.units; have e : (A.under (.builtin "type.__call__" ⟨.ref C :: us, []⟩)).units = A.units + 1 := rfl
                        rw [e]; omega, hA.hand⟩
theorem con_cls {n : Nat} {C f : Addr} {vs : List V} {σ : AH} {Q : V → AH → Prop} (hm : makesIn c.K C = true) (hi : findIn c.K (.ref C) "__init__" = some (some (.ref f))) (hf : isFn c.K (.ref f) = true)
    (h : ∀ d, σ d = none → Con n (.ref f) (.inst C d :: vs) (σ.put d (.dict [])) (fun v σ' => v = .none ∧ Q (.inst C d) σ')) : Con (n + 1) (.ref C) vs σ Q := fun env ρ A s us hA S F r => by
  have X0 := S.inK
  obtain ⟨hh, g, d, t, os⟩ := s
  refine make_core (makes_of X0 hm) (looks_findIn X0 hi) (fun self => bind_fn X0 self (beq_iff_eq.mp hf)) (.inl rfl) ?_
  have kp : ∀ b o, hh.get? b = some o → ((hh.push emptyDict).push (instObj C hh.objs.size)).get? b = some o := fun b o e => push_keeps _ _ _ (push_keeps _ _ _ e)
  have nD : hh.get? hh.objs.size = none := get_none_of_size (Nat.le_refl _)
  have hx : ((hh.push emptyDict).push (instObj C hh.objs.size)).get? (hh.objs.size + 1) = some (instObj C hh.objs.size) := by heap_get
  have hd : ((hh.push emptyDict).push (instObj C hh.objs.size)).get? hh.objs.size = some emptyDict := by heap_get
  have hσ : σ hh.objs.size = none := by
    cases z : σ hh.objs.size with
    | none => rfl
    | some ao => obtain ⟨ob, e1, _⟩ := (S.objs _ _ z).at; rw [nD] at e1; cases e1
  have ro : ORep ((hh.push emptyDict).push (instObj C hh.objs.size)) hh.objs.size (.dict []) := .dict (kvs := []) ⟨_, #[], 0, hd, ⟨rfl, rfl, rfl⟩, rfl, fun e he => by simp at he, .nil, .nil⟩ .nil
  have S1 := S.putNew kp nD (S.two (Nat.le_refl _)) ro
  have F1 := F.putNew kp nD (ao := .dict [])
  have M1 : Fm env σ hh _ _ := .putNew kp nD (ao := .dict [])
  have r1 : VsRep ((hh.push emptyDict).push (instObj C hh.objs.size)) (.ref (hh.objs.size + 1) :: us) (.inst C hh.objs.size :: vs) := .cons (.inst hx) (r.keep fun b o e _ => kp b o e)
  refine codeAny_mono (h hh.objs.size hσ env ρ _ ⟨_, g, d, t, os⟩ _ (tc_room hA) S1 F1 r1) fun r s' z => ?_
  rcases r with e | (v | _ | _ | _) <;> first | exact z.elim | skip
  obtain ⟨h', tk, v', ρ', σ', e, S', F', M, r, e2, rfl, q⟩ := z
  obtain rfl := r.none_inv
  refine ⟨rfl, h', tk, _, ρ', σ', ?_, S', F', M1.trans M, .inst (keepLoose S1 F1 M _ _ hx fun l => l (.inr (.inl ⟨_, _, rfl⟩))), e2, q⟩
  rw [e]
end
section
open PySem PySem.W PyProof.Rows PySem.Calls Builtin
section
variable {prog : Program} {A : Around} {E : Value → Shared → Prop} {K : Frag} {C : Addr}
noncomputable def notIn (K : Frag) (t : Value) (C : Addr) : Bool := (clsIn K C).isSome && typeIn K (.ref C) == some (.type "type") && instIn K (.ref C) (.type "type") == some true && subIn K t (.ref C) == some false
set_option tactic.hygienic true
theorem isi_not_str {x : Str} {tk : Tok} {dep : Int} {dt : Tok} {s : Shared} {Q : Fin → Shared → Prop} (X0 : K.In s.heap) (e : notIn K (.type "str") C = true) (h : ∀ n, Q (.done (.ret (.bool false))) { s with toks := n }) :
    wpAny (model prog w) A (Builtin.«isinstance.nested» ⟨[.str x tk, .ref C, .int dep dt], []⟩) Q E s := by
  obtain ⟨hh, g, d, tt, os⟩ := s
  unfold Builtin.«isinstance.nested»
  have ht : Looks (model prog w) hh (typeOf (.str x tk)) (.type "str") := Looks.of_pure rfl
  refine wpAny_bind (ht.at ?_)
  rw [if_neg (by simp)]
  unfold notIn at e
  rw [Bool.and_eq_true, Bool.and_eq_true, Bool.and_eq_true] at e
  obtain ⟨⟨⟨e0, e1⟩, e2⟩, e3⟩ := e
  have L1 := looks_typeIn (M := model prog w) X0 (beq_iff_eq.mp e1)
  have L2 := looks_instIn (M := model prog w) X0 (beq_iff_eq.mp e2)
  have L3 : Looks (model prog w) hh (isInstance (.str x tk) (.ref C)) false := ht.andThen (looks_subIn X0 (beq_iff_eq.mp e3))
  have L4 : Looks (model prog w) hh (isSubtype (.type "str") (.ref C)) false := looks_subIn X0 (beq_iff_eq.mp e3)
  refine wpAny_bind (L1.at ?_)
  rw [if_pos (by decide)]
  k_delta "plainIsInstance"
  unfold isType
  repeat lk
  unfold clsIn at e0
  split at e0
  · rename_i ho
    refine nd_load (X0 _ _ ho) (nd_pure (wpAny_pure ?_))
    simp only [Bool.not_true, Bool.false_eq_true, if_false]
    refine wpAny_bind (L3.at ?_)
    simp only [Bool.false_eq_true, if_false]
    refine wpAny_bind (class_attr_str ?_)
    repeat lk
    exact h _
  · cases e0
set_option tactic.hygienic false
theorem isi_call_not_str {x : Str} {tk : Tok} {s : Shared} {Q : Value → Shared → Prop} (X0 : K.In s.heap) (e : notIn K (.type "str") C = true) (h : ∀ n, Q (.bool false) { s with toks := n }) :
    wpAny (model prog w) A (call (.builtin "isinstance") [.str x tk, .ref C]) Q E s := by
  refine call_isinstance_of ?_ (by intro e; cases e)
  exact isi_not_str X0 e fun n => h n
end

theorem setItem_lst {prog : Program} {A : Around} {E : Value → Shared → Prop} {s : Shared} {l : Addr} {items : Array Value} {n : Nat} {k : Int} {t : Tok} {v : Value} {Q : Unit → Shared → Prop} (ho : IsL s.heap l items n)
    (h0 : 0 ≤ k) (hfit : k < 2 ^ 63) (hn : k < items.size) (hQ : Q () { s with heap := s.heap.update l (Obj.mapSeq (·.setIfInBounds k.toNat v)) }) :
    wpAny (model prog w) A (setItem (.ref l) (.int k t) v) Q E s := by
  have hl : s.heap.IsList l items := ⟨_, ho, rfl, _, rfl⟩
  unfold setItem
  try with_reducible refine wpAny_holding ?_
  skip
  refine wpAny_bind (wpAny_sequenceKey hl.typeIs (by decide) ?_)
  refine wpAny_bind (wpAny_callSpecial?_slot (name := Str.ofString "__setitem__") hl.typeIs slot_list_setitem
    (wpAny_call_entry slot_list_setitem hl.typeIs entry_list_setitem ?_ (args_list_setitem _ _ _)))
  show wpAny _ _ (Builtin.List.listSubscript? (.int k t) >>= _) _ _ s
  refine wpAny_bind (wpAny_listSubscript_int (fitsIndex_of h0 hfit) ?_)
  clear hfit
  obtain ⟨j, rfl⟩ := Int.eq_ofNat_of_zero_le h0
  have hj : j < items.size := by omega
  have hx' : items[j]? = some items[j] := Array.getElem?_eq_getElem hj
  show wpAny _ _ ((seqItemAt l j >>= fun r => pure (r.map (j, ·))) >>= _) _ _ s
  refine wpAny_bind (wpAny_bind (wpAny_seqItemAt ho rfl (wpAny_pure ?_)))
  rw [hx']
  show wpAny _ _ (setSeqItemAt l j v >>= _) _ _ s
  refine wpAny_bind (wpAny_setSeqItemAt ho rfl ?_)
  first
    | exact wpAny_bind (wpAny_pure (wpAny_pure ⟨.none, rfl, wpAny_pure hQ⟩))
    | exact wpAny_pure ⟨.none, rfl, wpAny_pure hQ⟩
section
variable {n : Nat} {env : Env} {ρ : Loc} {σ : AH} {X0 : XP} {Q : V → Loc → AH → Prop}

theorem isi_str_cls {C : Addr} {x : Str} (e : notIn c.K (.type "str") C = true) (q : Q (.bool false) ρ σ) : CallJ n env (.builtin "isinstance") [.str x, .glob (.ref C)] ρ σ Q := fun us A s hA S F r => by
  obtain ⟨u, v, rfl, r1, r2⟩ := vs_two r; obtain ⟨t, rfl⟩ := VRep.str_inv r1; obtain rfl := VRep.glob_inv r2
  exact isi_call_not_str (S.inK) e fun m => Post.stay (tk := m) S F (.bool _) q
theorem isi_str_str {x : Str} (q : Q (.bool true) ρ σ) : CallJ n env (.builtin "isinstance") [.str x, .glob (.type "str")] ρ σ Q := fun us A s hA S F r => by
  obtain ⟨u, v, rfl, r1, r2⟩ := vs_two r; obtain ⟨t, rfl⟩ := VRep.str_inv r1; obtain rfl := VRep.glob_inv r2
  exact IsiPair.str_str (Post.stay (tk := s.toks) S F (.bool _) q)
theorem isi_str_tup {x : Str} (q : Q (.bool false) ρ σ) : CallJ n env (.builtin "isinstance") [.str x, .glob (.type "tuple")] ρ σ Q := fun us A s hA S F r => by
  obtain ⟨u, v, rfl, r1, r2⟩ := vs_two r; obtain ⟨t, rfl⟩ := VRep.str_inv r1; obtain rfl := VRep.glob_inv r2
  exact IsiPair.str_tuple (Post.stay (tk := s.toks + 1) S F (.bool _) q)
theorem isi_int_tup {x : Int} (q : Q (.bool false) ρ σ) : CallJ n env (.builtin "isinstance") [.int x, .glob (.type "tuple")] ρ σ Q := fun us A s hA S F r => by
  obtain ⟨u, v, rfl, r1, r2⟩ := vs_two r; obtain ⟨t, rfl⟩ := VRep.int_inv r1; obtain rfl := VRep.glob_inv r2
  exact IsiPair.int_tuple (Post.stay (tk := s.toks + 1) S F (.bool _) q)
theorem isi_none_tup (q : Q (.bool false) ρ σ) : CallJ n env (.builtin "isinstance") [.none, .glob (.type "tuple")] ρ σ Q := fun us A s hA S F r => by
  obtain ⟨u, v, rfl, r1, r2⟩ := vs_two r; obtain rfl := VRep.none_inv r1; obtain rfl := VRep.glob_inv r2
  exact IsiPair.NoneType_tuple (Post.stay (tk := s.toks + 1) S F (.bool _) q)

theorem op_add_lst {a b : Addr} {l m : List V} (ha : σ a = some (.list l)) (hb : σ b = some (.list m)) (hl : l.length ≤ 100000) (hm : m.length ≤ 100000) (q : ∀ d, σ d = none → Q (.lst d) ρ (σ.put d (.list (l ++ m)))) : Op2 n env (binaryOp .Add) (.lst a) (.lst b) ρ σ Q := fun u v A s hA S F r => by
  obtain rfl := VRep.lst_inv r.1; obtain rfl := VRep.lst_inv r.2
  have o := S.objs _ _ ha
  have o2 := S.objs _ _ hb
  cases o with
  | @list vs k _ ho hs =>
    cases o2 with
    | @list vs2 k2 _ ho2 hs2 =>
      have e1 := hs.length; have e2 := hs2.length
      rw [Array.length_toList] at e1 e2
      refine P.add_list ho ho2 (Post.new (tk := s.toks) (ao := .list (l ++ m)) S F (push_keeps _) (push_size _) (Nat.le_refl _) (.list (IsL.new _ _) ?_) (.lst _) (q _ ?_)) (by rw [sizeLine_eq]; exact lin4 (.e (.v 0) (.v 1) (.e (.v 2) (.v 3) (.l (.v 1) (.k 100000) (.l (.v 3) (.k 100000) (.g (.a (.v 0) (.v 2)) (.k 16777216)))))) rfl e1 e2 hl hm)
      · simpa using (hs.keep fun b o e _ => push_keeps _ b o e).append (hs2.keep fun b o e _ => push_keeps _ b o e)
      · cases z : σ s.heap.objs.size with
        | none => rfl
        | some ao => obtain ⟨ob, e1, _⟩ := (S.objs _ _ z).at; exact absurd (Heap.lt_size e1) (Nat.lt_irrefl _)
theorem op_add_tup {l m : List V} (hl : l.length ≤ 100000) (hm : m.length ≤ 100000) (q : Q (.tup (l ++ m)) ρ σ) : Op2 n env (binaryOp .Add) (.tup l) (.tup m) ρ σ Q := fun u v A s hA S F r => by
  obtain ⟨a, vs, k, rfl, ht, hs⟩ := VRep.tup_inv r.1
  obtain ⟨b, vs2, k2, rfl, ht2, hs2⟩ := VRep.tup_inv r.2
  have e1 := hs.length; have e2 := hs2.length
  rw [Array.length_toList] at e1 e2
  by_cases h1 : vs.isEmpty = true
  · have l0 : l = [] := by have : vs = #[] := by simpa using h1
                           subst this; cases l with | nil => rfl | cons x y => simp at e1
    subst l0
    exact concat_meets ⟨_, ht, rfl⟩ ⟨_, ht2, rfl⟩ noFill_tuple_add seq_tuple_add PySem.F.slot_tuple_add PySem.F.entry_tuple_add (PySem.F.args_tuple_add_2 _ _)
      (tuple_addW0 a b vs vs2 k k2 none none #[] #[] h1) ⟨ht, ht2, Post.stay (tk := s.toks) S F (show VRep _ _ (.tup ([] ++ m)) from r.2) q⟩
  · by_cases h2 : vs2.isEmpty = true
    · have l0 : m = [] := by have : vs2 = #[] := by simpa using h2
                             subst this; cases m with | nil => rfl | cons x y => simp at e2
      subst l0
      exact concat_meets ⟨_, ht, rfl⟩ ⟨_, ht2, rfl⟩ noFill_tuple_add seq_tuple_add PySem.F.slot_tuple_add PySem.F.entry_tuple_add (PySem.F.args_tuple_add_2 _ _)
        (tuple_addW1 a b vs vs2 k k2 none none #[] #[] h1 h2) ⟨ht, ht2, Post.stay (tk := s.toks) S F (show VRep _ _ (.tup (l ++ [])) from (List.append_nil l).symm ▸ r.1) q⟩
    · refine P.add_tuple ht ht2 h1 h2 (Post.extend (tk := s.toks) S F (push_keeps _) (push_size _) (.tup (IsT.new _ _) ?_) q) (by rw [sizeLine_eq]; exact lin4 (.e (.v 0) (.v 1) (.e (.v 2) (.v 3) (.l (.v 1) (.k 100000) (.l (.v 3) (.k 100000) (.g (.a (.v 0) (.v 2)) (.k 16777216)))))) rfl e1 e2 hl hm)
      simpa using (hs.keep fun b o e _ => push_keeps _ b o e).append (hs2.keep fun b o e _ => push_keeps _ b o e)

theorem call_list_rng {a b : Int} (ha : -1000000 ≤ a) (ha' : a ≤ 1000000) (hb : -1000000 ≤ b) (hb' : b ≤ 1000000) (q : ∀ d, σ d = none → Q (.lst d) ρ (σ.put d (.list (rangeVs a b)))) : CallJ n env (.type "list") [.rng a b] ρ σ Q := fun us A s hA S F r => by
  obtain ⟨u, rfl, r1⟩ := vs_one r
  cases r1 with
  | @rng r _ _ t u v ho =>
  have sz : Builtin.Range.rangeSize a b 1 = ((b - a).toNat : Int) := by unfold Builtin.Range.rangeSize; simp; lia
  refine PySem.call_list_range hA.hand ho (small_one (by lia) (by lia) (by lia) (by lia)) sz (by lia) fun h' tk acc c' kp hd it => ?_
  refine Post.new (ao := .list (rangeVs a b)) S F kp ?_ (Nat.le_refl _) (.list hd ?_) (.lst _) (q _ ?_)
  · exact Nat.le_of_lt (Heap.lt_size hd)
  · obtain ⟨i1, i2⟩ := it
    have key : ∀ (k : Nat) (us : List Value), (∀ j v, us[j]? = some v → ∃ t, v = Value.int (a + ((k + j : Nat) : Int)) t) → VsRep h' us ((List.range' k us.length).map fun i => V.int (a + (i : Nat))) := by
      intro k us
      induction us generalizing k with
      | nil => intro _; exact .nil
      | cons u us ih =>
        intro hh
        rw [List.length_cons, List.range'_succ, List.map_cons]
        refine .cons ?_ (ih (k + 1) fun j v e => ?_)
        · obtain ⟨t, rfl⟩ := hh 0 u (by simp); simpa using VRep.int _ t
        · obtain ⟨t, rfl⟩ := hh (j + 1) v (by simpa using e); exact ⟨t, by congr 2; lia⟩
    have := key 0 acc.toList (fun j v e => by obtain ⟨t, e2⟩ := i2 j v (by simpa using e); exact ⟨t, by rw [e2]; simp⟩)
    rw [Array.length_toList, i1] at this
    simpa [rangeVs, List.range_eq_range'] using this
  · cases z : σ s.heap.objs.size with
    | none => rfl
    | some ao => obtain ⟨ob, e1, _⟩ := (S.objs _ _ z).at; exact absurd (Heap.lt_size e1) (Nat.lt_irrefl _)
theorem call_list_tup {l : List V} (hl : l.length ≤ 1000000) (q : ∀ d, σ d = none → Q (.lst d) ρ (σ.put d (.list l))) : CallJ n env (.type "list") [.tup l] ρ σ Q := fun us A s hA S F r => by
  obtain ⟨u, rfl, r1⟩ := vs_one r; obtain ⟨a, vs, m, rfl, ht, hs⟩ := VRep.tup_inv r1
  have e1 := hs.length; rw [Array.length_toList] at e1
  refine PySem.call_list_seq a (.inr rfl) ht rfl rfl (fun h' c' kp hd => ?_) (by rw [sizeLine_eq]; exact lin2 (.e (.v 0) (.v 1) (.l (.v 1) (.k 1000000) (.g (.v 0) (.k 16777216)))) rfl e1 hl)
  refine Post.new (tk := s.toks) (ao := .list l) S F kp (Nat.le_of_lt (Heap.lt_size hd)) (Nat.le_refl _) (.list hd (hs.keep fun b o e _ => kp b o e)) (.lst _) (q _ ?_)
  cases z : σ s.heap.objs.size with
  | none => rfl
  | some ao => obtain ⟨ob, e1, _⟩ := (S.objs _ _ z).at; exact absurd (Heap.lt_size e1) (Nat.lt_irrefl _)
theorem VsRep.strs {h : Heap} : ∀ {us : List Value} {l : List Str}, VsRep h us (l.map .str) → StrsAre us l
  | _, [], .nil => .nil
  | _, x :: l, .cons hv hs => by obtain ⟨t, rfl⟩ := VRep.str_inv hv; exact .cons x t (VsRep.strs hs)
theorem call_join {x : Str} {a : Addr} {l : List Str} (ha : σ a = some (.list (l.map .str))) (hl : (l.map (·.length)).sum + l.length * x.length ≤ 16777216) (q : Q (.str (Txt.join x l)) ρ σ) : CallJ n env (.builtin "str.join") [.str x, .lst a] ρ σ Q := fun us A s hA S F r => by
  obtain ⟨u, v, rfl, r1, r2⟩ := vs_two r; obtain ⟨t, rfl⟩ := VRep.str_inv r1; obtain rfl := VRep.lst_inv r2
  have o := S.objs _ _ ha
  cases o with
  | @list vs k _ ho hs => exact PyProof.Rows.join_list ⟨_, ho, rfl, _, rfl⟩ hs.strs hl fun t' k => Post.stay (tk := k) S F (.str _ _) q

theorem call_dict_get {a : Addr} {l : List (Str × V)} {k : Str} {d : V} (ha : σ a = some (.dict l)) (q : Q ((getK l k).getD d) ρ σ) : CallJ n env (.builtin "dict.get") [.dct a, .str k, d] ρ σ Q := fun us A s hA S F r => by
  obtain ⟨u, v, z, rfl, r1, r2, r3⟩ := vs_three r; obtain ⟨t, rfl⟩ := VRep.str_inv r2; obtain rfl := VRep.dct_inv r1
  have o := S.objs _ _ ha
  cases o with
  | @dict kvs _ ho hs =>
    have na : (a == sysModules) = false := by have := S.lo _ _ ha; simpa [sysModules] using this
    refine call_meetsIn PySem.F.slot_dict_get ho.typeIs PySem.F.entry_dict_get (PySem.F.args_dict_get_3 _ _ _) (meets_dict_get_default (strKind c.prog c.w) a (k := k) (by show (k == k) = true; simp) na z) ⟨_, ho.mapOf, ?_⟩
    refine Post.stay (tk := s.toks + 1) S F ?_ q
    cases hk : getK l k with
    | none => rw [(hs.get k).2 hk]; exact r3
    | some v => obtain ⟨u, hu, ru⟩ := (hs.get k).1 v hk; rw [hu]; exact ru
theorem set_lst {a : Addr} {l : List V} {i : Int} {v : V} {Q : Loc → AH → Prop} (ha : σ a = some (.list l)) (h0 : 0 ≤ i) (h1 : i < l.length) (hl : l.length ≤ 1000000) (q : Q ρ (σ.put a (.list (l.set i.toNat v)))) : SetJ n env (.lst a) (.int i) v ρ σ Q := fun u k w A s hA S F r => by
  obtain rfl := VRep.lst_inv r.1; obtain ⟨t, rfl⟩ := VRep.int_inv r.2.1
  have o := S.objs _ _ ha
  cases o with
  | @list vs m _ ho hs =>
    have e1 := hs.length; rw [Array.length_toList] at e1
    have hl' : s.heap.IsList a vs := ⟨_, ho, rfl, _, rfl⟩
    refine setItem_lst ho h0 (by lia) (by lia) ?_
    have k := sameBut_loose (S.objs _ _ ha) (Heap.SameBut.update s.heap a (Obj.mapSeq (·.setIfInBounds i.toNat w)))
    refine Post.upd (v := ()) (s := s) (tk := s.toks) S F ha (Heap.SameBut.update ..) (.list (ho.update _) ?_) rfl q
    simpa using (hs.keep k).set i.toNat (r.2.2.keep k)
theorem set_dct {a : Addr} {l : List (Str × V)} {k : Str} {v : V} {Q : Loc → AH → Prop} (ha : σ a = some (.dict l)) (hl : l.length ≤ 1000) (q : Q ρ (σ.put a (.dict (setK l k v)))) : SetJ n env (.dct a) (.str k) v ρ σ Q := fun u k' w A s hA S F r => by
  obtain rfl := VRep.dct_inv r.1; obtain ⟨t, rfl⟩ := VRep.str_inv r.2.1
  have o := S.objs _ _ ha
  cases o with
  | @dict kvs _ ho hs =>
    refine wpAny_setItem_pairs (knd := strKind c.prog c.w) (k := k) (by show (k == k) = true; simp) ho (fun h' ho' sb => ?_) (by rw [hs.length, sizeLine_eq]; exact lin1 (.l (.v 0) (.k 1000) (.g (.v 0) (.k 16777216))) rfl hl)
    refine Post.upd (v := ()) (s := s) S F ha sb (.dict ho' ?_) rfl q
    exact (hs.stored k r.2.2).keep (sameBut_loose (S.objs _ _ ha) sb)
end
end
section
open PySem PySem.W PyProof.Rows PySem.Calls
noncomputable section
noncomputable def nth (l : List Stmt) (i : Nat) : Stmt := match l[i]? with | some s => s | none => .Pass ⟨0, 0, 0, 0⟩
noncomputable def sBody : Stmt → List Stmt
  | .FunctionDef _ _ b _ _ _ _ _ _ _ => b
  | .ClassDef _ _ _ b _ _ _ _ _ _ _ => b
  | _ => []
noncomputable def sPar : Stmt → Arguments
  | .FunctionDef _ a _ _ _ _ _ _ _ _ => a
  | _ => ⟨[], [], none, [], [], none, []⟩
noncomputable def sScope : Stmt → Scope
  | .FunctionDef _ _ _ _ _ _ s _ _ _ => s
  | _ => pw.main.scope
noncomputable def stm (i : Nat) : Stmt := nth (behindTheImports pw) i
noncomputable def tstm (i : Nat) : Stmt := nth tbody i
noncomputable def meth (i j : Nat) : Stmt := nth (sBody (stm i)) j
noncomputable def tmeth (i j : Nat) : Stmt := nth (sBody (tstm i)) j
theorem pw_tw : pw = tpw := rfl
theorem tstm_eq (i : Nat) : tstm i = stm i := by unfold tstm stm tbody; rw [pw_tw]
theorem tmeth_eq (i j : Nat) : tmeth i j = meth i j := by unfold tmeth meth; rw [tstm_eq]
noncomputable def fnd (o : Obj) : FuncData := match o.data with | .func fd => fd | _ => { name := "", qualname := "", params := ⟨[], [], none, [], [], none, []⟩, body := .stmts [], scope := pw.main.scope, globals := 0, closure := [], defaults := .none, kwdefaults := .none, doc := .none, pyModule := .none, annotations := none, code := .none, closureTuple := .none, builtins := 0 }
noncomputable def asFn (o : Obj) (qual : Str) (st : Stmt) (code : Addr) : Obj := ⟨o.cls, o.dict, .func (fnOf (fnd o).name qual (sPar st) (sBody st) (sScope st) .none .none (fnd o).doc (fnd o).pyModule (fnd o).annotations (.ref code) (fnd o).closureTuple), o.slots⟩
noncomputable def codeB (o : Obj) (q : Str) : Bool := match o with
  | ⟨_, _, .fields vs, _⟩ => (match vs.toList with | _ :: .str n _ :: _ => n == q | _ => false)
  | _ => false
theorem KO_look (w : World) (a : Nat) (h : addrs.contains a = true) : (KO w).lookup a = some (objF w a) := by
  have key : ∀ l : List Nat, l.contains a = true → List.lookup a (l.map fun a => (a, objF w a)) = some (objF w a) := by
    intro l h
    induction l with
    | nil => simp at h
    | cons b l ih =>
      rw [List.map_cons, List.lookup_cons]
      by_cases q : (a == b) = true
      · rw [q]; have := beq_iff_eq.mp q; subst this; rfl
      · rw [Bool.not_eq_true] at q; rw [q]
        rw [List.contains_cons, q, Bool.false_or] at h
        exact ih h
  exact key addrs h
theorem codeIn_of {c : Nat} {q : Str} (h : addrs.contains c = true) (e : codeB (objF w c) q = true) : codeIn (KO w) (.ref c) q = true := by
  unfold codeIn
  dsimp only
  rw [KO_look w c h]
  revert e
  generalize objF w c = o
  intro e
  obtain ⟨c1, d1, dt, s1⟩ := o
  cases dt <;> exact e
structure FnShape' (st : Stmt) (names : List Str) : Prop where
  loc : names.all (fun x => (sScope st).names.lookup x == some .local) = true
  rest : (!(sScope st).isCoroutine && !(sScope st).isGenerator && (sScope st).kind == .function && (sScope st).names.all fun x => x.2 != .cell) = true
theorem fnAt_of {a code : Nat} {qual : Str} {st tst : Stmt} {names : List Str} (ha : addrs.contains a = true) (hc : addrs.contains code = true) (hst : tst = st) (ho : objF w a = asFn (objF w a) qual tst code) (hcode : codeB (objF w code) qual = true)
    (hb : ∀ (name qual : Str) (body : List Stmt) (scope : Scope) (doc pm : Value) (an : Option Addr) (cdv ct : Value) (us : List Value), us.length = names.length → bindArgs (fnOf name qual (sPar st) body scope .none .none doc pm an cdv ct) ⟨us, []⟩ = pure (names.zip us)) (sh : FnShape' st names) : FnAt a qual (sScope st) (.ref code) names (sBody st) := by
  subst hst
  have r := sh.rest
  rw [Bool.and_eq_true, Bool.and_eq_true, Bool.and_eq_true] at r
  obtain ⟨⟨⟨r1, r2⟩, r3⟩, r4⟩ := r
  refine ⟨⟨(fnd (objF w a)).name, sPar tst, .none, .none, (fnd (objF w a)).doc, (fnd (objF w a)).pyModule, (fnd (objF w a)).annotations, (fnd (objF w a)).closureTuple, (objF w a).cls, (objF w a).dict, (objF w a).slots, ?_, fun us s _ hu => .of_eq (hb _ _ _ _ _ _ _ _ _ us hu)⟩, ?_, fun x hx => ?_, by simpa using r1, by simpa using r2, by simpa using r3, fun x hx => ?_⟩
  · rw [hK, KO_look w a ha]; exact congrArg some ho
  · rw [hK]; exact codeIn_of hc hcode
  · exact beq_iff_eq.mp (List.all_eq_true.mp sh.loc x hx)
  · have := List.all_eq_true.mp r4 x hx
    simpa using this
theorem map_at {α β : Type} {f g : α → β} {l : List α} (h : l.map f = l.map g) (i : Nat) {x : α} (hi : l[i]? = some x) : f x = g x := by
  have := congrArg (fun l : List β => l[i]?) h
  simp only [List.getElem?_map, hi, Option.map_some, Option.some.injEq] at this
  exact this
abbrev FnRow := Nat × Str × Stmt × Nat
theorem len0 {P : List Value → Prop} (h : P []) : ∀ us : List Value, us.length = 0 → P us
  | [], _ => h
theorem lenS {P : List Value → Prop} {n : Nat} (h : ∀ a us, us.length = n → P (a :: us)) : ∀ us : List Value, us.length = n + 1 → P us
  | a :: us, e => h a us (Nat.succ.inj e)
theorem len1 {P : List Value → Prop} (h : ∀ a, P [a]) : ∀ us : List Value, us.length = 1 → P us := lenS fun a => len0 (P := fun us => P (a :: us)) (h a)
theorem len2 {P : List Value → Prop} (h : ∀ a b, P [a, b]) : ∀ us : List Value, us.length = 2 → P us := lenS fun a => len1 (P := fun us => P (a :: us)) (h a)
theorem len3 {P : List Value → Prop} (h : ∀ a b c, P [a, b, c]) : ∀ us : List Value, us.length = 3 → P us := lenS fun a => len2 (P := fun us => P (a :: us)) (h a)
theorem len4 {P : List Value → Prop} (h : ∀ a b c d, P [a, b, c, d]) : ∀ us : List Value, us.length = 4 → P us := lenS fun a => len3 (P := fun us => P (a :: us)) (h a)
theorem len5 {P : List Value → Prop} (h : ∀ a b c d e, P [a, b, c, d, e]) : ∀ us : List Value, us.length = 5 → P us := lenS fun a => len4 (P := fun us => P (a :: us)) (h a)
theorem len6 {P : List Value → Prop} (h : ∀ a b c d e f, P [a, b, c, d, e, f]) : ∀ us : List Value, us.length = 6 → P us := lenS fun a => len5 (P := fun us => P (a :: us)) (h a)
theorem len7 {P : List Value → Prop} (h : ∀ a b c d e f g, P [a, b, c, d, e, f, g]) : ∀ us : List Value, us.length = 7 → P us := lenS fun a => len6 (P := fun us => P (a :: us)) (h a)
theorem fn_at {G : World → OsState → Nat → Obj} {k n : Nat} {L : List FnRow} (hG : ∀ a, 13 < a → a < n → objF w a = G w (osOf w) a) (sh : L.map (fun x => G w (osOf w) x.1) = L.map (fun x => asFn (G w (osOf w) x.1) x.2.1 x.2.2.1 x.2.2.2)) (co : L.all (fun x => codeB (G w (osOf w) x.2.2.2) x.2.1) = true)
    (i : Nat) {a code : Nat} {qual : Str} {tst st : Stmt} {names : List Str} (hi : L[i]? = some (a, qual, tst, code)) (hst : tst = st) (hb : (Nat.blt 13 a && Nat.blt a n && Nat.blt 13 code && Nat.blt code n && addrs.contains a && addrs.contains code) = true)
    (bd : ∀ (name qual : Str) (body : List Stmt) (scope : Scope) (doc pm : Value) (an : Option Addr) (cdv ct : Value) (us : List Value), us.length = names.length → bindArgs (fnOf name qual (sPar st) body scope .none .none doc pm an cdv ct) ⟨us, []⟩ = pure (names.zip us)) (shp : FnShape' st names) : FnAt a qual (sScope st) (.ref code) names (sBody st) := by
  simp only [Bool.and_eq_true, Nat.blt_eq] at hb
  obtain ⟨⟨⟨⟨⟨b1, b2⟩, b3⟩, b4⟩, b5⟩, b6⟩ := hb
  refine fnAt_of b5 b6 hst ?_ ?_ bd shp
  · have := map_at sh i hi
    rw [hG a b1 b2]; exact this
  · rw [hG code b3 b4]
    exact List.all_eq_true.mp co _ (List.mem_of_getElem? hi)

noncomputable def FL0 : List FnRow := [(65, ("Pattern.__init__" : Str), tmeth 3 0, 64)]
theorem shapes0 (w : World) (os : OsState) (g : Nat → Obj) : FL0.map (fun x => G0 w os g x.1) = FL0.map (fun x => asFn (G0 w os g x.1) x.2.1 x.2.2.1 x.2.2.2) := by kernel_rfl
theorem codes0 (w : World) (os : OsState) (g : Nat → Obj) : FL0.all (fun x => codeB (G0 w os g x.2.2.2) x.2.1) = true := by kernel_rfl
theorem obj0 (w : World) (a : Nat) (h1 : 13 < a) (h2 : a < 73) : objF w a = G0 w (osOf w) (H0 w (osOf w)) a := (objF_at w a h1).trans (at1 w (osOf w) a h2)
noncomputable def FL1 : List FnRow := [(86, ("Delayed.__init__" : Str), tmeth 4 0, 85), (107, ("NameRef.__init__" : Str), tmeth 5 0, 106), (121, ("is_fail" : Str), tstm 6, 120), (128, ("fits" : Str), tstm 7, 127), (135, ("whole_of_text" : Str), tstm 8, 134), (142, ("text_of_whole" : Str), tstm 9, 141), (149, ("to_whole" : Str), tstm 10, 148), (156, ("to_text" : Str), tstm 11, 155), (163, ("need_text" : Str), tstm 12, 162), (180, ("plain_signs" : Str), tstm 18, 179)]
theorem shapes1 (w : World) (os : OsState) (g : Nat → Obj) : FL1.map (fun x => G1 w os g x.1) = FL1.map (fun x => asFn (G1 w os g x.1) x.2.1 x.2.2.1 x.2.2.2) := by kernel_rfl
theorem codes1 (w : World) (os : OsState) (g : Nat → Obj) : FL1.all (fun x => codeB (G1 w os g x.2.2.2) x.2.1) = true := by kernel_rfl
theorem obj1 (w : World) (a : Nat) (h1 : 13 < a) (h2 : a < 181) : objF w a = G1 w (osOf w) (H1 w (osOf w)) a := (objF_at w a h1).trans (at2 w (osOf w) a h2)
theorem F_NameRef_init : FnAt 107 ("NameRef.__init__" : Str) (sScope (meth 5 0)) (.ref 106) [("self" : Str), ("kind" : Str), ("owner" : Str), ("key" : Str)] (sBody (meth 5 0)) :=
  fn_at (G := fun w os => G1 w os (H1 w os)) (k := 0) (obj1 w) (shapes1 w _ _) (codes1 w _ _) 1 rfl (tmeth_eq _ _) (by decide +kernel) (fun _ _ _ _ _ _ _ _ _ => len4 (by intros; kernel_rfl)) ⟨by kernel_rfl, by kernel_rfl⟩
theorem F_is_fail : FnAt 121 ("is_fail" : Str) (sScope (stm 6)) (.ref 120) [("value" : Str)] (sBody (stm 6)) :=
  fn_at (G := fun w os => G1 w os (H1 w os)) (k := 0) (obj1 w) (shapes1 w _ _) (codes1 w _ _) 2 rfl (tstm_eq _) (by decide +kernel) (fun _ _ _ _ _ _ _ _ _ => len1 (by intros; kernel_rfl)) ⟨by kernel_rfl, by kernel_rfl⟩
theorem F_to_text : FnAt 156 ("to_text" : Str) (sScope (stm 11)) (.ref 155) [("value" : Str)] (sBody (stm 11)) :=
  fn_at (G := fun w os => G1 w os (H1 w os)) (k := 0) (obj1 w) (shapes1 w _ _) (codes1 w _ _) 7 rfl (tstm_eq _) (by decide +kernel) (fun _ _ _ _ _ _ _ _ _ => len1 (by intros; kernel_rfl)) ⟨by kernel_rfl, by kernel_rfl⟩
noncomputable def FL2 : List FnRow := [(187, ("pattern_of" : Str), tstm 19, 186), (194, ("is_delayed" : Str), tstm 20, 193), (201, ("settled" : Str), tstm 21, 200), (208, ("chars_end" : Str), tstm 25, 207), (215, ("len_end" : Str), tstm 26, 214), (222, ("pos_end" : Str), tstm 27, 221), (229, ("rpos_end" : Str), tstm 28, 228), (236, ("tab_end" : Str), tstm 29, 235), (243, ("rtab_end" : Str), tstm 30, 242), (250, ("rem_end" : Str), tstm 31, 249), (257, ("any_at" : Str), tstm 32, 256), (264, ("notany_at" : Str), tstm 33, 263), (271, ("run_end" : Str), tstm 34, 270), (278, ("span_end" : Str), tstm 35, 277), (285, ("break_end" : Str), tstm 36, 284), (292, ("arb_ends" : Str), tstm 37, 291), (299, ("bal_end" : Str), tstm 38, 298), (306, ("bal_ends" : Str), tstm 39, 305), (313, ("one_end" : Str), tstm 40, 312), (320, ("plain_end" : Str), tstm 41, 319), (327, ("ends_of" : Str), tstm 42, 326), (334, ("match_plain" : Str), tstm 45, 333), (341, ("match_at" : Str), tstm 46, 340)]
theorem shapes2 (w : World) (os : OsState) (g : Nat → Obj) : FL2.map (fun x => G2 w os g x.1) = FL2.map (fun x => asFn (G2 w os g x.1) x.2.1 x.2.2.1 x.2.2.2) := by kernel_rfl
theorem codes2 (w : World) (os : OsState) (g : Nat → Obj) : FL2.all (fun x => codeB (G2 w os g x.2.2.2) x.2.1) = true := by kernel_rfl
theorem obj2 (w : World) (a : Nat) (h1 : 13 < a) (h2 : a < 342) : objF w a = G2 w (osOf w) (H2 w (osOf w)) a := (objF_at w a h1).trans (at3 w (osOf w) a h2)
theorem F_pattern_of : FnAt 187 ("pattern_of" : Str) (sScope (stm 19)) (.ref 186) [("value" : Str)] (sBody (stm 19)) :=
  fn_at (G := fun w os => G2 w os (H2 w os)) (k := 0) (obj2 w) (shapes2 w _ _) (codes2 w _ _) 0 rfl (tstm_eq _) (by decide +kernel) (fun _ _ _ _ _ _ _ _ _ => len1 (by intros; kernel_rfl)) ⟨by kernel_rfl, by kernel_rfl⟩
theorem F_is_delayed : FnAt 194 ("is_delayed" : Str) (sScope (stm 20)) (.ref 193) [("told" : Str)] (sBody (stm 20)) :=
  fn_at (G := fun w os => G2 w os (H2 w os)) (k := 0) (obj2 w) (shapes2 w _ _) (codes2 w _ _) 1 rfl (tstm_eq _) (by decide +kernel) (fun _ _ _ _ _ _ _ _ _ => len1 (by intros; kernel_rfl)) ⟨by kernel_rfl, by kernel_rfl⟩
theorem F_settled : FnAt 201 ("settled" : Str) (sScope (stm 21)) (.ref 200) [("node" : Str), ("host" : Str)] (sBody (stm 21)) :=
  fn_at (G := fun w os => G2 w os (H2 w os)) (k := 0) (obj2 w) (shapes2 w _ _) (codes2 w _ _) 2 rfl (tstm_eq _) (by decide +kernel) (fun _ _ _ _ _ _ _ _ _ => len2 (by intros; kernel_rfl)) ⟨by kernel_rfl, by kernel_rfl⟩
theorem F_chars_end : FnAt 208 ("chars_end" : Str) (sScope (stm 25)) (.ref 207) [("subject" : Str), ("at" : Str), ("text" : Str)] (sBody (stm 25)) :=
  fn_at (G := fun w os => G2 w os (H2 w os)) (k := 0) (obj2 w) (shapes2 w _ _) (codes2 w _ _) 3 rfl (tstm_eq _) (by decide +kernel) (fun _ _ _ _ _ _ _ _ _ => len3 (by intros; kernel_rfl)) ⟨by kernel_rfl, by kernel_rfl⟩
theorem F_len_end : FnAt 215 ("len_end" : Str) (sScope (stm 26)) (.ref 214) [("subject" : Str), ("at" : Str), ("many" : Str)] (sBody (stm 26)) :=
  fn_at (G := fun w os => G2 w os (H2 w os)) (k := 0) (obj2 w) (shapes2 w _ _) (codes2 w _ _) 4 rfl (tstm_eq _) (by decide +kernel) (fun _ _ _ _ _ _ _ _ _ => len3 (by intros; kernel_rfl)) ⟨by kernel_rfl, by kernel_rfl⟩
theorem F_pos_end : FnAt 222 ("pos_end" : Str) (sScope (stm 27)) (.ref 221) [("at" : Str), ("place" : Str)] (sBody (stm 27)) :=
  fn_at (G := fun w os => G2 w os (H2 w os)) (k := 0) (obj2 w) (shapes2 w _ _) (codes2 w _ _) 5 rfl (tstm_eq _) (by decide +kernel) (fun _ _ _ _ _ _ _ _ _ => len2 (by intros; kernel_rfl)) ⟨by kernel_rfl, by kernel_rfl⟩
theorem F_rpos_end : FnAt 229 ("rpos_end" : Str) (sScope (stm 28)) (.ref 228) [("subject" : Str), ("at" : Str), ("place" : Str)] (sBody (stm 28)) :=
  fn_at (G := fun w os => G2 w os (H2 w os)) (k := 0) (obj2 w) (shapes2 w _ _) (codes2 w _ _) 6 rfl (tstm_eq _) (by decide +kernel) (fun _ _ _ _ _ _ _ _ _ => len3 (by intros; kernel_rfl)) ⟨by kernel_rfl, by kernel_rfl⟩
theorem F_tab_end : FnAt 236 ("tab_end" : Str) (sScope (stm 29)) (.ref 235) [("subject" : Str), ("at" : Str), ("place" : Str)] (sBody (stm 29)) :=
  fn_at (G := fun w os => G2 w os (H2 w os)) (k := 0) (obj2 w) (shapes2 w _ _) (codes2 w _ _) 7 rfl (tstm_eq _) (by decide +kernel) (fun _ _ _ _ _ _ _ _ _ => len3 (by intros; kernel_rfl)) ⟨by kernel_rfl, by kernel_rfl⟩
theorem F_rtab_end : FnAt 243 ("rtab_end" : Str) (sScope (stm 30)) (.ref 242) [("subject" : Str), ("at" : Str), ("place" : Str)] (sBody (stm 30)) :=
  fn_at (G := fun w os => G2 w os (H2 w os)) (k := 0) (obj2 w) (shapes2 w _ _) (codes2 w _ _) 8 rfl (tstm_eq _) (by decide +kernel) (fun _ _ _ _ _ _ _ _ _ => len3 (by intros; kernel_rfl)) ⟨by kernel_rfl, by kernel_rfl⟩
theorem F_rem_end : FnAt 250 ("rem_end" : Str) (sScope (stm 31)) (.ref 249) [("subject" : Str)] (sBody (stm 31)) :=
  fn_at (G := fun w os => G2 w os (H2 w os)) (k := 0) (obj2 w) (shapes2 w _ _) (codes2 w _ _) 9 rfl (tstm_eq _) (by decide +kernel) (fun _ _ _ _ _ _ _ _ _ => len1 (by intros; kernel_rfl)) ⟨by kernel_rfl, by kernel_rfl⟩
theorem F_any_at : FnAt 257 ("any_at" : Str) (sScope (stm 32)) (.ref 256) [("subject" : Str), ("at" : Str), ("signs" : Str)] (sBody (stm 32)) :=
  fn_at (G := fun w os => G2 w os (H2 w os)) (k := 0) (obj2 w) (shapes2 w _ _) (codes2 w _ _) 10 rfl (tstm_eq _) (by decide +kernel) (fun _ _ _ _ _ _ _ _ _ => len3 (by intros; kernel_rfl)) ⟨by kernel_rfl, by kernel_rfl⟩
theorem F_run_end : FnAt 271 ("run_end" : Str) (sScope (stm 34)) (.ref 270) [("subject" : Str), ("at" : Str), ("signs" : Str), ("is_in" : Str)] (sBody (stm 34)) :=
  fn_at (G := fun w os => G2 w os (H2 w os)) (k := 0) (obj2 w) (shapes2 w _ _) (codes2 w _ _) 12 rfl (tstm_eq _) (by decide +kernel) (fun _ _ _ _ _ _ _ _ _ => len4 (by intros; kernel_rfl)) ⟨by kernel_rfl, by kernel_rfl⟩
theorem F_span_end : FnAt 278 ("span_end" : Str) (sScope (stm 35)) (.ref 277) [("subject" : Str), ("at" : Str), ("signs" : Str)] (sBody (stm 35)) :=
  fn_at (G := fun w os => G2 w os (H2 w os)) (k := 0) (obj2 w) (shapes2 w _ _) (codes2 w _ _) 13 rfl (tstm_eq _) (by decide +kernel) (fun _ _ _ _ _ _ _ _ _ => len3 (by intros; kernel_rfl)) ⟨by kernel_rfl, by kernel_rfl⟩
theorem F_break_end : FnAt 285 ("break_end" : Str) (sScope (stm 36)) (.ref 284) [("subject" : Str), ("at" : Str), ("signs" : Str)] (sBody (stm 36)) :=
  fn_at (G := fun w os => G2 w os (H2 w os)) (k := 0) (obj2 w) (shapes2 w _ _) (codes2 w _ _) 14 rfl (tstm_eq _) (by decide +kernel) (fun _ _ _ _ _ _ _ _ _ => len3 (by intros; kernel_rfl)) ⟨by kernel_rfl, by kernel_rfl⟩
theorem F_arb_ends : FnAt 292 ("arb_ends" : Str) (sScope (stm 37)) (.ref 291) [("subject" : Str), ("at" : Str)] (sBody (stm 37)) :=
  fn_at (G := fun w os => G2 w os (H2 w os)) (k := 0) (obj2 w) (shapes2 w _ _) (codes2 w _ _) 15 rfl (tstm_eq _) (by decide +kernel) (fun _ _ _ _ _ _ _ _ _ => len2 (by intros; kernel_rfl)) ⟨by kernel_rfl, by kernel_rfl⟩
theorem F_one_end : FnAt 313 ("one_end" : Str) (sScope (stm 40)) (.ref 312) [("kind" : Str), ("subject" : Str), ("at" : Str), ("told" : Str)] (sBody (stm 40)) :=
  fn_at (G := fun w os => G2 w os (H2 w os)) (k := 0) (obj2 w) (shapes2 w _ _) (codes2 w _ _) 18 rfl (tstm_eq _) (by decide +kernel) (fun _ _ _ _ _ _ _ _ _ => len4 (by intros; kernel_rfl)) ⟨by kernel_rfl, by kernel_rfl⟩
theorem F_plain_end : FnAt 320 ("plain_end" : Str) (sScope (stm 41)) (.ref 319) [("node" : Str), ("subject" : Str), ("at" : Str)] (sBody (stm 41)) :=
  fn_at (G := fun w os => G2 w os (H2 w os)) (k := 0) (obj2 w) (shapes2 w _ _) (codes2 w _ _) 19 rfl (tstm_eq _) (by decide +kernel) (fun _ _ _ _ _ _ _ _ _ => len3 (by intros; kernel_rfl)) ⟨by kernel_rfl, by kernel_rfl⟩
theorem F_ends_of : FnAt 327 ("ends_of" : Str) (sScope (stm 42)) (.ref 326) [("kind" : Str), ("subject" : Str), ("at" : Str), ("told" : Str)] (sBody (stm 42)) :=
  fn_at (G := fun w os => G2 w os (H2 w os)) (k := 0) (obj2 w) (shapes2 w _ _) (codes2 w _ _) 20 rfl (tstm_eq _) (by decide +kernel) (fun _ _ _ _ _ _ _ _ _ => len4 (by intros; kernel_rfl)) ⟨by kernel_rfl, by kernel_rfl⟩
theorem F_match_plain : FnAt 334 ("match_plain" : Str) (sScope (stm 45)) (.ref 333) [("node" : Str), ("subject" : Str), ("is_anchored" : Str), ("host" : Str)] (sBody (stm 45)) :=
  fn_at (G := fun w os => G2 w os (H2 w os)) (k := 0) (obj2 w) (shapes2 w _ _) (codes2 w _ _) 21 rfl (tstm_eq _) (by decide +kernel) (fun _ _ _ _ _ _ _ _ _ => len4 (by intros; kernel_rfl)) ⟨by kernel_rfl, by kernel_rfl⟩
theorem F_match_at : FnAt 341 ("match_at" : Str) (sScope (stm 46)) (.ref 340) [("node" : Str), ("subject" : Str), ("begin" : Str), ("host" : Str)] (sBody (stm 46)) :=
  fn_at (G := fun w os => G2 w os (H2 w os)) (k := 0) (obj2 w) (shapes2 w _ _) (codes2 w _ _) 22 rfl (tstm_eq _) (by decide +kernel) (fun _ _ _ _ _ _ _ _ _ => len4 (by intros; kernel_rfl)) ⟨by kernel_rfl, by kernel_rfl⟩
noncomputable def FL3 : List FnRow := [(348, ("tried" : Str), tstm 47, 347), (355, ("advanced" : Str), tstm 48, 354), (362, ("led_in" : Str), tstm 49, 361), (369, ("led_out" : Str), tstm 50, 368), (376, ("steered" : Str), tstm 51, 375), (383, ("taken" : Str), tstm 52, 382), (392, ("row_of" : Str), tstm 76, 391), (399, ("is_plain_text" : Str), tstm 77, 398), (406, ("with_texts_joined" : Str), tstm 78, 405)]
theorem shapes3 (w : World) (os : OsState) (g : Nat → Obj) : FL3.map (fun x => G3 w os g x.1) = FL3.map (fun x => asFn (G3 w os g x.1) x.2.1 x.2.2.1 x.2.2.2) := by kernel_rfl
theorem codes3 (w : World) (os : OsState) (g : Nat → Obj) : FL3.all (fun x => codeB (G3 w os g x.2.2.2) x.2.1) = true := by kernel_rfl
theorem obj3 (w : World) (a : Nat) (h1 : 13 < a) (h2 : a < 407) : objF w a = G3 w (osOf w) (H3 w (osOf w)) a := (objF_at w a h1).trans (at4 w (osOf w) a h2)
theorem F_tried : FnAt 348 ("tried" : Str) (sScope (stm 47)) (.ref 347) [("node" : Str), ("subject" : Str), ("begin" : Str), ("host" : Str)] (sBody (stm 47)) :=
  fn_at (G := fun w os => G3 w os (H3 w os)) (k := 0) (obj3 w) (shapes3 w _ _) (codes3 w _ _) 0 rfl (tstm_eq _) (by decide +kernel) (fun _ _ _ _ _ _ _ _ _ => len4 (by intros; kernel_rfl)) ⟨by kernel_rfl, by kernel_rfl⟩
theorem F_advanced : FnAt 355 ("advanced" : Str) (sScope (stm 48)) (.ref 354) [("chain" : Str), ("at" : Str), ("named" : Str), ("subject" : Str), ("pile" : Str), ("host" : Str)] (sBody (stm 48)) :=
  fn_at (G := fun w os => G3 w os (H3 w os)) (k := 0) (obj3 w) (shapes3 w _ _) (codes3 w _ _) 1 rfl (tstm_eq _) (by decide +kernel) (fun _ _ _ _ _ _ _ _ _ => len6 (by intros; kernel_rfl)) ⟨by kernel_rfl, by kernel_rfl⟩
theorem F_led_in : FnAt 362 ("led_in" : Str) (sScope (stm 49)) (.ref 361) [("here" : Str), ("rest" : Str), ("at" : Str), ("named" : Str), ("pile" : Str)] (sBody (stm 49)) :=
  fn_at (G := fun w os => G3 w os (H3 w os)) (k := 0) (obj3 w) (shapes3 w _ _) (codes3 w _ _) 2 rfl (tstm_eq _) (by decide +kernel) (fun _ _ _ _ _ _ _ _ _ => len5 (by intros; kernel_rfl)) ⟨by kernel_rfl, by kernel_rfl⟩
theorem F_led_out : FnAt 369 ("led_out" : Str) (sScope (stm 50)) (.ref 368) [("here" : Str), ("rest" : Str), ("at" : Str), ("named" : Str), ("subject" : Str), ("pile" : Str), ("host" : Str)] (sBody (stm 50)) :=
  fn_at (G := fun w os => G3 w os (H3 w os)) (k := 0) (obj3 w) (shapes3 w _ _) (codes3 w _ _) 3 rfl (tstm_eq _) (by decide +kernel) (fun _ _ _ _ _ _ _ _ _ => len7 (by intros; kernel_rfl)) ⟨by kernel_rfl, by kernel_rfl⟩
theorem F_taken : FnAt 383 ("taken" : Str) (sScope (stm 52)) (.ref 382) [("here" : Str), ("rest" : Str), ("at" : Str), ("named" : Str), ("subject" : Str), ("pile" : Str), ("host" : Str)] (sBody (stm 52)) :=
  fn_at (G := fun w os => G3 w os (H3 w os)) (k := 0) (obj3 w) (shapes3 w _ _) (codes3 w _ _) 5 rfl (tstm_eq _) (by decide +kernel) (fun _ _ _ _ _ _ _ _ _ => len7 (by intros; kernel_rfl)) ⟨by kernel_rfl, by kernel_rfl⟩
theorem F_row_of : FnAt 392 ("row_of" : Str) (sScope (stm 76)) (.ref 391) [("node" : Str), ("kind" : Str)] (sBody (stm 76)) :=
  fn_at (G := fun w os => G3 w os (H3 w os)) (k := 0) (obj3 w) (shapes3 w _ _) (codes3 w _ _) 6 rfl (tstm_eq _) (by decide +kernel) (fun _ _ _ _ _ _ _ _ _ => len2 (by intros; kernel_rfl)) ⟨by kernel_rfl, by kernel_rfl⟩
theorem F_is_plain_text : FnAt 399 ("is_plain_text" : Str) (sScope (stm 77)) (.ref 398) [("node" : Str)] (sBody (stm 77)) :=
  fn_at (G := fun w os => G3 w os (H3 w os)) (k := 0) (obj3 w) (shapes3 w _ _) (codes3 w _ _) 7 rfl (tstm_eq _) (by decide +kernel) (fun _ _ _ _ _ _ _ _ _ => len1 (by intros; kernel_rfl)) ⟨by kernel_rfl, by kernel_rfl⟩
theorem F_with_texts_joined : FnAt 406 ("with_texts_joined" : Str) (sScope (stm 78)) (.ref 405) [("parts" : Str)] (sBody (stm 78)) :=
  fn_at (G := fun w os => G3 w os (H3 w os)) (k := 0) (obj3 w) (shapes3 w _ _) (codes3 w _ _) 8 rfl (tstm_eq _) (by decide +kernel) (fun _ _ _ _ _ _ _ _ _ => len1 (by intros; kernel_rfl)) ⟨by kernel_rfl, by kernel_rfl⟩
noncomputable def FL4 : List FnRow := [(420, ("PatternCode.__init__" : Str), tmeth 79 0, 419), (427, ("PatternCode.emit" : Str), tmeth 79 1, 426), (434, ("PatternCode.put" : Str), tmeth 79 2, 433), (439, ("PatternCode.begun" : Str), tmeth 79 3, 438), (446, ("PatternCode.choice" : Str), tmeth 79 4, 445), (453, ("PatternCode.repeat" : Str), tmeth 79 5, 452), (460, ("PatternCode.bound" : Str), tmeth 79 6, 459), (474, ("straightened" : Str), tstm 80, 473), (481, ("compile_pattern" : Str), tstm 81, 480)]
theorem shapes4 (w : World) (os : OsState) (g : Nat → Obj) : FL4.map (fun x => G4 w os g x.1) = FL4.map (fun x => asFn (G4 w os g x.1) x.2.1 x.2.2.1 x.2.2.2) := by kernel_rfl
theorem codes4 (w : World) (os : OsState) (g : Nat → Obj) : FL4.all (fun x => codeB (G4 w os g x.2.2.2) x.2.1) = true := by kernel_rfl
theorem obj4 (w : World) (a : Nat) (h1 : 13 < a) (h2 : a < 482) : objF w a = G4 w (osOf w) (H4 w (osOf w)) a := (objF_at w a h1).trans (at5 w (osOf w) a h2)
theorem F_PatternCode_init : FnAt 420 ("PatternCode.__init__" : Str) (sScope (meth 79 0)) (.ref 419) [("self" : Str)] (sBody (meth 79 0)) :=
  fn_at (G := fun w os => G4 w os (H4 w os)) (k := 0) (obj4 w) (shapes4 w _ _) (codes4 w _ _) 0 rfl (tmeth_eq _ _) (by decide +kernel) (fun _ _ _ _ _ _ _ _ _ => len1 (by intros; kernel_rfl)) ⟨by kernel_rfl, by kernel_rfl⟩
theorem F_PatternCode_emit : FnAt 427 ("PatternCode.emit" : Str) (sScope (meth 79 1)) (.ref 426) [("self" : Str), ("order" : Str)] (sBody (meth 79 1)) :=
  fn_at (G := fun w os => G4 w os (H4 w os)) (k := 0) (obj4 w) (shapes4 w _ _) (codes4 w _ _) 1 rfl (tmeth_eq _ _) (by decide +kernel) (fun _ _ _ _ _ _ _ _ _ => len2 (by intros; kernel_rfl)) ⟨by kernel_rfl, by kernel_rfl⟩
theorem F_PatternCode_put : FnAt 434 ("PatternCode.put" : Str) (sScope (meth 79 2)) (.ref 433) [("self" : Str), ("node" : Str)] (sBody (meth 79 2)) :=
  fn_at (G := fun w os => G4 w os (H4 w os)) (k := 0) (obj4 w) (shapes4 w _ _) (codes4 w _ _) 2 rfl (tmeth_eq _ _) (by decide +kernel) (fun _ _ _ _ _ _ _ _ _ => len2 (by intros; kernel_rfl)) ⟨by kernel_rfl, by kernel_rfl⟩
theorem F_PatternCode_begun : FnAt 439 ("PatternCode.begun" : Str) (sScope (meth 79 3)) (.ref 438) [("self" : Str), ("node" : Str)] (sBody (meth 79 3)) :=
  fn_at (G := fun w os => G4 w os (H4 w os)) (k := 0) (obj4 w) (shapes4 w _ _) (codes4 w _ _) 3 rfl (tmeth_eq _ _) (by decide +kernel) (fun _ _ _ _ _ _ _ _ _ => len2 (by intros; kernel_rfl)) ⟨by kernel_rfl, by kernel_rfl⟩
theorem F_PatternCode_choice : FnAt 446 ("PatternCode.choice" : Str) (sScope (meth 79 4)) (.ref 445) [("self" : Str), ("parts" : Str)] (sBody (meth 79 4)) :=
  fn_at (G := fun w os => G4 w os (H4 w os)) (k := 0) (obj4 w) (shapes4 w _ _) (codes4 w _ _) 4 rfl (tmeth_eq _ _) (by decide +kernel) (fun _ _ _ _ _ _ _ _ _ => len2 (by intros; kernel_rfl)) ⟨by kernel_rfl, by kernel_rfl⟩
theorem F_PatternCode_repeat : FnAt 453 ("PatternCode.repeat" : Str) (sScope (meth 79 5)) (.ref 452) [("self" : Str), ("node" : Str)] (sBody (meth 79 5)) :=
  fn_at (G := fun w os => G4 w os (H4 w os)) (k := 0) (obj4 w) (shapes4 w _ _) (codes4 w _ _) 5 rfl (tmeth_eq _ _) (by decide +kernel) (fun _ _ _ _ _ _ _ _ _ => len2 (by intros; kernel_rfl)) ⟨by kernel_rfl, by kernel_rfl⟩
theorem F_PatternCode_bound : FnAt 460 ("PatternCode.bound" : Str) (sScope (meth 79 6)) (.ref 459) [("self" : Str), ("word" : Str), ("ends" : Str)] (sBody (meth 79 6)) :=
  fn_at (G := fun w os => G4 w os (H4 w os)) (k := 0) (obj4 w) (shapes4 w _ _) (codes4 w _ _) 6 rfl (tmeth_eq _ _) (by decide +kernel) (fun _ _ _ _ _ _ _ _ _ => len3 (by intros; kernel_rfl)) ⟨by kernel_rfl, by kernel_rfl⟩
theorem F_straightened : FnAt 474 ("straightened" : Str) (sScope (stm 80)) (.ref 473) [("orders" : Str)] (sBody (stm 80)) :=
  fn_at (G := fun w os => G4 w os (H4 w os)) (k := 0) (obj4 w) (shapes4 w _ _) (codes4 w _ _) 7 rfl (tstm_eq _) (by decide +kernel) (fun _ _ _ _ _ _ _ _ _ => len1 (by intros; kernel_rfl)) ⟨by kernel_rfl, by kernel_rfl⟩
theorem F_compile_pattern : FnAt 481 ("compile_pattern" : Str) (sScope (stm 81)) (.ref 480) [("node" : Str)] (sBody (stm 81)) :=
  fn_at (G := fun w os => G4 w os (H4 w os)) (k := 0) (obj4 w) (shapes4 w _ _) (codes4 w _ _) 8 rfl (tstm_eq _) (by decide +kernel) (fun _ _ _ _ _ _ _ _ _ => len1 (by intros; kernel_rfl)) ⟨by kernel_rfl, by kernel_rfl⟩
noncomputable def FL5 : List FnRow := [(495, ("PlainHost.__init__" : Str), tmeth 83 0, 494), (502, ("PlainHost.value_of" : Str), tmeth 83 1, 501), (509, ("PlainHost.assign" : Str), tmeth 83 2, 508), (516, ("PlainHost.step" : Str), tmeth 83 3, 515), (537, ("Way.__init__" : Str), tmeth 88 0, 536), (544, ("Way.copied" : Str), tmeth 88 1, 543)]
theorem shapes5 (w : World) (os : OsState) (g : Nat → Obj) : FL5.map (fun x => G5 w os g x.1) = FL5.map (fun x => asFn (G5 w os g x.1) x.2.1 x.2.2.1 x.2.2.2) := by kernel_rfl
theorem codes5 (w : World) (os : OsState) (g : Nat → Obj) : FL5.all (fun x => codeB (G5 w os g x.2.2.2) x.2.1) = true := by kernel_rfl
theorem obj5 (w : World) (a : Nat) (h1 : 13 < a) (h2 : a < 552) : objF w a = G5 w (osOf w) (H5 w (osOf w)) a := (objF_at w a h1).trans (at6 w (osOf w) a h2)
theorem F_PlainHost_init : FnAt 495 ("PlainHost.__init__" : Str) (sScope (meth 83 0)) (.ref 494) [("self" : Str), ("values" : Str), ("limit" : Str), ("refused" : Str)] (sBody (meth 83 0)) :=
  fn_at (G := fun w os => G5 w os (H5 w os)) (k := 0) (obj5 w) (shapes5 w _ _) (codes5 w _ _) 0 rfl (tmeth_eq _ _) (by decide +kernel) (fun _ _ _ _ _ _ _ _ _ => len4 (by intros; kernel_rfl)) ⟨by kernel_rfl, by kernel_rfl⟩
theorem F_PlainHost_value_of : FnAt 502 ("PlainHost.value_of" : Str) (sScope (meth 83 1)) (.ref 501) [("self" : Str), ("tree" : Str)] (sBody (meth 83 1)) :=
  fn_at (G := fun w os => G5 w os (H5 w os)) (k := 0) (obj5 w) (shapes5 w _ _) (codes5 w _ _) 1 rfl (tmeth_eq _ _) (by decide +kernel) (fun _ _ _ _ _ _ _ _ _ => len2 (by intros; kernel_rfl)) ⟨by kernel_rfl, by kernel_rfl⟩
theorem F_PlainHost_assign : FnAt 509 ("PlainHost.assign" : Str) (sScope (meth 83 2)) (.ref 508) [("self" : Str), ("ref" : Str), ("value" : Str)] (sBody (meth 83 2)) :=
  fn_at (G := fun w os => G5 w os (H5 w os)) (k := 0) (obj5 w) (shapes5 w _ _) (codes5 w _ _) 2 rfl (tmeth_eq _ _) (by decide +kernel) (fun _ _ _ _ _ _ _ _ _ => len3 (by intros; kernel_rfl)) ⟨by kernel_rfl, by kernel_rfl⟩
theorem F_PlainHost_step : FnAt 516 ("PlainHost.step" : Str) (sScope (meth 83 3)) (.ref 515) [("self" : Str)] (sBody (meth 83 3)) :=
  fn_at (G := fun w os => G5 w os (H5 w os)) (k := 0) (obj5 w) (shapes5 w _ _) (codes5 w _ _) 3 rfl (tmeth_eq _ _) (by decide +kernel) (fun _ _ _ _ _ _ _ _ _ => len1 (by intros; kernel_rfl)) ⟨by kernel_rfl, by kernel_rfl⟩
theorem F_Way_init : FnAt 537 ("Way.__init__" : Str) (sScope (meth 88 0)) (.ref 536) [("self" : Str), ("orders" : Str), ("pc" : Str), ("at" : Str), ("named" : Str), ("marks" : Str), ("calls" : Str)] (sBody (meth 88 0)) :=
  fn_at (G := fun w os => G5 w os (H5 w os)) (k := 0) (obj5 w) (shapes5 w _ _) (codes5 w _ _) 4 rfl (tmeth_eq _ _) (by decide +kernel) (fun _ _ _ _ _ _ _ _ _ => len7 (by intros; kernel_rfl)) ⟨by kernel_rfl, by kernel_rfl⟩
theorem F_Way_copied : FnAt 544 ("Way.copied" : Str) (sScope (meth 88 1)) (.ref 543) [("self" : Str), ("pc" : Str)] (sBody (meth 88 1)) :=
  fn_at (G := fun w os => G5 w os (H5 w os)) (k := 0) (obj5 w) (shapes5 w _ _) (codes5 w _ _) 5 rfl (tmeth_eq _ _) (by decide +kernel) (fun _ _ _ _ _ _ _ _ _ => len2 (by intros; kernel_rfl)) ⟨by kernel_rfl, by kernel_rfl⟩
noncomputable def FL6 : List FnRow := [(565, ("Match.__init__" : Str), tmeth 89 0, 564), (572, ("Match.run" : Str), tmeth 89 1, 571), (579, ("Match.way_back" : Str), tmeth 89 2, 578), (586, ("Match.done" : Str), tmeth 89 3, 585), (593, ("Match.met_once" : Str), tmeth 89 4, 592), (600, ("Match.ended" : Str), tmeth 89 5, 599), (607, ("Match.other" : Str), tmeth 89 6, 606), (614, ("Match.met_often" : Str), tmeth 89 7, 613), (621, ("Match.asked" : Str), tmeth 89 8, 620), (635, ("named_rows" : Str), tstm 90, 634), (642, ("match_orders" : Str), tstm 91, 641), (649, ("_law_next" : Str), tstm 93, 648), (656, ("_law_leaf" : Str), tstm 94, 655), (663, ("_law_node" : Str), tstm 95, 662), (670, ("_law_has_rounds" : Str), tstm 96, 669), (675, ("_law_told" : Str), tstm 97, 674), (682, ("_law_host" : Str), tstm 98, 681), (689, ("_law_from" : Str), tstm 99, 688)]
theorem shapes6 (w : World) (os : OsState) (g : Nat → Obj) : FL6.map (fun x => G6 w os g x.1) = FL6.map (fun x => asFn (G6 w os g x.1) x.2.1 x.2.2.1 x.2.2.2) := by kernel_rfl
theorem codes6 (w : World) (os : OsState) (g : Nat → Obj) : FL6.all (fun x => codeB (G6 w os g x.2.2.2) x.2.1) = true := by kernel_rfl
theorem obj6 (w : World) (a : Nat) (h1 : 13 < a) (h2 : a < 690) : objF w a = G6 w (osOf w) (H6 w (osOf w)) a := (objF_at w a h1).trans (at7 w (osOf w) a h2)
theorem F_Match_init : FnAt 565 ("Match.__init__" : Str) (sScope (meth 89 0)) (.ref 564) [("self" : Str), ("subject" : Str), ("host" : Str)] (sBody (meth 89 0)) :=
  fn_at (G := fun w os => G6 w os (H6 w os)) (k := 0) (obj6 w) (shapes6 w _ _) (codes6 w _ _) 0 rfl (tmeth_eq _ _) (by decide +kernel) (fun _ _ _ _ _ _ _ _ _ => len3 (by intros; kernel_rfl)) ⟨by kernel_rfl, by kernel_rfl⟩
theorem F_Match_run : FnAt 572 ("Match.run" : Str) (sScope (meth 89 1)) (.ref 571) [("self" : Str), ("orders" : Str), ("begin" : Str)] (sBody (meth 89 1)) :=
  fn_at (G := fun w os => G6 w os (H6 w os)) (k := 0) (obj6 w) (shapes6 w _ _) (codes6 w _ _) 1 rfl (tmeth_eq _ _) (by decide +kernel) (fun _ _ _ _ _ _ _ _ _ => len3 (by intros; kernel_rfl)) ⟨by kernel_rfl, by kernel_rfl⟩
theorem F_Match_way_back : FnAt 579 ("Match.way_back" : Str) (sScope (meth 89 2)) (.ref 578) [("self" : Str)] (sBody (meth 89 2)) :=
  fn_at (G := fun w os => G6 w os (H6 w os)) (k := 0) (obj6 w) (shapes6 w _ _) (codes6 w _ _) 2 rfl (tmeth_eq _ _) (by decide +kernel) (fun _ _ _ _ _ _ _ _ _ => len1 (by intros; kernel_rfl)) ⟨by kernel_rfl, by kernel_rfl⟩
theorem F_Match_done : FnAt 586 ("Match.done" : Str) (sScope (meth 89 3)) (.ref 585) [("self" : Str), ("order" : Str), ("way" : Str)] (sBody (meth 89 3)) :=
  fn_at (G := fun w os => G6 w os (H6 w os)) (k := 0) (obj6 w) (shapes6 w _ _) (codes6 w _ _) 3 rfl (tmeth_eq _ _) (by decide +kernel) (fun _ _ _ _ _ _ _ _ _ => len3 (by intros; kernel_rfl)) ⟨by kernel_rfl, by kernel_rfl⟩
theorem F_Match_met_once : FnAt 593 ("Match.met_once" : Str) (sScope (meth 89 4)) (.ref 592) [("self" : Str), ("order" : Str), ("way" : Str)] (sBody (meth 89 4)) :=
  fn_at (G := fun w os => G6 w os (H6 w os)) (k := 0) (obj6 w) (shapes6 w _ _) (codes6 w _ _) 4 rfl (tmeth_eq _ _) (by decide +kernel) (fun _ _ _ _ _ _ _ _ _ => len3 (by intros; kernel_rfl)) ⟨by kernel_rfl, by kernel_rfl⟩
theorem F_Match_ended : FnAt 600 ("Match.ended" : Str) (sScope (meth 89 5)) (.ref 599) [("self" : Str), ("order" : Str), ("way" : Str)] (sBody (meth 89 5)) :=
  fn_at (G := fun w os => G6 w os (H6 w os)) (k := 0) (obj6 w) (shapes6 w _ _) (codes6 w _ _) 5 rfl (tmeth_eq _ _) (by decide +kernel) (fun _ _ _ _ _ _ _ _ _ => len3 (by intros; kernel_rfl)) ⟨by kernel_rfl, by kernel_rfl⟩
theorem F_Match_other : FnAt 607 ("Match.other" : Str) (sScope (meth 89 6)) (.ref 606) [("self" : Str), ("order" : Str), ("way" : Str)] (sBody (meth 89 6)) :=
  fn_at (G := fun w os => G6 w os (H6 w os)) (k := 0) (obj6 w) (shapes6 w _ _) (codes6 w _ _) 6 rfl (tmeth_eq _ _) (by decide +kernel) (fun _ _ _ _ _ _ _ _ _ => len3 (by intros; kernel_rfl)) ⟨by kernel_rfl, by kernel_rfl⟩
theorem F_Match_met_often : FnAt 614 ("Match.met_often" : Str) (sScope (meth 89 7)) (.ref 613) [("self" : Str), ("way" : Str), ("ends" : Str)] (sBody (meth 89 7)) :=
  fn_at (G := fun w os => G6 w os (H6 w os)) (k := 0) (obj6 w) (shapes6 w _ _) (codes6 w _ _) 7 rfl (tmeth_eq _ _) (by decide +kernel) (fun _ _ _ _ _ _ _ _ _ => len3 (by intros; kernel_rfl)) ⟨by kernel_rfl, by kernel_rfl⟩
theorem F_Match_asked : FnAt 621 ("Match.asked" : Str) (sScope (meth 89 8)) (.ref 620) [("self" : Str), ("tree" : Str), ("way" : Str)] (sBody (meth 89 8)) :=
  fn_at (G := fun w os => G6 w os (H6 w os)) (k := 0) (obj6 w) (shapes6 w _ _) (codes6 w _ _) 8 rfl (tmeth_eq _ _) (by decide +kernel) (fun _ _ _ _ _ _ _ _ _ => len3 (by intros; kernel_rfl)) ⟨by kernel_rfl, by kernel_rfl⟩
theorem F_named_rows : FnAt 635 ("named_rows" : Str) (sScope (stm 90)) (.ref 634) [("named" : Str)] (sBody (stm 90)) :=
  fn_at (G := fun w os => G6 w os (H6 w os)) (k := 0) (obj6 w) (shapes6 w _ _) (codes6 w _ _) 9 rfl (tstm_eq _) (by decide +kernel) (fun _ _ _ _ _ _ _ _ _ => len1 (by intros; kernel_rfl)) ⟨by kernel_rfl, by kernel_rfl⟩
theorem F_match_orders : FnAt 642 ("match_orders" : Str) (sScope (stm 91)) (.ref 641) [("orders" : Str), ("subject" : Str), ("is_anchored" : Str), ("host" : Str)] (sBody (stm 91)) :=
  fn_at (G := fun w os => G6 w os (H6 w os)) (k := 0) (obj6 w) (shapes6 w _ _) (codes6 w _ _) 10 rfl (tstm_eq _) (by decide +kernel) (fun _ _ _ _ _ _ _ _ _ => len4 (by intros; kernel_rfl)) ⟨by kernel_rfl, by kernel_rfl⟩
set_option tactic.hygienic true
theorem F_law_next : FnAt 649 ("_law_next" : Str) (sScope (stm 93)) (.ref 648) [("feed" : Str), ("many" : Str)] (sBody (stm 93)) :=
  fn_at (G := fun w os => G6 w os (H6 w os)) (k := 0) (obj6 w) (shapes6 w _ _) (codes6 w _ _) 11 rfl (tstm_eq _) (by decide +kernel) (fun _ _ _ _ _ _ _ _ _ => len2 (by intros; kernel_rfl)) ⟨by kernel_rfl, by kernel_rfl⟩
set_option tactic.hygienic false
theorem F_law_leaf : FnAt 656 ("_law_leaf" : Str) (sScope (stm 94)) (.ref 655) [("feed" : Str), ("tells_places" : Str)] (sBody (stm 94)) :=
  fn_at (G := fun w os => G6 w os (H6 w os)) (k := 0) (obj6 w) (shapes6 w _ _) (codes6 w _ _) 12 rfl (tstm_eq _) (by decide +kernel) (fun _ _ _ _ _ _ _ _ _ => len2 (by intros; kernel_rfl)) ⟨by kernel_rfl, by kernel_rfl⟩
theorem F_law_node : FnAt 663 ("_law_node" : Str) (sScope (stm 95)) (.ref 662) [("feed" : Str), ("deep" : Str), ("tells_places" : Str)] (sBody (stm 95)) :=
  fn_at (G := fun w os => G6 w os (H6 w os)) (k := 0) (obj6 w) (shapes6 w _ _) (codes6 w _ _) 13 rfl (tstm_eq _) (by decide +kernel) (fun _ _ _ _ _ _ _ _ _ => len3 (by intros; kernel_rfl)) ⟨by kernel_rfl, by kernel_rfl⟩
theorem F_law_has_rounds : FnAt 670 ("_law_has_rounds" : Str) (sScope (stm 96)) (.ref 669) [("node" : Str)] (sBody (stm 96)) :=
  fn_at (G := fun w os => G6 w os (H6 w os)) (k := 0) (obj6 w) (shapes6 w _ _) (codes6 w _ _) 14 rfl (tstm_eq _) (by decide +kernel) (fun _ _ _ _ _ _ _ _ _ => len1 (by intros; kernel_rfl)) ⟨by kernel_rfl, by kernel_rfl⟩
theorem F_law_told : FnAt 675 ("_law_told" : Str) (sScope (stm 97)) (.ref 674) [("found" : Str), ("log" : Str), ("steps" : Str), ("less" : Str)] (sBody (stm 97)) :=
  fn_at (G := fun w os => G6 w os (H6 w os)) (k := 0) (obj6 w) (shapes6 w _ _) (codes6 w _ _) 15 rfl (tstm_eq _) (by decide +kernel) (fun _ _ _ _ _ _ _ _ _ => len4 (by intros; kernel_rfl)) ⟨by kernel_rfl, by kernel_rfl⟩
theorem F_law_host : FnAt 682 ("_law_host" : Str) (sScope (stm 98)) (.ref 681) [] (sBody (stm 98)) :=
  fn_at (G := fun w os => G6 w os (H6 w os)) (k := 0) (obj6 w) (shapes6 w _ _) (codes6 w _ _) 16 rfl (tstm_eq _) (by decide +kernel) (fun _ _ _ _ _ _ _ _ _ => len0 (by intros; kernel_rfl)) ⟨by kernel_rfl, by kernel_rfl⟩
theorem F_law_from : FnAt 689 ("_law_from" : Str) (sScope (stm 99)) (.ref 688) [("node" : Str), ("subject" : Str), ("begin" : Str), ("is_trial" : Str), ("less" : Str)] (sBody (stm 99)) :=
  fn_at (G := fun w os => G6 w os (H6 w os)) (k := 0) (obj6 w) (shapes6 w _ _) (codes6 w _ _) 17 rfl (tstm_eq _) (by decide +kernel) (fun _ _ _ _ _ _ _ _ _ => len5 (by intros; kernel_rfl)) ⟨by kernel_rfl, by kernel_rfl⟩
noncomputable def FL7 : List FnRow := [(696, ("_law_is_first" : Str), tstm 100, 695)]
theorem shapes7 (w : World) (os : OsState) (g : Nat → Obj) : FL7.map (fun x => G7 w os g x.1) = FL7.map (fun x => asFn (G7 w os g x.1) x.2.1 x.2.2.1 x.2.2.2) := by kernel_rfl
theorem codes7 (w : World) (os : OsState) (g : Nat → Obj) : FL7.all (fun x => codeB (G7 w os g x.2.2.2) x.2.1) = true := by kernel_rfl
theorem obj7 (w : World) (a : Nat) (h1 : 13 < a) (h2 : a < 702) : objF w a = G7 w (osOf w) (H7 w (osOf w)) a := (objF_at w a h1).trans (at8 w (osOf w) a h2)
theorem F_law_is_first : FnAt 696 ("_law_is_first" : Str) (sScope (stm 100)) (.ref 695) [("node" : Str), ("subject" : Str), ("is_trial" : Str)] (sBody (stm 100)) :=
  fn_at (G := fun w os => G7 w os (H7 w os)) (k := 0) (obj7 w) (shapes7 w _ _) (codes7 w _ _) 0 rfl (tstm_eq _) (by decide +kernel) (fun _ _ _ _ _ _ _ _ _ => len3 (by intros; kernel_rfl)) ⟨by kernel_rfl, by kernel_rfl⟩
end
end
section
open PySem PySem.W PyProof.Rows PySem.Calls
noncomputable section
theorem cls_Failure (w : World) : ((plainGet (KO w) 47 "x" && hasDictIn (KO w) 47 && plainOver (KO w) 47 && makesIn (KO w) 47 && keepIn (KO w) (.ref 47) && notIn (KO w) (.type "str") 47), ([("__setattr__" : Str), ("__init__" : Str)] : List Str).map (fun x => findIn (KO w) (.ref 47) x), ([] : List Nat).all (fun a => isFn (KO w) (.ref a) && keepIn (KO w) (.ref a))) = (true, [some (some (.builtin "object.__setattr__")), some (some (.builtin "object.__init__"))], true) := by kernel_rfl
theorem L_Failure_setattr : findIn c.K (.ref 47) ("__setattr__" : Str) = some (some (.builtin "object.__setattr__")) := by rw [hK]; exact Option.some.inj (congrArg (fun l => l[0]?) (congrArg (fun x => x.2.1) (cls_Failure w)))
theorem C_Failure : ClsOk 47 ∧ makesIn c.K 47 = true ∧ Keeps (.ref 47) ∧ notIn c.K (.type "str") 47 = true := by
  have h := congrArg Prod.fst (cls_Failure w)
  dsimp only at h
  rw [← hK] at h
  simp only [Bool.and_eq_true] at h
  obtain ⟨⟨⟨⟨⟨h1, h2⟩, h3⟩, h4⟩, h5⟩, h6⟩ := h
  exact ⟨⟨h1, h2, L_Failure_setattr, h3⟩, h4, keeps_ref h5, h6⟩
theorem cls_Pattern (w : World) : ((plainGet (KO w) 68 "x" && hasDictIn (KO w) 68 && plainOver (KO w) 68 && makesIn (KO w) 68 && keepIn (KO w) (.ref 68) && notIn (KO w) (.type "str") 68), ([("__setattr__" : Str), ("__init__" : Str), ("node" : Str)] : List Str).map (fun x => findIn (KO w) (.ref 68) x), ([65] : List Nat).all (fun a => isFn (KO w) (.ref a) && keepIn (KO w) (.ref a))) = (true, [some (some (.builtin "object.__setattr__")), some (some (.ref 65)), some none], true) := by kernel_rfl
theorem L_Pattern_setattr : findIn c.K (.ref 68) ("__setattr__" : Str) = some (some (.builtin "object.__setattr__")) := by rw [hK]; exact Option.some.inj (congrArg (fun l => l[0]?) (congrArg (fun x => x.2.1) (cls_Pattern w)))
theorem C_Pattern : ClsOk 68 ∧ makesIn c.K 68 = true ∧ Keeps (.ref 68) ∧ notIn c.K (.type "str") 68 = true := by
  have h := congrArg Prod.fst (cls_Pattern w)
  dsimp only at h
  rw [← hK] at h
  simp only [Bool.and_eq_true] at h
  obtain ⟨⟨⟨⟨⟨h1, h2⟩, h3⟩, h4⟩, h5⟩, h6⟩ := h
  exact ⟨⟨h1, h2, L_Pattern_setattr, h3⟩, h4, keeps_ref h5, h6⟩
theorem cls_Delayed (w : World) : ((plainGet (KO w) 89 "x" && hasDictIn (KO w) 89 && plainOver (KO w) 89 && makesIn (KO w) 89 && keepIn (KO w) (.ref 89) && notIn (KO w) (.type "str") 89), ([("__setattr__" : Str), ("__init__" : Str), ("tree" : Str)] : List Str).map (fun x => findIn (KO w) (.ref 89) x), ([86] : List Nat).all (fun a => isFn (KO w) (.ref a) && keepIn (KO w) (.ref a))) = (true, [some (some (.builtin "object.__setattr__")), some (some (.ref 86)), some none], true) := by kernel_rfl
theorem L_Delayed_setattr : findIn c.K (.ref 89) ("__setattr__" : Str) = some (some (.builtin "object.__setattr__")) := by rw [hK]; exact Option.some.inj (congrArg (fun l => l[0]?) (congrArg (fun x => x.2.1) (cls_Delayed w)))
theorem C_Delayed : ClsOk 89 ∧ makesIn c.K 89 = true ∧ Keeps (.ref 89) ∧ notIn c.K (.type "str") 89 = true := by
  have h := congrArg Prod.fst (cls_Delayed w)
  dsimp only at h
  rw [← hK] at h
  simp only [Bool.and_eq_true] at h
  obtain ⟨⟨⟨⟨⟨h1, h2⟩, h3⟩, h4⟩, h5⟩, h6⟩ := h
  exact ⟨⟨h1, h2, L_Delayed_setattr, h3⟩, h4, keeps_ref h5, h6⟩
theorem cls_NameRef (w : World) : ((plainGet (KO w) 110 "x" && hasDictIn (KO w) 110 && plainOver (KO w) 110 && makesIn (KO w) 110 && keepIn (KO w) (.ref 110) && notIn (KO w) (.type "str") 110), ([("__setattr__" : Str), ("__init__" : Str), ("kind" : Str), ("owner" : Str), ("key" : Str)] : List Str).map (fun x => findIn (KO w) (.ref 110) x), ([107] : List Nat).all (fun a => isFn (KO w) (.ref a) && keepIn (KO w) (.ref a))) = (true, [some (some (.builtin "object.__setattr__")), some (some (.ref 107)), some none, some none, some none], true) := by kernel_rfl
theorem L_NameRef_setattr : findIn c.K (.ref 110) ("__setattr__" : Str) = some (some (.builtin "object.__setattr__")) := by rw [hK]; exact Option.some.inj (congrArg (fun l => l[0]?) (congrArg (fun x => x.2.1) (cls_NameRef w)))
theorem L_NameRef_init : findIn c.K (.ref 110) ("__init__" : Str) = some (some (.ref 107)) := by rw [hK]; exact Option.some.inj (congrArg (fun l => l[1]?) (congrArg (fun x => x.2.1) (cls_NameRef w)))
theorem L_NameRef_kind : findIn c.K (.ref 110) ("kind" : Str) = some none := by rw [hK]; exact Option.some.inj (congrArg (fun l => l[2]?) (congrArg (fun x => x.2.1) (cls_NameRef w)))
theorem L_NameRef_owner : findIn c.K (.ref 110) ("owner" : Str) = some none := by rw [hK]; exact Option.some.inj (congrArg (fun l => l[3]?) (congrArg (fun x => x.2.1) (cls_NameRef w)))
theorem L_NameRef_key : findIn c.K (.ref 110) ("key" : Str) = some none := by rw [hK]; exact Option.some.inj (congrArg (fun l => l[4]?) (congrArg (fun x => x.2.1) (cls_NameRef w)))
theorem C_NameRef : ClsOk 110 ∧ makesIn c.K 110 = true ∧ Keeps (.ref 110) ∧ notIn c.K (.type "str") 110 = true := by
  have h := congrArg Prod.fst (cls_NameRef w)
  dsimp only at h
  rw [← hK] at h
  simp only [Bool.and_eq_true] at h
  obtain ⟨⟨⟨⟨⟨h1, h2⟩, h3⟩, h4⟩, h5⟩, h6⟩ := h
  exact ⟨⟨h1, h2, L_NameRef_setattr, h3⟩, h4, keeps_ref h5, h6⟩
theorem M_NameRef_init : isFn c.K (.ref 107) = true ∧ Keeps (.ref 107) := by
  have h := List.all_eq_true.mp (congrArg (fun x => x.2.2) (cls_NameRef w)) 107 (by decide)
  rw [← hK, Bool.and_eq_true] at h
  exact ⟨h.1, keeps_ref h.2⟩
theorem cls_PatternCode (w : World) : ((plainGet (KO w) 463 "x" && hasDictIn (KO w) 463 && plainOver (KO w) 463 && makesIn (KO w) 463 && keepIn (KO w) (.ref 463) && notIn (KO w) (.type "str") 463), ([("__setattr__" : Str), ("__init__" : Str), ("orders" : Str), ("emit" : Str), ("put" : Str), ("begun" : Str), ("choice" : Str), ("repeat" : Str), ("bound" : Str)] : List Str).map (fun x => findIn (KO w) (.ref 463) x), ([420, 427, 434, 439, 446, 453, 460] : List Nat).all (fun a => isFn (KO w) (.ref a) && keepIn (KO w) (.ref a))) = (true, [some (some (.builtin "object.__setattr__")), some (some (.ref 420)), some none, some (some (.ref 427)), some (some (.ref 434)), some (some (.ref 439)), some (some (.ref 446)), some (some (.ref 453)), some (some (.ref 460))], true) := by kernel_rfl
theorem L_PatternCode_setattr : findIn c.K (.ref 463) ("__setattr__" : Str) = some (some (.builtin "object.__setattr__")) := by rw [hK]; exact Option.some.inj (congrArg (fun l => l[0]?) (congrArg (fun x => x.2.1) (cls_PatternCode w)))
theorem L_PatternCode_init : findIn c.K (.ref 463) ("__init__" : Str) = some (some (.ref 420)) := by rw [hK]; exact Option.some.inj (congrArg (fun l => l[1]?) (congrArg (fun x => x.2.1) (cls_PatternCode w)))
theorem L_PatternCode_orders : findIn c.K (.ref 463) ("orders" : Str) = some none := by rw [hK]; exact Option.some.inj (congrArg (fun l => l[2]?) (congrArg (fun x => x.2.1) (cls_PatternCode w)))
theorem L_PatternCode_emit : findIn c.K (.ref 463) ("emit" : Str) = some (some (.ref 427)) := by rw [hK]; exact Option.some.inj (congrArg (fun l => l[3]?) (congrArg (fun x => x.2.1) (cls_PatternCode w)))
theorem L_PatternCode_put : findIn c.K (.ref 463) ("put" : Str) = some (some (.ref 434)) := by rw [hK]; exact Option.some.inj (congrArg (fun l => l[4]?) (congrArg (fun x => x.2.1) (cls_PatternCode w)))
theorem L_PatternCode_begun : findIn c.K (.ref 463) ("begun" : Str) = some (some (.ref 439)) := by rw [hK]; exact Option.some.inj (congrArg (fun l => l[5]?) (congrArg (fun x => x.2.1) (cls_PatternCode w)))
theorem L_PatternCode_choice : findIn c.K (.ref 463) ("choice" : Str) = some (some (.ref 446)) := by rw [hK]; exact Option.some.inj (congrArg (fun l => l[6]?) (congrArg (fun x => x.2.1) (cls_PatternCode w)))
theorem L_PatternCode_repeat : findIn c.K (.ref 463) ("repeat" : Str) = some (some (.ref 453)) := by rw [hK]; exact Option.some.inj (congrArg (fun l => l[7]?) (congrArg (fun x => x.2.1) (cls_PatternCode w)))
theorem L_PatternCode_bound : findIn c.K (.ref 463) ("bound" : Str) = some (some (.ref 460)) := by rw [hK]; exact Option.some.inj (congrArg (fun l => l[8]?) (congrArg (fun x => x.2.1) (cls_PatternCode w)))
theorem C_PatternCode : ClsOk 463 ∧ makesIn c.K 463 = true ∧ Keeps (.ref 463) ∧ notIn c.K (.type "str") 463 = true := by
  have h := congrArg Prod.fst (cls_PatternCode w)
  dsimp only at h
  rw [← hK] at h
  simp only [Bool.and_eq_true] at h
  obtain ⟨⟨⟨⟨⟨h1, h2⟩, h3⟩, h4⟩, h5⟩, h6⟩ := h
  exact ⟨⟨h1, h2, L_PatternCode_setattr, h3⟩, h4, keeps_ref h5, h6⟩
theorem M_PatternCode_init : isFn c.K (.ref 420) = true ∧ Keeps (.ref 420) := by
  have h := List.all_eq_true.mp (congrArg (fun x => x.2.2) (cls_PatternCode w)) 420 (by decide)
  rw [← hK, Bool.and_eq_true] at h
  exact ⟨h.1, keeps_ref h.2⟩
theorem M_PatternCode_emit : isFn c.K (.ref 427) = true ∧ Keeps (.ref 427) := by
  have h := List.all_eq_true.mp (congrArg (fun x => x.2.2) (cls_PatternCode w)) 427 (by decide)
  rw [← hK, Bool.and_eq_true] at h
  exact ⟨h.1, keeps_ref h.2⟩
theorem M_PatternCode_put : isFn c.K (.ref 434) = true ∧ Keeps (.ref 434) := by
  have h := List.all_eq_true.mp (congrArg (fun x => x.2.2) (cls_PatternCode w)) 434 (by decide)
  rw [← hK, Bool.and_eq_true] at h
  exact ⟨h.1, keeps_ref h.2⟩
theorem M_PatternCode_begun : isFn c.K (.ref 439) = true ∧ Keeps (.ref 439) := by
  have h := List.all_eq_true.mp (congrArg (fun x => x.2.2) (cls_PatternCode w)) 439 (by decide)
  rw [← hK, Bool.and_eq_true] at h
  exact ⟨h.1, keeps_ref h.2⟩
theorem M_PatternCode_choice : isFn c.K (.ref 446) = true ∧ Keeps (.ref 446) := by
  have h := List.all_eq_true.mp (congrArg (fun x => x.2.2) (cls_PatternCode w)) 446 (by decide)
  rw [← hK, Bool.and_eq_true] at h
  exact ⟨h.1, keeps_ref h.2⟩
theorem M_PatternCode_repeat : isFn c.K (.ref 453) = true ∧ Keeps (.ref 453) := by
  have h := List.all_eq_true.mp (congrArg (fun x => x.2.2) (cls_PatternCode w)) 453 (by decide)
  rw [← hK, Bool.and_eq_true] at h
  exact ⟨h.1, keeps_ref h.2⟩
theorem M_PatternCode_bound : isFn c.K (.ref 460) = true ∧ Keeps (.ref 460) := by
  have h := List.all_eq_true.mp (congrArg (fun x => x.2.2) (cls_PatternCode w)) 460 (by decide)
  rw [← hK, Bool.and_eq_true] at h
  exact ⟨h.1, keeps_ref h.2⟩
theorem cls_PlainHost (w : World) : ((plainGet (KO w) 519 "x" && hasDictIn (KO w) 519 && plainOver (KO w) 519 && makesIn (KO w) 519 && keepIn (KO w) (.ref 519) && notIn (KO w) (.type "str") 519), ([("__setattr__" : Str), ("__init__" : Str), ("values" : Str), ("limit" : Str), ("refused" : Str), ("width" : Str), ("steps" : Str), ("log" : Str), ("value_of" : Str), ("assign" : Str), ("step" : Str)] : List Str).map (fun x => findIn (KO w) (.ref 519) x), ([495, 502, 509, 516] : List Nat).all (fun a => isFn (KO w) (.ref a) && keepIn (KO w) (.ref a))) = (true, [some (some (.builtin "object.__setattr__")), some (some (.ref 495)), some none, some none, some none, some none, some none, some none, some (some (.ref 502)), some (some (.ref 509)), some (some (.ref 516))], true) := by kernel_rfl
theorem L_PlainHost_setattr : findIn c.K (.ref 519) ("__setattr__" : Str) = some (some (.builtin "object.__setattr__")) := by rw [hK]; exact Option.some.inj (congrArg (fun l => l[0]?) (congrArg (fun x => x.2.1) (cls_PlainHost w)))
theorem L_PlainHost_init : findIn c.K (.ref 519) ("__init__" : Str) = some (some (.ref 495)) := by rw [hK]; exact Option.some.inj (congrArg (fun l => l[1]?) (congrArg (fun x => x.2.1) (cls_PlainHost w)))
theorem L_PlainHost_values : findIn c.K (.ref 519) ("values" : Str) = some none := by rw [hK]; exact Option.some.inj (congrArg (fun l => l[2]?) (congrArg (fun x => x.2.1) (cls_PlainHost w)))
theorem L_PlainHost_limit : findIn c.K (.ref 519) ("limit" : Str) = some none := by rw [hK]; exact Option.some.inj (congrArg (fun l => l[3]?) (congrArg (fun x => x.2.1) (cls_PlainHost w)))
theorem L_PlainHost_refused : findIn c.K (.ref 519) ("refused" : Str) = some none := by rw [hK]; exact Option.some.inj (congrArg (fun l => l[4]?) (congrArg (fun x => x.2.1) (cls_PlainHost w)))
theorem L_PlainHost_width : findIn c.K (.ref 519) ("width" : Str) = some none := by rw [hK]; exact Option.some.inj (congrArg (fun l => l[5]?) (congrArg (fun x => x.2.1) (cls_PlainHost w)))
theorem L_PlainHost_steps : findIn c.K (.ref 519) ("steps" : Str) = some none := by rw [hK]; exact Option.some.inj (congrArg (fun l => l[6]?) (congrArg (fun x => x.2.1) (cls_PlainHost w)))
theorem L_PlainHost_log : findIn c.K (.ref 519) ("log" : Str) = some none := by rw [hK]; exact Option.some.inj (congrArg (fun l => l[7]?) (congrArg (fun x => x.2.1) (cls_PlainHost w)))
theorem L_PlainHost_value_of : findIn c.K (.ref 519) ("value_of" : Str) = some (some (.ref 502)) := by rw [hK]; exact Option.some.inj (congrArg (fun l => l[8]?) (congrArg (fun x => x.2.1) (cls_PlainHost w)))
theorem L_PlainHost_assign : findIn c.K (.ref 519) ("assign" : Str) = some (some (.ref 509)) := by rw [hK]; exact Option.some.inj (congrArg (fun l => l[9]?) (congrArg (fun x => x.2.1) (cls_PlainHost w)))
theorem L_PlainHost_step : findIn c.K (.ref 519) ("step" : Str) = some (some (.ref 516)) := by rw [hK]; exact Option.some.inj (congrArg (fun l => l[10]?) (congrArg (fun x => x.2.1) (cls_PlainHost w)))
theorem C_PlainHost : ClsOk 519 ∧ makesIn c.K 519 = true ∧ Keeps (.ref 519) ∧ notIn c.K (.type "str") 519 = true := by
  have h := congrArg Prod.fst (cls_PlainHost w)
  dsimp only at h
  rw [← hK] at h
  simp only [Bool.and_eq_true] at h
  obtain ⟨⟨⟨⟨⟨h1, h2⟩, h3⟩, h4⟩, h5⟩, h6⟩ := h
  exact ⟨⟨h1, h2, L_PlainHost_setattr, h3⟩, h4, keeps_ref h5, h6⟩
theorem M_PlainHost_init : isFn c.K (.ref 495) = true ∧ Keeps (.ref 495) := by
  have h := List.all_eq_true.mp (congrArg (fun x => x.2.2) (cls_PlainHost w)) 495 (by decide)
  rw [← hK, Bool.and_eq_true] at h
  exact ⟨h.1, keeps_ref h.2⟩
theorem M_PlainHost_value_of : isFn c.K (.ref 502) = true ∧ Keeps (.ref 502) := by
  have h := List.all_eq_true.mp (congrArg (fun x => x.2.2) (cls_PlainHost w)) 502 (by decide)
  rw [← hK, Bool.and_eq_true] at h
  exact ⟨h.1, keeps_ref h.2⟩
theorem M_PlainHost_assign : isFn c.K (.ref 509) = true ∧ Keeps (.ref 509) := by
  have h := List.all_eq_true.mp (congrArg (fun x => x.2.2) (cls_PlainHost w)) 509 (by decide)
  rw [← hK, Bool.and_eq_true] at h
  exact ⟨h.1, keeps_ref h.2⟩
theorem M_PlainHost_step : isFn c.K (.ref 516) = true ∧ Keeps (.ref 516) := by
  have h := List.all_eq_true.mp (congrArg (fun x => x.2.2) (cls_PlainHost w)) 516 (by decide)
  rw [← hK, Bool.and_eq_true] at h
  exact ⟨h.1, keeps_ref h.2⟩
theorem cls_Way (w : World) : ((plainGet (KO w) 547 "x" && hasDictIn (KO w) 547 && plainOver (KO w) 547 && makesIn (KO w) 547 && keepIn (KO w) (.ref 547) && notIn (KO w) (.type "str") 547), ([("__setattr__" : Str), ("__init__" : Str), ("orders" : Str), ("pc" : Str), ("at" : Str), ("named" : Str), ("marks" : Str), ("calls" : Str), ("copied" : Str)] : List Str).map (fun x => findIn (KO w) (.ref 547) x), ([537, 544] : List Nat).all (fun a => isFn (KO w) (.ref a) && keepIn (KO w) (.ref a))) = (true, [some (some (.builtin "object.__setattr__")), some (some (.ref 537)), some none, some none, some none, some none, some none, some none, some (some (.ref 544))], true) := by kernel_rfl
theorem L_Way_setattr : findIn c.K (.ref 547) ("__setattr__" : Str) = some (some (.builtin "object.__setattr__")) := by rw [hK]; exact Option.some.inj (congrArg (fun l => l[0]?) (congrArg (fun x => x.2.1) (cls_Way w)))
theorem L_Way_init : findIn c.K (.ref 547) ("__init__" : Str) = some (some (.ref 537)) := by rw [hK]; exact Option.some.inj (congrArg (fun l => l[1]?) (congrArg (fun x => x.2.1) (cls_Way w)))
theorem L_Way_orders : findIn c.K (.ref 547) ("orders" : Str) = some none := by rw [hK]; exact Option.some.inj (congrArg (fun l => l[2]?) (congrArg (fun x => x.2.1) (cls_Way w)))
theorem L_Way_pc : findIn c.K (.ref 547) ("pc" : Str) = some none := by rw [hK]; exact Option.some.inj (congrArg (fun l => l[3]?) (congrArg (fun x => x.2.1) (cls_Way w)))
theorem L_Way_at : findIn c.K (.ref 547) ("at" : Str) = some none := by rw [hK]; exact Option.some.inj (congrArg (fun l => l[4]?) (congrArg (fun x => x.2.1) (cls_Way w)))
theorem L_Way_named : findIn c.K (.ref 547) ("named" : Str) = some none := by rw [hK]; exact Option.some.inj (congrArg (fun l => l[5]?) (congrArg (fun x => x.2.1) (cls_Way w)))
theorem L_Way_marks : findIn c.K (.ref 547) ("marks" : Str) = some none := by rw [hK]; exact Option.some.inj (congrArg (fun l => l[6]?) (congrArg (fun x => x.2.1) (cls_Way w)))
theorem L_Way_calls : findIn c.K (.ref 547) ("calls" : Str) = some none := by rw [hK]; exact Option.some.inj (congrArg (fun l => l[7]?) (congrArg (fun x => x.2.1) (cls_Way w)))
theorem L_Way_copied : findIn c.K (.ref 547) ("copied" : Str) = some (some (.ref 544)) := by rw [hK]; exact Option.some.inj (congrArg (fun l => l[8]?) (congrArg (fun x => x.2.1) (cls_Way w)))
theorem C_Way : ClsOk 547 ∧ makesIn c.K 547 = true ∧ Keeps (.ref 547) ∧ notIn c.K (.type "str") 547 = true := by
  have h := congrArg Prod.fst (cls_Way w)
  dsimp only at h
  rw [← hK] at h
  simp only [Bool.and_eq_true] at h
  obtain ⟨⟨⟨⟨⟨h1, h2⟩, h3⟩, h4⟩, h5⟩, h6⟩ := h
  exact ⟨⟨h1, h2, L_Way_setattr, h3⟩, h4, keeps_ref h5, h6⟩
theorem M_Way_init : isFn c.K (.ref 537) = true ∧ Keeps (.ref 537) := by
  have h := List.all_eq_true.mp (congrArg (fun x => x.2.2) (cls_Way w)) 537 (by decide)
  rw [← hK, Bool.and_eq_true] at h
  exact ⟨h.1, keeps_ref h.2⟩
theorem M_Way_copied : isFn c.K (.ref 544) = true ∧ Keeps (.ref 544) := by
  have h := List.all_eq_true.mp (congrArg (fun x => x.2.2) (cls_Way w)) 544 (by decide)
  rw [← hK, Bool.and_eq_true] at h
  exact ⟨h.1, keeps_ref h.2⟩
theorem cls_Match (w : World) : ((plainGet (KO w) 624 "x" && hasDictIn (KO w) 624 && plainOver (KO w) 624 && makesIn (KO w) 624 && keepIn (KO w) (.ref 624) && notIn (KO w) (.type "str") 624), ([("__setattr__" : Str), ("__init__" : Str), ("subject" : Str), ("host" : Str), ("history" : Str), ("run" : Str), ("way_back" : Str), ("done" : Str), ("met_once" : Str), ("ended" : Str), ("other" : Str), ("met_often" : Str), ("asked" : Str)] : List Str).map (fun x => findIn (KO w) (.ref 624) x), ([565, 572, 579, 586, 593, 600, 607, 614, 621] : List Nat).all (fun a => isFn (KO w) (.ref a) && keepIn (KO w) (.ref a))) = (true, [some (some (.builtin "object.__setattr__")), some (some (.ref 565)), some none, some none, some none, some (some (.ref 572)), some (some (.ref 579)), some (some (.ref 586)), some (some (.ref 593)), some (some (.ref 600)), some (some (.ref 607)), some (some (.ref 614)), some (some (.ref 621))], true) := by kernel_rfl
theorem L_Match_setattr : findIn c.K (.ref 624) ("__setattr__" : Str) = some (some (.builtin "object.__setattr__")) := by rw [hK]; exact Option.some.inj (congrArg (fun l => l[0]?) (congrArg (fun x => x.2.1) (cls_Match w)))
theorem L_Match_init : findIn c.K (.ref 624) ("__init__" : Str) = some (some (.ref 565)) := by rw [hK]; exact Option.some.inj (congrArg (fun l => l[1]?) (congrArg (fun x => x.2.1) (cls_Match w)))
theorem L_Match_subject : findIn c.K (.ref 624) ("subject" : Str) = some none := by rw [hK]; exact Option.some.inj (congrArg (fun l => l[2]?) (congrArg (fun x => x.2.1) (cls_Match w)))
theorem L_Match_host : findIn c.K (.ref 624) ("host" : Str) = some none := by rw [hK]; exact Option.some.inj (congrArg (fun l => l[3]?) (congrArg (fun x => x.2.1) (cls_Match w)))
theorem L_Match_history : findIn c.K (.ref 624) ("history" : Str) = some none := by rw [hK]; exact Option.some.inj (congrArg (fun l => l[4]?) (congrArg (fun x => x.2.1) (cls_Match w)))
theorem L_Match_run : findIn c.K (.ref 624) ("run" : Str) = some (some (.ref 572)) := by rw [hK]; exact Option.some.inj (congrArg (fun l => l[5]?) (congrArg (fun x => x.2.1) (cls_Match w)))
theorem L_Match_way_back : findIn c.K (.ref 624) ("way_back" : Str) = some (some (.ref 579)) := by rw [hK]; exact Option.some.inj (congrArg (fun l => l[6]?) (congrArg (fun x => x.2.1) (cls_Match w)))
theorem L_Match_done : findIn c.K (.ref 624) ("done" : Str) = some (some (.ref 586)) := by rw [hK]; exact Option.some.inj (congrArg (fun l => l[7]?) (congrArg (fun x => x.2.1) (cls_Match w)))
theorem L_Match_met_once : findIn c.K (.ref 624) ("met_once" : Str) = some (some (.ref 593)) := by rw [hK]; exact Option.some.inj (congrArg (fun l => l[8]?) (congrArg (fun x => x.2.1) (cls_Match w)))
theorem L_Match_ended : findIn c.K (.ref 624) ("ended" : Str) = some (some (.ref 600)) := by rw [hK]; exact Option.some.inj (congrArg (fun l => l[9]?) (congrArg (fun x => x.2.1) (cls_Match w)))
theorem L_Match_other : findIn c.K (.ref 624) ("other" : Str) = some (some (.ref 607)) := by rw [hK]; exact Option.some.inj (congrArg (fun l => l[10]?) (congrArg (fun x => x.2.1) (cls_Match w)))
theorem L_Match_met_often : findIn c.K (.ref 624) ("met_often" : Str) = some (some (.ref 614)) := by rw [hK]; exact Option.some.inj (congrArg (fun l => l[11]?) (congrArg (fun x => x.2.1) (cls_Match w)))
theorem L_Match_asked : findIn c.K (.ref 624) ("asked" : Str) = some (some (.ref 621)) := by rw [hK]; exact Option.some.inj (congrArg (fun l => l[12]?) (congrArg (fun x => x.2.1) (cls_Match w)))
theorem C_Match : ClsOk 624 ∧ makesIn c.K 624 = true ∧ Keeps (.ref 624) ∧ notIn c.K (.type "str") 624 = true := by
  have h := congrArg Prod.fst (cls_Match w)
  dsimp only at h
  rw [← hK] at h
  simp only [Bool.and_eq_true] at h
  obtain ⟨⟨⟨⟨⟨h1, h2⟩, h3⟩, h4⟩, h5⟩, h6⟩ := h
  exact ⟨⟨h1, h2, L_Match_setattr, h3⟩, h4, keeps_ref h5, h6⟩
theorem M_Match_init : isFn c.K (.ref 565) = true ∧ Keeps (.ref 565) := by
  have h := List.all_eq_true.mp (congrArg (fun x => x.2.2) (cls_Match w)) 565 (by decide)
  rw [← hK, Bool.and_eq_true] at h
  exact ⟨h.1, keeps_ref h.2⟩
theorem M_Match_run : isFn c.K (.ref 572) = true ∧ Keeps (.ref 572) := by
  have h := List.all_eq_true.mp (congrArg (fun x => x.2.2) (cls_Match w)) 572 (by decide)
  rw [← hK, Bool.and_eq_true] at h
  exact ⟨h.1, keeps_ref h.2⟩
theorem M_Match_way_back : isFn c.K (.ref 579) = true ∧ Keeps (.ref 579) := by
  have h := List.all_eq_true.mp (congrArg (fun x => x.2.2) (cls_Match w)) 579 (by decide)
  rw [← hK, Bool.and_eq_true] at h
  exact ⟨h.1, keeps_ref h.2⟩
theorem M_Match_done : isFn c.K (.ref 586) = true ∧ Keeps (.ref 586) := by
  have h := List.all_eq_true.mp (congrArg (fun x => x.2.2) (cls_Match w)) 586 (by decide)
  rw [← hK, Bool.and_eq_true] at h
  exact ⟨h.1, keeps_ref h.2⟩
theorem M_Match_met_once : isFn c.K (.ref 593) = true ∧ Keeps (.ref 593) := by
  have h := List.all_eq_true.mp (congrArg (fun x => x.2.2) (cls_Match w)) 593 (by decide)
  rw [← hK, Bool.and_eq_true] at h
  exact ⟨h.1, keeps_ref h.2⟩
theorem M_Match_ended : isFn c.K (.ref 600) = true ∧ Keeps (.ref 600) := by
  have h := List.all_eq_true.mp (congrArg (fun x => x.2.2) (cls_Match w)) 600 (by decide)
  rw [← hK, Bool.and_eq_true] at h
  exact ⟨h.1, keeps_ref h.2⟩
theorem M_Match_other : isFn c.K (.ref 607) = true ∧ Keeps (.ref 607) := by
  have h := List.all_eq_true.mp (congrArg (fun x => x.2.2) (cls_Match w)) 607 (by decide)
  rw [← hK, Bool.and_eq_true] at h
  exact ⟨h.1, keeps_ref h.2⟩
theorem M_Match_met_often : isFn c.K (.ref 614) = true ∧ Keeps (.ref 614) := by
  have h := List.all_eq_true.mp (congrArg (fun x => x.2.2) (cls_Match w)) 614 (by decide)
  rw [← hK, Bool.and_eq_true] at h
  exact ⟨h.1, keeps_ref h.2⟩
theorem M_Match_asked : isFn c.K (.ref 621) = true ∧ Keeps (.ref 621) := by
  have h := List.all_eq_true.mp (congrArg (fun x => x.2.2) (cls_Match w)) 621 (by decide)
  rw [← hK, Bool.and_eq_true] at h
  exact ⟨h.1, keeps_ref h.2⟩
noncomputable def gNames : List Str := [("SnobolError" : Str), ("Failure" : Str), ("Pattern" : Str), ("Delayed" : Str), ("NameRef" : Str), ("is_fail" : Str), ("fits" : Str), ("whole_of_text" : Str), ("text_of_whole" : Str), ("to_whole" : Str), ("to_text" : Str), ("need_text" : Str), ("COUNTED" : Str), ("SIGNED" : Str), ("WIDTH_OF_COUNT" : Str), ("plain_count" : Str), ("plain_signs" : Str), ("pattern_of" : Str), ("is_delayed" : Str), ("settled" : Str), ("OPENING" : Str), ("CLOSING" : Str), ("chars_end" : Str), ("len_end" : Str), ("pos_end" : Str), ("rpos_end" : Str), ("tab_end" : Str), ("rtab_end" : Str), ("rem_end" : Str), ("any_at" : Str), ("notany_at" : Str), ("run_end" : Str), ("span_end" : Str), ("break_end" : Str), ("arb_ends" : Str), ("bal_end" : Str), ("bal_ends" : Str), ("one_end" : Str), ("plain_end" : Str), ("ends_of" : Str), ("LOST" : Str), ("match_plain" : Str), ("match_at" : Str), ("tried" : Str), ("advanced" : Str), ("led_in" : Str), ("led_out" : Str), ("steered" : Str), ("taken" : Str), ("ONE" : Str), ("WAYS" : Str), ("SPLIT" : Str), ("JUMP" : Str), ("MARK" : Str), ("NAME" : Str), ("SET" : Str), ("GAIN" : Str), ("PLACE" : Str), ("ASK" : Str), ("FENCE" : Str), ("FAIL" : Str), ("ABORT" : Str), ("SUCCEED" : Str), ("DONE" : Str), ("PUT" : Str), ("EMIT" : Str), ("OPEN" : Str), ("SHUT" : Str), ("MEET" : Str), ("SINGLE" : Str), ("ALONE" : Str), ("row_of" : Str), ("is_plain_text" : Str), ("with_texts_joined" : Str), ("PatternCode" : Str), ("straightened" : Str), ("compile_pattern" : Str), ("PlainHost" : Str), ("MET" : Str), ("FAILED" : Str), ("OVER" : Str), ("Way" : Str), ("Match" : Str), ("named_rows" : Str), ("match_orders" : Str), ("_law_next" : Str), ("_law_leaf" : Str), ("_law_node" : Str), ("_law_has_rounds" : Str), ("_law_told" : Str), ("_law_host" : Str), ("_law_from" : Str), ("_law_is_first" : Str), ("law" : Str), ("len" : Str), ("abs" : Str), ("int" : Str), ("range" : Str), ("isinstance" : Str), ("chr" : Str), ("ord" : Str), ("list" : Str), ("str" : Str), ("tuple" : Str), ("super" : Str), ("dict" : Str)]
theorem gVals (w : World) : gNames.map (fun x => nsIn (KO w) mainGlobals x) = [some (some (.ref 34)), some (some (.ref 47)), some (some (.ref 68)), some (some (.ref 89)), some (some (.ref 110)), some (some (.ref 121)), some (some (.ref 128)), some (some (.ref 135)), some (some (.ref 142)), some (some (.ref 149)), some (some (.ref 156)), some (some (.ref 163)), some (some (.ref 164)), some (some (.ref 165)), some (some (.int 64 405)), some (some (.ref 173)), some (some (.ref 180)), some (some (.ref 187)), some (some (.ref 194)), some (some (.ref 201)), some (some (.str ("(" : Str) 452)), some (some (.str (")" : Str) 454)), some (some (.ref 208)), some (some (.ref 215)), some (some (.ref 222)), some (some (.ref 229)), some (some (.ref 236)), some (some (.ref 243)), some (some (.ref 250)), some (some (.ref 257)), some (some (.ref 264)), some (some (.ref 271)), some (some (.ref 278)), some (some (.ref 285)), some (some (.ref 292)), some (some (.ref 299)), some (some (.ref 306)), some (some (.ref 313)), some (some (.ref 320)), some (some (.ref 327)), some (some (.str ("lost" : Str) 625)), some (some (.ref 334)), some (some (.ref 341)), some (some (.ref 348)), some (some (.ref 355)), some (some (.ref 362)), some (some (.ref 369)), some (some (.ref 376)), some (some (.ref 383)), some (some (.str ("one" : Str) 740)), some (some (.str ("ways" : Str) 742)), some (some (.str ("split" : Str) 744)), some (some (.str ("jump" : Str) 746)), some (some (.str ("mark" : Str) 748)), some (some (.str ("name" : Str) 750)), some (some (.str ("set" : Str) 752)), some (some (.str ("gain" : Str) 754)), some (some (.str ("place" : Str) 756)), some (some (.str ("ask" : Str) 758)), some (some (.str ("fence" : Str) 760)), some (some (.str ("fail" : Str) 762)), some (some (.str ("abort" : Str) 764)), some (some (.str ("succeed" : Str) 766)), some (some (.str ("done" : Str) 768)), some (some (.str ("put" : Str) 770)), some (some (.str ("emit" : Str) 772)), some (some (.str ("open" : Str) 774)), some (some (.str ("shut" : Str) 776)), some (some (.str ("meet" : Str) 778)), some (some (.ref 384)), some (some (.ref 385)), some (some (.ref 392)), some (some (.ref 399)), some (some (.ref 406)), some (some (.ref 463)), some (some (.ref 474)), some (some (.ref 481)), some (some (.ref 519)), some (some (.int 0 990)), some (some (.int 1 992)), some (some (.int 2 994)), some (some (.ref 547)), some (some (.ref 624)), some (some (.ref 635)), some (some (.ref 642)), some (some (.ref 649)), some (some (.ref 656)), some (some (.ref 663)), some (some (.ref 670)), some (some (.ref 675)), some (some (.ref 682)), some (some (.ref 689)), some (some (.ref 696)), some (some (.ref 701)), some none, some none, some none, some none, some none, some none, some none, some none, some none, some none, some none, some none] := by kernel_rfl
noncomputable def gTab : List (Str × Option (Option Value)) := [(("SnobolError" : Str), some (some (.ref 34))), (("Failure" : Str), some (some (.ref 47))), (("Pattern" : Str), some (some (.ref 68))), (("Delayed" : Str), some (some (.ref 89))), (("NameRef" : Str), some (some (.ref 110))), (("is_fail" : Str), some (some (.ref 121))), (("fits" : Str), some (some (.ref 128))), (("whole_of_text" : Str), some (some (.ref 135))), (("text_of_whole" : Str), some (some (.ref 142))), (("to_whole" : Str), some (some (.ref 149))), (("to_text" : Str), some (some (.ref 156))), (("need_text" : Str), some (some (.ref 163))), (("COUNTED" : Str), some (some (.ref 164))), (("SIGNED" : Str), some (some (.ref 165))), (("WIDTH_OF_COUNT" : Str), some (some (.int 64 405))), (("plain_count" : Str), some (some (.ref 173))), (("plain_signs" : Str), some (some (.ref 180))), (("pattern_of" : Str), some (some (.ref 187))), (("is_delayed" : Str), some (some (.ref 194))), (("settled" : Str), some (some (.ref 201))), (("OPENING" : Str), some (some (.str ("(" : Str) 452))), (("CLOSING" : Str), some (some (.str (")" : Str) 454))), (("chars_end" : Str), some (some (.ref 208))), (("len_end" : Str), some (some (.ref 215))), (("pos_end" : Str), some (some (.ref 222))), (("rpos_end" : Str), some (some (.ref 229))), (("tab_end" : Str), some (some (.ref 236))), (("rtab_end" : Str), some (some (.ref 243))), (("rem_end" : Str), some (some (.ref 250))), (("any_at" : Str), some (some (.ref 257))), (("notany_at" : Str), some (some (.ref 264))), (("run_end" : Str), some (some (.ref 271))), (("span_end" : Str), some (some (.ref 278))), (("break_end" : Str), some (some (.ref 285))), (("arb_ends" : Str), some (some (.ref 292))), (("bal_end" : Str), some (some (.ref 299))), (("bal_ends" : Str), some (some (.ref 306))), (("one_end" : Str), some (some (.ref 313))), (("plain_end" : Str), some (some (.ref 320))), (("ends_of" : Str), some (some (.ref 327))), (("LOST" : Str), some (some (.str ("lost" : Str) 625))), (("match_plain" : Str), some (some (.ref 334))), (("match_at" : Str), some (some (.ref 341))), (("tried" : Str), some (some (.ref 348))), (("advanced" : Str), some (some (.ref 355))), (("led_in" : Str), some (some (.ref 362))), (("led_out" : Str), some (some (.ref 369))), (("steered" : Str), some (some (.ref 376))), (("taken" : Str), some (some (.ref 383))), (("ONE" : Str), some (some (.str ("one" : Str) 740))), (("WAYS" : Str), some (some (.str ("ways" : Str) 742))), (("SPLIT" : Str), some (some (.str ("split" : Str) 744))), (("JUMP" : Str), some (some (.str ("jump" : Str) 746))), (("MARK" : Str), some (some (.str ("mark" : Str) 748))), (("NAME" : Str), some (some (.str ("name" : Str) 750))), (("SET" : Str), some (some (.str ("set" : Str) 752))), (("GAIN" : Str), some (some (.str ("gain" : Str) 754))), (("PLACE" : Str), some (some (.str ("place" : Str) 756))), (("ASK" : Str), some (some (.str ("ask" : Str) 758))), (("FENCE" : Str), some (some (.str ("fence" : Str) 760))), (("FAIL" : Str), some (some (.str ("fail" : Str) 762))), (("ABORT" : Str), some (some (.str ("abort" : Str) 764))), (("SUCCEED" : Str), some (some (.str ("succeed" : Str) 766))), (("DONE" : Str), some (some (.str ("done" : Str) 768))), (("PUT" : Str), some (some (.str ("put" : Str) 770))), (("EMIT" : Str), some (some (.str ("emit" : Str) 772))), (("OPEN" : Str), some (some (.str ("open" : Str) 774))), (("SHUT" : Str), some (some (.str ("shut" : Str) 776))), (("MEET" : Str), some (some (.str ("meet" : Str) 778))), (("SINGLE" : Str), some (some (.ref 384))), (("ALONE" : Str), some (some (.ref 385))), (("row_of" : Str), some (some (.ref 392))), (("is_plain_text" : Str), some (some (.ref 399))), (("with_texts_joined" : Str), some (some (.ref 406))), (("PatternCode" : Str), some (some (.ref 463))), (("straightened" : Str), some (some (.ref 474))), (("compile_pattern" : Str), some (some (.ref 481))), (("PlainHost" : Str), some (some (.ref 519))), (("MET" : Str), some (some (.int 0 990))), (("FAILED" : Str), some (some (.int 1 992))), (("OVER" : Str), some (some (.int 2 994))), (("Way" : Str), some (some (.ref 547))), (("Match" : Str), some (some (.ref 624))), (("named_rows" : Str), some (some (.ref 635))), (("match_orders" : Str), some (some (.ref 642))), (("_law_next" : Str), some (some (.ref 649))), (("_law_leaf" : Str), some (some (.ref 656))), (("_law_node" : Str), some (some (.ref 663))), (("_law_has_rounds" : Str), some (some (.ref 670))), (("_law_told" : Str), some (some (.ref 675))), (("_law_host" : Str), some (some (.ref 682))), (("_law_from" : Str), some (some (.ref 689))), (("_law_is_first" : Str), some (some (.ref 696))), (("law" : Str), some (some (.ref 701))), (("len" : Str), some none), (("abs" : Str), some none), (("int" : Str), some none), (("range" : Str), some none), (("isinstance" : Str), some none), (("chr" : Str), some none), (("ord" : Str), some none), (("list" : Str), some none), (("str" : Str), some none), (("tuple" : Str), some none), (("super" : Str), some none), (("dict" : Str), some none)]
theorem g_is {x : Str} {r : Option (Option Value)} (h : gTab.lookup x = some r) : nsIn c.K mainGlobals x = r := by
  have e : gTab = gNames.zip (gNames.map fun x => nsIn (KO w) mainGlobals x) := by rw [gVals]; rfl
  rw [e] at h
  rw [hK]
  revert h
  generalize gNames = l
  intro h
  induction l with
  | nil => cases h
  | cons y l ih =>
    rw [List.map_cons, List.zip_cons_cons, List.lookup_cons] at h
    by_cases q : (x == y) = true
    · rw [q] at h; cases h; rw [beq_iff_eq.mp q]
    · rw [Bool.not_eq_true] at q; rw [q] at h; exact ih h
noncomputable def fTab : List Nat := [121, 128, 135, 142, 149, 156, 163, 173, 180, 187, 194, 201, 208, 215, 222, 229, 236, 243, 250, 257, 264, 271, 278, 285, 292, 299, 306, 313, 320, 327, 334, 341, 348, 355, 362, 369, 376, 383, 392, 399, 406, 474, 481, 635, 642, 649, 656, 663, 670, 675, 682, 689, 696, 701]
theorem fKeeps (w : World) : fTab.all (fun a => keepIn (KO w) (.ref a)) = true := by kernel_rfl
theorem f_keeps {a : Nat} (h : fTab.contains a = true) : Keeps (.ref a) := keeps_ref (by rw [hK]; exact List.all_eq_true.mp (fKeeps w) a (List.contains_iff_mem.mp h))
end
end
section
open PySem PySem.W PyProof.Rows PySem.Calls
noncomputable def toks (l : List (Str × Nat)) : List Value := l.map fun x => .str x.1 x.2
theorem toks_rep {h : Heap} : ∀ l : List (Str × Nat), VsRep h (toks l) ((l.map (·.1)).map V.str)
  | [] => .nil
  | x :: l => .cons (.str _ _) (toks_rep l)
noncomputable def tupO (l : List (Str × Nat)) : Obj := { cls := .type "tuple", dict := none, data := .seq ⟨toks l⟩ 0, slots := #[] }
theorem tup_rep {a : Nat} {l : List (Str × Nat)} (ha : addrs.contains a = true) (e : objF w a = tupO l) (ok : COk) : VRep c.h0 (.ref a) (.tup ((l.map (·.1)).map V.str)) := by
  have : c.K.lookup a = some (tupO l) := by rw [hK, KO_look w a ha, e]
  exact .tup (n := 0) (ok.inK a _ this) (toks_rep l)
noncomputable def tCOUNTED : List (Str × Nat) := [("len", 394), ("pos", 395), ("rpos", 396), ("tab", 397), ("rtab", 398)]
noncomputable def tSIGNED : List (Str × Nat) := [("any", 400), ("notany", 401), ("span", 402), ("break", 403)]
noncomputable def tSINGLE : List (Str × Nat) := [("chars", 780), ("len", 781), ("pos", 782), ("rpos", 783), ("tab", 784), ("rtab", 785), ("any", 786), ("notany", 787), ("span", 788), ("break", 789), ("rem", 790)]
noncomputable def tALONE : List (Str × Nat) := [("fence", 792), ("fail", 793), ("abort", 794), ("succeed", 795)]
theorem o164 (w : World) : objF w 164 = tupO tCOUNTED := by kernel_rfl
theorem o165 (w : World) : objF w 165 = tupO tSIGNED := by kernel_rfl
theorem o384 (w : World) : objF w 384 = tupO tSINGLE := by kernel_rfl
theorem o385 (w : World) : objF w 385 = tupO tALONE := by kernel_rfl
end
section
open PySem PySem.W PyProof.Rows PySem.Calls
section
variable {n : Nat} {env : Env} {ρ : Loc} {σ : AH} {Q : V → Loc → AH → Prop}
theorem call_g {x : Str} {a : Nat} {p pos : Pos} {args : List Expr} (h : Exs n env args ρ σ (CallK n env (.ref a) Q)) (hk : autoParam (env.kindOf x = some .globalImplicit) aRfl) (ht : autoParam (gTab.lookup x = some (some (some (.ref a)))) aRfl) (ha : autoParam (fTab.contains a = true) aRfl)
    (hd : autoParam ((x == ("__debug__" : Str)) = false) aRfl) (hp : autoParam (args.all plainE = true) aRfl) :
    Ex n env (.Call (.Name x p) args [] pos) ρ σ Q := ex_call (ex_global hk (g_is ht) (fun _ => .glob _) ⟨_, rfl, f_keeps ha, h⟩ hd) rfl hp
theorem call_b {x : Str} {i : String} {p pos : Pos} {args : List Expr} (h : Exs n env args ρ σ (CallK n env (.builtin i) Q)) (hk : autoParam (env.kindOf x = some .globalImplicit) aRfl) (ht : autoParam (gTab.lookup x = some (some none)) aRfl) (hb : autoParam (bootBuiltins x = some (.builtin i)) aRfl) (hn : x ≠ "__name__" := by decide)
    (hd : autoParam ((x == ("__debug__" : Str)) = false) aRfl) (hp : autoParam (args.all plainE = true) aRfl) :
    Ex n env (.Call (.Name x p) args [] pos) ρ σ Q := ex_call (ex_builtin hk (g_is ht) hb hn ⟨_, rfl, keeps_builtin, h⟩ hd) rfl hp
theorem call_t {x : Str} {i : String} {p pos : Pos} {args : List Expr} (h : Exs n env args ρ σ (CallK n env (.type i) Q)) (hk : autoParam (env.kindOf x = some .globalImplicit) aRfl) (ht : autoParam (gTab.lookup x = some (some none)) aRfl) (hb : autoParam (bootBuiltins x = some (.type i)) aRfl) (hn : x ≠ "__name__" := by decide)
    (hd : autoParam ((x == ("__debug__" : Str)) = false) aRfl) (hp : autoParam (args.all plainE = true) aRfl) :
    Ex n env (.Call (.Name x p) args [] pos) ρ σ Q := ex_call (ex_builtin hk (g_is ht) hb hn ⟨_, rfl, keeps_type, h⟩ hd) rfl hp
theorem nm_val {x : Str} {u : Value} {v : V} {pos : Pos} (r : COk → VRep c.h0 u v) (q : Q v ρ σ) (hk : autoParam (env.kindOf x = some .globalImplicit) aRfl) (ht : autoParam (gTab.lookup x = some (some (some u))) aRfl) (hd : autoParam ((x == ("__debug__" : Str)) = false) aRfl) : Ex n env (.Name x pos) ρ σ Q := ex_global hk (g_is ht) r q hd
theorem nm_str {x y : Str} {t : Tok} {pos : Pos} (ht : gTab.lookup x = some (some (some (.str y t)))) (q : Q (.str y) ρ σ) (hk : autoParam (env.kindOf x = some .globalImplicit) aRfl) (hd : autoParam ((x == ("__debug__" : Str)) = false) aRfl) : Ex n env (.Name x pos) ρ σ Q := ex_global hk (g_is ht) (fun _ => .str y t) q hd
theorem nm_int {x : Str} {y : Int} {t : Tok} {pos : Pos} (ht : gTab.lookup x = some (some (some (.int y t)))) (q : Q (.int y) ρ σ) (hk : autoParam (env.kindOf x = some .globalImplicit) aRfl) (hd : autoParam ((x == ("__debug__" : Str)) = false) aRfl) : Ex n env (.Name x pos) ρ σ Q := ex_global hk (g_is ht) (fun _ => .int y t) q hd
theorem nm_type {x : Str} {i : String} {pos : Pos} (ht : gTab.lookup x = some (some none)) (hb : bootBuiltins x = some (.type i)) (q : Q (.glob (.type i)) ρ σ) (hk : autoParam (env.kindOf x = some .globalImplicit) aRfl) (hn : x ≠ "__name__" := by decide) (hd : autoParam ((x == ("__debug__" : Str)) = false) aRfl) : Ex n env (.Name x pos) ρ σ Q := ex_builtin hk (g_is ht) hb hn q hd
theorem nm_glob {x : Str} {u : Value} {pos : Pos} (ht : gTab.lookup x = some (some (some u))) (q : Q (.glob u) ρ σ) (hk : autoParam (env.kindOf x = some .globalImplicit) aRfl) (hd : autoParam ((x == ("__debug__" : Str)) = false) aRfl) : Ex n env (.Name x pos) ρ σ Q := ex_global hk (g_is ht) (fun _ => .glob u) q hd
abbrev OneK (Q : List V → Loc → AH → Prop) : V → Loc → AH → Prop := fun v ρ σ => Q [v] ρ σ
theorem exs_one {e : Expr} {Q : List V → Loc → AH → Prop} (h : Ex n env e ρ σ (OneK Q)) (he : autoParam (plainE e = true) aRfl) : Exs n env [e] ρ σ Q := exs_cons (h.mono fun _ _ _ q => exs_nil q) he
end

theorem exp_none {n : Nat} {env : Env} {ρ : Loc} {σ : AH} {Q : Option Int → Loc → AH → Prop} (q : Q none ρ σ) : ExP n env none ρ σ Q := q
abbrev IntK (Q : Option Int → Loc → AH → Prop) : V → Loc → AH → Prop := fun v ρ σ => ∃ i, v = .int i ∧ Q (some i) ρ σ
theorem exp_some {n : Nat} {env : Env} {ρ : Loc} {σ : AH} {Q : Option Int → Loc → AH → Prop} {e : Expr} (h : Ex n env e ρ σ (IntK Q)) : ExP n env (some e) ρ σ Q := Tr.mono h fun v ρ1 σ1 ⟨i, e, q⟩ => by subst e; exact q
theorem ex_intro_int {Q : Int → Prop} {i : Int} (q : Q i) : ∃ j, V.int i = .int j ∧ Q j := ⟨i, rfl, q⟩
theorem and_nil {n : Nat} {env : Env} {ρ : Loc} {σ : AH} {Q : Bool → Loc → AH → Prop} (q : Q true ρ σ) : AllT n env .And [] ρ σ Q := allt_nil q
theorem or_nil {n : Nat} {env : Env} {ρ : Loc} {σ : AH} {Q : Bool → Loc → AH → Prop} (q : Q false ρ σ) : AllT n env .Or [] ρ σ Q := allt_nil q
abbrev AndK (n : Nat) (env : Env) (es : List Expr) (Q : Bool → Loc → AH → Prop) : Bool → Loc → AH → Prop := fun y ρ σ => if y = true then AllT n env .And es ρ σ Q else Q false ρ σ
abbrev OrK (n : Nat) (env : Env) (es : List Expr) (Q : Bool → Loc → AH → Prop) : Bool → Loc → AH → Prop := fun y ρ σ => if y = true then Q true ρ σ else AllT n env .Or es ρ σ Q
theorem and_cons {n : Nat} {env : Env} {ρ : Loc} {σ : AH} {e : Expr} {es : List Expr} {Q : Bool → Loc → AH → Prop} (h : Test n env e ρ σ (AndK n env es Q)) : AllT n env .And (e :: es) ρ σ Q :=
  allt_cons (Tr.mono h fun y ρ1 σ1 q => by cases y <;> simpa [AndK, OrK, AllK] using q)
theorem or_cons {n : Nat} {env : Env} {ρ : Loc} {σ : AH} {e : Expr} {es : List Expr} {Q : Bool → Loc → AH → Prop} (h : Test n env e ρ σ (OrK n env es Q)) : AllT n env .Or (e :: es) ρ σ Q :=
  allt_cons (Tr.mono h fun y ρ1 σ1 q => by cases y <;> simpa [AndK, OrK, AllK] using q)
theorem ite_t {P Q : Prop} (h : P) : if true = true then P else Q := h
theorem ite_f {P Q : Prop} (h : Q) : if false = true then P else Q := h
theorem ite_tt {b : Bool} {P Q : Prop} (e : b = true) (h : P) : if b = true then P else Q := by rw [if_pos e]; exact h
theorem ite_ff {b : Bool} {P Q : Prop} (e : b = false) (h : Q) : if b = true then P else Q := by rw [if_neg (by rw [e]; decide)]; exact h
theorem ite_by {p : Prop} [d : Decidable p] {P Q : Prop} (h1 : p → P) (h2 : ¬ p → Q) : if p then P else Q := match d with
  | .isTrue h => h1 h
  | .isFalse h => h2 h
theorem sub_t0 {n : Nat} {env : Env} {ρ : Loc} {σ : AH} {Q : V → Loc → AH → Prop} {value slice : Expr} {v : V} {l : List V} (q : Q v ρ σ) (hs : PlainSlice slice) : SubJ n env value slice (.tup (v :: l)) (.int 0) ρ σ Q := sub_tup (j := 0) rfl rfl (by decide) q hs
theorem sub_t1 {n : Nat} {env : Env} {ρ : Loc} {σ : AH} {Q : V → Loc → AH → Prop} {value slice : Expr} {u v : V} {l : List V} (q : Q v ρ σ) (hs : PlainSlice slice) : SubJ n env value slice (.tup (u :: v :: l)) (.int 1) ρ σ Q := sub_tup (j := 1) rfl rfl (by decide) q hs
theorem sub_t2 {n : Nat} {env : Env} {ρ : Loc} {σ : AH} {Q : V → Loc → AH → Prop} {value slice : Expr} {u v x : V} {l : List V} (q : Q x ρ σ) (hs : PlainSlice slice) : SubJ n env value slice (.tup (u :: v :: x :: l)) (.int 2) ρ σ Q := sub_tup (j := 2) rfl rfl (by decide) q hs
theorem fits_and {l : List V} {P : Prop} (hl : Nat.ble l.length 1000 = true) (h : P) : l.length ≤ 1000 ∧ P := ⟨Nat.le_of_ble_eq_true hl, h⟩
theorem asgs_nil {n : Nat} {env : Env} {ρ : Loc} {σ : AH} {Q : Loc → AH → Prop} (q : Q ρ σ) : Asgs n env [] [] ρ σ Q := q
abbrev AsgsK (n : Nat) (env : Env) (ts : List Expr) (vs : List V) (Q : Loc → AH → Prop) : Loc → AH → Prop := fun ρ σ => Asgs n env ts vs ρ σ Q
theorem asgs_cons {n : Nat} {env : Env} {ρ : Loc} {σ : AH} {Q : Loc → AH → Prop} {t : Expr} {ts : List Expr} {v : V} {vs : List V} (h : Asg n env t v ρ σ (AsgsK n env ts vs Q)) : Asgs n env (t :: ts) (v :: vs) ρ σ Q := h
theorem any_contains (l : List Str) (b : Str) : l.any (· == b) = l.contains b := by
  induction l with
  | nil => rfl
  | cons x l ih =>
    rw [List.any_cons, List.contains_cons, ih]
    have e : (x == b) = (b == x) := by rw [Bool.eq_iff_iff]; simp only [beq_iff_eq]; exact eq_comm
    rw [e]
theorem cmp_notin_tup {n : Nat} {env : Env} {ρ : Loc} {σ : AH} {Q : V → Loc → AH → Prop} {b : Str} {l : List Str} (q : Q (.bool (!l.contains b)) ρ σ) : Op2 n env (compareOp .NotIn) (.str b) (.tup (l.map V.str)) ρ σ Q := fun u v A s hA S F r => by
  obtain ⟨t, rfl⟩ := VRep.str_inv r.1; obtain ⟨a, vs, m, rfl, ht, hs⟩ := VRep.tup_inv r.2
  refine notin_tuple_strs ⟨_, ht, rfl, _, rfl⟩ hs.strs ?_
  rw [any_contains]
  exact Post.stay (tk := s.toks) S F (.bool _) q
theorem isNone_tup (l : List V) : (V.tup l).isNone = false := rfl
theorem isNone_str (x : Str) : (V.str x).isNone = false := rfl
theorem isNone_int (i : Int) : (V.int i).isNone = false := rfl
theorem isNone_inst (C d : Addr) : (V.inst C d).isNone = false := rfl
abbrev at_ (ρ : Loc) (x : Str) : Option V := List.lookup x ρ
theorem look_skip {x y : Str} {v : V} {r : Option V} {ρ : Loc} (h : (x == y) = false) (e : List.lookup x ρ = r) : List.lookup x ((y, v) :: ρ) = r := by rw [List.lookup_cons, h]; exact e
theorem look_here {x : Str} {v : V} {ρ : Loc} : List.lookup x ((x, v) :: ρ) = some v := by rw [List.lookup_cons]; simp
noncomputable def okN (x : Str) : Bool := !(x == ("__debug__" : Str)) && !(x == ("__classdict__" : Str))
theorem okN_1 {x : Str} (h : okN x = true) : (x == ("__debug__" : Str)) = false := by unfold okN at h; rw [Bool.and_eq_true, Bool.not_eq_true', Bool.not_eq_true'] at h; exact h.1
theorem okN_2 {x : Str} (h : okN x = true) : (x == ("__classdict__" : Str)) = false := by unfold okN at h; rw [Bool.and_eq_true, Bool.not_eq_true', Bool.not_eq_true'] at h; exact h.2
noncomputable def noComp (e : Expr) : Bool := !(Nat.beq e.ctorIdx 8 || Nat.beq e.ctorIdx 9 || Nat.beq e.ctorIdx 10)
theorem noComp_is {value : Expr} (h : noComp value = true) (t : Expr) (l : Nat) (env : Env) : swapsWithSole [t] value l env = pure false := by cases value <;> first | rfl | cases h
section
variable {n : Nat} {env : Env} {ρ : Loc} {σ : AH}
theorem ex_nm {x : Str} {pos : Pos} {v : V} {Q : V → Loc → AH → Prop} (e : ρ.lookup x = some v) (q : Q v ρ σ) (h : okN x = true) : Ex n env (.Name x pos) ρ σ Q := ex_name e q (okN_1 h) (okN_2 h)
theorem exs_nm {x : Str} {pos : Pos} {v : V} {es : List Expr} {Q : List V → Loc → AH → Prop} (e : ρ.lookup x = some v) (q : Exs n env es ρ σ (ConsK v Q)) (h : okN x = true) : Exs n env (.Name x pos :: es) ρ σ Q := exs_cons (ex_nm e q h) rfl
theorem exs_n1 {x : Str} {pos : Pos} {v : V} {Q : List V → Loc → AH → Prop} (e : ρ.lookup x = some v) (q : Q [v] ρ σ) (h : okN x = true) : Exs n env [.Name x pos] ρ σ Q := exs_nm e (exs_nil q) h
theorem exs_str {i k pos} {es : List Expr} {Q : List V → Loc → AH → Prop} (q : Exs n env es ρ σ (ConsK (.str i) Q)) : Exs n env (.Constant (.str i) k pos :: es) ρ σ Q := exs_cons (ex_str q) rfl
theorem ret_nm {x : Str} {p pos : Pos} {v : V} {ss : List Stmt} {Q : Fl → Loc → AH → Prop} (e : ρ.lookup x = some v) (q : Q (.ret v) ρ σ) (h : okN x = true) : Stms n env (.Return (some (.Name x p)) pos :: ss) ρ σ Q := ss_cons (st_ret (ex_nm e q h))
theorem ss_ret {e : Expr} {pos : Pos} {ss : List Stmt} {Q : Fl → Loc → AH → Prop} (h : Ex n env e ρ σ (RetK Q)) : Stms n env (.Return (some e) pos :: ss) ρ σ Q := ss_cons (st_ret h)
theorem ss_if {t : Expr} {b o : List Stmt} {pos : Pos} {ss : List Stmt} {Q : Fl → Loc → AH → Prop} (h : Test n env t ρ σ (IfK n env b o (NextK n env ss Q))) : Stms n env (.If t b o pos :: ss) ρ σ Q := ss_cons (st_if h)
theorem test_nm {x a i : Str} {p1 p2 pos : Pos} {k} {Q : Bool → Loc → AH → Prop} (e : ρ.lookup x = some (.str a)) (q : Q (a == i) ρ σ) (h : okN x = true) : Test n env (.Compare (.Name x p1) [.Eq] [.Constant (.str i) k p2] pos) ρ σ Q := test_cmp (ex_nm e (ex_str (cmp_eq_str (tru_bool q))) h) (by with_unfolding_all rfl)
theorem if_nf {x a i : Str} {p1 p2 p3 pos : Pos} {k} {b ss : List Stmt} {Q : Fl → Loc → AH → Prop} (e : ρ.lookup x = some (.str a)) (f : (a == i) = false) (q : Stms n env ss ρ σ Q) (h : okN x = true) : Stms n env (.If (.Compare (.Name x p1) [.Eq] [.Constant (.str i) k p2] p3) b [] pos :: ss) ρ σ Q := ss_if (test_nm e (ite_ff f (ss_nil q)) h)
theorem if_nt {x a i : Str} {p1 p2 p3 pos : Pos} {k} {b o ss : List Stmt} {Q : Fl → Loc → AH → Prop} (e : ρ.lookup x = some (.str a)) (f : (a == i) = true) (q : Stms n env b ρ σ (NextK n env ss Q)) (h : okN x = true) : Stms n env (.If (.Compare (.Name x p1) [.Eq] [.Constant (.str i) k p2] p3) b o pos :: ss) ρ σ Q := ss_if (test_nm e (ite_tt f q) h)
theorem at_nm {x attr : Str} {p pos : Pos} {v : V} {Q : V → Loc → AH → Prop} (e : ρ.lookup x = some v) (q : Op1 n env (fun o => getAttr o attr true) v ρ σ Q) (h : okN x = true) : Ex n env (.Attribute (.Name x p) attr pos) ρ σ Q := ex_attr (ex_nm e q h) (by with_unfolding_all rfl)
set_option tactic.hygienic true
abbrev AsnK (n : Nat) (env : Env) (x : Str) (Q : Fl → Loc → AH → Prop) : V → Loc → AH → Prop := fun v ρ σ => Q .next ((x, v) :: ρ) σ
set_option tactic.hygienic false
theorem st_asn {x : Str} {p pos : Pos} {value : Expr} {Q : Fl → Loc → AH → Prop} (h : Ex n env value ρ σ (AsnK n env x Q)) (hx : env.kindOf x = some .local) (hv : noComp value = true) : Stm n env (.Assign [.Name x p] value pos) ρ σ Q := st_assign (h.mono fun v ρ1 σ1 q => asg_local hx q) (noComp_is hv _ _ _) rfl rfl
end
end
set_option compiler.extract_closed false in
set_option hygiene false in
local macro_rules | `(tactic| wtm_at "lk1") => `(tactic| first | assumption | exact look_here | rfl | (refine' look_skip rfl ?_; wtm_at "lk1"))
set_option compiler.extract_closed false in
set_option hygiene false in
local macro_rules | `(tactic| wtm_at "lkc") => `(tactic| ((conv => lhs; whnf); (first | done | rfl)))
set_option compiler.extract_closed false in
set_option hygiene false in
local macro_rules | `(tactic| wtm_at "lkh") => `(tactic| (rotate_left; (focus wtm_at "lk1"); rotate_left; (focus rfl)))
set_option compiler.extract_closed false in
set_option hygiene false in
local macro_rules | `(tactic| wtm_at "lkf") => `(tactic| (rotate_left; (focus wtm_at "lk1"); (focus rfl); rotate_left; (focus rfl)))
set_option compiler.extract_closed false in
set_option hygiene false in
local macro_rules | `(tactic| wtm_at "w_in") => `(tactic| (refine' body_in ?_ ?_ ?_; rotate_left; rotate_left; (focus wtm_at "lkc"); (focus wtm_at "lkc")))
set_option compiler.extract_closed false in
set_option hygiene false in
local macro_rules | `(tactic| wtm_at "lks") => `(tactic| (rotate_left; (focus (intro o i; with_unfolding_all rfl))))
set_option compiler.extract_closed false in
set_option hygiene false in
local macro_rules | `(tactic| wtm_at "w1a") => do
  let r : Lean.Name → Lean.TSyntax `tactic → Lean.MacroM (Lean.TSyntax `tactic) := fun n a => `(tactic| first | refine $(Lean.mkIdent n):ident ?_ | $a:tactic)
  let s : Lean.Name → Lean.TSyntax `tactic → Lean.MacroM (Lean.TSyntax `tactic) := fun n a => `(tactic| first | (refine $(Lean.mkIdent n):ident ?_ ?_; (focus with_unfolding_all rfl)) | $a:tactic)
  let t : Lean.Name → Lean.TSyntax `tactic → Lean.MacroM (Lean.TSyntax `tactic) := fun n a => `(tactic| first | (refine $(Lean.mkIdent n):ident ?_ ?_; rotate_left; (focus with_unfolding_all rfl)) | $a:tactic)
  let u : Lean.Name → Lean.TSyntax `tactic → Lean.MacroM (Lean.TSyntax `tactic) := fun n a => `(tactic| first | (refine $(Lean.mkIdent n):ident ?_ ?_ ?_; rotate_left; (focus with_unfolding_all rfl); (focus with_unfolding_all rfl)) | $a:tactic)
  let z ← `(tactic| fail)
  let z ← [`asg_tuple, `st_expr].foldrM u z
  let z ← [`exs_cons, `test_cmp, `ex_attr, `test_cmp2, `ex_cmp].foldrM t z
  let z ← [`asg_local, `sto_local, `fits_and].foldrM s z
  let z ← [`ss_if, `ss_ret, `ss_cons, `ss_nil, `st_ret, `st_if, `exs_str, `exs_nil, `ex_int, `ex_str, `ex_none, `ex_bool, `ex_bin, `ex_if, `ex_slice, `exp_none, `exp_some, `ex_intro_int, `ex_sub, `ex_un, `ex_tuple, `asgs_nil, `asgs_cons, `test_not, `ite_t, `ite_f, `and_nil, `or_nil, `and_cons, `or_cons, `test_bool, `tru_bool, `op_add, `op_sub, `op_iadd, `cmp_eq, `cmp_lt, `cmp_le, `cmp_gt, `cmp_eq_str, `st_break, `st_continue].foldrM r z
  `(tactic| focus with_reducible $z:tactic)
set_option compiler.extract_closed false in
set_option hygiene false in
local macro_rules | `(tactic| wtm_at "w1") => `(tactic| focus (first
  | ((with_reducible refine' if_nf ?_ ?_ ?_ ?_); wtm_at "lkf")
  | ((with_reducible refine' if_nt ?_ ?_ ?_ ?_); wtm_at "lkf")
  | ((with_reducible refine' test_nm ?_ ?_ ?_); wtm_at "lkh")
  | ((with_reducible refine' ret_nm ?_ ?_ ?_); wtm_at "lkh")
  | ((with_reducible refine' exs_n1 ?_ ?_ ?_); wtm_at "lkh")
  | ((with_reducible refine' exs_nm ?_ ?_ ?_); wtm_at "lkh")
  | ((with_reducible refine' at_nm ?_ ?_ ?_); wtm_at "lkh")
  | wtm_at "w1a"
  | ((with_reducible refine' ex_nm ?_ ?_ ?_); wtm_at "lkh")
  | ((with_reducible refine' st_aug_name ?_ ?_ ?_); wtm_at "lkh")
  | ((with_reducible refine ite_ff ?_ ?_); (focus first | rfl | decide | with_reducible exact isNone_tup _ | with_reducible exact isNone_str _ | with_reducible exact isNone_int _ | with_reducible exact isNone_inst _ _))
  | ((with_reducible refine ite_tt ?_ ?_); (focus first | rfl | decide))
  | ((with_reducible refine sub_t0 ?_ ?_); wtm_at "lks")
  | ((with_reducible refine sub_t1 ?_ ?_); wtm_at "lks")
  | ((with_reducible refine sub_t2 ?_ ?_); wtm_at "lks")))
set_option compiler.extract_closed false in
set_option hygiene false in
local macro_rules | `(tactic| wtm_at "wp") => `(tactic| repeat wtm_at "w1")
set_option compiler.extract_closed false in
local macro_rules | `(tactic| wtm_at "w_sp") => `(tactic| (refine' ite_by ?_ ?_ <;> intro _))
set_option compiler.extract_closed false in
set_option hygiene false in
local macro_rules | `(tactic| wtm_at "w_t") => `(tactic| try (refine ite_tt ?_ ?_; (focus rfl)))
set_option compiler.extract_closed false in
set_option hygiene false in
local macro_rules | `(tactic| wtm_at "w_f") => `(tactic| try (refine ite_ff ?_ ?_; (focus rfl)))
section
open PySem PySem.W PyProof.Rows PySem.Calls
noncomputable def oV : Option Int → V
  | none => .none
  | some i => .int i
noncomputable def charsEnd (s : Str) (a : Int) (t : Str) : Option Int := if Txt.slice s (some a) (some (a + t.length)) == t then some (a + t.length) else none
noncomputable def lenEnd (s : Str) (a m : Int) : Option Int := if a + m ≤ s.length then some (a + m) else none
noncomputable def posEnd (a p : Int) : Option Int := if a == p then some a else none
noncomputable def rposEnd (s : Str) (a p : Int) : Option Int := if (s.length : Int) - a == p then some a else none
noncomputable def tabEnd (s : Str) (a p : Int) : Option Int := if a ≤ p ∧ p ≤ s.length then some p else none
noncomputable def rtabEnd (s : Str) (a p : Int) : Option Int := if a ≤ (s.length : Int) - p then some ((s.length : Int) - p) else none
section
variable {n : Nat} {σ : AH} {Q : V → AH → Prop} {s t : Str} {a m p : Int}
set_option tactic.hygienic true
theorem w_chars_end (hs : s.length ≤ 1000) (ht : t.length ≤ 1000) (q : Q (oV (charsEnd s a t)) σ) : Con 1 (.ref 208) [.str s, .int a, .str t] σ Q := by
  refine con_fn (F_chars_end) rfl fun L => ?_
  wtm_at "w_in"
  (refine ss_cons (st_asn ?_ rfl rfl))
  wtm_at "wp"
  refine call_b ?_
  wtm_at "wp"
  refine call_len_str (by exact lin1 (.l (.v 0) (.k 1000) (.g (.v 0) (.k 1000000))) rfl ht) ?_
  wtm_at "wp"
  refine sl_str (by rw [sizeLine_eq]; exact lin1 (.l (.v 0) (.k 1000) (.g (.v 0) (.k 16777216))) rfl hs) ?_
  wtm_at "wp"
  unfold charsEnd at q
  wtm_at "w_sp" <;> rename_i h
  · rw [if_pos h] at q; wtm_at "wp"; exact q
  · rw [if_neg h] at q; wtm_at "wp"; exact q
theorem w_len_end (hs : s.length ≤ 1000) (q : Q (oV (lenEnd s a m)) σ) : Con 1 (.ref 215) [.str s, .int a, .int m] σ Q := by
  refine con_fn (F_len_end) rfl fun L => ?_
  wtm_at "w_in"
  wtm_at "wp"
  refine call_b ?_
  wtm_at "wp"
  refine call_len_str (by exact lin1 (.l (.v 0) (.k 1000) (.g (.v 0) (.k 1000000))) rfl hs) ?_
  wtm_at "wp"
  unfold lenEnd at q
  wtm_at "w_sp" <;> rename_i h <;> simp only [decide_eq_true_eq] at h
  · rw [if_pos h] at q; wtm_at "wp"; exact q
  · rw [if_neg h] at q; wtm_at "wp"; exact q
theorem w_pos_end (q : Q (oV (posEnd a p)) σ) : Con 1 (.ref 222) [.int a, .int p] σ Q := by
  refine con_fn (F_pos_end) rfl fun L => ?_
  wtm_at "w_in"
  wtm_at "wp"
  unfold posEnd at q
  wtm_at "w_sp" <;> rename_i h
  · rw [if_pos h] at q; wtm_at "wp"; exact q
  · rw [if_neg h] at q; wtm_at "wp"; exact q
theorem w_rpos_end (hs : s.length ≤ 1000) (q : Q (oV (rposEnd s a p)) σ) : Con 1 (.ref 229) [.str s, .int a, .int p] σ Q := by
  refine con_fn (F_rpos_end) rfl fun L => ?_
  wtm_at "w_in"
  wtm_at "wp"
  refine call_b ?_
  wtm_at "wp"
  refine call_len_str (by exact lin1 (.l (.v 0) (.k 1000) (.g (.v 0) (.k 1000000))) rfl hs) ?_
  wtm_at "wp"
  unfold rposEnd at q
  wtm_at "w_sp" <;> rename_i h
  · rw [if_pos h] at q; wtm_at "wp"; exact q
  · rw [if_neg h] at q; wtm_at "wp"; exact q
theorem w_tab_end (hs : s.length ≤ 1000) (q : Q (oV (tabEnd s a p)) σ) : Con 1 (.ref 236) [.str s, .int a, .int p] σ Q := by
  refine con_fn (F_tab_end) rfl fun L => ?_
  wtm_at "w_in"
  wtm_at "wp"
  unfold tabEnd at q
  wtm_at "w_sp" <;> rename_i h1
  · refine call_b ?_
    wtm_at "wp"
    refine call_len_str (by exact lin1 (.l (.v 0) (.k 1000) (.g (.v 0) (.k 1000000))) rfl hs) ?_
    wtm_at "wp"
    wtm_at "w_sp" <;> rename_i h2 <;> simp only [decide_eq_true_eq] at h1 h2
    · rw [if_pos ⟨h1, h2⟩] at q; wtm_at "wp"; exact q
    · rw [if_neg (fun z => h2 z.2)] at q; wtm_at "wp"; exact q
  · simp only [decide_eq_true_eq] at h1
    rw [if_neg (fun z => h1 z.1)] at q
    wtm_at "wp"; exact q
theorem w_rtab_end (hs : s.length ≤ 1000) (q : Q (oV (rtabEnd s a p)) σ) : Con 1 (.ref 243) [.str s, .int a, .int p] σ Q := by
  refine con_fn (F_rtab_end) rfl fun L => ?_
  wtm_at "w_in"
  (refine ss_cons (st_asn ?_ rfl rfl))
  wtm_at "wp"
  refine call_b ?_
  wtm_at "wp"
  refine call_len_str (by exact lin1 (.l (.v 0) (.k 1000) (.g (.v 0) (.k 1000000))) rfl hs) ?_
  wtm_at "wp"
  unfold rtabEnd at q
  wtm_at "w_sp" <;> rename_i h <;> simp only [decide_eq_true_eq] at h
  · rw [if_pos h] at q; wtm_at "wp"; exact q
  · rw [if_neg h] at q; wtm_at "wp"; exact q
set_option tactic.hygienic false
theorem w_rem_end (hs : s.length ≤ 1000) (q : Q (.int s.length) σ) : Con 1 (.ref 250) [.str s] σ Q := by
  refine con_fn (F_rem_end) rfl fun L => ?_
  wtm_at "w_in"
  wtm_at "wp"
  refine call_b ?_
  wtm_at "wp"
  refine call_len_str (by exact lin1 (.l (.v 0) (.k 1000) (.g (.v 0) (.k 1000000))) rfl hs) ?_
  exact q
noncomputable def signIn (s : Str) (a : Int) (t : Str) : Bool := match s.cps.toList[a.toNat]? with | some d => t.cps.toList.contains d | none => false
noncomputable def anyAt (s : Str) (a : Int) (t : Str) : Option Int := if a < s.length ∧ signIn s a t = true then some (a + 1) else none
theorem occ_one (d : Nat) (t : Str) : (!(Builtin.Str.occurrences t ⟨#[d]⟩ 0 t.length 1).isEmpty) = t.cps.toList.contains d := by
  rw [StrLaws.found_one]; simp
set_option tactic.hygienic true
theorem w_any_at (hs : s.length ≤ 1000) (h0 : 0 ≤ a) (q : Q (oV (anyAt s a t)) σ) : Con 1 (.ref 257) [.str s, .int a, .str t] σ Q := by
  refine con_fn (F_any_at) rfl fun L => ?_
  wtm_at "w_in"
  wtm_at "wp"
  refine call_b ?_
  wtm_at "wp"
  refine call_len_str (by exact lin1 (.l (.v 0) (.k 1000) (.g (.v 0) (.k 1000000))) rfl hs) ?_
  wtm_at "wp"
  unfold anyAt at q
  wtm_at "w_sp" <;> rename_i h1
  · simp only [decide_eq_true_eq] at h1
    wtm_at "wp"
    have hlt : a.toNat < s.cps.toList.length := by rw [Array.length_toList]; unfold Str.length at h1; lia
    refine sub_str (j := a.toNat) (d := s.cps.toList[a.toNat]) (by lia) (List.getElem?_eq_getElem hlt) (by unfold Str.length at hs; rw [Array.length_toList] at hlt; exact lin2 (.t (.v 0) (.v 1) (.l (.v 1) (.k 1000) (.b (.v 0) (.k 4611686018427387904)))) rfl hlt hs) ?_
    wtm_at "wp"
    refine cmp_in_str ?_
    rw [occ_one]
    wtm_at "wp"
    have e : signIn s a t = t.cps.toList.contains s.cps.toList[a.toNat] := by unfold signIn; rw [List.getElem?_eq_getElem hlt]
    wtm_at "w_sp" <;> rename_i h2
    · rw [if_pos ⟨h1, e.trans h2⟩] at q; wtm_at "wp"; exact q
    · rw [if_neg (fun z => h2 (e.symm.trans z.2))] at q; wtm_at "wp"; exact q
  · simp only [decide_eq_true_eq] at h1
    rw [if_neg (fun z => h1 z.1)] at q
    wtm_at "wp"; exact q
set_option tactic.hygienic false
noncomputable def runFrom (s : Str) (t : Str) (isIn : Bool) : Nat → Nat → Nat
  | 0, i => i
  | k + 1, i => if i < s.length ∧ signIn s i t = isIn then runFrom s t isIn k (i + 1) else i
noncomputable def runEnd (s : Str) (a : Nat) (t : Str) (isIn : Bool) : Nat := runFrom s t isIn (s.length - a) a
theorem runFrom_stop {s t : Str} {b : Bool} : ∀ {k i : Nat}, ¬ (i < s.length ∧ signIn s i t = b) → runFrom s t b k i = i
  | 0, _, _ => rfl
  | k + 1, i, h => by unfold runFrom; rw [if_neg h]
theorem runFrom_step {s t : Str} {b : Bool} {i : Nat} (h : i < s.length ∧ signIn s i t = b) : runFrom s t b (s.length - i) i = runFrom s t b (s.length - (i + 1)) (i + 1) := by
  have : s.length - i = (s.length - (i + 1)) + 1 := by lia
  rw [this]; conv => lhs; unfold runFrom
  rw [if_pos h]
set_option tactic.hygienic true
theorem w_run_end {k : Nat} {b : Bool} (hs : s.length ≤ 1000) (q : Q (.int (runEnd s k t b)) σ) : Con 1 (.ref 271) [.str s, .int k, .str t, .bool b] σ Q := by
  refine con_fn (F_run_end) rfl fun L => ?_
  wtm_at "w_in"
  refine ss_cons ?_
  refine st_while (fun m ρ σ' => ∃ i : Nat, m = s.length - i ∧ σ' = σ ∧ runEnd s k t b = runEnd s i t b ∧ at_ ρ "at" = some (.int i) ∧ at_ ρ "subject" = some (.str s) ∧ at_ ρ "signs" = some (.str t) ∧ at_ ρ "is_in" = some (.bool b)) (s.length - k) ⟨k, rfl, rfl, rfl, rfl, rfl, rfl, rfl⟩ ?_
  rintro m ρ σ' ⟨i, rfl, rfl, hi, e1, e2, e3, e4⟩
  wtm_at "wp"
  refine call_b ?_
  wtm_at "wp"
  refine call_len_str (by exact lin1 (.l (.v 0) (.k 1000) (.g (.v 0) (.k 1000000))) rfl hs) ?_
  wtm_at "wp"
  wtm_at "w_sp" <;> rename_i h1
  · have h1' : i < s.length := by simpa using h1
    have hlt : i < s.cps.toList.length := by rw [Array.length_toList]; exact h1'
    wtm_at "wp"
    refine sub_str (j := i) (d := s.cps.toList[i]) rfl (List.getElem?_eq_getElem hlt) (by lia) ?_
    wtm_at "wp"
    refine cmp_in_str ?_
    rw [occ_one]
    wtm_at "wp"
    refine cmp_bool_bool ?_
    wtm_at "wp"
    have e : signIn s i t = t.cps.toList.contains s.cps.toList[i] := by unfold signIn; simp only [Int.toNat_natCast]; rw [List.getElem?_eq_getElem hlt]
    wtm_at "w_sp" <;> rename_i h2
    · have hc : i < s.length ∧ signIn s i t = b := ⟨h1', by rw [e]; exact beq_iff_eq.mp h2⟩
      wtm_at "wp"
      dsimp only [LoopQ]
      refine ⟨s.length - (i + 1), by lia, i + 1, rfl, rfl, ?_, look_here, look_skip rfl e2, look_skip rfl e3, look_skip rfl e4⟩
      rw [hi]; exact runFrom_step hc
    · have hc : ¬ (i < s.length ∧ signIn s i t = b) := fun z => h2 (by rw [← e]; exact beq_iff_eq.mpr z.2)
      wtm_at "wp"
      have : runEnd s k t b = i := by rw [hi]; exact runFrom_stop hc
      rw [this] at q; exact q
  · have h1' : ¬ i < s.length := by simpa using h1
    wtm_at "wp"
    have : runEnd s k t b = i := by rw [hi]; exact runFrom_stop (fun z => h1' z.1)
    rw [this] at q; exact q
set_option tactic.hygienic false
theorem runFrom_ge {s t : Str} {b : Bool} : ∀ {k i : Nat}, i ≤ runFrom s t b k i
  | 0, _ => Nat.le_refl _
  | k + 1, i => by
    unfold runFrom
    split
    · exact Nat.le_trans (Nat.le_succ i) runFrom_ge
    · exact Nat.le_refl _
noncomputable def spanEnd (s : Str) (a : Nat) (t : Str) : Option Int := if a < runEnd s a t true then some (runEnd s a t true) else none
noncomputable def breakEnd (s : Str) (a : Nat) (t : Str) : Option Int := if runEnd s a t false < s.length then some (runEnd s a t false) else none
set_option tactic.hygienic true
theorem w_span_end {k : Nat} (hs : s.length ≤ 1000) (q : Q (oV (spanEnd s k t)) σ) : Con 2 (.ref 278) [.str s, .int k, .str t] σ Q := by
  refine con_fn (F_span_end) rfl fun L => ?_
  wtm_at "w_in"
  (refine ss_cons (st_asn ?_ rfl rfl))
  refine call_g ?_
  wtm_at "wp"
  refine Con.call (w_run_end hs ?_)
  wtm_at "wp"
  unfold spanEnd at q
  wtm_at "w_sp" <;> rename_i h <;> simp only [gt_iff_lt, decide_eq_true_eq, Int.ofNat_lt] at h
  · rw [if_pos h] at q; wtm_at "wp"; exact q
  · rw [if_neg h] at q; wtm_at "wp"; exact q
theorem w_break_end {k : Nat} (hs : s.length ≤ 1000) (q : Q (oV (breakEnd s k t)) σ) : Con 2 (.ref 285) [.str s, .int k, .str t] σ Q := by
  refine con_fn (F_break_end) rfl fun L => ?_
  wtm_at "w_in"
  (refine ss_cons (st_asn ?_ rfl rfl))
  refine call_g ?_
  wtm_at "wp"
  refine Con.call (w_run_end hs ?_)
  wtm_at "wp"
  refine call_b ?_
  wtm_at "wp"
  refine call_len_str (by exact lin1 (.l (.v 0) (.k 1000) (.g (.v 0) (.k 1000000))) rfl hs) ?_
  wtm_at "wp"
  unfold breakEnd at q
  wtm_at "w_sp" <;> rename_i h <;> simp only [decide_eq_true_eq, Int.ofNat_lt] at h
  · rw [if_pos h] at q; wtm_at "wp"; exact q
  · rw [if_neg h] at q; wtm_at "wp"; exact q
end
end
section
open PySem PySem.W PyProof.Rows PySem.Calls
inductive Pl where
  | chars (t : Str) | len (m : Int) | pos (m : Int) | rpos (m : Int) | tab (m : Int) | rtab (m : Int) | any (t : Str) | span (t : Str) | brk (t : Str)
set_option tactic.hygienic false
noncomputable def Pl.kind : Pl → Str
  | .chars _ => "chars" | .len _ => "len" | .pos _ => "pos" | .rpos _ => "rpos" | .tab _ => "tab" | .rtab _ => "rtab" | .any _ => "any" | .span _ => "span" | .brk _ => "break"
noncomputable def Pl.told : Pl → V
  | .chars t => .str t | .any t => .str t | .span t => .str t | .brk t => .str t
  | .len m => .int m | .pos m => .int m | .rpos m => .int m | .tab m => .int m | .rtab m => .int m
noncomputable def Pl.fits : Pl → Prop
  | .chars t => t.length ≤ 1000
  | .len m => 0 ≤ m
  | _ => True
noncomputable def Pl.ends (s : Str) (k : Nat) : Pl → Option Int
  | .chars t => charsEnd s k t | .len m => lenEnd s k m | .pos m => posEnd k m | .rpos m => rposEnd s k m | .tab m => tabEnd s k m | .rtab m => rtabEnd s k m
  | .any t => anyAt s k t | .span t => spanEnd s k t | .brk t => breakEnd s k t
section
variable {n : Nat} {σ : AH} {Q : V → AH → Prop} {s t : Str} {k : Nat}
set_option tactic.hygienic true
theorem w_one_end {p : Pl} (hs : s.length ≤ 1000) (hp : p.fits) (q : Q (oV (p.ends s k)) σ) : Con 3 (.ref 313) [.str p.kind, .str s, .int k, p.told] σ Q := by
  refine con_fn (F_one_end) rfl fun L => ?_
  cases p <;> dsimp only [Pl.kind, Pl.told]
  case chars t =>
    wtm_at "w_in"; wtm_at "wp"; refine call_g ?_; wtm_at "wp"
    exact Con.call ((w_chars_end hs hp q).less (by decide))
  case len m =>
    wtm_at "w_in"; wtm_at "wp"; refine call_g ?_; wtm_at "wp"
    exact Con.call ((w_len_end hs q).less (by decide))
  case pos m =>
    wtm_at "w_in"; wtm_at "wp"; refine call_g ?_; wtm_at "wp"
    exact Con.call ((w_pos_end q).less (by decide))
  case rpos m =>
    wtm_at "w_in"; wtm_at "wp"; refine call_g ?_; wtm_at "wp"
    exact Con.call ((w_rpos_end hs q).less (by decide))
  case tab m =>
    wtm_at "w_in"; wtm_at "wp"; refine call_g ?_; wtm_at "wp"
    exact Con.call ((w_tab_end hs q).less (by decide))
  case rtab m =>
    wtm_at "w_in"; wtm_at "wp"; refine call_g ?_; wtm_at "wp"
    exact Con.call ((w_rtab_end hs q).less (by decide))
  case any t =>
    wtm_at "w_in"; wtm_at "wp"; refine call_g ?_; wtm_at "wp"
    exact Con.call ((w_any_at hs (by lia) q).less (by decide))
  case span t =>
    wtm_at "w_in"; wtm_at "wp"; refine call_g ?_; wtm_at "wp"
    exact Con.call ((w_span_end hs q).less (by decide))
  case brk t =>
    wtm_at "w_in"; wtm_at "wp"; refine call_g ?_; wtm_at "wp"
    exact Con.call ((w_break_end hs q).less (by decide))
set_option tactic.hygienic false
theorem w_plain_end {p : Pl} (hs : s.length ≤ 1000) (hp : p.fits) (q : Q (oV (p.ends s k)) σ) : Con 4 (.ref 320) [.tup [.str p.kind, p.told], .str s, .int k] σ Q := by
  refine con_fn (F_plain_end) rfl fun L => ?_
  wtm_at "w_in"
  wtm_at "wp"
  have hr : (p.kind == ("rem" : Str)) = false := by cases p <;> (dsimp only [Pl.kind]; decide)
  try refine ite_ff hr ?_
  refine call_g ?_
  wtm_at "wp"
  exact Con.call (w_one_end hs hp q)
theorem w_plain_rem {l : List V} (hs : s.length ≤ 1000) (q : Q (.int s.length) σ) : Con 4 (.ref 320) [.tup (.str "rem" :: l), .str s, .int k] σ Q := by
  refine con_fn (F_plain_end) rfl fun L => ?_
  wtm_at "w_in"
  wtm_at "wp"
  refine call_g ?_
  wtm_at "wp"
  exact Con.call ((w_rem_end hs q).less (by decide))
end
end
section
open PySem PySem.W PyProof.Rows PySem.Calls
noncomputable def hostD (av ar al : Addr) (st lim : Int) : List (Str × V) := [("values", .dct av), ("limit", .int lim), ("refused", .lst ar), ("width", .int 64), ("steps", .int st), ("log", .lst al)]
structure HostAt (σ : AH) (d av ar al : Addr) (vals : List (Str × V)) (log : List V) (st lim : Int) : Prop where
  h : σ d = some (.dict (hostD av ar al st lim))
  v : σ av = some (.dict vals)
  r : σ ar = some (.list [])
  l : σ al = some (.list log)
section
variable {n : Nat} {σ : AH} {Q : V → AH → Prop} {s t : Str} {k : Nat} {d av ar al : Addr} {vals : List (Str × V)} {log : List V} {st lim : Int}
theorem w_host_step (H : HostAt σ d av ar al vals log st lim) (hl : st + 1 ≤ lim) (q : Q .none (σ.put d (.dict (hostD av ar al (st + 1) lim)))) : Con 1 (.ref 516) [.inst 519 d] σ Q := by
  have co := (C_PlainHost).1
  refine con_fn (F_PlainHost_step) rfl fun L => ?_
  wtm_at "w_in"
  refine ss_cons (st_aug_attr ?_)
  wtm_at "wp"
  refine op_attr co (L_PlainHost_steps) H.h (v := .int st) rfl (vk_int _) ?_
  wtm_at "wp"
  refine st_attr co (L_PlainHost_steps) H.h (by simp [hostD]) ?_
  have e : setK (hostD av ar al st lim) "steps" (.int (st + 1)) = hostD av ar al (st + 1) lim := rfl
  rw [e]
  wtm_at "wp"
  refine op_attr co (L_PlainHost_steps) (AH.put_self _ _ _) (v := .int (st + 1)) rfl (vk_int _) ?_
  wtm_at "wp"
  refine op_attr co (L_PlainHost_limit) (AH.put_self _ _ _) (v := .int lim) rfl (vk_int _) ?_
  wtm_at "wp"
  try refine ite_ff (by simpa using hl) ?_
  wtm_at "wp"
  exact q
noncomputable def refD (key : Str) : List (Str × V) := [("kind", .str "var"), ("owner", .none), ("key", .str key)]
theorem w_host_assign {rd : Addr} {key : Str} {v : V} (H : HostAt σ d av ar al vals log st lim) (hr : σ rd = some (.dict (refD key))) (hv : vals.length ≤ 1000) (hlog : log.length ≤ 1000000) (hne : al ≠ av)
    (q : Q (.bool true) ((σ.put av (.dict (setK vals key v))).put al (.list (log ++ [.tup [.str key, v]])))) (had : d ≠ av) (hra : rd ≠ av) : Con 1 (.ref 509) [.inst 519 d, .inst 110 rd, v] σ Q := by
  have co := (C_PlainHost).1
  have cr := (C_NameRef).1
  refine con_fn (F_PlainHost_assign) rfl fun L => ?_
  wtm_at "w_in"
  wtm_at "wp"
  refine op_attr cr (L_NameRef_key) hr (v := .str key) rfl (vk_str _) ?_
  wtm_at "wp"
  refine op_attr co (L_PlainHost_refused) H.h (v := .lst ar) rfl (vk_lst _) ?_
  refine cmp_in_lst (l := []) H.r ?_
  wtm_at "wp"
  try refine ite_ff rfl ?_
  wtm_at "wp"
  wtm_at "wp"
  (refine st_assign ?_)
  wtm_at "wp"
  refine asg_sub ?_
  wtm_at "wp"
  refine op_attr co (L_PlainHost_values) H.h (v := .dct av) rfl (by intro _ h; cases h) ?_
  wtm_at "wp"
  refine op_attr cr (L_NameRef_key) hr (v := .str key) rfl (vk_str _) ?_
  refine set_dct H.v hv ?_
  wtm_at "wp"
  have e1 : (σ.put av (.dict (setK vals key v))) d = some (.dict (hostD av ar al st lim)) := (AH.put_ne _ _ had).trans H.h
  have e2 : (σ.put av (.dict (setK vals key v))) rd = some (.dict (refD key)) := (AH.put_ne _ _ hra).trans hr
  have e3 : (σ.put av (.dict (setK vals key v))) al = some (.list log) := (AH.put_ne _ _ hne).trans H.l
  refine ex_meth ?_
  wtm_at "wp"
  refine op_attr co (L_PlainHost_log) e1 (v := .lst al) rfl (vk_lst _) ?_
  refine ⟨_, gm_list PySem.F.slot_list_append PySem.F.type_list_append e3, keeps_builtin, ?_⟩
  wtm_at "wp"
  refine op_attr cr (L_NameRef_key) e2 (v := .str key) rfl (vk_str _) ?_
  wtm_at "wp"
  refine call_append e3 hlog ?_
  wtm_at "wp"
  exact q
theorem w_value_name {key : Str} (H : HostAt σ d av ar al vals log st lim) (q : Q ((getK vals key).getD (.str "")) σ) : Con 1 (.ref 502) [.inst 519 d, .tup [.str "name", .str key]] σ Q := by
  have co := (C_PlainHost).1
  refine con_fn (F_PlainHost_value_of) rfl fun L => ?_
  wtm_at "w_in"
  wtm_at "wp"
  refine ex_meth ?_
  wtm_at "wp"
  refine op_attr co (L_PlainHost_values) H.h (v := .dct av) rfl (by intro _ h; cases h) ?_
  refine ⟨_, gm_dict PySem.F.slot_dict_get PySem.F.type_dict_get H.v, keeps_builtin, ?_⟩
  wtm_at "wp"
  refine call_dict_get H.v ?_
  exact q
theorem w_is_fail_str {x : Str} (q : Q (.bool false) σ) : Con 1 (.ref 121) [.str x] σ Q := by
  refine con_fn (F_is_fail) rfl fun L => ?_
  wtm_at "w_in"
  wtm_at "wp"
  refine call_b ?_
  wtm_at "wp"
  refine nm_glob rfl ?_
  wtm_at "wp"
  exact isi_str_cls (C_Failure).2.2.2 q
theorem w_to_text_str {x : Str} (q : Q (.str x) σ) : Con 1 (.ref 156) [.str x] σ Q := by
  refine con_fn (F_to_text) rfl fun L => ?_
  wtm_at "w_in"
  wtm_at "wp"
  refine test_value ?_
  refine call_b ?_
  wtm_at "wp"
  refine nm_type rfl rfl ?_
  wtm_at "wp"
  refine isi_str_str ?_
  wtm_at "wp"
  exact q
theorem w_pattern_str {x : Str} (q : Q (.tup [.str "chars", .str x]) σ) : Con 2 (.ref 187) [.str x] σ Q := by
  refine con_fn (F_pattern_of) rfl fun L => ?_
  wtm_at "w_in"
  wtm_at "wp"
  refine test_value ?_
  refine call_b ?_
  wtm_at "wp"
  refine nm_glob rfl ?_
  wtm_at "wp"
  refine isi_str_cls (C_Pattern).2.2.2 ?_
  wtm_at "wp"
  refine test_value ?_
  refine call_b ?_
  wtm_at "wp"
  refine nm_glob rfl ?_
  wtm_at "wp"
  refine isi_str_cls (C_Delayed).2.2.2 ?_
  wtm_at "wp"
  (refine st_asn ?_ rfl rfl)
  refine call_g ?_
  wtm_at "wp"
  refine Con.call ((w_to_text_str ?_).less (by decide))
  wtm_at "wp"
  refine is_none ?_
  wtm_at "wp"
  wtm_at "wp"
  exact q
end
end
section
open PySem PySem.W PyProof.Rows PySem.Calls
section
variable {n : Nat} {σ : AH} {Q : V → AH → Prop} {a b rest named : V} {at' : Int} {pile : Addr} {l : List V}
theorem w_led_cat (q : Q (.tup [.tup [a, .tup [b, rest]], .int at', named]) σ) : Con 1 (.ref 362) [.tup [.str "cat", a, b], rest, .int at', named, .lst pile] σ Q := by
  refine con_fn (F_led_in) rfl fun L => ?_
  wtm_at "w_in"
  (refine ss_cons (st_asn ?_ rfl rfl))
  wtm_at "wp"
  exact q
theorem w_led_alt (hp : σ pile = some (.list l)) (hl : l.length ≤ 1000000) (q : Q (.tup [.tup [a, rest], .int at', named]) (σ.put pile (.list (l ++ [.tup [.tup [b, rest], .int at', named]])))) : Con 1 (.ref 362) [.tup [.str "alt", a, b], rest, .int at', named, .lst pile] σ Q := by
  refine con_fn (F_led_in) rfl fun L => ?_
  wtm_at "w_in"
  (refine ss_cons (st_asn ?_ rfl rfl))
  wtm_at "wp"
  refine ex_meth ?_
  wtm_at "wp"
  refine ⟨_, gm_list PySem.F.slot_list_append PySem.F.type_list_append hp, keeps_builtin, ?_⟩
  wtm_at "wp"
  refine call_append hp hl ?_
  wtm_at "wp"
  exact q
theorem w_led_arbno (hp : σ pile = some (.list l)) (hl : l.length ≤ 1000000) (q : Q (.tup [rest, .int at', named]) (σ.put pile (.list (l ++ [.tup [.tup [a, .tup [.tup [.str "end round", .tup [.str "arbno", a], .int at'], rest]], .int at', named]])))) : Con 1 (.ref 362) [.tup [.str "arbno", a], rest, .int at', named, .lst pile] σ Q := by
  refine con_fn (F_led_in) rfl fun L => ?_
  wtm_at "w_in"
  (refine ss_cons (st_asn ?_ rfl rfl))
  wtm_at "wp"
  refine ex_meth ?_
  wtm_at "wp"
  refine ⟨_, gm_list PySem.F.slot_list_append PySem.F.type_list_append hp, keeps_builtin, ?_⟩
  wtm_at "wp"
  refine call_append hp hl ?_
  wtm_at "wp"
  exact q
theorem w_led_name {k : Str} (hk : k = "later" ∨ k = "now") (q : Q (.tup [.tup [a, .tup [.tup [.str ("end " ++ k), b, .int at'], rest]], .int at', named]) σ) : Con 1 (.ref 362) [.tup [.str k, a, b], rest, .int at', named, .lst pile] σ Q := by
  refine con_fn (F_led_in) rfl fun L => ?_
  rcases hk with rfl | rfl
  · wtm_at "w_in"
    (refine ss_cons (st_asn ?_ rfl rfl))
    wtm_at "wp"
    refine op_add_str (by decide) ?_
    wtm_at "wp"
    exact q
  · wtm_at "w_in"
    (refine ss_cons (st_asn ?_ rfl rfl))
    wtm_at "wp"
    refine op_add_str (by decide) ?_
    wtm_at "wp"
    exact q
variable {s : Str} {b0 : Int} {ns : List V} {hd : V}
theorem w_out_later (hs : s.length ≤ 1000) (hn : ns.length ≤ 100000) (q : Q (.tup [rest, .int at', .tup (ns ++ [.tup [a, .str (Txt.slice s (some b0) (some at'))]])]) σ) : Con 1 (.ref 369) [.tup [.str "end later", a, .int b0], rest, .int at', .tup ns, .str s, .lst pile, hd] σ Q := by
  refine con_fn (F_led_out) rfl fun L => ?_
  wtm_at "w_in"
  (refine ss_cons (st_assign ?_))
  wtm_at "wp"
  refine sl_str (by rw [sizeLine_eq]; exact lin1 (.l (.v 0) (.k 1000) (.g (.v 0) (.k 16777216))) rfl hs) ?_
  wtm_at "wp"
  refine op_add_tup (by exact lin1 (.l (.v 0) (.k 100000) (.g (.v 0) (.k 100000))) rfl hn) (by simp) ?_
  wtm_at "wp"
  exact q
set_option tactic.hygienic true
theorem w_out_round (q : Q (if at' = b0 then .none else .tup [.tup [a, rest], .int at', named]) σ) : Con 1 (.ref 369) [.tup [.str "end round", a, .int b0], rest, .int at', named, .str s, .lst pile, hd] σ Q := by
  refine con_fn (F_led_out) rfl fun L => ?_
  wtm_at "w_in"
  (refine ss_cons (st_assign ?_))
  wtm_at "wp"
  wtm_at "w_sp" <;> rename_i h <;> simp only [beq_iff_eq] at h
  · rw [if_pos h] at q; wtm_at "wp"; exact q
  · rw [if_neg h] at q; wtm_at "wp"; exact q
set_option tactic.hygienic false
theorem w_out_now {d av ar al rd : Addr} {key : Str} {vals : List (Str × V)} {log : List V} {st lim : Int} (hs : s.length ≤ 1000) (H : HostAt σ d av ar al vals log st lim) (hr : σ rd = some (.dict (refD key))) (hv : vals.length ≤ 1000) (hlog : log.length ≤ 1000000) (hne : al ≠ av) (had : d ≠ av) (hra : rd ≠ av)
    (q : Q (.tup [rest, .int at', named]) ((σ.put av (.dict (setK vals key (.str (Txt.slice s (some b0) (some at')))))).put al (.list (log ++ [.tup [.str key, .str (Txt.slice s (some b0) (some at'))]])))) :
    Con 2 (.ref 369) [.tup [.str "end now", .inst 110 rd, .int b0], rest, .int at', named, .str s, .lst pile, .inst 519 d] σ Q := by
  have co := (C_PlainHost).1
  refine con_fn (F_led_out) rfl fun L => ?_
  wtm_at "w_in"
  (refine ss_cons (st_assign ?_))
  wtm_at "wp"
  refine test_value ?_
  refine ex_meth ?_
  wtm_at "wp"
  refine ⟨_, gm_inst co (L_PlainHost_assign) (M_PlainHost_assign).1 H.h rfl, (M_PlainHost_assign).2, ?_⟩
  wtm_at "wp"
  refine sl_str (by rw [sizeLine_eq]; exact lin1 (.l (.v 0) (.k 1000) (.g (.v 0) (.k 16777216))) rfl hs) ?_
  wtm_at "wp"
  refine Con.call (w_host_assign H hr hv hlog hne ?_ had hra)
  wtm_at "wp"
  exact q
end
end
section
open PySem PySem.W PyProof.Rows PySem.Calls
section
variable {n : Nat} {σ : AH} {Q : V → AH → Prop} {a b rest named host : V} {at' : Nat} {pile : Addr} {l : List V} {s : Str}
theorem w_is_delayed {p : Pl} (q : Q (.bool false) σ) : Con 1 (.ref 194) [p.told] σ Q := by
  refine con_fn (F_is_delayed) rfl fun L => ?_
  wtm_at "w_in"
  wtm_at "wp"
  refine call_b ?_
  wtm_at "wp"
  refine nm_type rfl rfl ?_
  wtm_at "wp"
  cases p <;> first | exact isi_str_tup q | exact isi_int_tup q
set_option tactic.hygienic true
theorem w_settled {p : Pl} (q : Q (.tup [.str p.kind, p.told]) σ) : Con 2 (.ref 201) [.tup [.str p.kind, p.told], host] σ Q := by
  refine con_fn (F_settled) rfl fun L => ?_
  wtm_at "w_in"
  wtm_at "wp"
  refine nm_val (tup_rep (by decide +kernel) (o164 w)) ?_
  refine cmp_notin_tup ?_
  wtm_at "wp"
  have key : ∀ (p : Pl), (!((tCOUNTED.map (·.1)).contains p.kind)) = true ∧ True ∨ (!((tCOUNTED.map (·.1)).contains p.kind)) = false := fun p => by cases p <;> (dsimp only [Pl.kind]; decide)
  have fin : ∀ (ρ' : Loc), at_ ρ' "node" = some (.tup [.str p.kind, p.told]) → Stms 1 (envOf "settled" (sScope (stm 21)) 0 201 (.ref 200)) [] ρ' σ (fun fl _ σ' => True) → True := fun _ _ _ => trivial
  wtm_at "w_sp" <;> rename_i h1
  · wtm_at "wp"
    refine nm_val (tup_rep (by decide +kernel) (o165 w)) ?_
    refine cmp_notin_tup ?_
    wtm_at "wp"
    wtm_at "w_sp" <;> rename_i h2
    · wtm_at "wp"
      exact q
    · wtm_at "wp"
      refine test_value ?_
      refine call_g ?_
      wtm_at "wp"
      refine Con.call (w_is_delayed ?_)
      wtm_at "wp"
      exact q
  · wtm_at "wp"
    refine test_value ?_
    refine call_g ?_
    wtm_at "wp"
    refine Con.call (w_is_delayed ?_)
    wtm_at "wp"
    exact q
set_option tactic.hygienic false
theorem w_settled_rem (q : Q (.tup [.str "rem"]) σ) : Con 2 (.ref 201) [.tup [.str "rem"], host] σ Q := by
  refine con_fn (F_settled) rfl fun L => ?_
  wtm_at "w_in"
  wtm_at "wp"
  refine nm_val (tup_rep (by decide +kernel) (o164 w)) ?_
  refine cmp_notin_tup ?_
  wtm_at "wp"
  refine nm_val (tup_rep (by decide +kernel) (o165 w)) ?_
  refine cmp_notin_tup ?_
  wtm_at "wp"
  exact q
set_option tactic.hygienic true
theorem w_taken_arb {ll : List V} (hp : σ pile = some (.list ll)) (hl : ll.length ≤ 1000000) (hs : s.length ≤ 1000)
    (q : Q (.tup [rest, .int at', named]) (if (at' : Int) < s.length then σ.put pile (.list (ll ++ [.tup [.tup [.tup [.str "arb"], rest], .int ((at' : Int) + 1), named]])) else σ)) :
    Con 1 (.ref 383) [.tup [.str "arb"], rest, .int at', named, .str s, .lst pile, host] σ Q := by
  refine con_fn (F_taken) rfl fun L => ?_
  wtm_at "w_in"
  (refine ss_cons (st_asn ?_ rfl rfl))
  wtm_at "wp"
  refine call_b ?_
  wtm_at "wp"
  refine call_len_str (by exact lin1 (.l (.v 0) (.k 1000) (.g (.v 0) (.k 1000000))) rfl hs) ?_
  wtm_at "wp"
  wtm_at "w_sp" <;> rename_i h1 <;> simp only [decide_eq_true_eq] at h1
  · rw [if_pos h1] at q
    wtm_at "wp"
    refine ex_meth ?_
    wtm_at "wp"
    refine ⟨_, gm_list PySem.F.slot_list_append PySem.F.type_list_append hp, keeps_builtin, ?_⟩
    wtm_at "wp"
    refine call_append hp hl ?_
    wtm_at "wp"
    exact q
  · rw [if_neg h1] at q
    wtm_at "wp"
    exact q
set_option tactic.hygienic false
theorem w_taken_plain {p : Pl} (hs : s.length ≤ 1000) (hp : p.fits) (q : Q (match p.ends s at' with | none => .none | some e => .tup [rest, .int e, named]) σ) :
    Con 5 (.ref 383) [.tup [.str p.kind, p.told], rest, .int at', named, .str s, .lst pile, host] σ Q := by
  refine con_fn (F_taken) rfl fun L => ?_
  wtm_at "w_in"
  (refine ss_cons (st_asn ?_ rfl rfl))
  wtm_at "wp"
  have h1 : (p.kind == ("arb" : Str)) = false := by cases p <;> (dsimp only [Pl.kind]; decide)
  have h2 : (p.kind == ("bal" : Str)) = false := by cases p <;> (dsimp only [Pl.kind]; decide)
  try refine ite_ff h1 ?_
  wtm_at "wp"
  try refine ite_ff h2 ?_
  wtm_at "wp"
  (refine st_asn ?_ rfl rfl)
  refine call_g ?_
  wtm_at "wp"
  refine Con.call ((w_settled ?_).less (by decide))
  wtm_at "wp"
  refine is_none ?_
  wtm_at "wp"
  (refine st_asn ?_ rfl rfl)
  refine call_g ?_
  wtm_at "wp"
  refine Con.call (w_plain_end hs hp ?_)
  wtm_at "wp"
  cases he : p.ends s at' with
  | none => rw [he] at q; wtm_at "wp"; refine is_none ?_; wtm_at "wp"; exact q
  | some e => rw [he] at q; wtm_at "wp"; refine is_none ?_; wtm_at "wp"; (try refine ite_ff rfl ?_); wtm_at "wp"; exact q
theorem w_taken_rem (hs : s.length ≤ 1000) (q : Q (.tup [rest, .int s.length, named]) σ) :
    Con 5 (.ref 383) [.tup [.str "rem"], rest, .int at', named, .str s, .lst pile, host] σ Q := by
  refine con_fn (F_taken) rfl fun L => ?_
  wtm_at "w_in"
  (refine ss_cons (st_asn ?_ rfl rfl))
  wtm_at "wp"
  (refine st_asn ?_ rfl rfl)
  refine call_g ?_
  wtm_at "wp"
  refine Con.call ((w_settled_rem ?_).less (by decide))
  wtm_at "wp"
  refine is_none ?_
  wtm_at "wp"
  (refine st_asn ?_ rfl rfl)
  refine call_g ?_
  wtm_at "wp"
  refine Con.call (w_plain_rem hs ?_)
  wtm_at "wp"
  refine is_none ?_
  wtm_at "wp"
  exact q
end
end
section
open PySem PySem.W PyProof.Rows PySem.Calls
noncomputable def ledKinds : List Str := ["cat", "alt", "arbno", "later", "now"]
noncomputable def steerKinds : List Str := ["fence", "abort", "fail", "succeed"]
section
variable {n : Nat} {σ : AH} {Q : V → AH → Prop} {rest named host : V} {at' : Int} {pile : Addr} {l more : List V} {s kind : Str}
theorem w_adv_led (hk : ledKinds.contains kind = true) (h : Con n (.ref 362) [.tup (.str kind :: more), rest, .int at', named, .lst pile] σ Q) :
    Con (n + 1) (.ref 355) [.tup [.tup (.str kind :: more), rest], .int at', named, .str s, .lst pile, host] σ Q := by
  refine con_fn (F_advanced) rfl fun L => ?_
  wtm_at "w_in"
  (refine ss_cons (st_assign ?_))
  wtm_at "wp"
  (refine st_asn ?_ rfl rfl)
  wtm_at "wp"
  refine cmp_in_tup (l := ledKinds) ?_
  wtm_at "wp"
  try refine ite_tt hk ?_
  wtm_at "wp"
  refine call_g ?_
  wtm_at "wp"
  exact Con.call h
theorem w_adv_out (hs : kind.length ≤ 1000) (hk : ledKinds.contains kind = false) (he : (Txt.slice kind none (some 4) == ("end " : Str)) = true) (h : Con n (.ref 369) [.tup (.str kind :: more), rest, .int at', named, .str s, .lst pile, host] σ Q) :
    Con (n + 1) (.ref 355) [.tup [.tup (.str kind :: more), rest], .int at', named, .str s, .lst pile, host] σ Q := by
  refine con_fn (F_advanced) rfl fun L => ?_
  wtm_at "w_in"
  (refine ss_cons (st_assign ?_))
  wtm_at "wp"
  (refine st_asn ?_ rfl rfl)
  wtm_at "wp"
  refine cmp_in_tup (l := ledKinds) ?_
  wtm_at "wp"
  try refine ite_ff hk ?_
  wtm_at "wp"
  refine sl_str (by rw [sizeLine_eq]; exact lin1 (.l (.v 0) (.k 1000) (.g (.v 0) (.k 16777216))) rfl hs) ?_
  wtm_at "wp"
  try refine ite_tt he ?_
  wtm_at "wp"
  refine call_g ?_
  wtm_at "wp"
  exact Con.call h
theorem w_adv_taken (hs : kind.length ≤ 1000) (hk : ledKinds.contains kind = false) (he : (Txt.slice kind none (some 4) == ("end " : Str)) = false) (h1 : (kind == ("cursor" : Str)) = false) (h2 : (kind == ("delay" : Str)) = false) (h3 : steerKinds.contains kind = false)
    (h : Con n (.ref 383) [.tup (.str kind :: more), rest, .int at', named, .str s, .lst pile, host] σ Q) :
    Con (n + 1) (.ref 355) [.tup [.tup (.str kind :: more), rest], .int at', named, .str s, .lst pile, host] σ Q := by
  refine con_fn (F_advanced) rfl fun L => ?_
  wtm_at "w_in"
  (refine ss_cons (st_assign ?_))
  wtm_at "wp"
  (refine st_asn ?_ rfl rfl)
  wtm_at "wp"
  refine cmp_in_tup (l := ledKinds) ?_
  wtm_at "wp"
  try refine ite_ff hk ?_
  wtm_at "wp"
  refine sl_str (by rw [sizeLine_eq]; exact lin1 (.l (.v 0) (.k 1000) (.g (.v 0) (.k 16777216))) rfl hs) ?_
  wtm_at "wp"
  try refine ite_ff he ?_
  wtm_at "wp"
  try refine ite_ff h1 ?_
  wtm_at "wp"
  try refine ite_ff h2 ?_
  wtm_at "wp"
  refine cmp_in_tup (l := steerKinds) ?_
  wtm_at "wp"
  try refine ite_ff h3 ?_
  wtm_at "wp"
  refine call_g ?_
  wtm_at "wp"
  exact Con.call h
variable {d av ar al rd : Addr} {key x : Str} {vals : List (Str × V)} {log : List V} {st lim : Int}
theorem w_adv_cursor (H : HostAt σ d av ar al vals log st lim) (hr : σ rd = some (.dict (refD key))) (hv : vals.length ≤ 1000) (hlog : log.length ≤ 1000000) (hne : al ≠ av) (had : d ≠ av) (hra : rd ≠ av)
    (q : Q (.tup [rest, .int at', named]) ((σ.put av (.dict (setK vals key (.int at')))).put al (.list (log ++ [.tup [.str key, .int at']])))) :
    Con 2 (.ref 355) [.tup [.tup [.str "cursor", .inst 110 rd], rest], .int at', named, .str s, .lst pile, .inst 519 d] σ Q := by
  have co := (C_PlainHost).1
  refine con_fn (F_advanced) rfl fun L => ?_
  wtm_at "w_in"
  (refine ss_cons (st_assign ?_))
  wtm_at "wp"
  (refine st_asn ?_ rfl rfl)
  wtm_at "wp"
  refine cmp_in_tup (l := ledKinds) ?_
  wtm_at "wp"
  refine sl_str (by rw [sizeLine_eq]; decide) ?_
  wtm_at "wp"
  refine test_value ?_
  refine ex_meth ?_
  wtm_at "wp"
  refine ⟨_, gm_inst co (L_PlainHost_assign) (M_PlainHost_assign).1 H.h rfl, (M_PlainHost_assign).2, ?_⟩
  wtm_at "wp"
  refine Con.call (w_host_assign H hr hv hlog hne ?_ had hra)
  wtm_at "wp"
  exact q
theorem w_adv_delay (H : HostAt σ d av ar al vals log st lim) (hx : (getK vals key).getD (.str "") = .str x) (q : Q (.tup [.tup [.tup [.str "chars", .str x], rest], .int at', named]) σ) :
    Con 3 (.ref 355) [.tup [.tup [.str "delay", .tup [.str "name", .str key]], rest], .int at', named, .str s, .lst pile, .inst 519 d] σ Q := by
  have co := (C_PlainHost).1
  refine con_fn (F_advanced) rfl fun L => ?_
  wtm_at "w_in"
  (refine ss_cons (st_assign ?_))
  wtm_at "wp"
  (refine st_asn ?_ rfl rfl)
  wtm_at "wp"
  refine cmp_in_tup (l := ledKinds) ?_
  wtm_at "wp"
  refine sl_str (by rw [sizeLine_eq]; decide) ?_
  wtm_at "wp"
  (refine st_asn ?_ rfl rfl)
  refine ex_meth ?_
  wtm_at "wp"
  refine ⟨_, gm_inst co (L_PlainHost_value_of) (M_PlainHost_value_of).1 H.h rfl, (M_PlainHost_value_of).2, ?_⟩
  wtm_at "wp"
  refine Con.call ((w_value_name H ?_).less (by decide))
  rw [hx]
  wtm_at "wp"
  refine test_value ?_
  refine call_g ?_
  wtm_at "wp"
  refine Con.call ((w_is_fail_str ?_).less (by decide))
  wtm_at "wp"
  refine call_g ?_
  wtm_at "wp"
  refine Con.call ((w_pattern_str ?_).less (by decide))
  wtm_at "wp"
  exact q
end
end
section
open PySem PySem.W PyProof.Rows PySem.Calls
abbrev Ref := Addr × Str
inductive Nd where
  | pl (p : Pl) | rem | arb | delay (key : Str) | cursor (r : Ref) | cat (a b : Nd) | alt (a b : Nd) | arbno (a : Nd) | nm (now : Bool) (a : Nd) (r : Ref)
inductive It where
  | nd (n : Nd) | round (a : Nd) (b : Nat) | fin (now : Bool) (r : Ref) (b : Nat)
noncomputable def refV (r : Ref) : V := .inst 110 r.1
noncomputable def Nd.v : Nd → V
  | .pl p => .tup [.str p.kind, p.told]
  | .rem => .tup [.str "rem"]
  | .arb => .tup [.str "arb"]
  | .delay k => .tup [.str "delay", .tup [.str "name", .str k]]
  | .cursor r => .tup [.str "cursor", refV r]
  | .cat a b => .tup [.str "cat", a.v, b.v]
  | .alt a b => .tup [.str "alt", a.v, b.v]
  | .arbno a => .tup [.str "arbno", a.v]
  | .nm true a r => .tup [.str "now", a.v, refV r]
  | .nm false a r => .tup [.str "later", a.v, refV r]
noncomputable def It.v : It → V
  | .nd n => n.v
  | .round a b => .tup [.str "end round", .tup [.str "arbno", a.v], .int b]
  | .fin true r b => .tup [.str "end now", refV r, .int b]
  | .fin false r b => .tup [.str "end later", refV r, .int b]
noncomputable def chainV : List It → V
  | [] => .none
  | i :: r => .tup [i.v, chainV r]
abbrev Named := List (Ref × Str)
noncomputable def namedV (l : Named) : V := .tup (l.map fun p => .tup [refV p.1, .str p.2])
structure TWay where
  chain : List It
  at_ : Nat
  named : Named
noncomputable def TWay.v (w : TWay) : V := .tup [chainV w.chain, .int w.at_, namedV w.named]
structure HS where
  vals : List (Str × V)
  log : List V
  steps : Int
noncomputable def HS.set (h : HS) (k : Str) (v : V) : HS := { h with vals := setK h.vals k v, log := h.log ++ [.tup [.str k, v]] }
noncomputable def HS.textOf (h : HS) (k : Str) : Str := match (getK h.vals k).getD (.str "") with | .str x => x | _ => ""
noncomputable def adv (s : Str) (i : It) (r : List It) (a : Nat) (n : Named) (p : List TWay) (h : HS) : Option TWay × List TWay × HS := match i with
  | .nd (.cat x y) => (some ⟨.nd x :: .nd y :: r, a, n⟩, p, h)
  | .nd (.alt x y) => (some ⟨.nd x :: r, a, n⟩, p ++ [⟨.nd y :: r, a, n⟩], h)
  | .nd (.arbno x) => (some ⟨r, a, n⟩, p ++ [⟨.nd x :: .round x a :: r, a, n⟩], h)
  | .nd (.nm b x k) => (some ⟨.nd x :: .fin b k a :: r, a, n⟩, p, h)
  | .round x b => (if a = b then none else some ⟨.nd (.arbno x) :: r, a, n⟩, p, h)
  | .fin true k b => (some ⟨r, a, n⟩, p, h.set k.2 (.str (Txt.slice s (some b) (some a))))
  | .fin false k b => (some ⟨r, a, n ++ [(k, Txt.slice s (some b) (some a))]⟩, p, h)
  | .nd (.cursor k) => (some ⟨r, a, n⟩, p, h.set k.2 (.int a))
  | .nd (.delay k) => (some ⟨.nd (.pl (.chars (h.textOf k))) :: r, a, n⟩, p, h)
  | .nd .arb => (some ⟨r, a, n⟩, (if a < s.length then p ++ [⟨.nd .arb :: r, a + 1, n⟩] else p), h)
  | .nd .rem => (some ⟨r, s.length, n⟩, p, h)
  | .nd (.pl q) => (match q.ends s a with | some e => some ⟨r, e.toNat, n⟩ | none => none, p, h)
end
section
open PySem PySem.W PyProof.Rows PySem.Calls
structure TSt (σ0 σ : AH) (d av ar al pile : Addr) (refs : List Ref) (lim : Int) (h : HS) (p : List TWay) : Prop where
  host : HostAt σ d av ar al h.vals h.log h.steps lim
  pl : σ pile = some (.list (p.map TWay.v))
  rf : ∀ r ∈ refs, σ r.1 = some (.dict (refD r.2))
  apart : [d, av, ar, al, pile].Nodup
  away : ∀ r ∈ refs, r.1 ∉ [d, av, ar, al, pile]
  rest : ∀ b o, σ0 b = some o → b ∉ [d, av, ar, al, pile] → σ b = some o
section
variable {σ0 σ : AH} {d av ar al pile : Addr} {refs : List Ref} {lim : Int} {h : HS} {p : List TWay}
theorem TSt.ne (T : TSt σ0 σ d av ar al pile refs lim h p) : AN10 (d ≠ av) (d ≠ ar) (d ≠ al) (d ≠ pile) (av ≠ ar) (av ≠ al) (av ≠ pile) (ar ≠ al) (ar ≠ pile) (al ≠ pile) := by
  have := T.apart
  simp only [List.nodup_cons, List.mem_cons, List.not_mem_nil, or_false, not_or, List.nodup_nil, and_true, not_false_eq_true] at this
  obtain ⟨⟨a, b, c, e⟩, ⟨f, g, i⟩, ⟨j, k⟩, l⟩ := this
  exact ⟨a, b, c, e, f, g, i, j, k, l⟩
theorem TSt.setPile (T : TSt σ0 σ d av ar al pile refs lim h p) (p' : List TWay) : TSt σ0 (σ.put pile (.list (p'.map TWay.v))) d av ar al pile refs lim h p' := by
  obtain ⟨n1, n2, n3, n4, n5, n6, n7, n8, n9, n10⟩ := T.ne
  refine ⟨⟨?_, ?_, ?_, ?_⟩, AH.put_self _ _ _, fun r hr => ?_, T.apart, T.away, fun b o e n => ?_⟩
  · rw [AH.put_ne _ _ n4]; exact T.host.h
  · rw [AH.put_ne _ _ n7]; exact T.host.v
  · rw [AH.put_ne _ _ n9]; exact T.host.r
  · rw [AH.put_ne _ _ n10]; exact T.host.l
  · rw [AH.put_ne _ _ (fun e => T.away r hr (by rw [e]; simp))]; exact T.rf r hr
  · rw [AH.put_ne _ _ (fun z => n (by rw [z]; simp))]; exact T.rest b o e n
theorem TSt.assign (T : TSt σ0 σ d av ar al pile refs lim h p) (k : Str) (v : V) : TSt σ0 ((σ.put av (.dict (setK h.vals k v))).put al (.list (h.log ++ [.tup [.str k, v]]))) d av ar al pile refs lim (h.set k v) p := by
  obtain ⟨n1, n2, n3, n4, n5, n6, n7, n8, n9, n10⟩ := T.ne
  refine ⟨⟨?_, ?_, ?_, ?_⟩, ?_, fun r hr => ?_, T.apart, T.away, fun b o e n => ?_⟩
  · rw [AH.put_ne _ _ n3, AH.put_ne _ _ n1]; exact T.host.h
  · rw [AH.put_ne _ _ n6]; exact AH.put_self _ _ _
  · rw [AH.put_ne _ _ n8, AH.put_ne _ _ (Ne.symm n5)]; exact T.host.r
  · exact AH.put_self _ _ _
  · rw [AH.put_ne _ _ (Ne.symm n10), AH.put_ne _ _ (Ne.symm n7)]; exact T.pl
  · rw [AH.put_ne _ _ (fun e => T.away r hr (by rw [e]; simp)), AH.put_ne _ _ (fun e => T.away r hr (by rw [e]; simp))]; exact T.rf r hr
  · rw [AH.put_ne _ _ (fun z => n (by rw [z]; simp)), AH.put_ne _ _ (fun z => n (by rw [z]; simp))]; exact T.rest b o e n
theorem TSt.step (T : TSt σ0 σ d av ar al pile refs lim h p) : TSt σ0 (σ.put d (.dict (hostD av ar al (h.steps + 1) lim))) d av ar al pile refs lim { h with steps := h.steps + 1 } p := by
  obtain ⟨n1, n2, n3, n4, n5, n6, n7, n8, n9, n10⟩ := T.ne
  refine ⟨⟨AH.put_self _ _ _, ?_, ?_, ?_⟩, ?_, fun r hr => ?_, T.apart, T.away, fun b o e n => ?_⟩
  · rw [AH.put_ne _ _ (Ne.symm n1)]; exact T.host.v
  · rw [AH.put_ne _ _ (Ne.symm n2)]; exact T.host.r
  · rw [AH.put_ne _ _ (Ne.symm n3)]; exact T.host.l
  · rw [AH.put_ne _ _ (Ne.symm n4)]; exact T.pl
  · rw [AH.put_ne _ _ (fun e => T.away r hr (by rw [e]; simp))]; exact T.rf r hr
  · rw [AH.put_ne _ _ (fun z => n (by rw [z]; simp))]; exact T.rest b o e n
set_option tactic.hygienic true
theorem ends_pos {p : Pl} {s : Str} {a : Nat} {e : Int} (hf : p.fits) (h : p.ends s a = some e) : 0 ≤ e := by
  cases p <;> simp only [Pl.ends] at h
  · unfold charsEnd at h; split at h <;> cases h; lia
  · unfold lenEnd at h; split at h <;> cases h
    have : (0 : Int) ≤ _ := hf
    lia
  · unfold posEnd at h; split at h <;> cases h; lia
  · unfold rposEnd at h; split at h <;> cases h; lia
  · unfold tabEnd at h; split at h <;> cases h; rename_i q; lia
  · unfold rtabEnd at h; split at h <;> cases h; lia
  · unfold anyAt at h; split at h <;> cases h; lia
  · unfold spanEnd at h; split at h <;> cases h; lia
  · unfold breakEnd at h; split at h <;> cases h; lia
set_option tactic.hygienic false
noncomputable def It.ok (refs : List Ref) (h : HS) : It → Prop
  | .nd (.pl p) => p.fits
  | .nd (.delay k) => (getK h.vals k).getD (.str "") = .str (h.textOf k)
  | .nd (.cursor r) => r ∈ refs
  | .fin true r _ => r ∈ refs
  | _ => True
noncomputable def wayV : Option TWay → V
  | some w => w.v
  | none => .none
variable {s : Str} {i : It} {r : List It} {a : Nat} {n : Named}
theorem w_adv (T : TSt σ0 σ d av ar al pile refs lim h p) (hi : i.ok refs h) (hs : s.length ≤ 1000) (hv : h.vals.length ≤ 1000) (hlog : h.log.length ≤ 1000000) (hp : p.length ≤ 1000000) (hn : n.length ≤ 100000) :
    Con 6 (.ref 355) [.tup [i.v, chainV r], .int a, namedV n, .str s, .lst pile, .inst 519 d] σ (fun v σ' => v = wayV (adv s i r a n p h).1 ∧ TSt σ0 σ' d av ar al pile refs lim (adv s i r a n p h).2.2 (adv s i r a n p h).2.1) := by
  obtain ⟨n1, n2, n3, n4, n5, n6, n7, n8, n9, n10⟩ := T.ne
  have hpl : (p.map TWay.v).length ≤ 1000000 := by simpa using hp
  cases i with
  | round x b =>
    refine (w_adv_out (by decide) (by decide) (by decide) (w_out_round ?_)).less (by decide)
    refine ⟨?_, T⟩
    show _ = wayV (if a = b then none else _)
    by_cases e : a = b
    · rw [if_pos e, if_pos (by rw [e])]; rfl
    · rw [if_neg e, if_neg (by lia)]; rfl
  | fin now k b =>
    cases now with
    | false =>
      refine (w_adv_out (by decide) (by decide) (by decide) (w_out_later hs (by simpa using hn) ⟨?_, T⟩)).less (by decide)
      show _ = V.tup [_, _, namedV (n ++ [_])]
      unfold namedV
      rw [List.map_append]; rfl
    | true =>
      have hr : σ k.1 = some (.dict (refD k.2)) := T.rf k hi
      have hra : k.1 ≠ av := fun e => T.away k hi (by rw [e]; simp)
      exact (w_adv_out (by decide) (by decide) (by decide) (w_out_now hs T.host hr hv hlog (Ne.symm n6) n1 hra ⟨rfl, T.assign _ _⟩)).less (by decide)
  | nd m =>
    cases m with
    | cat x y => exact (w_adv_led (by decide) (w_led_cat ⟨rfl, T⟩)).less (by decide)
    | alt x y =>
      refine (w_adv_led (by decide) (w_led_alt T.pl hpl ⟨rfl, ?_⟩)).less (by decide)
      have := T.setPile (p ++ [⟨.nd y :: r, a, n⟩])
      rw [List.map_append] at this
      exact this
    | arbno x =>
      refine (w_adv_led (by decide) (w_led_arbno T.pl hpl ⟨rfl, ?_⟩)).less (by decide)
      have := T.setPile (p ++ [⟨.nd x :: .round x a :: r, a, n⟩])
      rw [List.map_append] at this
      exact this
    | rem =>
      exact (w_adv_taken (by decide) (by decide) (by decide) (by decide) (by decide) (by decide) (w_taken_rem hs ⟨rfl, T⟩)).less (by decide)
    | nm now x k =>
      cases now with
      | false => exact (w_adv_led (by decide) (w_led_name (.inl rfl) ⟨rfl, T⟩)).less (by decide)
      | true => exact (w_adv_led (by decide) (w_led_name (.inr rfl) ⟨rfl, T⟩)).less (by decide)
    | cursor k =>
      have hr : σ k.1 = some (.dict (refD k.2)) := T.rf k hi
      have hra : k.1 ≠ av := fun e => T.away k hi (by rw [e]; simp)
      exact (w_adv_cursor T.host hr hv hlog (Ne.symm n6) n1 hra ⟨rfl, T.assign _ _⟩).less (by decide)
    | delay k => exact (w_adv_delay T.host hi ⟨rfl, T⟩).less (by decide)
    | arb =>
      refine (w_adv_taken (by decide) (by decide) (by decide) (by decide) (by decide) (by decide) (w_taken_arb T.pl hpl hs ⟨rfl, ?_⟩)).less (by decide)
      show TSt _ _ d av ar al pile refs lim h (if a < s.length then _ else _)
      by_cases e : a < s.length
      · rw [if_pos e, if_pos (by lia)]
        have := T.setPile (p ++ [⟨.nd .arb :: r, a + 1, n⟩])
        rw [List.map_append] at this
        exact this
      · rw [if_neg e, if_neg (by lia)]; exact T
    | pl q =>
      have k1 : ledKinds.contains q.kind = false := by cases q <;> (dsimp only [Pl.kind]; decide)
      have k2 : (Txt.slice q.kind none (some 4) == ("end " : Str)) = false := by cases q <;> (dsimp only [Pl.kind]; decide)
      have k3 : (q.kind == ("cursor" : Str)) = false := by cases q <;> (dsimp only [Pl.kind]; decide)
      have k4 : (q.kind == ("delay" : Str)) = false := by cases q <;> (dsimp only [Pl.kind]; decide)
      have k5 : steerKinds.contains q.kind = false := by cases q <;> (dsimp only [Pl.kind]; decide)
      have k0 : q.kind.length ≤ 1000 := by cases q <;> (dsimp only [Pl.kind]; decide)
      refine (w_adv_taken k0 k1 k2 k3 k4 k5 (w_taken_plain hs hi ⟨?_, T⟩)).less (by decide)
      show _ = wayV (match q.ends s a with | some e => _ | none => none)
      cases he : q.ends s a with
      | none => rfl
      | some e =>
        have := ends_pos hi he
        show V.tup [_, .int e, _] = V.tup [_, .int ((e.toNat : Nat) : Int), _]
        rw [Int.toNat_of_nonneg this]
end
end
section
open PySem PySem.W PyProof.Rows PySem.Calls
inductive TR (s : Str) (refs : List Ref) (lim : Int) : Nat → Option TWay → List TWay → HS → Option (Nat × Named) × HS → Prop
  | met {k a n p h} (hn : n.length ≤ 100000) : TR s refs lim k (some ⟨[], a, n⟩) p h (some (a, n), h)
  | step {k m i r a n p h R} (hi : i.ok refs { h with steps := h.steps + 1 }) (hv : h.vals.length ≤ 1000) (hl : h.log.length ≤ 1000000) (hp : p.length ≤ 1000000) (hn : n.length ≤ 100000) (hs : h.steps + 1 ≤ lim)
      (t : TR s refs lim m (adv s i r a n p { h with steps := h.steps + 1 }).1 (adv s i r a n p { h with steps := h.steps + 1 }).2.1 (adv s i r a n p { h with steps := h.steps + 1 }).2.2 R) (hm : m < k) : TR s refs lim k (some ⟨i :: r, a, n⟩) p h R
  | pop {k m w p h R} (hp : p.length ≤ 100000) (t : TR s refs lim m (some w) p h R) (hm : m < k) : TR s refs lim k none (p ++ [w]) h R
  | out {k h} : TR s refs lim k none [] h (none, h)
structure Hst (σ : AH) (d av ar al : Addr) (refs : List Ref) (lim : Int) (h : HS) : Prop where
  host : HostAt σ d av ar al h.vals h.log h.steps lim
  rf : ∀ r ∈ refs, σ r.1 = some (.dict (refD r.2))
  apart : [d, av, ar, al].Nodup
  away : ∀ r ∈ refs, r.1 ∉ [d, av, ar, al]
noncomputable def Kept (σ σ' : AH) (D : List Addr) : Prop := ∀ b o, σ b = some o → b ∉ D → σ' b = some o
noncomputable def namedL (n : Named) : List V := n.map fun p => .tup [refV p.1, .str p.2]
noncomputable def foundV (σ0 : AH) (R : Option (Nat × Named)) (v : V) (σ : AH) : Prop := match R with
  | none => v = .none
  | some (a, n) => ∃ b, v = .tup [.int a, .lst b] ∧ σ b = some (.list (namedL n)) ∧ σ0 b = none
inductive HQ (f : V → AH → Prop) (σ : AH) (d av ar al : Addr) (refs : List Ref) (lim : Int) (h : HS) (v : V) (σ' : AH) : Prop
  | mk (hf : f v σ') (H : Hst σ' d av ar al refs lim h) (K : Kept σ σ' [d, av, al])
theorem Hst.fresh {σ : AH} {d av ar al : Addr} {refs : List Ref} {lim : Int} {h : HS} (H : Hst σ d av ar al refs lim h) {a : Addr} (ha : σ a = none) (p : List TWay) : TSt σ (σ.put a (.list (p.map TWay.v))) d av ar al a refs lim h p := by
  have hd := H.host.h; have hv := H.host.v; have hr := H.host.r; have hl := H.host.l
  have n1 : d ≠ a := fun e => by rw [e, ha] at hd; cases hd
  have n2 : av ≠ a := fun e => by rw [e, ha] at hv; cases hv
  have n3 : ar ≠ a := fun e => by rw [e, ha] at hr; cases hr
  have n4 : al ≠ a := fun e => by rw [e, ha] at hl; cases hl
  refine ⟨⟨?_, ?_, ?_, ?_⟩, AH.put_self _ _ _, fun r hr' => ?_, ?_, fun r hr' => ?_, fun b o e n => ?_⟩
  · rw [AH.put_ne _ _ n1]; exact hd
  · rw [AH.put_ne _ _ n2]; exact hv
  · rw [AH.put_ne _ _ n3]; exact hr
  · rw [AH.put_ne _ _ n4]; exact hl
  · have := H.rf r hr'
    rw [AH.put_ne]; exact this
    intro e; rw [e, ha] at this; cases this
  · have := H.apart
    simp only [List.nodup_cons, List.mem_cons, List.not_mem_nil, or_false, not_or, List.nodup_nil, and_true, not_false_eq_true] at this ⊢
    obtain ⟨⟨a1, a2, a3⟩, ⟨a4, a5⟩, a6⟩ := this
    exact ⟨⟨a1, a2, a3, n1⟩, ⟨a4, a5, n2⟩, ⟨a6, n3⟩, n4⟩
  · have h1 := H.away r hr'
    have h2 := H.rf r hr'
    (replace h1 := nin4.mp h1); (refine nin5.mpr ?_)
    exact ⟨h1.1, h1.2.1, h1.2.2.1, h1.2.2.2, fun e => by rw [e, ha] at h2; cases h2⟩
  · rw [AH.put_ne]; exact e
    intro z; rw [z, ha] at e; cases e
theorem TSt.fresh {σ0 σ : AH} {d av ar al pile : Addr} {refs : List Ref} {lim : Int} {h : HS} {p : List TWay} (T : TSt σ0 σ d av ar al pile refs lim h p) {a : Addr} (ha : σ a = none) (o : AO) : TSt σ0 (σ.put a o) d av ar al pile refs lim h p := by
  have hd := T.host.h; have hv := T.host.v; have hr := T.host.r; have hl := T.host.l; have hp := T.pl
  have n1 : d ≠ a := fun e => by rw [e, ha] at hd; cases hd
  have n2 : av ≠ a := fun e => by rw [e, ha] at hv; cases hv
  have n3 : ar ≠ a := fun e => by rw [e, ha] at hr; cases hr
  have n4 : al ≠ a := fun e => by rw [e, ha] at hl; cases hl
  have n5 : pile ≠ a := fun e => by rw [e, ha] at hp; cases hp
  refine ⟨⟨?_, ?_, ?_, ?_⟩, ?_, fun r hr' => ?_, T.apart, T.away, fun b o e n => ?_⟩
  · rw [AH.put_ne _ _ n1]; exact hd
  · rw [AH.put_ne _ _ n2]; exact hv
  · rw [AH.put_ne _ _ n3]; exact hr
  · rw [AH.put_ne _ _ n4]; exact hl
  · rw [AH.put_ne _ _ n5]; exact hp
  · have := T.rf r hr'
    rw [AH.put_ne]; exact this
    intro e; rw [e, ha] at this; cases this
  · have := T.rest b o e n
    rw [AH.put_ne]; exact this
    intro z; rw [z, ha] at this; cases this
theorem TSt.done {σ0 σ : AH} {d av ar al pile : Addr} {refs : List Ref} {lim : Int} {h : HS} {p : List TWay} (T : TSt σ0 σ d av ar al pile refs lim h p) (h0 : σ0 pile = none) (hr0 : σ0 ar = some (.list [])) : Hst σ d av ar al refs lim h ∧ Kept σ0 σ [d, av, al] := by
  obtain ⟨n1, n2, n3, n4, n5, n6, n7, n8, n9, n10⟩ := T.ne
  refine ⟨⟨T.host, T.rf, ?_, fun r hr => ?_⟩, fun b o e n => ?_⟩
  · simp only [List.nodup_cons, List.mem_cons, List.not_mem_nil, or_false, not_or, List.nodup_nil, and_true, not_false_eq_true]
    exact ⟨⟨n1, n2, n3⟩, ⟨n5, n6⟩, n8⟩
  · have h1 := T.away r hr
    (replace h1 := nin5.mp h1); (refine nin4.mpr ?_)
    exact ⟨h1.1, h1.2.1, h1.2.2.1, h1.2.2.2.1⟩
  · (replace n := nin3.mp n)
    by_cases q : b = ar
    · subst q; rw [T.host.r]; rw [hr0] at e; exact e
    · refine T.rest b o e ?_
      (refine nin5.mpr ?_)
      exact ⟨n.1, n.2.1, q, n.2.2, fun z => by rw [z, h0] at e; cases e⟩
section
variable {σ : AH} {d av ar al : Addr} {refs : List Ref} {lim : Int} {h : HS} {s : Str} {begin k : Nat} {R : Option (Nat × Named) × HS} {n : Nd}
set_option tactic.hygienic true
theorem w_tried (H : Hst σ d av ar al refs lim h) (hs : s.length ≤ 1000) (T : TR s refs lim k (some ⟨[.nd n], begin, []⟩) [] h R) :
    Con 7 (.ref 348) [n.v, .str s, .int begin, .inst 519 d] σ (HQ (foundV σ R.1) σ d av ar al refs lim R.2) := by
  have co := (C_PlainHost).1
  refine con_fn (F_tried) rfl fun L => ?_
  wtm_at "w_in"
  (refine ss_cons (st_asn ?_ rfl rfl))
  refine ex_list ?_
  wtm_at "wp"
  intro pile hpile
  wtm_at "wp"
  let I : Nat → Loc → AH → Prop := fun k ρ σ' => EX2 fun p h => AN5 (TSt σ σ' d av ar al pile refs lim h p) (TR s refs lim k none p h R) (at_ ρ "pile" = some (.lst pile)) (at_ ρ "subject" = some (.str s)) (at_ ρ "host" = some (.inst 519 d))
  refine st_while I (k + 1) ?_ ?_
  · refine ⟨[⟨[.nd n], begin, []⟩], h, H.fresh hpile [⟨[.nd n], begin, []⟩], .pop (p := []) (by simp) T (by exact lin1 (.b (.v 0) (.a (.v 0) (.k 1))) rfl), by rfl, by rfl, by rfl⟩
  · rintro k ρ σ' ⟨p, h1, TS, TT, lp, ls, lh⟩
    have hr0 : σ ar = some (.list []) := H.host.r
    cases TT with
    | out =>
      wtm_at "wp"
      refine call_b ?_
      wtm_at "wp"
      refine call_len_lst TS.pl (by simp) ?_
      wtm_at "wp"
      exact ⟨rfl, (TS.done hpile hr0).1, (TS.done hpile hr0).2⟩
    | @pop _ m w p _ _ hp TT hm =>
      have hpl : (p.map TWay.v ++ [V.tup [chainV w.chain, .int w.at_, namedV w.named]]).length ≤ 1000000 := by simp; exact lin1 (.l (.v 0) (.k 100000) (.g (.v 0) (.k 999999))) rfl hp
      have hpl' : (p.map TWay.v).length ≤ 1000000 := by simp; exact lin1 (.l (.v 0) (.k 100000) (.g (.v 0) (.k 1000000))) rfl hp
      have e0 : σ' pile = some (.list (p.map TWay.v ++ [.tup [chainV w.chain, .int w.at_, namedV w.named]])) := by have := TS.pl; rw [List.map_append] at this; exact this
      wtm_at "wp"
      refine call_b ?_
      wtm_at "wp"
      refine call_len_lst e0 hpl ?_
      wtm_at "wp"
      try refine ite_tt (by simp) ?_
      wtm_at "wp"
      (refine st_asn ?_ rfl rfl)
      refine ex_meth ?_
      wtm_at "wp"
      refine ⟨_, gm_list PySem.F.slot_list_pop PySem.F.type_list_pop e0, keeps_builtin, ?_⟩
      wtm_at "wp"
      refine call_pop e0 hpl' ?_
      wtm_at "wp"
      refine is_none ?_
      wtm_at "wp"
      (refine st_assign ?_)
      wtm_at "wp"
      let J : Nat → Loc → AH → Prop := fun k ρ σ' => k ≤ m ∧ ∃ w p h, TSt σ σ' d av ar al pile refs lim h p ∧ TR s refs lim k (some w) p h R ∧ at_ ρ "pile" = some (.lst pile) ∧ at_ ρ "subject" = some (.str s) ∧ at_ ρ "host" = some (.inst 519 d) ∧ at_ ρ "chain" = some (chainV w.chain) ∧ at_ ρ "at" = some (.int w.at_) ∧ at_ ρ "named" = some (namedV w.named)
      refine st_while J m ⟨Nat.le_refl _, w, p, h1, TS.setPile p, TT, ?_, ?_, ?_, ?_, ?_, ?_⟩ ?_
      iterate 6 (focus wtm_at "lk1")
      rintro m1 ρ1 σ1 ⟨hm1, ⟨chain, a, nm⟩, p1, h2, TS1, TT1, l1, l2, l3, l4, l5, l6⟩
      dsimp only at l4 l5 l6
      cases TT1 with
      | met hn =>
        have l4' : at_ ρ1 "chain" = some .none := l4
        have hnl : (nm.map fun p => V.tup [refV p.1, .str p.2]).length ≤ 1000000 := by rw [List.length_map]; exact lin1 (.l (.v 0) (.k 100000) (.g (.v 0) (.k 1000000))) rfl hn
        have l6' : at_ ρ1 "named" = some (.tup (nm.map fun p => .tup [refV p.1, .str p.2])) := l6
        wtm_at "wp"
        refine isnot_none ?_
        wtm_at "wp"
        refine is_none ?_
        wtm_at "wp"
        refine call_t ?_
        wtm_at "wp"
        refine call_list_tup hnl ?_
        intro b hb
        wtm_at "wp"
        have hb0 : σ b = none := by
          by_cases q : b = pile
          · rw [q]; exact hpile
          · cases z : σ b with
            | none => rfl
            | some o =>
              exfalso
              by_cases m : b ∈ [d, av, ar, al, pile]
              · simp only [List.mem_cons, List.not_mem_nil, or_false] at m
                rcases m with m | m | m | m | m
                · rw [m, TS1.host.h] at hb; cases hb
                · rw [m, TS1.host.v] at hb; cases hb
                · rw [m, TS1.host.r] at hb; cases hb
                · rw [m, TS1.host.l] at hb; cases hb
                · exact q m
              · rw [TS1.rest b o z m] at hb; cases hb
        have T2 := (TS1.fresh hb (.list (nm.map fun p => .tup [refV p.1, .str p.2]))).done hpile hr0
        exact ⟨⟨b, rfl, AH.put_self _ _ _, hb0⟩, T2.1, T2.2⟩
      | step hi hv hl hp hn hlim TT2 hm2 =>
        rename_i i r
        have l4' : at_ ρ1 "chain" = some (.tup [i.v, chainV r]) := l4
        wtm_at "wp"
        refine isnot_none ?_
        wtm_at "wp"
        wtm_at "w_t"
        wtm_at "wp"
        refine ex_meth ?_
        wtm_at "wp"
        refine ⟨_, gm_inst co (L_PlainHost_step) (M_PlainHost_step).1 TS1.host.h rfl, (M_PlainHost_step).2, ?_⟩
        wtm_at "wp"
        refine Con.call ((w_host_step TS1.host hlim ?_).less (by decide))
        wtm_at "wp"
        (refine st_asn ?_ rfl rfl)
        refine call_g ?_
        wtm_at "wp"
        refine Con.call (Con.mono (w_adv TS1.step hi hs hv hl hp hn) ?_)
        rintro v σ2 ⟨ev, TS2⟩
        revert TT2 TS2 ev
        generalize adv s i r a nm p1 { h2 with steps := h2.steps + 1 } = A
        obtain ⟨w2, p2, h3⟩ := A
        intro TT2 ev TS2
        dsimp only at TT2 TS2 ev
        cases w2 with
        | none =>
          have ev : v = .none := ev
          subst ev
          wtm_at "wp"
          refine is_none ?_
          wtm_at "wp"
          show Stms _ _ _ _ _ _
          wtm_at "wp"
          refine is_none ?_
          wtm_at "wp"
          exact ⟨_, Nat.lt_of_lt_of_le hm2 (Nat.le_trans hm1 (Nat.le_of_lt hm)), p2, h3, TS2, TT2, by wtm_at "lk1", by wtm_at "lk1", by wtm_at "lk1"⟩
        | some w2 =>
          obtain ⟨ch2, a2, n2⟩ := w2
          have ev : v = .tup [chainV ch2, .int a2, namedV n2] := ev
          subst ev
          wtm_at "wp"
          refine is_none ?_
          wtm_at "wp"
          refine nm_str rfl ?_
          refine cmp_tup_str ?_
          wtm_at "wp"
          (refine st_assign ?_)
          wtm_at "wp"
          exact ⟨_, hm2, Nat.le_trans (Nat.le_of_lt hm2) hm1, ⟨ch2, a2, n2⟩, p2, h3, TS2, TT2, by wtm_at "lk1", by wtm_at "lk1", by wtm_at "lk1", by wtm_at "lk1", by wtm_at "lk1", by wtm_at "lk1"⟩
end
end
section
open PySem PySem.W PyProof.Rows PySem.Calls
set_option tactic.hygienic false
theorem Kept.refl (σ : AH) (D : List Addr) : Kept σ σ D := fun _ _ e _ => e
theorem Kept.trans {σ σ1 σ2 : AH} {D : List Addr} (a : Kept σ σ1 D) (b : Kept σ1 σ2 D) : Kept σ σ2 D := fun x o e n => b x o (a x o e n) n
theorem Hst.not {σ : AH} {d av ar al : Addr} {refs : List Ref} {lim : Int} {h : HS} (H : Hst σ d av ar al refs lim h) {x : Addr} (e : σ x = none) : x ∉ [d, av, al] := by
  intro m
  simp only [List.mem_cons, List.not_mem_nil, or_false] at m
  rcases m with m | m | m
  · rw [m, H.host.h] at e; cases e
  · rw [m, H.host.v] at e; cases e
  · rw [m, H.host.l] at e; cases e
theorem Kept.gone {σ σ1 : AH} {D : List Addr} (K : Kept σ σ1 D) {x : Addr} (e : σ1 x = .none) (n : x ∉ D) : σ x = .none := by
  cases z : σ x with
  | none => rfl
  | some o => rw [K x o z n] at e; cases e
inductive MP (s : Str) (refs : List Ref) (lim : Int) (n : Nd) : Nat → Nat → HS → Option (Nat × Nat × Named) × HS → Prop
  | done {b h} : MP s refs lim n b 0 h (none, h)
  | hit {b m k a nm h h'} (t : TR s refs lim k (some ⟨[.nd n], b, []⟩) [] h (some (a, nm), h')) : MP s refs lim n b (m + 1) h (some (b, a, nm), h')
  | miss {b m k h h' R} (t : TR s refs lim k (some ⟨[.nd n], b, []⟩) [] h (none, h')) (r : MP s refs lim n (b + 1) m h' R) : MP s refs lim n b (m + 1) h R
inductive MPi (s : Str) (refs : List Ref) (lim : Int) (n : Nd) (b m : Nat) (h : HS) (R : Option (Nat × Nat × Named) × HS) : Prop
  | hit (k a : Nat) (nm : Named) (h2 : HS) (t : TR s refs lim k (some ⟨[.nd n], b, []⟩) [] h (some (a, nm), h2)) (e : R = (some (b, a, nm), h2))
  | miss (k : Nat) (h2 : HS) (t : TR s refs lim k (some ⟨[.nd n], b, []⟩) [] h (none, h2)) (r : MP s refs lim n (b + 1) m h2 R)
theorem MP.inv {s : Str} {refs : List Ref} {lim : Int} {n : Nd} {b m : Nat} {h : HS} {R : Option (Nat × Nat × Named) × HS} (M : MP s refs lim n b (m + 1) h R) : MPi s refs lim n b m h R := by
  cases M with
  | hit t => exact .hit _ _ _ _ t rfl
  | miss t r => exact .miss _ _ t r
theorem MP.inv0 {s : Str} {refs : List Ref} {lim : Int} {n : Nd} {b : Nat} {h : HS} {R : Option (Nat × Nat × Named) × HS} (M : MP s refs lim n b 0 h R) : R = (none, h) := by cases M; rfl
theorem forj_rng {n : Nat} {env : Env} {Q : Fl → Loc → AH → Prop} {target : Expr} {body orelse : List Stmt} (I : Nat → Nat → Loc → AH → Prop)
    (turn : ∀ b m ρ σ, I b (m + 1) ρ σ → Asg n env target (.int (b : Nat)) ρ σ (fun ρ1 σ1 => Stms n env body ρ1 σ1 (ForQ (I (b + 1) m) Q))) (fin : ∀ b ρ σ, I b 0 ρ σ → Stms n env orelse ρ σ Q) (m : Nat) {ρ : Loc} {σ : AH} (h : I 0 (m + 1) ρ σ) :
    ForJ n env target body orelse (fun _ => True) (rangeVs 0 ((m : Int) + 1)) ρ σ Q := by
  have e0 : rangeVs 0 ((m : Int) + 1) = (List.range' 0 (m + 1)).map fun i => .int (i : Nat) := rangeVs_nat (m + 1)
  rw [e0]
  refine forj_inv (fun vs ρ σ => ∃ b m, vs = (List.range' b m).map (fun i => V.int (i : Nat)) ∧ I b m ρ σ) (fun _ _ _ _ => trivial) ?_ ?_ _ _ _ ⟨0, _, rfl, h⟩
  · rintro v vs ρ σ ⟨b, m, ev, i⟩
    cases m with
    | zero => cases ev
    | succ m =>
      rw [List.range'_succ, List.map_cons, List.cons.injEq] at ev
      obtain ⟨rfl, rfl⟩ := ev
      exact fun u => Tr.mono (turn b m ρ σ i u) fun _ ρ1 σ1 q => Tr.mono q fun f ρ2 σ2 q => match f, q with
        | .next, q => ⟨_, _, rfl, q⟩
        | .cont, q => ⟨_, _, rfl, q⟩
        | .brk, q => q
        | .ret _, q => q
  · rintro ρ σ ⟨b, m, ev, i⟩
    cases m with
    | zero => exact fin b ρ σ i
    | succ m => cases ev
noncomputable def foundB (σ0 : AH) (R : Option (Nat × Nat × Named)) (v : V) (σ : AH) : Prop := match R with
  | none => v = .none
  | some (b, a, n) => ∃ x, v = .tup [.int b, .int a, .lst x] ∧ σ x = some (.list (namedL n)) ∧ σ0 x = none
section
variable {σ : AH} {d av ar al : Addr} {refs : List Ref} {lim : Int} {h : HS} {s : Str} {begin k : Nat} {n : Nd}
theorem w_match_at {R : Option (Nat × Named) × HS} (H : Hst σ d av ar al refs lim h) (hs : s.length ≤ 1000) (T : TR s refs lim k (some ⟨[.nd n], begin, []⟩) [] h R) :
    Con 8 (.ref 341) [n.v, .str s, .int begin, .inst 519 d] σ (HQ (foundB σ (R.1.map fun p => (begin, p.1, p.2))) σ d av ar al refs lim R.2) := by
  refine con_fn (F_match_at) rfl fun L => ?_
  wtm_at "w_in"
  (refine ss_cons (st_asn ?_ rfl rfl))
  refine call_g ?_
  wtm_at "wp"
  refine Con.call (Con.mono (w_tried H hs T) ?_)
  rintro v σ' ⟨hf, hH, hk⟩
  obtain ⟨R1, R2⟩ := R
  cases R1 with
  | none =>
    have hf : v = .none := hf
    subst hf
    wtm_at "wp"
    refine is_none ?_
    wtm_at "wp"
    exact ⟨rfl, hH, hk⟩
  | some p =>
    obtain ⟨a, nm⟩ := p
    obtain ⟨b, rfl, e1, e2⟩ := hf
    wtm_at "wp"
    refine is_none ?_
    wtm_at "wp"
    refine nm_str rfl ?_
    refine cmp_tup_str ?_
    wtm_at "wp"
    exact ⟨⟨b, rfl, e1, e2⟩, hH, hk⟩
theorem w_match_plain {R : Option (Nat × Nat × Named) × HS} (H : Hst σ d av ar al refs lim h) (hs : s.length ≤ 1000) (T : MP s refs lim n 0 (s.length + 1) h R) :
    Con 9 (.ref 334) [n.v, .str s, .bool false, .inst 519 d] σ (HQ (foundB σ R.1) σ d av ar al refs lim R.2) := by
  refine con_fn (F_match_plain) rfl fun L => ?_
  wtm_at "w_in"
  refine ss_cons (st_for ?_)
  refine call_t ?_
  wtm_at "wp"
  refine test_value ?_
  wtm_at "wp"
  refine call_b ?_
  wtm_at "wp"
  refine call_len_str (by exact lin1 (.l (.v 0) (.k 1000) (.g (.v 0) (.k 1000000))) rfl hs) ?_
  wtm_at "wp"
  refine call_range1 ?_
  refine ⟨_, _, iter_rng (by lia) (by lia) (by lia) (by lia), ?_⟩
  refine forj_rng (fun b m ρ σ' => ∃ h, AN6 (MP s refs lim n b m h R) (Hst σ' d av ar al refs lim h) (Kept σ σ' [d, av, al]) (at_ ρ "node" = some n.v) (at_ ρ "subject" = some (.str s)) (at_ ρ "host" = some (.inst 519 d))) ?_ ?_ s.length ?_
  · rintro b m ρ σ1 ⟨h1, M, H1, K1, l1, l2, l3⟩
    rcases M.inv with ⟨k, a, nm, h2, t, eR⟩ | ⟨k, h2, t, r⟩
    · wtm_at "wp"
      (refine st_asn ?_ rfl rfl)
      refine call_g ?_
      wtm_at "wp"
      refine Con.call (Con.mono (w_match_at H1 hs t) ?_)
      rintro v σ2 ⟨⟨x, rfl, ex1, ex2⟩, H2, K2⟩
      wtm_at "wp"
      refine isnot_none ?_
      wtm_at "wp"
      wtm_at "w_t"
      wtm_at "wp"
      refine nm_str rfl ?_
      refine cmp_tup_str ?_
      wtm_at "wp"
      rw [eR]
      exact ⟨⟨x, rfl, ex1, K1.gone ex2 (H1.not ex2)⟩, H2, K1.trans K2⟩
    · wtm_at "wp"
      (refine st_asn ?_ rfl rfl)
      refine call_g ?_
      wtm_at "wp"
      refine Con.call (Con.mono (w_match_at H1 hs t) ?_)
      rintro v σ2 ⟨e, H2, K2⟩
      have e : v = .none := e
      subst e
      wtm_at "wp"
      refine isnot_none ?_
      wtm_at "wp"
      exact ⟨h2, r, H2, K1.trans K2, by wtm_at "lk1", by wtm_at "lk1", by wtm_at "lk1"⟩
  · rintro b ρ σ1 ⟨h1, M, H1, K1, l1, l2, l3⟩
    wtm_at "wp"
    rw [M.inv0]
    exact ⟨rfl, H1, K1⟩
  · exact ⟨h, T, H, fun b o e _ => e, by wtm_at "lk1", by wtm_at "lk1", by wtm_at "lk1"⟩
end
end
section
open PySem PySem.W PyProof.Rows PySem.Calls
noncomputable def Nd.kind : Nd → Str
  | .pl p => p.kind | .rem => "rem" | .arb => "arb" | .delay _ => "delay" | .cursor _ => "cursor" | .cat .. => "cat" | .alt .. => "alt" | .arbno _ => "arbno"
  | .nm true .. => "now" | .nm false .. => "later"
noncomputable def Nd.args : Nd → List V
  | .pl p => [p.told] | .rem => [] | .arb => [] | .delay k => [.tup [.str "name", .str k]] | .cursor r => [refV r] | .cat a b => [a.v, b.v] | .alt a b => [a.v, b.v] | .arbno a => [a.v]
  | .nm true a r => [a.v, refV r] | .nm false a r => [a.v, refV r]
theorem Nd.v_eq (n : Nd) : n.v = .tup (.str n.kind :: n.args) := by
  cases n with
  | nm b a r => cases b <;> rfl
  | _ => rfl
noncomputable def Nd.size : Nd → Nat
  | .cat a b => a.size + b.size + 1
  | .alt a b => a.size + b.size + 1
  | .arbno a => a.size + 1
  | .nm _ a _ => a.size + 1
  | .pl _ => 1 | .rem => 1 | .arb => 1 | .delay _ => 1 | .cursor _ => 1
noncomputable def rowCat : Nd → List Nd
  | .cat a b => rowCat a ++ rowCat b
  | n => [n]
noncomputable def rowAlt : Nd → List Nd
  | .alt a b => rowAlt a ++ rowAlt b
  | n => [n]
inductive Ord where
  | one (p : Pl) | rem | ways | split (g : Nat) | jump (g : Nat) | mark | nm (now : Bool) (r : Ref) | gain | place (r : Ref) | ask (k : Str) | done
noncomputable def Ord.v : Ord → V
  | .one p => .tup [.str "one", .str p.kind, p.told]
  | .rem => .tup [.str "one", .str "rem", .none]
  | .ways => .tup [.str "ways", .str "arb"]
  | .split g => .tup [.str "split", .int g]
  | .jump g => .tup [.str "jump", .int g]
  | .mark => .tup [.str "mark"]
  | .nm true r => .tup [.str "set", refV r]
  | .nm false r => .tup [.str "name", refV r]
  | .gain => .tup [.str "gain"]
  | .place r => .tup [.str "place", refV r]
  | .ask k => .tup [.str "ask", .tup [.str "name", .str k]]
  | .done => .tup [.str "done"]
abbrev Ords := List (Option Ord)
noncomputable def ovV : Option Ord → V
  | some o => o.v
  | none => .none
noncomputable def Nd.txt : Nd → Nat
  | .pl (.chars t) => t.length
  | _ => 0
noncomputable def textOf : Nd → Option Str
  | .pl (.chars t) => some t
  | _ => none
noncomputable def joinStep (found : List Nd) (p : Nd) : List Nd := match textOf p with
  | none => found ++ [p]
  | some t => if t = "" then found else match found.getLast? with
    | none => found ++ [p]
    | some q => match textOf q with
      | none => found ++ [p]
      | some u => found.dropLast ++ [.pl (.chars (u ++ t))]
noncomputable def joined (ps : List Nd) : List Nd := ps.foldl joinStep []
noncomputable def setJumps (os : Ords) : List Nat → Ords
  | [] => os
  | j :: js => setJumps (os.set j (some (.jump os.length))) js
noncomputable def runAlt (put : Nd → Ords → Ords) : List Nd → Ords → List Nat → Ords
  | [], os, js => setJumps os js
  | [p], os, js => setJumps (put p os) js
  | p :: ps, os, js =>
    let os1 := put p (os ++ [none])
    runAlt put ps ((os1 ++ [none]).set os.length (some (.split (os1.length + 1)))) (js ++ [os1.length])
noncomputable def putN : Nat → Nd → Ords → Ords
  | 0, _, os => os
  | k + 1, n, os => match n with
    | .pl p => os ++ [some (.one p)]
    | .rem => os ++ [some .rem]
    | .arb => os ++ [some .ways]
    | .delay x => os ++ [some (.ask x)]
    | .cursor r => os ++ [some (.place r)]
    | .cat a b => (joined (rowCat (.cat a b))).foldl (fun os p => putN k p os) os
    | .alt a b => runAlt (putN k) (rowAlt (.alt a b)) os []
    | .arbno a =>
      let os2 := putN k a (os ++ [some (.split (os.length + 2)), none, some .mark]) ++ [some .gain, some (.jump os.length)]
      os2.set (os.length + 1) (some (.jump os2.length))
    | .nm now a r => putN k a (os ++ [some .mark]) ++ [some (.nm now r)]
end
section
open PySem PySem.W PyProof.Rows PySem.Calls
noncomputable def kindRow (b : Bool) : Nd → List Nd := if b then rowAlt else rowCat
noncomputable def kindStr (b : Bool) : Str := if b then "alt" else "cat"
theorem len_le_sizes : ∀ st : List Nd, st.length ≤ (st.map Nd.size).sum
  | [] => Nat.le_refl _
  | p :: st => by have := len_le_sizes st; have : 0 < p.size := by cases p <;> simp [Nd.size]
                  simp; exact lin3 (.t (.k 0) (.v 0) (.l (.v 1) (.v 2) (.g (.a (.v 1) (.k 1)) (.a (.v 0) (.v 2))))) rfl this (by assumption)
theorem Nd.size_pos (n : Nd) : 0 < n.size := by cases n <;> simp [Nd.size]
set_option tactic.hygienic true
theorem row_case (b : Bool) (p : Nd) : ((p.kind == kindStr b) = false ∧ kindRow b p = [p]) ∨
    ((p.kind == kindStr b) = true ∧ ∃ x y, p.args = [x.v, y.v] ∧ kindRow b p = kindRow b x ++ kindRow b y ∧ p.size = x.size + y.size + 1) := by
  cases b <;> cases p with
  | cat x y => first | exact .inr ⟨by dsimp only [Nd.kind]; decide, x, y, rfl, rfl, rfl⟩ | exact .inl ⟨by dsimp only [Nd.kind]; decide, rfl⟩
  | alt x y => first | exact .inr ⟨by dsimp only [Nd.kind]; decide, x, y, rfl, rfl, rfl⟩ | exact .inl ⟨by dsimp only [Nd.kind]; decide, rfl⟩
  | nm b _ _ => cases b <;> exact .inl ⟨by dsimp only [Nd.kind]; decide, rfl⟩
  | pl p => cases p <;> exact .inl ⟨by dsimp only [Nd.kind, Pl.kind]; decide, rfl⟩
  | _ => exact .inl ⟨by dsimp only [Nd.kind]; decide, rfl⟩
section
variable {σ : AH} {Q : V → AH → Prop}
theorem w_row_of {n : Nd} {b : Bool} (hz : n.size ≤ 1000) (q : ∀ a σ', σ a = none → σ' a = some (.list ((kindRow b n).map Nd.v)) → Kept σ σ' [] → Q (.lst a) σ') :
    Con 1 (.ref 392) [n.v, .str (kindStr b)] σ Q := by
  refine con_fn (F_row_of) rfl fun L => ?_
  wtm_at "w_in"
  refine ss_cons (st_swap (names := ["found", "waiting"]) ?_ rfl)
  refine ex_tuple ?_
  refine exs_cons ?_ rfl
  refine ex_list ?_
  wtm_at "wp"
  intro fa hfa
  refine exs_cons ?_ rfl
  refine ex_list ?_
  wtm_at "wp"
  intro wa hwa
  wtm_at "wp"
  refine ⟨_, rfl, rfl, ?_⟩
  refine sto_local rfl ?_
  refine sto_local rfl ?_
  show Stms _ _ _ _ _ _
  wtm_at "wp"
  have nfw : fa ≠ wa := fun e => by rw [← e, AH.put_self] at hwa; cases hwa
  have hwa0 : σ wa = none := by rw [AH.put_ne _ _ (Ne.symm nfw)] at hwa; exact hwa
  let I : Nat → Loc → AH → Prop := fun k ρ σ' => EX2 fun (f : List Nd) (st : List Nd) => AN9 (f ++ st.reverse.flatMap (kindRow b) = kindRow b n) (k = (st.map Nd.size).sum) (f.length + k ≤ 1000) (σ' fa = some (.list (f.map Nd.v))) (σ' wa = some (.list (st.map Nd.v))) (∀ x o, σ x = some o → σ' x = some o) (at_ ρ "found" = some (.lst fa)) (at_ ρ "waiting" = some (.lst wa)) (at_ ρ "kind" = some (.str (kindStr b)))
  refine st_while I n.size ?_ ?_
  · refine ⟨[], [n], by simp, by simp, by simpa using hz, ?_, AH.put_self _ _ _, fun x o e => ?_, by rfl, by rfl, by rfl⟩
    · rw [AH.put_ne _ _ nfw]; exact AH.put_self _ _ _
    · rw [AH.put_ne _ _ (by exact ne_sn e hwa0), AH.put_ne _ _ (by exact ne_sn e hfa)]; exact e
  · rintro k ρ σ1 ⟨f, st, ef, ek, hk, sf, sw, ke, l1, l2, l3⟩
    have hsl : st.length ≤ 1000 := by have := len_le_sizes st; exact lin4 (.l (.a (.v 0) (.v 1)) (.k 1000) (.f (.v 1) (.v 2) (.l (.v 3) (.v 2) (.g (.v 3) (.k 1000))))) rfl hk ek this
    have fl : (f.map Nd.v).length ≤ 1000000 := by rw [List.length_map]; exact lin2 (.l (.a (.v 0) (.v 1)) (.k 1000) (.g (.v 0) (.k 1000000))) rfl hk
    rcases List.eq_nil_or_concat st with rfl | ⟨st, p, rfl⟩
    · wtm_at "wp"
      refine call_b ?_
      wtm_at "wp"
      refine call_len_lst sw (by simp) ?_
      wtm_at "wp"
      refine q fa σ1 hfa ?_ fun x o e _ => ke x o e
      simp at ef
      rw [sf, ef]
    · rw [List.concat_eq_append] at *
      have sw' : σ1 wa = some (.list (st.map Nd.v ++ [.tup (.str p.kind :: p.args)])) := by rw [sw, List.map_append, ← p.v_eq]; rfl
      have hl : (st.map Nd.v).length ≤ 100000 := by rw [List.length_map]; simp at hsl; exact lin1 (.l (.v 0) (.k 999) (.g (.v 0) (.k 100000))) rfl hsl
      wtm_at "wp"
      refine call_b ?_
      wtm_at "wp"
      refine call_len_lst sw (by simp at hsl ⊢; exact lin1 (.l (.v 0) (.k 999) (.g (.v 0) (.k 999999))) rfl hsl) ?_
      wtm_at "wp"
      try refine ite_tt (by simp) ?_
      wtm_at "wp"
      (refine st_asn ?_ rfl rfl)
      refine ex_meth ?_
      wtm_at "wp"
      refine ⟨_, gm_list PySem.F.slot_list_pop PySem.F.type_list_pop sw', keeps_builtin, ?_⟩
      wtm_at "wp"
      refine call_pop sw' (by exact lin1 (.l (.v 0) (.k 100000) (.g (.v 0) (.k 1000000))) rfl hl) ?_
      wtm_at "wp"
      rcases row_case b p with ⟨h1, h2⟩ | ⟨h1, x, y, h2, h3, h4⟩
      · try refine ite_ff h1 ?_
        wtm_at "wp"
        refine ex_meth ?_
        wtm_at "wp"
        refine ⟨_, gm_list PySem.F.slot_list_append PySem.F.type_list_append (by rw [AH.put_ne _ _ nfw]; exact sf), keeps_builtin, ?_⟩
        wtm_at "wp"
        refine call_append (by rw [AH.put_ne _ _ nfw]; exact sf) fl ?_
        wtm_at "wp"
        have pp := p.size_pos
        refine ⟨(st.map Nd.size).sum, ?_, f ++ [p], st, ?_, rfl, ?_, ?_, ?_, ?_, by wtm_at "lk1", by wtm_at "lk1", by wtm_at "lk1"⟩
        · rw [ek]; simp; exact lin1 (.t (.k 0) (.v 0) (.b (.k 0) (.v 0))) rfl pp
        · rw [← ef]; simp [h2]
        · rw [ek] at hk; simp at hk ⊢; exact lin3 (.l (.a (.v 0) (.a (.v 1) (.v 2))) (.k 1000) (.t (.k 0) (.v 2) (.g (.a (.a (.v 0) (.k 1)) (.v 1)) (.k 1000)))) rfl hk pp
        · rw [AH.put_self, List.map_append, ← p.v_eq]; rfl
        · rw [AH.put_ne _ _ (Ne.symm nfw), AH.put_self]
        · intro z o e
          rw [AH.put_ne _ _ (by exact ne_sn e hfa), AH.put_ne _ _ (by exact ne_sn e hwa0)]; exact ke z o e
      · try refine ite_tt h1 ?_
        rw [h2]
        wtm_at "wp"
        refine ex_meth ?_
        wtm_at "wp"
        refine ⟨_, gm_list PySem.F.slot_list_extend PySem.F.type_list_extend (AH.put_self _ _ _), keeps_builtin, ?_⟩
        refine exs_one ?_
        refine ex_list ?_
        wtm_at "wp"
        intro ea hea
        have nwe : wa ≠ ea := fun z => by rw [← z, AH.put_self] at hea; cases hea
        have hea1 : σ1 ea = none := by rw [AH.put_ne _ _ (Ne.symm nwe)] at hea; exact hea
        refine call_extend (l := st.map Nd.v) (m := [y.v, x.v]) (by rw [AH.put_ne _ _ nwe]; exact AH.put_self _ _ _) (AH.put_self _ _ _) (by exact lin1 (.l (.v 0) (.k 100000) (.g (.v 0) (.k 100000))) rfl hl) (by simp) ?_
        wtm_at "wp"
        refine ⟨(st.map Nd.size).sum + y.size + x.size, ?_, f, st ++ [y, x], ?_, ?_, ?_, ?_, ?_, ?_, by wtm_at "lk1", by wtm_at "lk1", by wtm_at "lk1"⟩
        · rw [ek]; simp [h4]; exact lin3 (.b (.a (.a (.v 0) (.v 1)) (.v 2)) (.a (.v 0) (.a (.a (.v 2) (.v 1)) (.k 1)))) rfl
        · rw [← ef]; simp [h3]
        · simp; exact Nat.le_antisymm (lin3 (.g (.a (.a (.v 0) (.v 1)) (.v 2)) (.a (.v 0) (.a (.v 1) (.v 2)))) rfl) (lin3 (.g (.a (.v 0) (.a (.v 1) (.v 2))) (.a (.a (.v 0) (.v 1)) (.v 2))) rfl)
        · rw [ek] at hk; simp [h4] at hk ⊢; exact lin4 (.l (.a (.v 0) (.a (.v 1) (.a (.a (.v 2) (.v 3)) (.k 1)))) (.k 1000) (.g (.a (.v 0) (.a (.a (.v 1) (.v 3)) (.v 2))) (.k 1000))) rfl hk
        · rw [AH.put_ne _ _ nfw, AH.put_ne _ _ (by exact (ne_ns hea1 sf).symm), AH.put_ne _ _ nfw]; exact sf
        · rw [AH.put_self]; simp
        · intro z o e
          have e1 := ke z o e
          rw [AH.put_ne _ _ (by exact ne_sn e hwa0), AH.put_ne _ _ (by exact ne_sn e1 hea1), AH.put_ne _ _ (by exact ne_sn e hwa0)]; exact e1
end
end
section
open PySem PySem.W PyProof.Rows PySem.Calls
section
variable {σ : AH} {Q : V → AH → Prop}
theorem textOf_case (p : Nd) : ((p.kind == ("chars" : Str)) = false ∧ textOf p = none) ∨ ∃ t, p = .pl (.chars t) := by
  cases p with
  | pl q => cases q with
    | chars t => exact .inr ⟨t, rfl⟩
    | _ => exact .inl ⟨by dsimp only [Nd.kind, Pl.kind]; decide, rfl⟩
  | nm b _ _ => cases b <;> exact .inl ⟨by dsimp only [Nd.kind]; decide, rfl⟩
  | _ => exact .inl ⟨by dsimp only [Nd.kind]; decide, rfl⟩
set_option tactic.hygienic false
theorem textOf_chars (t : Str) : textOf (.pl (.chars t)) = some t := rfl
set_option tactic.hygienic true
theorem w_is_plain {p : Nd} (q : Q (.bool (textOf p).isSome) σ) : Con 1 (.ref 399) [p.v] σ Q := by
  rcases textOf_case p with ⟨h1, h2⟩ | ⟨t, rfl⟩
  · rw [p.v_eq]
    refine con_fn (F_is_plain_text) rfl fun L => ?_
    wtm_at "w_in"
    wtm_at "wp"
    refine ex_bool_op ?_
    refine boolv_cons ?_
    wtm_at "wp"
    rw [h1]
    wtm_at "wp"
    refine (if_pos rfl).mpr ?_
    rw [h2] at q
    exact q
  · have e : (Nd.pl (.chars t)).v = .tup [.str "chars", .str t] := rfl
    rw [e]
    refine con_fn (F_is_plain_text) rfl fun L => ?_
    wtm_at "w_in"
    wtm_at "wp"
    refine ex_bool_op ?_
    refine boolv_cons ?_
    wtm_at "wp"
    refine (if_neg (by decide)).mpr ?_
    refine boolv_one ?_
    refine call_b ?_
    wtm_at "wp"
    refine nm_type rfl rfl ?_
    wtm_at "wp"
    refine isi_str_str ?_
    exact q
set_option tactic.hygienic false
noncomputable def sumTxt (l : List Nd) : Nat := (l.map Nd.txt).sum
set_option tactic.hygienic true
theorem w_joined {pa : Addr} {ps : List Nd} (hp : σ pa = some (.list (ps.map Nd.v))) (hl : ps.length ≤ 1000) (ht : sumTxt ps ≤ 1000) (q : ∀ a σ', σ a = none → σ' a = some (.list ((joined ps).map Nd.v)) → Kept σ σ' [] → Q (.lst a) σ') :
    Con 2 (.ref 406) [.lst pa] σ Q := by
  refine con_fn (F_with_texts_joined) rfl fun L => ?_
  wtm_at "w_in"
  (refine ss_cons (st_asn ?_ rfl rfl))
  refine ex_list ?_
  wtm_at "wp"
  intro fa hfa
  wtm_at "wp"
  have npf : pa ≠ fa := fun e => by rw [← e, hp] at hfa; cases hfa
  refine st_for ?_
  wtm_at "wp"
  refine ⟨_, _, iter_lst (by rw [AH.put_ne _ _ npf]; exact hp), ?_⟩
  refine forj_inv (fun vs ρ σ' => EX3 fun ds rs f => AN8 (ps = ds ++ rs) (vs = rs.map Nd.v) (f = joined ds) (f.length ≤ ds.length) (sumTxt f + sumTxt rs ≤ 1000) (σ' fa = some (.list (f.map Nd.v))) (∀ x o, σ x = some o → σ' x = some o) (at_ ρ "found" = some (.lst fa))) ?_ ?_ ?_ _ _ _ ?_
  · rintro vs ρ σ1 ⟨ds, rs, f, e1, e2, e3, e4, e5, e6, e7, l1⟩
    exact e7 _ _ hp
  · rintro v vs ρ σ1 ⟨ds, rs, f, e1, e2, e3, e4, e5, e6, e7, l1⟩
    cases rs with
    | nil => cases e2
    | cons p rs =>
      rw [List.map_cons, List.cons.injEq] at e2
      obtain ⟨rfl, rfl⟩ := e2
      have hfl : (f.map Nd.v).length ≤ 1000000 := by have := congrArg List.length e1; simp at this; rw [List.length_map]; exact lin4 (.f (.v 0) (.a (.v 1) (.a (.v 2) (.k 1))) (.l (.v 0) (.k 1000) (.l (.v 3) (.v 1) (.g (.v 3) (.k 1000000))))) rfl this hl e4
      have e3' : joinStep f p = joined (ds ++ [p]) := by rw [e3]; unfold joined; rw [List.foldl_append]; rfl
      have e1' : ps = (ds ++ [p]) ++ rs := by rw [e1]; simp
      wtm_at "wp"
      refine test_value ?_
      refine call_g ?_
      wtm_at "wp"
      refine Con.call ((w_is_plain ?_).less (by decide))
      wtm_at "wp"
      rcases textOf_case p with ⟨h1, h2⟩ | ⟨t, rfl⟩
      · have e3'' : joinStep f p = f ++ [p] := by unfold joinStep; rw [h2]
        rw [h2]
        try refine ite_ff rfl ?_
        wtm_at "wp"
        refine ex_meth ?_
        wtm_at "wp"
        refine ⟨_, gm_list PySem.F.slot_list_append PySem.F.type_list_append e6, keeps_builtin, ?_⟩
        wtm_at "wp"
        refine call_append e6 hfl ?_
        wtm_at "wp"
        refine ⟨ds ++ [p], rs, f ++ [p], e1', rfl, ?_, by simp; exact lin2 (.l (.v 0) (.v 1) (.g (.v 0) (.v 1))) rfl e4, ?_, ?_, ?_, by wtm_at "lk1"⟩
        · rw [← e3', e3'']
        · have : sumTxt (p :: rs) = p.txt + sumTxt rs := by simp [sumTxt]
          have h3 : sumTxt (f ++ [p]) = sumTxt f + p.txt := by simp [sumTxt]
          exact lin5 (.l (.a (.v 0) (.v 1)) (.k 1000) (.e (.v 2) (.a (.v 0) (.v 3)) (.f (.v 1) (.a (.v 3) (.v 4)) (.g (.a (.v 2) (.v 4)) (.k 1000))))) rfl e5 h3 this
        · rw [AH.put_self]; simp
        · intro x o e
          rw [AH.put_ne _ _ (by exact ne_sn e hfa)]; exact e7 x o e
      · try refine ite_tt rfl ?_
        have ev : (Nd.pl (.chars t)).v = .tup [.str "chars", .str t] := rfl
        rw [ev]
        wtm_at "wp"
        wtm_at "w_sp" <;> rename_i hte
        · have hte' : t = "" := by simpa using hte
          wtm_at "wp"
          refine ⟨ds ++ [_], rs, f, e1', rfl, ?_, by simp; exact lin2 (.l (.v 0) (.v 1) (.g (.v 0) (.a (.v 1) (.k 1)))) rfl e4, ?_, e6, e7, by wtm_at "lk1"⟩
          · rw [← e3']; unfold joinStep; simp [textOf, hte']
          · have : sumTxt (Nd.pl (.chars t) :: rs) = t.length + sumTxt rs := by simp [sumTxt, Nd.txt]
            exact lin4 (.l (.a (.v 0) (.v 1)) (.k 1000) (.f (.v 1) (.a (.v 2) (.v 3)) (.g (.a (.v 0) (.v 3)) (.k 1000)))) rfl e5 this
        · have hte' : t ≠ "" := by simpa using hte
          wtm_at "wp"
          refine call_b ?_
          wtm_at "wp"
          refine call_len_lst e6 hfl ?_
          wtm_at "wp"
          rcases List.eq_nil_or_concat f with rfl | ⟨f, u, rfl⟩
          · try refine ite_ff (by simp) ?_
            wtm_at "wp"
            refine ex_meth ?_
            wtm_at "wp"
            refine ⟨_, gm_list PySem.F.slot_list_append PySem.F.type_list_append e6, keeps_builtin, ?_⟩
            wtm_at "wp"
            refine call_append e6 hfl ?_
            wtm_at "wp"
            refine ⟨ds ++ [_], rs, _, e1', rfl, e3', by unfold joinStep; simp [textOf, hte'], ?_, ?_, ?_, by wtm_at "lk1"⟩
            · have : sumTxt (Nd.pl (.chars t) :: rs) = t.length + sumTxt rs := by simp [sumTxt, Nd.txt]
              unfold joinStep; simp [textOf, hte', sumTxt, Nd.txt] at e5 ⊢; exact e5
            · rw [AH.put_self]; unfold joinStep; simp [textOf, hte']; rw [← ev]
            · intro x o e
              rw [AH.put_ne _ _ (by exact ne_sn e hfa)]; exact e7 x o e
          · rw [List.concat_eq_append] at *
            try refine ite_tt (by simp) ?_
            wtm_at "wp"
            refine test_value ?_
            refine call_g ?_
            wtm_at "wp"
            refine call_b ?_
            wtm_at "wp"
            refine call_len_lst e6 hfl ?_
            wtm_at "wp"
            refine sub_lst (j := f.length) (v := u.v) e6 (by simp) (by simp) (by simp at hfl; exact lin1 (.l (.v 0) (.k 999999) (.b (.v 0) (.k 4611686018427387904))) rfl hfl) ?_
            wtm_at "wp"
            refine Con.call ((w_is_plain ?_).less (by decide))
            wtm_at "wp"
            rcases textOf_case u with ⟨h1, h2⟩ | ⟨t2, rfl⟩
            · rw [h2]
              try refine ite_ff rfl ?_
              wtm_at "wp"
              refine ex_meth ?_
              wtm_at "wp"
              refine ⟨_, gm_list PySem.F.slot_list_append PySem.F.type_list_append e6, keeps_builtin, ?_⟩
              wtm_at "wp"
              refine call_append e6 hfl ?_
              wtm_at "wp"
              have ej : joinStep (f ++ [u]) (.pl (.chars t)) = (f ++ [u]) ++ [.pl (.chars t)] := by unfold joinStep; rw [textOf_chars]; simp [hte', h2]
              rw [ej] at e3'
              refine ⟨ds ++ [_], rs, _, e1', rfl, e3', by simp at e4 ⊢; exact lin2 (.l (.a (.v 0) (.k 1)) (.v 1) (.g (.a (.v 0) (.k 1)) (.v 1))) rfl e4, ?_, ?_, ?_, by wtm_at "lk1"⟩
              · have : sumTxt (Nd.pl (.chars t) :: rs) = t.length + sumTxt rs := by simp [sumTxt, Nd.txt]
                have h3 : sumTxt ((f ++ [u]) ++ [.pl (.chars t)]) = sumTxt (f ++ [u]) + t.length := by simp [sumTxt, Nd.txt]; exact Nat.le_antisymm (lin3 (.g (.a (.v 0) (.a (.v 1) (.v 2))) (.a (.a (.v 0) (.v 1)) (.v 2))) rfl) (lin3 (.g (.a (.a (.v 0) (.v 1)) (.v 2)) (.a (.v 0) (.a (.v 1) (.v 2)))) rfl)
                exact lin5 (.l (.a (.v 0) (.v 1)) (.k 1000) (.e (.v 2) (.a (.v 0) (.v 3)) (.f (.v 1) (.a (.v 3) (.v 4)) (.g (.a (.v 2) (.v 4)) (.k 1000))))) rfl e5 h3 this
              · rw [AH.put_self]; simp [ev]
              · intro x o e
                rw [AH.put_ne _ _ (by exact ne_sn e hfa)]; exact e7 x o e
            · try refine ite_tt rfl ?_
              wtm_at "wp"
              (refine st_asn ?_ rfl rfl)
              wtm_at "wp"
              refine ex_meth ?_
              wtm_at "wp"
              have e6' : σ1 fa = some (.list (f.map Nd.v ++ [.tup [.str "chars", .str t2]])) := by rw [e6, List.map_append]; rfl
              refine ⟨_, gm_list PySem.F.slot_list_pop PySem.F.type_list_pop e6', keeps_builtin, ?_⟩
              wtm_at "wp"
              refine call_pop e6' (by simp at hfl ⊢; exact lin1 (.l (.v 0) (.k 999999) (.g (.v 0) (.k 1000000))) rfl hfl) ?_
              wtm_at "wp"
              have hts : sumTxt (Nd.pl (.chars t) :: rs) = t.length + sumTxt rs := by simp [sumTxt, Nd.txt]
              have htf : sumTxt (f ++ [Nd.pl (.chars t2)]) = sumTxt f + t2.length := by simp [sumTxt, Nd.txt]
              have ha : (t2 ++ t).length = t2.length + t.length := by show (t2.cps ++ t.cps).size = _; rw [Array.size_append]; rfl
              refine op_add_str (by rw [sizeLine_eq, ha]; exact lin6 (.l (.a (.v 0) (.v 1)) (.k 1000) (.f (.v 0) (.a (.v 2) (.v 3)) (.f (.v 1) (.a (.v 4) (.v 5)) (.g (.a (.v 3) (.v 4)) (.k 16777216))))) rfl e5 htf hts) ?_
              wtm_at "wp"
              refine ex_meth ?_
              wtm_at "wp"
              refine ⟨_, gm_list PySem.F.slot_list_append PySem.F.type_list_append (AH.put_self _ _ _), keeps_builtin, ?_⟩
              wtm_at "wp"
              refine call_append (AH.put_self _ _ _) (by simp at hfl ⊢; exact lin1 (.l (.v 0) (.k 999999) (.g (.v 0) (.k 1000000))) rfl hfl) ?_
              wtm_at "wp"
              have ej : joinStep (f ++ [.pl (.chars t2)]) (.pl (.chars t)) = f ++ [.pl (.chars (t2 ++ t))] := by unfold joinStep; simp [textOf, hte']
              rw [ej] at e3'
              refine ⟨ds ++ [_], rs, _, e1', rfl, e3', by simp at e4 ⊢; exact lin2 (.l (.a (.v 0) (.k 1)) (.v 1) (.g (.v 0) (.v 1))) rfl e4, ?_, ?_, ?_, by wtm_at "lk1"⟩
              · have h3 : sumTxt (f ++ [.pl (.chars (t2 ++ t))]) = sumTxt f + (t2.length + t.length) := by simp [sumTxt, Nd.txt, ha]
                exact lin7 (.l (.a (.v 0) (.v 1)) (.k 1000) (.e (.v 2) (.a (.v 3) (.a (.v 4) (.v 5))) (.f (.v 1) (.a (.v 5) (.v 6)) (.f (.v 0) (.a (.v 3) (.v 4)) (.g (.a (.v 2) (.v 6)) (.k 1000)))))) rfl e5 h3 hts htf
              · rw [AH.put_self]; simp; rfl
              · intro x o e
                rw [AH.put_ne _ _ (by exact ne_sn e hfa), AH.put_ne _ _ (by exact ne_sn e hfa)]; exact e7 x o e
  · rintro ρ σ1 ⟨ds, rs, f, e1, e2, e3, e4, e5, e6, e7, l1⟩
    have : rs = [] := by cases rs with | nil => rfl | cons p rs => cases e2
    subst this
    wtm_at "wp"
    refine q fa σ1 hfa ?_ fun x o e _ => e7 x o e
    rw [e6, e3, e1, List.append_nil]
  · refine ⟨[], ps, [], rfl, rfl, rfl, Nat.le_refl _, by simpa [sumTxt] using ht, AH.put_self _ _ _, fun x o e => ?_, by rfl⟩
    rw [AH.put_ne _ _ (by exact ne_sn e hfa)]; exact e
end
end
section
open PySem PySem.W PyProof.Rows PySem.Calls
inductive WI where
  | put (n : Nd) | emit (o : Ord) | opn (e : Addr) | shut (e : Addr) | meet (e : Addr)
set_option tactic.hygienic false
noncomputable def WI.v : WI → V
  | .put n => .tup [.str "put", n.v]
  | .emit o => .tup [.str "emit", o.v]
  | .opn e => .tup [.str "open", .lst e]
  | .shut e => .tup [.str "shut", .lst e]
  | .meet e => .tup [.str "meet", .lst e]
structure CdAt (σ : AH) (d oa : Addr) (os : Ords) : Prop where
  h : σ d = some (.dict [("orders", .lst oa)])
  o : σ oa = some (.list (os.map ovV))
theorem CdAt.ne {σ : AH} {d oa : Addr} {os : Ords} (C : CdAt σ d oa os) : d ≠ oa := fun e => by have := C.h; rw [e, C.o] at this; cases this
theorem CdAt.put {σ : AH} {d oa : Addr} {os : Ords} (C : CdAt σ d oa os) (os' : Ords) : CdAt (σ.put oa (.list (os'.map ovV))) d oa os' := ⟨by rw [AH.put_ne _ _ C.ne]; exact C.h, AH.put_self _ _ _⟩
theorem CdAt.other {σ : AH} {d oa : Addr} {os : Ords} (C : CdAt σ d oa os) {a : Addr} {o : AO} (h1 : d ≠ a) (h2 : oa ≠ a) : CdAt (σ.put a o) d oa os := ⟨by rw [AH.put_ne _ _ h1]; exact C.h, by rw [AH.put_ne _ _ h2]; exact C.o⟩
section
variable {σ : AH} {Q : V → AH → Prop} {d oa : Addr} {os : Ords}
theorem w_emit (C : CdAt σ d oa os) (hl : os.length ≤ 100000) (o : Option Ord) (q : Q (.int os.length) (σ.put oa (.list ((os ++ [o]).map ovV)))) : Con 1 (.ref 427) [.inst 463 d, ovV o] σ Q := by
  have co := (C_PatternCode).1
  have e0 : (os.map ovV ++ [ovV o]) = (os ++ [o]).map ovV := by simp
  refine con_fn (F_PatternCode_emit) rfl fun L => ?_
  wtm_at "w_in"
  wtm_at "wp"
  refine ex_meth ?_
  wtm_at "wp"
  refine op_attr co (L_PatternCode_orders) C.h (v := .lst oa) rfl (vk_lst _) ?_
  refine ⟨_, gm_list PySem.F.slot_list_append PySem.F.type_list_append C.o, keeps_builtin, ?_⟩
  wtm_at "wp"
  refine call_append C.o (by simp; exact lin1 (.l (.v 0) (.k 100000) (.g (.v 0) (.k 1000000))) rfl hl) ?_
  rw [e0]
  wtm_at "wp"
  refine call_b ?_
  wtm_at "wp"
  refine op_attr co (L_PatternCode_orders) (C.put _).h (v := .lst oa) rfl (vk_lst _) ?_
  wtm_at "wp"
  refine call_len_lst (C.put _).o (by simp; exact lin1 (.l (.v 0) (.k 100000) (.g (.v 0) (.k 999999))) rfl hl) ?_
  wtm_at "wp"
  have : (((os ++ [o]).map ovV).length : Int) - 1 = os.length := by simp
  rw [this]
  exact q
theorem w_bound_open (C : CdAt σ d oa os) (hl : os.length ≤ 100000) {e : Addr} {x y : V} (he : σ e = some (.list [x, y])) (h1 : oa ≠ e) (q : Q .none ((σ.put oa (.list ((os ++ [none]).map ovV))).put e (.list [.int os.length, y]))) :
    Con 2 (.ref 460) [.inst 463 d, .str "open", .lst e] σ Q := by
  have co := (C_PatternCode).1
  refine con_fn (F_PatternCode_bound) rfl fun L => ?_
  wtm_at "w_in"
  wtm_at "wp"
  refine nm_str rfl ?_
  wtm_at "wp"
  (refine st_assign ?_)
  refine ex_meth ?_
  wtm_at "wp"
  refine ⟨_, gm_inst co (L_PatternCode_emit) (M_PatternCode_emit).1 C.h rfl, (M_PatternCode_emit).2, ?_⟩
  wtm_at "wp"
  refine Con.call (w_emit C hl none ?_)
  refine asg_sub ?_
  wtm_at "wp"
  refine set_lst (i := 0) (l := [x, y]) (by rw [AH.put_ne _ _ (Ne.symm h1)]; exact he) (by decide) (by simp) (by simp) ?_
  wtm_at "wp"
  exact q
theorem w_bound_shut (C : CdAt σ d oa os) (hl : os.length ≤ 90000) {e e2 : Addr} {k : Nat} {js : List V} (he : σ e = some (.list [.int k, .lst e2])) (he2 : σ e2 = some (.list js)) (hj : js.length ≤ 100000) (hk : k < os.length) (h1 : oa ≠ e) (h2 : oa ≠ e2) (h3 : e ≠ e2) (h4 : d ≠ e2)
    (q : Q .none (((σ.put oa (.list ((os ++ [none]).map ovV))).put e2 (.list (js ++ [.int os.length]))).put oa (.list (((os ++ [none]).set k (some (.split (os.length + 1)))).map ovV)))) :
    Con 2 (.ref 460) [.inst 463 d, .str "shut", .lst e] σ Q := by
  have co := (C_PatternCode).1
  refine con_fn (F_PatternCode_bound) rfl fun L => ?_
  wtm_at "w_in"
  wtm_at "wp"
  refine nm_str rfl ?_
  wtm_at "wp"
  refine nm_str rfl ?_
  wtm_at "wp"
  refine ex_meth ?_
  wtm_at "wp"
  refine sub_lst (j := 1) (v := .lst e2) he (by rfl) (by rfl) (by decide) ?_
  refine ⟨_, gm_list PySem.F.slot_list_append PySem.F.type_list_append he2, keeps_builtin, ?_⟩
  refine exs_one ?_
  refine ex_meth ?_
  wtm_at "wp"
  refine ⟨_, gm_inst co (L_PatternCode_emit) (M_PatternCode_emit).1 C.h rfl, (M_PatternCode_emit).2, ?_⟩
  wtm_at "wp"
  refine Con.call (w_emit C (by exact lin1 (.l (.v 0) (.k 90000) (.g (.v 0) (.k 100000))) rfl hl) none ?_)
  refine call_append (by rw [AH.put_ne _ _ (Ne.symm h2)]; exact he2) (by exact lin1 (.l (.v 0) (.k 100000) (.g (.v 0) (.k 1000000))) rfl hj) ?_
  have C2 := (C.put (os ++ [none])).other (a := e2) (o := .list (js ++ [.int os.length])) h4 h2
  wtm_at "wp"
  (refine st_assign ?_)
  wtm_at "wp"
  refine nm_str rfl ?_
  wtm_at "wp"
  refine call_b ?_
  wtm_at "wp"
  refine op_attr co (L_PatternCode_orders) C2.h (v := .lst oa) rfl (vk_lst _) ?_
  wtm_at "wp"
  refine call_len_lst C2.o (by simp; exact lin1 (.l (.v 0) (.k 90000) (.g (.v 0) (.k 999999))) rfl hl) ?_
  wtm_at "wp"
  refine asg_sub ?_
  wtm_at "wp"
  refine op_attr co (L_PatternCode_orders) C2.h (v := .lst oa) rfl (vk_lst _) ?_
  wtm_at "wp"
  refine sub_lst (j := 0) (v := .int k) (by rw [AH.put_ne _ _ h3, AH.put_ne _ _ (Ne.symm h1)]; exact he) (by rfl) (by rfl) (by decide) ?_
  refine set_lst C2.o (by lia -abstractProof) (by simp; lia -abstractProof) (by simp; exact lin1 (.l (.v 0) (.k 90000) (.g (.v 0) (.k 999999))) rfl hl) ?_
  wtm_at "wp"
  have e0 : (((os ++ [none]).map ovV).set ((k : Int).toNat) (.tup [.str "split", .int (((os ++ [none]).map ovV).length)])) = (((os ++ [none]).set k (some (.split (os.length + 1)))).map ovV) := by
    rw [List.map_set, Int.toNat_natCast]
    simp [ovV, Ord.v]
  rw [e0]
  exact q
theorem w_bound_meet (C : CdAt σ d oa os) (hl : os.length ≤ 90000) {e e2 : Addr} {x : V} {js : List Nat} (he : σ e = some (.list [x, .lst e2])) (he2 : σ e2 = some (.list (js.map fun j => .int (j : Nat)))) (hj : ∀ j ∈ js, j < os.length) (h1 : oa ≠ e) (h2 : oa ≠ e2)
    (q : ∀ σ', CdAt σ' d oa (setJumps os js) → Kept σ σ' [oa] → Q .none σ') :
    Con 2 (.ref 460) [.inst 463 d, .str "meet", .lst e] σ Q := by
  have co := (C_PatternCode).1
  refine con_fn (F_PatternCode_bound) rfl fun L => ?_
  wtm_at "w_in"
  wtm_at "wp"
  refine nm_str rfl ?_
  wtm_at "wp"
  refine nm_str rfl ?_
  wtm_at "wp"
  refine st_for ?_
  wtm_at "wp"
  refine sub_lst (j := 1) (v := .lst e2) he (by rfl) (by rfl) (by decide) ?_
  refine ⟨_, _, iter_lst he2, ?_⟩
  refine forj_inv (fun vs ρ σ' => EX2 fun (js' : List Nat) (os' : Ords) => AN7 (vs = js'.map (fun j => .int (j : Nat))) (∀ j ∈ js', j < os'.length) (os'.length = os.length) (setJumps os' js' = setJumps os js) (CdAt σ' d oa os') (Kept σ σ' [oa]) (at_ ρ "self" = some (.inst 463 d))) ?_ ?_ ?_ _ _ _ ?_
  · rintro vs ρ σ1 ⟨js', os', e1, e2, e3, e4, C1, K1, l1⟩
    exact K1 _ _ he2 (by simpa using Ne.symm h2)
  · rintro v vs ρ σ1 ⟨js', os', e1, e2, e3, e4, C1, K1, l1⟩
    cases js' with
    | nil => cases e1
    | cons j js' =>
      rw [List.map_cons, List.cons.injEq] at e1
      obtain ⟨rfl, rfl⟩ := e1
      wtm_at "wp"
      (refine st_assign ?_)
      wtm_at "wp"
      refine nm_str rfl ?_
      wtm_at "wp"
      refine call_b ?_
      wtm_at "wp"
      refine op_attr co (L_PatternCode_orders) C1.h (v := .lst oa) rfl (vk_lst _) ?_
      wtm_at "wp"
      refine call_len_lst C1.o (by simp; exact lin2 (.e (.v 0) (.v 1) (.l (.v 1) (.k 90000) (.g (.v 0) (.k 1000000)))) rfl e3 hl) ?_
      wtm_at "wp"
      refine asg_sub ?_
      wtm_at "wp"
      refine op_attr co (L_PatternCode_orders) C1.h (v := .lst oa) rfl (vk_lst _) ?_
      wtm_at "wp"
      have hj' := e2 j (by simp)
      refine set_lst C1.o (by lia) (by simp; exact lin2 (.t (.v 0) (.v 1) (.b (.v 0) (.v 1))) rfl hj') (by simp; exact lin2 (.e (.v 0) (.v 1) (.l (.v 1) (.k 90000) (.g (.v 0) (.k 1000000)))) rfl e3 hl) ?_
      wtm_at "wp"
      have e0 : ((os'.map ovV).set ((j : Int).toNat) (.tup [.str "jump", .int ((os'.map ovV).length)])) = ((os'.set j (some (.jump os'.length))).map ovV) := by
        rw [List.map_set, Int.toNat_natCast]
        simp [ovV, Ord.v]
      rw [e0]
      refine ⟨js', os'.set j (some (.jump os'.length)), rfl, fun i hi => ?_, by rw [List.length_set]; exact e3, by rw [← e4]; rfl, C1.put _, fun b o eb nb => ?_, by wtm_at "lk1"⟩
      · rw [List.length_set]; exact e2 i (by simp [hi])
      · rw [AH.put_ne _ _ (by simpa using nb)]; exact K1 b o eb nb
  · rintro ρ σ1 ⟨js', os', e1, e2, e3, e4, C1, K1, l1⟩
    have : js' = [] := by cases js' with | nil => rfl | cons p rs => cases e1
    subst this
    wtm_at "wp"
    rw [← e4] at q
    exact q σ1 C1 K1
  · exact ⟨js, os, rfl, hj, rfl, rfl, C, Kept.refl _ _, by wtm_at "lk1"⟩
end
end
section
open PySem PySem.W PyProof.Rows PySem.Calls
noncomputable def choiceItems (e : Addr) : List Nd → List WI
  | [] => []
  | [p] => [.put p, .meet e]
  | p :: ps => .opn e :: .put p :: .shut e :: choiceItems e ps
noncomputable def opens (e : Addr) (ps : List Nd) : List WI := ps.flatMap fun p => [.opn e, .put p, .shut e]
theorem choice_eq (e : Addr) (p : Nd) : ∀ ps : List Nd, choiceItems e (ps ++ [p]) = opens e ps ++ [.put p, .meet e]
  | [] => rfl
  | [q] => rfl
  | q :: r :: ps => by
    have := choice_eq e p (r :: ps)
    show WI.opn e :: .put q :: .shut e :: choiceItems e ((r :: ps) ++ [p]) = _
    rw [this]; rfl
theorem opens_len (e : Addr) (ps : List Nd) : (opens e ps).length = 3 * ps.length := by
  induction ps with
  | nil => rfl
  | cons p ps ih => unfold opens at *; rw [List.flatMap_cons, List.length_append, ih]; simp; exact Nat.le_antisymm (lin1 (.g (.a (.k 3) (.m 3 (.v 0))) (.m 3 (.a (.v 0) (.k 1)))) rfl) (lin1 (.g (.m 3 (.a (.v 0) (.k 1))) (.a (.k 3) (.m 3 (.v 0)))) rfl)
section
variable {σ : AH} {Q : V → AH → Prop} {d oa : Addr} {os : Ords}
theorem w_choice {pa : Addr} {ps : List Nd} {p : Nd} (hp : σ pa = some (.list ((ps ++ [p]).map Nd.v))) (hl : ps.length ≤ 1000)
    (q : ∀ a e e2 σ', σ a = none → σ e = none → σ e2 = none → e ≠ e2 → σ' a = some (.list ((choiceItems e (ps ++ [p])).map WI.v)) → σ' e = some (.list [.int (-1), .lst e2]) → σ' e2 = some (.list []) → Kept σ σ' [] → Q (.lst a) σ') :
    Con 1 (.ref 446) [.inst 463 d, .lst pa] σ Q := by
  refine con_fn (F_PatternCode_choice) rfl fun L => ?_
  wtm_at "w_in"
  refine ss_cons (st_swap (names := ["found", "ends"]) ?_ rfl)
  refine ex_tuple ?_
  refine exs_cons ?_ rfl
  refine ex_list ?_
  wtm_at "wp"
  intro fa hfa
  refine exs_cons ?_ rfl
  refine ex_list ?_
  wtm_at "wp"
  refine op_neg ?_
  refine exs_cons ?_ rfl
  refine ex_list ?_
  wtm_at "wp"
  intro e2 he2
  wtm_at "wp"
  intro e he
  wtm_at "wp"
  refine ⟨_, rfl, rfl, ?_⟩
  refine sto_local rfl ?_
  refine sto_local rfl ?_
  show Stms _ _ _ _ _ _
  have n1 : fa ≠ e2 := fun z => by rw [← z, AH.put_self] at he2; cases he2
  have n2 : e2 ≠ e := fun z => by rw [← z, AH.put_self] at he; cases he
  have n3 : fa ≠ e := fun z => by rw [← z, AH.put_ne _ _ n1, AH.put_self] at he; cases he
  have he20 : σ e2 = none := by rw [AH.put_ne _ _ (Ne.symm n1)] at he2; exact he2
  have he0 : σ e = none := by rw [AH.put_ne _ _ (Ne.symm n2), AH.put_ne _ _ (Ne.symm n3)] at he; exact he
  generalize hσ1 : ((σ.put fa (.list [])).put e2 (.list [])).put e (.list [.int (-1), .lst e2]) = σ1
  have k1 : ∀ b o, σ b = some o → σ1 b = some o := fun b o eb => by
    rw [← hσ1, AH.put_ne _ _ (by exact ne_sn eb he0), AH.put_ne _ _ (by exact ne_sn eb he20), AH.put_ne _ _ (by exact ne_sn eb hfa)]; exact eb
  have s1 : σ1 fa = some (.list []) := by rw [← hσ1, AH.put_ne _ _ n3, AH.put_ne _ _ n1]; exact AH.put_self _ _ _
  have s2 : σ1 e = some (.list [.int (-1), .lst e2]) := by rw [← hσ1]; exact AH.put_self _ _ _
  have s3 : σ1 e2 = some (.list []) := by rw [← hσ1, AH.put_ne _ _ n2]; exact AH.put_self _ _ _
  have hpl : ((ps ++ [p]).map Nd.v).length ≤ 1000000 := by simp; exact lin1 (.l (.v 0) (.k 1000) (.g (.v 0) (.k 999999))) rfl hl
  clear hσ1
  wtm_at "wp"
  refine st_for ?_
  wtm_at "wp"
  refine call_b ?_
  wtm_at "wp"
  refine call_len_lst (k1 _ _ hp) hpl ?_
  wtm_at "wp"
  refine sl_upto (k := ps.length) (k1 _ _ hp) hpl (by simp) (by simp) ?_
  intro sa hsa
  refine ⟨_, _, iter_lst (AH.put_self _ _ _), ?_⟩
  have et : ((ps ++ [p]).map Nd.v).take ps.length = ps.map Nd.v := by rw [List.map_append]; exact List.take_left' (by simp)
  rw [et]
  have hsa0 : σ sa = none := by
    cases z : σ sa with
    | none => rfl
    | some o => rw [k1 _ _ z] at hsa; cases hsa
  have m1 : sa ≠ fa := fun z => by rw [z, s1] at hsa; cases hsa
  have m2 : sa ≠ e := fun z => by rw [z, s2] at hsa; cases hsa
  have m3 : sa ≠ e2 := fun z => by rw [z, s3] at hsa; cases hsa
  refine forj_inv (fun vs ρ σ' => EX2 fun (ds : List Nd) (rs : List Nd) => AN10 (ps = ds ++ rs) (vs = rs.map Nd.v) (σ' fa = some (.list ((opens e ds).map WI.v))) (σ' e = some (.list [.int (-1), .lst e2])) (σ' e2 = some (.list [])) (σ' sa = some (.list (ps.map Nd.v))) (Kept σ σ' []) (at_ ρ "found" = some (.lst fa)) (at_ ρ "ends" = some (.lst e)) (at_ ρ "parts" = some (.lst pa))) ?_ ?_ ?_ _ _ _ ?_
  · rintro vs ρ σ2 ⟨ds, rs, q1, q2, q3, q4, q5, q6, q7, l1, l2, l3⟩
    exact q6
  · rintro v vs ρ σ2 ⟨ds, rs, q1, q2, q3, q4, q5, q6, q7, l1, l2, l3⟩
    cases rs with
    | nil => cases q2
    | cons r rs =>
      rw [List.map_cons, List.cons.injEq] at q2
      obtain ⟨rfl, rfl⟩ := q2
      have hdl : (opens e ds).length ≤ 3000 := by rw [opens_len]; have := congrArg List.length q1; simp at this; exact lin3 (.f (.v 0) (.a (.v 1) (.a (.v 2) (.k 1))) (.f (.v 0) (.a (.v 1) (.a (.v 2) (.k 1))) (.f (.v 0) (.a (.v 1) (.a (.v 2) (.k 1))) (.l (.v 0) (.k 1000) (.l (.v 0) (.k 1000) (.l (.v 0) (.k 1000) (.g (.m 3 (.v 1)) (.k 3000)))))))) rfl this this this hl hl hl
      wtm_at "wp"
      refine ex_meth ?_
      wtm_at "wp"
      refine ⟨_, gm_list PySem.F.slot_list_extend PySem.F.type_list_extend q3, keeps_builtin, ?_⟩
      refine exs_one ?_
      refine ex_list ?_
      wtm_at "wp"
      refine nm_str rfl ?_
      wtm_at "wp"
      refine nm_str rfl ?_
      wtm_at "wp"
      refine nm_str rfl ?_
      wtm_at "wp"
      intro xa hxa
      have o1 : fa ≠ xa := fun z => by rw [← z, q3] at hxa; cases hxa
      have o2 : e ≠ xa := fun z => by rw [← z, q4] at hxa; cases hxa
      have o3 : e2 ≠ xa := fun z => by rw [← z, q5] at hxa; cases hxa
      have o4 : sa ≠ xa := fun z => by rw [← z, q6] at hxa; cases hxa
      refine call_extend (by rw [AH.put_ne _ _ o1]; exact q3) (AH.put_self _ _ _) (by simp; exact lin1 (.l (.v 0) (.k 3000) (.g (.v 0) (.k 100000))) rfl hdl) (by simp) ?_
      wtm_at "wp"
      refine ⟨ds ++ [r], rs, by rw [q1]; simp, rfl, ?_, ?_, ?_, ?_, fun b o eb nb => ?_, by wtm_at "lk1", by wtm_at "lk1", by wtm_at "lk1"⟩
      · rw [AH.put_self]; simp [opens, WI.v]
      · rw [AH.put_ne _ _ (Ne.symm n3), AH.put_ne _ _ o2]; exact q4
      · rw [AH.put_ne _ _ (Ne.symm n1), AH.put_ne _ _ o3]; exact q5
      · rw [AH.put_ne _ _ m1, AH.put_ne _ _ o4]; exact q6
      · have eb2 := q7 b o eb nb
        rw [AH.put_ne _ _ (by exact ne_sn eb hfa), AH.put_ne _ _ (by exact ne_sn eb2 hxa)]; exact eb2
  · rintro ρ σ2 ⟨ds, rs, q1, q2, q3, q4, q5, q6, q7, l1, l2, l3⟩
    have : rs = [] := by cases rs with | nil => rfl | cons p rs => cases q2
    subst this
    rw [List.append_nil] at q1
    subst q1
    have hp2 := q7 _ _ hp (by exact nn)
    have hdl : (opens e ps).length ≤ 3000 := by rw [opens_len]; exact lin1 (.l (.v 0) (.k 1000) (.l (.v 0) (.k 1000) (.l (.v 0) (.k 1000) (.g (.m 3 (.v 0)) (.k 3000))))) rfl hl hl hl
    wtm_at "wp"
    refine ex_list ?_
    wtm_at "wp"
    refine nm_str rfl ?_
    wtm_at "wp"
    refine call_b ?_
    wtm_at "wp"
    refine call_len_lst hp2 hpl ?_
    wtm_at "wp"
    refine sub_lst (j := ps.length) (v := p.v) hp2 (by simp) (by simp) (by exact lin1 (.l (.v 0) (.k 1000) (.b (.v 0) (.k 4611686018427387904))) rfl hl) ?_
    wtm_at "wp"
    refine nm_str rfl ?_
    wtm_at "wp"
    intro xa hxa
    have o1 : fa ≠ xa := fun z => by rw [← z, q3] at hxa; cases hxa
    have o2 : e ≠ xa := fun z => by rw [← z, q4] at hxa; cases hxa
    have o3 : e2 ≠ xa := fun z => by rw [← z, q5] at hxa; cases hxa
    refine op_add_lst (by rw [AH.put_ne _ _ o1]; exact q3) (AH.put_self _ _ _) (by simp; exact lin1 (.l (.v 0) (.k 3000) (.g (.v 0) (.k 100000))) rfl hdl) (by simp) ?_
    intro ya hya
    have hya2 : σ2 ya = none := by
      rw [AH.put_ne] at hya
      · exact hya
      · rintro rfl; rw [AH.put_self] at hya; cases hya
    refine q ya e e2 _ ?_ he0 he20 (Ne.symm n2) ?_ ?_ ?_ fun b o eb nb => ?_
    · cases z : σ ya with
      | none => rfl
      | some o => rw [q7 _ _ z (by exact nn)] at hya2; cases hya2
    · rw [AH.put_self, choice_eq]; simp [WI.v]
    · rw [AH.put_ne _ _ (by exact (ne_ns hya2 q4).symm), AH.put_ne _ _ o2]; exact q4
    · rw [AH.put_ne _ _ (by exact (ne_ns hya2 q5).symm), AH.put_ne _ _ o3]; exact q5
    · have eb2 := q7 b o eb nb
      rw [AH.put_ne _ _ (by exact ne_sn eb2 hya2), AH.put_ne _ _ (by exact ne_sn eb2 hxa)]; exact eb2
  · refine ⟨[], ps, rfl, rfl, ?_, ?_, ?_, AH.put_self _ _ _, fun b o eb _ => ?_, by wtm_at "lk1", by wtm_at "lk1", by wtm_at "lk1"⟩
    · rw [AH.put_ne _ _ (Ne.symm m1)]; exact s1
    · rw [AH.put_ne _ _ (Ne.symm m2)]; exact s2
    · rw [AH.put_ne _ _ (Ne.symm m3)]; exact s3
    · rw [AH.put_ne _ _ (by exact ne_sn eb hsa0)]; exact k1 b o eb
end
end
section
open PySem PySem.W PyProof.Rows PySem.Calls
section
variable {σ : AH} {Q : V → AH → Prop} {d oa : Addr} {os : Ords}
theorem Kept.put {σ : AH} {a : Addr} {o : AO} {D : List Addr} (h : a ∈ D) : Kept σ (σ.put a o) D := fun b o' e n => by rw [AH.put_ne]; exact e; rintro rfl; exact n h
theorem Kept.new {σ : AH} {a : Addr} {o : AO} {D : List Addr} (h : σ a = none) : Kept σ (σ.put a o) D := fun b o' e n => by rw [AH.put_ne _ _ (by first | exact ne_sn e h | exact ne_ns e h)]; exact e
theorem CdAt.new {a : Addr} {o : AO} (C : CdAt σ d oa os) (h : σ a = none) : CdAt (σ.put a o) d oa os :=
  C.other (fun z => by have := C.h; rw [z, h] at this; cases this) (fun z => by have := C.o; rw [z, h] at this; cases this)
theorem AH.none_of_put {σ : AH} {a b : Addr} {o : AO} (h : (σ.put a o) b = none) : σ b = none := by
  rw [AH.put_ne] at h
  · exact h
  · rintro rfl; rw [AH.put_self] at h; cases h
theorem w_repeat (C : CdAt σ d oa os) (hl : os.length ≤ 90000) {n : Nd}
    (q : ∀ a e e2 σ', σ a = none → σ e = none → σ e2 = none → e ≠ e2 → σ' a = some (.list (([.put n, .emit .gain, .emit (.jump os.length), .meet e] : List WI).map WI.v)) → σ' e = some (.list [.int os.length, .lst e2]) → σ' e2 = some (.list [.int ((os.length + 1 : Nat) : Int)]) → CdAt σ' d oa (os ++ [some (.split (os.length + 2)), none, some .mark]) → Kept σ σ' [oa] → Q (.lst a) σ') :
    Con 2 (.ref 453) [.inst 463 d, n.v] σ Q := by
  have co := (C_PatternCode).1
  refine con_fn (F_PatternCode_repeat) rfl fun L => ?_
  wtm_at "w_in"
  (first | refine ss_cons (st_asn ?_ rfl rfl) | refine ss_cons (st_assign ?_))
  refine ex_meth ?_
  wtm_at "wp"
  refine ⟨_, gm_inst co (L_PatternCode_emit) (M_PatternCode_emit).1 C.h rfl, (M_PatternCode_emit).2, ?_⟩
  wtm_at "wp"
  refine Con.call ((w_emit C (by exact lin1 (.l (.v 0) (.k 90000) (.g (.v 0) (.k 100000))) rfl hl) none ?_).less (by first | decide | lia))
  wtm_at "wp"
  (first | refine st_asn ?_ rfl rfl | refine st_assign ?_)
  refine ex_meth ?_
  have C1 := C.put (os ++ [none])
  wtm_at "wp"
  refine ⟨_, gm_inst co (L_PatternCode_emit) (M_PatternCode_emit).1 C1.h rfl, (M_PatternCode_emit).2, ?_⟩
  wtm_at "wp"
  refine Con.call ((w_emit C1 (by simp; exact lin1 (.l (.v 0) (.k 90000) (.g (.v 0) (.k 99999))) rfl hl) none ?_).less (by first | decide | lia))
  have C2 := C1.put (os ++ [none] ++ [none])
  wtm_at "wp"
  (first | refine st_asn ?_ rfl rfl | refine st_assign ?_)
  wtm_at "wp"
  refine nm_str rfl ?_
  wtm_at "wp"
  refine call_b ?_
  wtm_at "wp"
  refine op_attr co (L_PatternCode_orders) C2.h (v := .lst oa) rfl (vk_lst _) ?_
  wtm_at "wp"
  refine call_len_lst C2.o (by simp; exact lin1 (.l (.v 0) (.k 90000) (.g (.v 0) (.k 999998))) rfl hl) ?_
  wtm_at "wp"
  refine asg_sub ?_
  wtm_at "wp"
  refine op_attr co (L_PatternCode_orders) C2.h (v := .lst oa) rfl (vk_lst _) ?_
  wtm_at "wp"
  refine set_lst C2.o (by lia) (by simp; lia) (by simp; exact lin1 (.l (.v 0) (.k 90000) (.g (.v 0) (.k 999998))) rfl hl) ?_
  have e0 : (((os ++ [none] ++ [none]).map ovV).set ((os.length : Int).toNat) (.tup [.str "split", .int (((os ++ [none] ++ [none]).map ovV).length)])) = ((os ++ [some (Ord.split (os.length + 2)), none]).map ovV) := by
    simp [ovV, Ord.v]
  rw [e0]
  have C3 := C2.put (os ++ [some (Ord.split (os.length + 2)), none])
  wtm_at "wp"
  refine ex_meth ?_
  wtm_at "wp"
  refine ⟨_, gm_inst co (L_PatternCode_emit) (M_PatternCode_emit).1 C3.h rfl, (M_PatternCode_emit).2, ?_⟩
  wtm_at "wp"
  refine nm_str rfl ?_
  wtm_at "wp"
  refine Con.call ((w_emit C3 (by simp; exact lin1 (.l (.v 0) (.k 90000) (.g (.v 0) (.k 99998))) rfl hl) (some Ord.mark) ?_).less (by first | decide | lia))
  have C4 := C3.put (os ++ [some (Ord.split (os.length + 2)), none] ++ [some Ord.mark])
  have K4 : Kept σ ((((σ.put oa (.list ((os ++ [none]).map ovV))).put oa (.list ((os ++ [none] ++ [none]).map ovV))).put oa (.list ((os ++ [some (Ord.split (os.length + 2)), none]).map ovV))).put oa (.list ((os ++ [some (Ord.split (os.length + 2)), none] ++ [some Ord.mark]).map ovV))) [oa] :=
    (((Kept.put (by first | exact nn | simp)).trans (Kept.put (by first | exact nn | simp))).trans (Kept.put (by first | exact nn | simp))).trans (Kept.put (by first | exact nn | simp))
  revert C4 K4
  generalize ((((σ.put oa (.list ((os ++ [none]).map ovV))).put oa (.list ((os ++ [none] ++ [none]).map ovV))).put oa (.list ((os ++ [some (Ord.split (os.length + 2)), none]).map ovV))).put oa (.list ((os ++ [some (Ord.split (os.length + 2)), none] ++ [some Ord.mark]).map ovV))) = σ4
  intro C4 K4
  have el : (((os ++ [none]).length : Nat) : Int) = ((os.length + 1 : Nat) : Int) := by simp
  rw [el]
  have e5 : (os ++ [some (Ord.split (os.length + 2)), none] ++ [some Ord.mark]) = os ++ [some (Ord.split (os.length + 2)), none, some Ord.mark] := by simp
  rw [e5] at C4
  have none4 : ∀ {b : Addr}, σ4 b = none → σ b = none := fun {b} hb => K4.gone hb (by rintro m; rw [List.mem_singleton] at m; rw [m, C4.o] at hb; cases hb)
  wtm_at "wp"
  refine ex_list ?_
  wtm_at "wp"
  refine nm_str rfl ?_
  wtm_at "wp"
  refine nm_str rfl ?_
  wtm_at "wp"
  refine nm_str rfl ?_
  wtm_at "wp"
  refine nm_str rfl ?_
  wtm_at "wp"
  refine nm_str rfl ?_
  wtm_at "wp"
  refine nm_str rfl ?_
  wtm_at "wp"
  refine ex_list ?_
  wtm_at "wp"
  refine ex_list ?_
  wtm_at "wp"
  intro e2 he2
  wtm_at "wp"
  intro e he
  wtm_at "wp"
  intro a ha
  have ne : e ≠ e2 := fun z => by rw [z, AH.put_self] at he; cases he
  have na : a ≠ e := fun z => by rw [z, AH.put_self] at ha; cases ha
  have ha' := AH.none_of_put ha
  have na2 : a ≠ e2 := fun z => by rw [z, AH.put_self] at ha'; cases ha'
  refine q a e e2 _ (none4 (AH.none_of_put ha')) (none4 (AH.none_of_put he)) (none4 he2) ne (AH.put_self _ _ _) ?_ ?_ (((C4.new he2).new he).new ha) (((K4.trans (Kept.new he2)).trans (Kept.new he)).trans (Kept.new ha))
  · rw [AH.put_ne _ _ (Ne.symm na), AH.put_self]
  · rw [AH.put_ne _ _ (Ne.symm na2), AH.put_ne _ _ (Ne.symm ne), AH.put_self]
end
end
section
open PySem PySem.W PyProof.Rows PySem.Calls
theorem joinStep_len (f : List Nd) (p : Nd) : (joinStep f p).length ≤ f.length + 1 := by
  unfold joinStep
  split
  · simp
  · split
    · exact lin1 (.g (.v 0) (.a (.v 0) (.k 1))) rfl
    · split
      · simp
      · split <;> (simp; try lia -abstractProof)
theorem joined_len (ps : List Nd) : (joined ps).length ≤ ps.length := by
  have key : ∀ (ps f : List Nd), (ps.foldl joinStep f).length ≤ f.length + ps.length := by
    intro ps
    induction ps with
    | nil => intro f; simp
    | cons p ps ih => intro f; have := ih (joinStep f p); have := joinStep_len f p; simp at *; exact lin4 (.l (.v 0) (.a (.v 1) (.k 1)) (.l (.v 2) (.a (.v 0) (.v 3)) (.g (.v 2) (.a (.v 1) (.a (.v 3) (.k 1)))))) rfl this (by assumption)
  have := key ps []
  rw [List.length_nil, Nat.zero_add] at this
  exact this
section
variable {σ : AH} {Q : V → AH → Prop} {d oa : Addr} {os : Ords}
theorem w_begun_cat {x y : Nd} (hz : (Nd.cat x y).size ≤ 1000) (ht : sumTxt (rowCat (.cat x y)) ≤ 1000) (hl : (rowCat (.cat x y)).length ≤ 1000)
    (q : ∀ a σ', σ a = none → σ' a = some (.list (((joined (rowCat (.cat x y))).map WI.put).map WI.v)) → Kept σ σ' [] → Q (.lst a) σ') : Con 3 (.ref 439) [.inst 463 d, (Nd.cat x y).v] σ Q := by
  have e : (Nd.cat x y).v = .tup [.str "cat", x.v, y.v] := rfl
  rw [e]
  refine con_fn (F_PatternCode_begun) rfl fun L => ?_
  wtm_at "w_in"
  (refine ss_cons (st_asn ?_ rfl rfl))
  wtm_at "wp"
  refine ex_listcomp (cl := []) (closureFor_none (by decide)) (by decide) rfl (by decide) (fun _ h => nomatch h) (by decide) (fun _ _ h => nomatch h) ?_
  refine call_g ?_
  refine exs_one ?_
  refine call_g ?_
  wtm_at "wp"
  rw [← e]
  refine Con.call ((w_row_of (b := false) hz ?_).less (by decide))
  intro ra σ1 hra sra K1
  refine Con.call (w_joined sra hl ht ?_)
  intro ja σ2 hja sja K2
  refine ⟨_, _, [], iter_lst sja, (fun _ _ h => nomatch h), fun C => ?_⟩
  refine compj_inv (fun vs acc ρ σ' => ∃ ds rs : List Nd, joined (rowCat (.cat x y)) = ds ++ rs ∧ vs = rs.map Nd.v ∧ acc = ds.map (fun p => (WI.put p).v) ∧ σ' = σ2 ∧ (joined (rowCat (.cat x y))).length ≤ 1000) ?_ ?_ ?_ _ _ _ _ ⟨[], _, rfl, rfl, rfl, rfl, ?_⟩
  · rintro vs acc ρ σ' ⟨ds, rs, e1, e2, e3, rfl, e5⟩
    exact sja
  · rintro v vs acc ρ σ' ⟨ds, rs, e1, e2, e3, rfl, e5⟩
    cases rs with
    | nil => cases e2
    | cons r rs =>
      rw [List.map_cons, List.cons.injEq] at e2
      obtain ⟨rfl, rfl⟩ := e2
      have hacc : acc.length ≤ 1000000 := by rw [e3, List.length_map]; rw [e1] at e5; simp at e5; exact lin2 (.l (.a (.v 0) (.a (.v 1) (.k 1))) (.k 1000) (.g (.v 0) (.k 1000000))) rfl e5
      wtm_at "wp"
      refine nm_str rfl ?_
      wtm_at "wp"
      exact ⟨hacc, (fun _ h => nomatch h), ds ++ [r], rs, by rw [e1]; simp, rfl, by rw [e3]; simp [WI.v], rfl, e5⟩
  · rintro acc ρ σ' ⟨ds, rs, e1, e2, e3, rfl, e5⟩ D hD
    have : rs = [] := by cases rs with | nil => rfl | cons p rs => cases e2
    subst this
    rw [List.append_nil] at e1
    refine q D _ ?_ ?_ ((K1.trans K2).trans (Kept.new hD))
    · cases z : σ D with
      | none => rfl
      | some o => rw [(K1.trans K2) _ _ z (by exact nn)] at hD; cases hD
    · rw [AH.put_self, e1, e3, List.map_map]; rfl
  · exact Nat.le_trans (joined_len _) hl
theorem rowAlt_two (x y : Nd) : ∃ ps p, rowAlt (.alt x y) = ps ++ [p] := by
  have : ∀ n : Nd, ∃ ps p, rowAlt n = ps ++ [p] := by
    intro n
    induction n with
    | alt a b iha ihb => obtain ⟨ps, p, e⟩ := ihb; exact ⟨rowAlt a ++ ps, p, by show rowAlt a ++ rowAlt b = _; rw [e, List.append_assoc]⟩
    | _ => exact ⟨[], _, rfl⟩
  exact this _
theorem w_begun_alt {x y : Nd} (hz : (Nd.alt x y).size ≤ 1000) (hl : (rowAlt (.alt x y)).length ≤ 1000) (C : CdAt σ d oa os)
    (q : ∀ a e e2 σ', σ a = none → σ e = none → σ e2 = none → e ≠ e2 → σ' a = some (.list ((choiceItems e (rowAlt (.alt x y))).map WI.v)) → σ' e = some (.list [.int (-1), .lst e2]) → σ' e2 = some (.list []) → Kept σ σ' [] → Q (.lst a) σ') : Con 3 (.ref 439) [.inst 463 d, (Nd.alt x y).v] σ Q := by
  have co := (C_PatternCode).1
  have e : (Nd.alt x y).v = .tup [.str "alt", x.v, y.v] := rfl
  rw [e]
  refine con_fn (F_PatternCode_begun) rfl fun L => ?_
  wtm_at "w_in"
  (refine ss_cons (st_asn ?_ rfl rfl))
  wtm_at "wp"
  refine ex_meth ?_
  wtm_at "wp"
  refine ⟨_, gm_inst co (L_PatternCode_choice) (M_PatternCode_choice).1 C.h rfl, (M_PatternCode_choice).2, ?_⟩
  refine exs_one ?_
  refine call_g ?_
  wtm_at "wp"
  rw [← e]
  refine Con.call ((w_row_of (b := true) hz ?_).less (by decide))
  intro ra σ1 hra sra K1
  obtain ⟨ps, p, er⟩ := rowAlt_two x y
  have sra' : σ1 ra = some (.list ((ps ++ [p]).map Nd.v)) := by rw [sra, ← er]; rfl
  rw [er] at hl
  refine Con.call ((w_choice sra' (by simp at hl; exact lin1 (.l (.v 0) (.k 999) (.g (.v 0) (.k 1000))) rfl hl) ?_).less (by decide))
  intro a e1 e2 σ2 ha he he2 ne sa se se2 K2
  rw [er] at q
  have back : ∀ {b : Addr}, σ1 b = none → σ b = none := fun {b} hb => by
    cases z : σ b with
    | none => rfl
    | some o => rw [K1 _ _ z (by exact nn)] at hb; cases hb
  exact q a e1 e2 σ2 (back ha) (back he) (back he2) ne sa se se2 (K1.trans K2)
theorem w_begun_arbno {n : Nd} (C : CdAt σ d oa os) (hl : os.length ≤ 90000)
    (q : ∀ a e e2 σ', σ a = none → σ e = none → σ e2 = none → e ≠ e2 → σ' a = some (.list (([.put n, .emit .gain, .emit (.jump os.length), .meet e] : List WI).map WI.v)) → σ' e = some (.list [.int os.length, .lst e2]) → σ' e2 = some (.list [.int ((os.length + 1 : Nat) : Int)]) → CdAt σ' d oa (os ++ [some (.split (os.length + 2)), none, some .mark]) → Kept σ σ' [oa] → Q (.lst a) σ') : Con 3 (.ref 439) [.inst 463 d, (Nd.arbno n).v] σ Q := by
  have co := (C_PatternCode).1
  have e : (Nd.arbno n).v = .tup [.str "arbno", n.v] := rfl
  rw [e]
  refine con_fn (F_PatternCode_begun) rfl fun L => ?_
  wtm_at "w_in"
  (refine ss_cons (st_asn ?_ rfl rfl))
  wtm_at "wp"
  refine ex_meth ?_
  wtm_at "wp"
  refine ⟨_, gm_inst co (L_PatternCode_repeat) (M_PatternCode_repeat).1 C.h rfl, (M_PatternCode_repeat).2, ?_⟩
  wtm_at "wp"
  exact Con.call (w_repeat C hl q)
theorem w_begun_nm {n : Nd} {now : Bool} {r : Ref} (C : CdAt σ d oa os) (hl : os.length ≤ 90000)
    (q : ∀ a σ', σ a = none → σ' a = some (.list (([.put n, .emit (.nm now r)] : List WI).map WI.v)) → CdAt σ' d oa (os ++ [some .mark]) → Kept σ σ' [oa] → Q (.lst a) σ') : Con 3 (.ref 439) [.inst 463 d, (Nd.nm now n r).v] σ Q := by
  have co := (C_PatternCode).1
  have C1 := C.put (os ++ [some .mark])
  have none1 : ∀ {b : Addr}, (σ.put oa (.list ((os ++ [some Ord.mark]).map ovV))) b = none → σ b = none := fun {b} hb => AH.none_of_put hb
  cases now with
  | true =>
    have e : (Nd.nm true n r).v = .tup [.str "now", n.v, refV r] := rfl
    rw [e]
    refine con_fn (F_PatternCode_begun) rfl fun L => ?_
    wtm_at "w_in"
    (refine ss_cons (st_asn ?_ rfl rfl))
    wtm_at "wp"
    refine ex_meth ?_
    wtm_at "wp"
    refine ⟨_, gm_inst co (L_PatternCode_emit) (M_PatternCode_emit).1 C.h rfl, (M_PatternCode_emit).2, ?_⟩
    wtm_at "wp"
    refine nm_str rfl ?_
    wtm_at "wp"
    refine Con.call ((w_emit C (by exact lin1 (.l (.v 0) (.k 90000) (.g (.v 0) (.k 100000))) rfl hl) (some .mark) ?_).less (by decide))
    wtm_at "wp"
    refine ex_list ?_
    wtm_at "wp"
    refine nm_str rfl ?_
    wtm_at "wp"
    refine nm_str rfl ?_
    wtm_at "wp"
    refine nm_str rfl ?_
    wtm_at "wp"
    intro a ha
    exact q a _ (none1 ha) (AH.put_self _ _ _) (C1.new ha) ((Kept.put (by simp)).trans (Kept.new ha))
  | false =>
    have e : (Nd.nm false n r).v = .tup [.str "later", n.v, refV r] := rfl
    rw [e]
    refine con_fn (F_PatternCode_begun) rfl fun L => ?_
    wtm_at "w_in"
    (refine ss_cons (st_asn ?_ rfl rfl))
    wtm_at "wp"
    refine ex_meth ?_
    wtm_at "wp"
    refine ⟨_, gm_inst co (L_PatternCode_emit) (M_PatternCode_emit).1 C.h rfl, (M_PatternCode_emit).2, ?_⟩
    wtm_at "wp"
    refine nm_str rfl ?_
    wtm_at "wp"
    refine Con.call ((w_emit C (by exact lin1 (.l (.v 0) (.k 90000) (.g (.v 0) (.k 100000))) rfl hl) (some .mark) ?_).less (by decide))
    wtm_at "wp"
    refine ex_list ?_
    wtm_at "wp"
    refine nm_str rfl ?_
    wtm_at "wp"
    refine nm_str rfl ?_
    wtm_at "wp"
    refine nm_str rfl ?_
    wtm_at "wp"
    intro a ha
    exact q a _ (none1 ha) (AH.put_self _ _ _) (C1.new ha) ((Kept.put (by simp)).trans (Kept.new ha))
end
end
section
open PySem PySem.W PyProof.Rows PySem.Calls
theorem kind_facts (p : Pl) : (p.kind == ("cat" : Str)) = false ∧ (p.kind == ("alt" : Str)) = false ∧ (p.kind == ("arbno" : Str)) = false ∧ (p.kind == ("later" : Str)) = false ∧ (p.kind == ("now" : Str)) = false ∧ (tSINGLE.map (·.1)).contains p.kind = true := by
  cases p <;> (dsimp only [Pl.kind]; decide)
section
variable {σ : AH} {Q : V → AH → Prop} {d oa : Addr} {os : Ords}
theorem w_begun_pl {p : Pl} (C : CdAt σ d oa os) (hl : os.length ≤ 90000)
    (q : ∀ a σ', σ a = none → σ' a = some (.list []) → CdAt σ' d oa (os ++ [some (.one p)]) → Kept σ σ' [oa] → Q (.lst a) σ') : Con 3 (.ref 439) [.inst 463 d, (Nd.pl p).v] σ Q := by
  have co := (C_PatternCode).1
  have e : (Nd.pl p).v = .tup [.str p.kind, p.told] := rfl
  rw [e]
  obtain ⟨f1, f2, f3, f4, f5, f6⟩ := kind_facts p
  refine con_fn (F_PatternCode_begun) rfl fun L => ?_
  wtm_at "w_in"
  (refine ss_cons (st_asn ?_ rfl rfl))
  wtm_at "wp"
  try refine ite_ff f1 ?_
  wtm_at "wp"
  try refine ite_ff f2 ?_
  wtm_at "wp"
  try refine ite_ff f3 ?_
  wtm_at "wp"
  try refine ite_ff f4 ?_
  wtm_at "wp"
  try refine ite_ff f5 ?_
  wtm_at "wp"
  refine nm_val (tup_rep (by decide +kernel) (o384 w)) ?_
  refine cmp_in_tup ?_
  wtm_at "wp"
  try refine ite_tt f6 ?_
  wtm_at "wp"
  refine ex_meth ?_
  wtm_at "wp"
  refine ⟨_, gm_inst co (L_PatternCode_emit) (M_PatternCode_emit).1 C.h rfl, (M_PatternCode_emit).2, ?_⟩
  wtm_at "wp"
  refine nm_str rfl ?_
  wtm_at "wp"
  refine call_b ?_
  wtm_at "wp"
  refine call_len_tup (by simp) ?_
  wtm_at "wp"
  wtm_at "w_t"
  wtm_at "wp"
  refine Con.call ((w_emit C (by exact lin1 (.l (.v 0) (.k 90000) (.g (.v 0) (.k 100000))) rfl hl) (some (.one p)) ?_).less (by decide))
  wtm_at "wp"
  refine ex_list ?_
  wtm_at "wp"
  intro a ha
  exact q a _ (AH.none_of_put ha) (AH.put_self _ _ _) ((C.put _).new ha) ((Kept.put (by simp)).trans (Kept.new ha))
theorem w_begun_rem (C : CdAt σ d oa os) (hl : os.length ≤ 90000)
    (q : ∀ a σ', σ a = none → σ' a = some (.list []) → CdAt σ' d oa (os ++ [some .rem]) → Kept σ σ' [oa] → Q (.lst a) σ') : Con 3 (.ref 439) [.inst 463 d, Nd.rem.v] σ Q := by
  have co := (C_PatternCode).1
  have e : Nd.rem.v = .tup [.str "rem"] := rfl
  rw [e]
  refine con_fn (F_PatternCode_begun) rfl fun L => ?_
  wtm_at "w_in"
  (refine ss_cons (st_asn ?_ rfl rfl))
  wtm_at "wp"
  refine nm_val (tup_rep (by decide +kernel) (o384 w)) ?_
  refine cmp_in_tup ?_
  wtm_at "wp"
  refine ex_meth ?_
  wtm_at "wp"
  refine ⟨_, gm_inst co (L_PatternCode_emit) (M_PatternCode_emit).1 C.h rfl, (M_PatternCode_emit).2, ?_⟩
  wtm_at "wp"
  refine nm_str rfl ?_
  wtm_at "wp"
  refine call_b ?_
  wtm_at "wp"
  refine call_len_tup (by simp) ?_
  wtm_at "wp"
  refine Con.call ((w_emit C (by exact lin1 (.l (.v 0) (.k 90000) (.g (.v 0) (.k 100000))) rfl hl) (some .rem) ?_).less (by decide))
  wtm_at "wp"
  refine ex_list ?_
  wtm_at "wp"
  intro a ha
  exact q a _ (AH.none_of_put ha) (AH.put_self _ _ _) ((C.put _).new ha) ((Kept.put (by simp)).trans (Kept.new ha))
theorem w_begun_arb (C : CdAt σ d oa os) (hl : os.length ≤ 90000)
    (q : ∀ a σ', σ a = none → σ' a = some (.list []) → CdAt σ' d oa (os ++ [some .ways]) → Kept σ σ' [oa] → Q (.lst a) σ') : Con 3 (.ref 439) [.inst 463 d, Nd.arb.v] σ Q := by
  have co := (C_PatternCode).1
  have e : Nd.arb.v = .tup [.str "arb"] := rfl
  rw [e]
  refine con_fn (F_PatternCode_begun) rfl fun L => ?_
  wtm_at "w_in"
  (refine ss_cons (st_asn ?_ rfl rfl))
  wtm_at "wp"
  refine nm_val (tup_rep (by decide +kernel) (o384 w)) ?_
  refine cmp_in_tup ?_
  wtm_at "wp"
  refine ex_meth ?_
  wtm_at "wp"
  refine ⟨_, gm_inst co (L_PatternCode_emit) (M_PatternCode_emit).1 C.h rfl, (M_PatternCode_emit).2, ?_⟩
  wtm_at "wp"
  refine nm_str rfl ?_
  wtm_at "wp"
  refine Con.call ((w_emit C (by exact lin1 (.l (.v 0) (.k 90000) (.g (.v 0) (.k 100000))) rfl hl) (some .ways) ?_).less (by decide))
  wtm_at "wp"
  refine ex_list ?_
  wtm_at "wp"
  intro a ha
  exact q a _ (AH.none_of_put ha) (AH.put_self _ _ _) ((C.put _).new ha) ((Kept.put (by simp)).trans (Kept.new ha))
theorem w_begun_cursor {r : Ref} (C : CdAt σ d oa os) (hl : os.length ≤ 90000)
    (q : ∀ a σ', σ a = none → σ' a = some (.list []) → CdAt σ' d oa (os ++ [some (.place r)]) → Kept σ σ' [oa] → Q (.lst a) σ') : Con 3 (.ref 439) [.inst 463 d, (Nd.cursor r).v] σ Q := by
  have co := (C_PatternCode).1
  have e : (Nd.cursor r).v = .tup [.str "cursor", refV r] := rfl
  rw [e]
  refine con_fn (F_PatternCode_begun) rfl fun L => ?_
  wtm_at "w_in"
  (refine ss_cons (st_asn ?_ rfl rfl))
  wtm_at "wp"
  refine nm_val (tup_rep (by decide +kernel) (o384 w)) ?_
  refine cmp_in_tup ?_
  wtm_at "wp"
  refine ex_meth ?_
  wtm_at "wp"
  refine ⟨_, gm_inst co (L_PatternCode_emit) (M_PatternCode_emit).1 C.h rfl, (M_PatternCode_emit).2, ?_⟩
  refine exs_one ?_
  wtm_at "wp"
  refine nm_val (tup_rep (by decide +kernel) (o385 w)) ?_
  refine cmp_in_tup ?_
  wtm_at "wp"
  refine nm_str rfl ?_
  wtm_at "wp"
  refine Con.call ((w_emit C (by exact lin1 (.l (.v 0) (.k 90000) (.g (.v 0) (.k 100000))) rfl hl) (some (.place r)) ?_).less (by decide))
  wtm_at "wp"
  refine ex_list ?_
  wtm_at "wp"
  intro a ha
  exact q a _ (AH.none_of_put ha) (AH.put_self _ _ _) ((C.put _).new ha) ((Kept.put (by simp)).trans (Kept.new ha))
theorem w_begun_delay {k : Str} (C : CdAt σ d oa os) (hl : os.length ≤ 90000)
    (q : ∀ a σ', σ a = none → σ' a = some (.list []) → CdAt σ' d oa (os ++ [some (.ask k)]) → Kept σ σ' [oa] → Q (.lst a) σ') : Con 3 (.ref 439) [.inst 463 d, (Nd.delay k).v] σ Q := by
  have co := (C_PatternCode).1
  have e : (Nd.delay k).v = .tup [.str "delay", .tup [.str "name", .str k]] := rfl
  rw [e]
  refine con_fn (F_PatternCode_begun) rfl fun L => ?_
  wtm_at "w_in"
  (refine ss_cons (st_asn ?_ rfl rfl))
  wtm_at "wp"
  refine nm_val (tup_rep (by decide +kernel) (o384 w)) ?_
  refine cmp_in_tup ?_
  wtm_at "wp"
  refine ex_meth ?_
  wtm_at "wp"
  refine ⟨_, gm_inst co (L_PatternCode_emit) (M_PatternCode_emit).1 C.h rfl, (M_PatternCode_emit).2, ?_⟩
  refine exs_one ?_
  wtm_at "wp"
  refine nm_val (tup_rep (by decide +kernel) (o385 w)) ?_
  refine cmp_in_tup ?_
  wtm_at "wp"
  refine nm_str rfl ?_
  wtm_at "wp"
  refine Con.call ((w_emit C (by exact lin1 (.l (.v 0) (.k 90000) (.g (.v 0) (.k 100000))) rfl hl) (some (.ask k)) ?_).less (by decide))
  wtm_at "wp"
  refine ex_list ?_
  wtm_at "wp"
  intro a ha
  exact q a _ (AH.none_of_put ha) (AH.put_self _ _ _) ((C.put _).new ha) ((Kept.put (by simp)).trans (Kept.new ha))
end
end
section
open PySem PySem.W PyProof.Rows PySem.Calls
noncomputable def sz (l : List Nd) : Nat := (l.map Nd.size).sum
theorem sz_cons (p : Nd) (l : List Nd) : sz (p :: l) = p.size + sz l := by simp [sz]
theorem sz_append (l m : List Nd) : sz (l ++ m) = sz l + sz m := by simp [sz]
theorem sz_row_cat : ∀ n : Nd, sz (rowCat n) + (rowCat n).length = n.size + 1 := by
  intro n
  induction n with
  | cat a b iha ihb => show sz (rowCat a ++ rowCat b) + (rowCat a ++ rowCat b).length = a.size + b.size + 1 + 1; rw [sz_append, List.length_append]; exact Nat.le_antisymm (lin6 (.e (.a (.v 0) (.v 1)) (.a (.v 2) (.k 1)) (.e (.a (.v 3) (.v 4)) (.a (.v 5) (.k 1)) (.g (.a (.a (.v 3) (.v 0)) (.a (.v 4) (.v 1))) (.a (.a (.a (.v 5) (.v 2)) (.k 1)) (.k 1))))) rfl ihb iha) (lin6 (.f (.a (.v 0) (.v 1)) (.a (.v 2) (.k 1)) (.f (.a (.v 3) (.v 4)) (.a (.v 5) (.k 1)) (.g (.a (.a (.a (.v 5) (.v 2)) (.k 1)) (.k 1)) (.a (.a (.v 3) (.v 0)) (.a (.v 4) (.v 1)))))) rfl ihb iha)
  | _ => simp [rowCat, sz, Nd.size]
theorem sz_row_alt : ∀ n : Nd, sz (rowAlt n) + (rowAlt n).length = n.size + 1 := by
  intro n
  induction n with
  | alt a b iha ihb => show sz (rowAlt a ++ rowAlt b) + (rowAlt a ++ rowAlt b).length = a.size + b.size + 1 + 1; rw [sz_append, List.length_append]; exact Nat.le_antisymm (lin6 (.e (.a (.v 0) (.v 1)) (.a (.v 2) (.k 1)) (.e (.a (.v 3) (.v 4)) (.a (.v 5) (.k 1)) (.g (.a (.a (.v 3) (.v 0)) (.a (.v 4) (.v 1))) (.a (.a (.a (.v 5) (.v 2)) (.k 1)) (.k 1))))) rfl ihb iha) (lin6 (.f (.a (.v 0) (.v 1)) (.a (.v 2) (.k 1)) (.f (.a (.v 3) (.v 4)) (.a (.v 5) (.k 1)) (.g (.a (.a (.a (.v 5) (.v 2)) (.k 1)) (.k 1)) (.a (.a (.v 3) (.v 0)) (.a (.v 4) (.v 1)))))) rfl ihb iha)
  | _ => simp [rowAlt, sz, Nd.size]
theorem two_cat : ∀ n : Nd, 0 < (rowCat n).length := by
  intro n
  induction n with
  | cat a b iha ihb => show 0 < (rowCat a ++ rowCat b).length; rw [List.length_append]; exact lin2 (.t (.k 0) (.v 0) (.b (.k 0) (.a (.v 0) (.v 1)))) rfl iha
  | _ => simp [rowCat]
theorem two_alt : ∀ n : Nd, 0 < (rowAlt n).length := by
  intro n
  induction n with
  | alt a b iha ihb => show 0 < (rowAlt a ++ rowAlt b).length; rw [List.length_append]; exact lin2 (.t (.k 0) (.v 0) (.b (.k 0) (.a (.v 0) (.v 1)))) rfl iha
  | _ => simp [rowAlt]
theorem sz_joinStep (f : List Nd) (p : Nd) : sz (joinStep f p) ≤ sz f + p.size := by
  have hp := p.size_pos
  unfold joinStep
  split
  · rw [sz_append, sz_cons]; simp [sz]
  · split
    · exact lin2 (.g (.v 0) (.a (.v 0) (.v 1))) rfl
    · rcases List.eq_nil_or_concat f with rfl | ⟨f, u, rfl⟩
      · simp [sz]
      · rw [List.concat_eq_append]
        simp only [List.getLast?_append, List.getLast?_singleton, Option.some_or]
        split
        · rw [sz_append, sz_cons]; simp [sz]
        · rw [List.dropLast_concat, sz_append, sz_append, sz_cons, sz_cons]
          have := u.size_pos
          simp [sz, Nd.size]; exact lin3 (.t (.k 0) (.v 0) (.g (.a (.v 1) (.k 1)) (.a (.a (.v 1) (.v 2)) (.v 0)))) rfl hp
theorem sz_joined (ps : List Nd) : sz (joined ps) ≤ sz ps := by
  have key : ∀ (ps f : List Nd), sz (ps.foldl joinStep f) ≤ sz f + sz ps := by
    intro ps
    induction ps with
    | nil => intro f; simp [sz]
    | cons p ps ih => intro f; have := ih (joinStep f p); have := sz_joinStep f p; rw [sz_cons]; simp at *; exact lin5 (.l (.v 0) (.a (.v 1) (.v 2)) (.l (.v 3) (.a (.v 0) (.v 4)) (.g (.v 3) (.a (.v 1) (.a (.v 2) (.v 4)))))) rfl this (by assumption)
  have := key ps []
  simp [sz] at this
  exact this
theorem mem_sz {p : Nd} {l : List Nd} (h : p ∈ l) : p.size ≤ sz l := by
  induction l with
  | nil => cases h
  | cons q l ih =>
    rw [sz_cons]
    rcases List.mem_cons.mp h with rfl | h
    · exact lin2 (.g (.v 0) (.a (.v 0) (.v 1))) rfl
    · have := ih h; lia
noncomputable def Nd.text : Nd → Nat
  | .pl p => (match p with | .chars t => t.length | _ => 0)
  | .cat a b => a.text + b.text
  | .alt a b => a.text + b.text
  | .arbno a => a.text
  | .nm _ a _ => a.text
  | .rem => 0 | .arb => 0 | .delay _ => 0 | .cursor _ => 0
noncomputable def tx (l : List Nd) : Nat := (l.map Nd.text).sum
theorem tx_cons (p : Nd) (l : List Nd) : tx (p :: l) = p.text + tx l := by simp [tx]
theorem tx_append (l m : List Nd) : tx (l ++ m) = tx l + tx m := by simp [tx]
theorem txt_le (p : Nd) : p.txt ≤ p.text := by
  cases p with
  | pl q => cases q <;> simp [Nd.txt, Nd.text]
  | _ => simp [Nd.txt]
theorem sumTxt_le (l : List Nd) : sumTxt l ≤ tx l := by
  induction l with
  | nil => simp [sumTxt, tx]
  | cons p l ih => have := txt_le p; rw [tx_cons]; simp [sumTxt] at *; exact lin4 (.l (.v 0) (.v 1) (.l (.v 2) (.v 3) (.g (.a (.v 0) (.v 2)) (.a (.v 1) (.v 3))))) rfl this ih
theorem tx_row_cat : ∀ n : Nd, tx (rowCat n) = n.text := by
  intro n
  induction n with
  | cat a b iha ihb => show tx (rowCat a ++ rowCat b) = _; rw [tx_append, iha, ihb]; rfl
  | _ => simp [rowCat, tx]
theorem tx_row_alt : ∀ n : Nd, tx (rowAlt n) = n.text := by
  intro n
  induction n with
  | alt a b iha ihb => show tx (rowAlt a ++ rowAlt b) = _; rw [tx_append, iha, ihb]; rfl
  | _ => simp [rowAlt, tx]
set_option tactic.hygienic true
theorem textOf_text {p : Nd} {t : Str} (h : textOf p = some t) : p.text = t.length := by
  rcases textOf_case p with ⟨_, h2⟩ | ⟨u, rfl⟩
  · rw [h] at h2; cases h2
  · cases h; rfl
set_option tactic.hygienic false
theorem Str.len_append (a b : Str) : (a ++ b).length = a.length + b.length := by show (a.cps ++ b.cps).size = _; rw [Array.size_append]; rfl
set_option tactic.hygienic true
theorem tx_joinStep (f : List Nd) (p : Nd) : tx (joinStep f p) ≤ tx f + p.text := by
  unfold joinStep
  split
  · rw [tx_append, tx_cons]; simp [tx]
  · rename_i t ht
    split
    · exact lin2 (.g (.v 0) (.a (.v 0) (.v 1))) rfl
    · rcases List.eq_nil_or_concat f with rfl | ⟨f, u, rfl⟩
      · simp [tx]
      · rw [List.concat_eq_append]
        simp only [List.getLast?_append, List.getLast?_singleton, Option.some_or]
        split
        · rw [tx_append, tx_cons]; simp [tx]
        · rename_i v hv
          have e1 := textOf_text ht
          have e2 := textOf_text hv
          rw [List.dropLast_concat, tx_append, tx_append, tx_cons, tx_cons]
          have := Str.len_append v t
          simp [tx, Nd.text]; exact lin6 (.e (.v 0) (.a (.v 1) (.v 2)) (.f (.v 3) (.v 2) (.f (.v 4) (.v 1) (.g (.a (.v 5) (.v 0)) (.a (.a (.v 5) (.v 4)) (.v 3)))))) rfl this e1 e2
set_option tactic.hygienic false
theorem tx_joined (ps : List Nd) : tx (joined ps) ≤ tx ps := by
  have key : ∀ (ps f : List Nd), tx (ps.foldl joinStep f) ≤ tx f + tx ps := by
    intro ps
    induction ps with
    | nil => intro f; simp [tx]
    | cons p ps ih => intro f; have := ih (joinStep f p); have := tx_joinStep f p; rw [tx_cons]; simp at *; exact lin5 (.l (.v 0) (.a (.v 1) (.v 2)) (.l (.v 3) (.a (.v 0) (.v 4)) (.g (.v 3) (.a (.v 1) (.a (.v 2) (.v 4)))))) rfl this (by assumption)
  have := key ps []
  simp [tx] at this
  exact this
theorem mem_tx {p : Nd} {l : List Nd} (h : p ∈ l) : p.text ≤ tx l := by
  induction l with
  | nil => cases h
  | cons q l ih =>
    rw [tx_cons]
    rcases List.mem_cons.mp h with rfl | h
    · exact lin2 (.g (.v 0) (.a (.v 0) (.v 1))) rfl
    · have := ih h; lia
theorem setJumps_len : ∀ (js : List Nat) (os : Ords), (setJumps os js).length = os.length
  | [], _ => rfl
  | j :: js, os => by show (setJumps (os.set j _) js).length = _; rw [setJumps_len js, List.length_set]
noncomputable def Grows (put : Nd → Ords → Ords) (k : Nat) : Prop := ∀ n os, n.size ≤ k → os.length ≤ (put n os).length ∧ (put n os).length + 5 ≤ os.length + 5 * n.size + 5
theorem runAlt_cons (put : Nd → Ords → Ords) (p q : Nd) (ps : List Nd) (os : Ords) (js : List Nat) :
    runAlt put (p :: q :: ps) os js = runAlt put (q :: ps) ((put p (os ++ [none]) ++ [none]).set os.length (some (.split ((put p (os ++ [none])).length + 1)))) (js ++ [(put p (os ++ [none])).length]) := rfl
theorem runAlt_len {put : Nd → Ords → Ords} {k : Nat} (g : Grows put k) : ∀ (ps : List Nd) (os : Ords) (js : List Nat), sz ps ≤ k → ps ≠ [] → os.length ≤ (runAlt put ps os js).length ∧ (runAlt put ps os js).length + 2 ≤ os.length + 5 * sz ps + 2 * ps.length
  | [], _, _, _, h => absurd rfl h
  | [p], os, js, hs, _ => by
    show os.length ≤ (setJumps (put p os) js).length ∧ (setJumps (put p os) js).length + 2 ≤ _
    rw [sz_cons] at hs ⊢
    have := g p os (by exact lin2 (.l (.a (.v 0) (.k 0)) (.v 1) (.g (.v 0) (.v 1))) rfl hs)
    rw [setJumps_len]; simp [sz]; exact ⟨lin2 (.l (.v 0) (.v 1) (.g (.v 0) (.v 1))) rfl this.1, lin3 (.l (.a (.v 0) (.k 5)) (.a (.a (.v 1) (.m 5 (.v 2))) (.k 5)) (.g (.v 0) (.a (.v 1) (.m 5 (.v 2))))) rfl this.2⟩
  | p :: q :: ps, os, js, hs, _ => by
    rw [runAlt_cons]
    rw [sz_cons] at hs
    have h1 := g p (os ++ [none]) (by exact lin3 (.l (.a (.v 0) (.v 1)) (.v 2) (.g (.v 0) (.v 2))) rfl hs)
    have := runAlt_len g (q :: ps) ((put p (os ++ [none]) ++ [none]).set os.length (some (.split ((put p (os ++ [none])).length + 1)))) (js ++ [(put p (os ++ [none])).length]) (by exact lin3 (.l (.a (.v 0) (.v 1)) (.v 2) (.g (.v 1) (.v 2))) rfl hs) (by simp)
    rw [List.length_set, List.length_append] at this
    rw [sz_cons]
    simp only [List.length_append, List.length_cons, List.length_nil] at *
    exact ⟨lin3 (.l (.a (.v 0) (.a (.k 0) (.k 1))) (.v 1) (.l (.a (.v 2) (.a (.k 0) (.k 1))) (.v 0) (.g (.v 2) (.v 1)))) rfl this.1 h1.1, lin6 (.l (.a (.v 0) (.k 2)) (.a (.a (.a (.v 1) (.a (.k 0) (.k 1))) (.m 5 (.v 2))) (.m 2 (.a (.v 3) (.k 1)))) (.l (.a (.v 1) (.k 5)) (.a (.a (.a (.v 4) (.a (.k 0) (.k 1))) (.m 5 (.v 5))) (.k 5)) (.g (.a (.v 0) (.k 2)) (.a (.a (.v 4) (.m 5 (.a (.v 5) (.v 2)))) (.m 2 (.a (.a (.v 3) (.k 1)) (.k 1))))))) rfl this.2 h1.2⟩
theorem fold_len {put : Nd → Ords → Ords} {k : Nat} (g : Grows put k) : ∀ (ps : List Nd) (os : Ords), sz ps ≤ k → os.length ≤ (ps.foldl (fun os p => put p os) os).length ∧ (ps.foldl (fun os p => put p os) os).length ≤ os.length + 5 * sz ps
  | [], _, _ => by simp [sz]
  | p :: ps, os, hs => by
    rw [sz_cons] at hs ⊢
    have h1 := g p os (by exact lin3 (.l (.a (.v 0) (.v 1)) (.v 2) (.g (.v 0) (.v 2))) rfl hs)
    have h2 := fold_len g ps (put p os) (by exact lin3 (.l (.a (.v 0) (.v 1)) (.v 2) (.g (.v 1) (.v 2))) rfl hs)
    rw [List.foldl_cons]; exact ⟨lin3 (.l (.v 0) (.v 1) (.l (.v 1) (.v 2) (.g (.v 0) (.v 2)))) rfl h1.1 h2.1, lin5 (.l (.a (.v 0) (.k 5)) (.a (.a (.v 1) (.m 5 (.v 2))) (.k 5)) (.l (.v 3) (.a (.v 0) (.m 5 (.v 4))) (.g (.v 3) (.a (.v 1) (.m 5 (.a (.v 2) (.v 4))))))) rfl h1.2 h2.2⟩
theorem grows : ∀ k, Grows (putN k) k
  | 0 => fun n os h => by have := n.size_pos; lia
  | k + 1 => fun n os h => by
    have g := grows k
    cases n with
    | cat a b =>
      have h1 := sz_row_cat (.cat a b)
      have h2 := sz_joined (rowCat (.cat a b))
      have h3 := two_cat a
      have h4 := two_cat b
      have h5 : (rowCat (.cat a b)).length = (rowCat a).length + (rowCat b).length := by show (rowCat a ++ rowCat b).length = _; rw [List.length_append]
      have := fold_len g (joined (rowCat (.cat a b))) os (by exact lin7 (.e (.a (.v 0) (.v 1)) (.a (.v 2) (.k 1)) (.t (.k 0) (.v 3) (.t (.k 0) (.v 4) (.f (.v 1) (.a (.v 3) (.v 4)) (.l (.v 2) (.a (.v 5) (.k 1)) (.l (.v 6) (.v 0) (.g (.v 6) (.v 5)))))))) rfl h1 h3 h4 h5 h h2)
      show os.length ≤ ((joined (rowCat (.cat a b))).foldl (fun os p => putN k p os) os).length ∧ _
      refine ⟨this.1, ?_⟩
      show ((joined (rowCat (.cat a b))).foldl (fun os p => putN k p os) os).length + 5 ≤ _
      lia
    | alt a b =>
      have h1 := sz_row_alt (.alt a b)
      have h3 := two_alt a
      have h4 := two_alt b
      have h5 : (rowAlt (.alt a b)).length = (rowAlt a).length + (rowAlt b).length := by show (rowAlt a ++ rowAlt b).length = _; rw [List.length_append]
      have := runAlt_len g (rowAlt (.alt a b)) os [] (by exact lin6 (.e (.a (.v 0) (.v 1)) (.a (.v 2) (.k 1)) (.t (.k 0) (.v 3) (.t (.k 0) (.v 4) (.f (.v 1) (.a (.v 3) (.v 4)) (.l (.v 2) (.a (.v 5) (.k 1)) (.g (.v 0) (.v 5))))))) rfl h1 h3 h4 h5 h) (by intro z; rw [z] at h5; simp at h5; exact lin2 (.t (.k 0) (.v 0) (.f (.k 0) (.a (.v 0) (.v 1)) (.z))) rfl h3 h5)
      show os.length ≤ (runAlt (putN k) (rowAlt (.alt a b)) os []).length ∧ (runAlt (putN k) (rowAlt (.alt a b)) os []).length + 5 ≤ _
      lia
    | arbno a =>
      have hs : (Nd.arbno a).size = a.size + 1 := rfl
      have := g a (os ++ [some (.split (os.length + 2)), none, some .mark]) (by exact lin3 (.f (.v 0) (.a (.v 1) (.k 1)) (.l (.v 0) (.a (.v 2) (.k 1)) (.g (.v 1) (.v 2)))) rfl hs h)
      show os.length ≤ (List.set _ _ _).length ∧ (List.set _ _ _).length + 5 ≤ _
      simp only [List.length_set, List.length_append, List.length_cons, List.length_nil] at this ⊢
      exact ⟨lin2 (.l (.a (.v 0) (.a (.a (.a (.k 0) (.k 1)) (.k 1)) (.k 1))) (.v 1) (.g (.v 0) (.a (.v 1) (.a (.a (.k 0) (.k 1)) (.k 1))))) rfl this.1, lin4 (.l (.a (.v 0) (.k 5)) (.a (.a (.a (.v 1) (.a (.a (.a (.k 0) (.k 1)) (.k 1)) (.k 1))) (.m 5 (.v 2))) (.k 5)) (.f (.v 3) (.a (.v 2) (.k 1)) (.f (.v 3) (.a (.v 2) (.k 1)) (.f (.v 3) (.a (.v 2) (.k 1)) (.f (.v 3) (.a (.v 2) (.k 1)) (.f (.v 3) (.a (.v 2) (.k 1)) (.g (.a (.a (.v 0) (.a (.a (.k 0) (.k 1)) (.k 1))) (.k 5)) (.a (.a (.v 1) (.m 5 (.v 3))) (.k 5))))))))) rfl this.2 hs hs hs hs hs⟩
    | nm b a r =>
      have hs : (Nd.nm b a r).size = a.size + 1 := rfl
      have := g a (os ++ [some .mark]) (by exact lin3 (.f (.v 0) (.a (.v 1) (.k 1)) (.l (.v 0) (.a (.v 2) (.k 1)) (.g (.v 1) (.v 2)))) rfl hs h)
      show os.length ≤ (putN k a (os ++ [some Ord.mark]) ++ [_]).length ∧ (putN k a (os ++ [some Ord.mark]) ++ [_]).length + 5 ≤ _
      simp only [List.length_append, List.length_cons, List.length_nil] at this ⊢
      exact ⟨lin2 (.l (.a (.v 0) (.a (.k 0) (.k 1))) (.v 1) (.g (.v 0) (.a (.v 1) (.a (.k 0) (.k 1))))) rfl this.1, lin4 (.l (.a (.v 0) (.k 5)) (.a (.a (.a (.v 1) (.a (.k 0) (.k 1))) (.m 5 (.v 2))) (.k 5)) (.f (.v 3) (.a (.v 2) (.k 1)) (.f (.v 3) (.a (.v 2) (.k 1)) (.f (.v 3) (.a (.v 2) (.k 1)) (.f (.v 3) (.a (.v 2) (.k 1)) (.f (.v 3) (.a (.v 2) (.k 1)) (.g (.a (.a (.v 0) (.a (.k 0) (.k 1))) (.k 5)) (.a (.a (.v 1) (.m 5 (.v 3))) (.k 5))))))))) rfl this.2 hs hs hs hs hs⟩
    | _ =>
      simp only [putN, Nd.size, List.length_append, List.length_cons, List.length_nil]
      exact ⟨lin1 (.g (.v 0) (.a (.v 0) (.a (.k 0) (.k 1)))) rfl, lin1 (.g (.a (.a (.v 0) (.a (.k 0) (.k 1))) (.k 5)) (.a (.a (.v 0) (.m 5 (.k 1))) (.k 5))) rfl⟩
structure PS (σ : AH) (d oa wa : Addr) (ws : List WI) (os : Ords) : Prop where
  cd : CdAt σ d oa os
  w : σ wa = some (.list (ws.map WI.v))
theorem PS.ne {σ : AH} {d oa wa : Addr} {ws : List WI} {os : Ords} (P : PS σ d oa wa ws os) (h : oa ≠ wa) : d ≠ wa := fun e => by have := P.cd.h; rw [e, P.w] at this; cases this
noncomputable def leafOrd : Nd → Option Ord
  | .pl p => some (.one p) | .rem => some .rem | .arb => some .ways | .delay k => some (.ask k) | .cursor r => some (.place r)
  | .cat .. => none | .alt .. => none | .arbno _ => none | .nm .. => none
structure Turns (d oa wa : Addr) (T : Nat → AH → Prop) : Prop where
  leaf : ∀ n o ws os σ m, leafOrd n = some o → PS σ d oa wa (ws ++ [.put n]) os → os.length ≤ 90000 → ws.length ≤ 90000 → (∀ σ', PS σ' d oa wa ws (os ++ [some o]) → Kept σ σ' [oa, wa] → T m σ') → T (m + 1) σ
  cat : ∀ x y ws os σ m, PS σ d oa wa (ws ++ [.put (.cat x y)]) os → (Nd.cat x y).size ≤ 1000 → (Nd.cat x y).text ≤ 1000 → ws.length ≤ 90000 → (∀ σ', PS σ' d oa wa (ws ++ ((joined (rowCat (.cat x y))).map WI.put).reverse) os → Kept σ σ' [oa, wa] → T m σ') → T (m + 1) σ
  alt : ∀ x y ws os σ m, PS σ d oa wa (ws ++ [.put (.alt x y)]) os → (Nd.alt x y).size ≤ 1000 → ws.length ≤ 90000 →
    (∀ e e2 σ', σ e = none → σ e2 = none → e ≠ e2 → PS σ' d oa wa (ws ++ (choiceItems e (rowAlt (.alt x y))).reverse) os → σ' e = some (.list [.int (-1), .lst e2]) → σ' e2 = some (.list []) → Kept σ σ' [oa, wa] → T m σ') → T (m + 1) σ
  arbno : ∀ n ws os σ m, PS σ d oa wa (ws ++ [.put (.arbno n)]) os → os.length ≤ 90000 → ws.length ≤ 90000 →
    (∀ e e2 σ', σ e = none → σ e2 = none → e ≠ e2 → PS σ' d oa wa (ws ++ [.meet e, .emit (.jump os.length), .emit .gain, .put n]) (os ++ [some (.split (os.length + 2)), none, some .mark]) → σ' e = some (.list [.int os.length, .lst e2]) → σ' e2 = some (.list [.int ((os.length + 1 : Nat) : Int)]) → Kept σ σ' [oa, wa] → T m σ') → T (m + 1) σ
  nm : ∀ b n r ws os σ m, PS σ d oa wa (ws ++ [.put (.nm b n r)]) os → os.length ≤ 90000 → ws.length ≤ 90000 → (∀ σ', PS σ' d oa wa (ws ++ [.emit (.nm b r), .put n]) (os ++ [some .mark]) → Kept σ σ' [oa, wa] → T m σ') → T (m + 1) σ
  emit : ∀ o ws os σ m, PS σ d oa wa (ws ++ [.emit o]) os → os.length ≤ 90000 → ws.length ≤ 90000 → (∀ σ', PS σ' d oa wa ws (os ++ [some o]) → Kept σ σ' [oa, wa] → T m σ') → T (m + 1) σ
  opn : ∀ e e2 (x : Int) ws os σ m, PS σ d oa wa (ws ++ [.opn e]) os → os.length ≤ 90000 → ws.length ≤ 90000 → σ e = some (.list [.int x, .lst e2]) → e ≠ oa → e ≠ wa → (∀ σ', PS σ' d oa wa ws (os ++ [none]) → σ' e = some (.list [.int os.length, .lst e2]) → Kept σ σ' [oa, wa, e] → T m σ') → T (m + 1) σ
  shut : ∀ e e2 (k : Nat) (js : List Nat) ws os σ m, PS σ d oa wa (ws ++ [.shut e]) os → os.length ≤ 90000 → ws.length ≤ 90000 → js.length ≤ 90000 → σ e = some (.list [.int k, .lst e2]) → σ e2 = some (.list (js.map fun j => .int (j : Nat))) → k < os.length → e ≠ oa → e ≠ wa → e2 ≠ oa → e2 ≠ wa → e ≠ e2 →
    (∀ σ', PS σ' d oa wa ws ((os ++ [none]).set k (some (.split (os.length + 1)))) → σ' e2 = some (.list ((js ++ [os.length]).map fun j => .int (j : Nat))) → Kept σ σ' [oa, wa, e2] → T m σ') → T (m + 1) σ
  meet : ∀ e e2 (x : Int) (js : List Nat) ws os σ m, PS σ d oa wa (ws ++ [.meet e]) os → os.length ≤ 90000 → ws.length ≤ 90000 → σ e = some (.list [.int x, .lst e2]) → σ e2 = some (.list (js.map fun j => .int (j : Nat))) → (∀ j ∈ js, j < os.length) → e ≠ oa → e ≠ wa → e2 ≠ oa → e2 ≠ wa →
    (∀ σ', PS σ' d oa wa ws (setJumps os js) → Kept σ σ' [oa, wa] → T m σ') → T (m + 1) σ
theorem Kept.more {σ σ' : AH} {D D' : List Addr} (K : Kept σ σ' D) (h : ∀ x ∈ D, x ∈ D') : Kept σ σ' D' := fun b o e n => K b o e fun m => n (h b m)
def Puts (d oa wa : Addr) (T : Nat → AH → Prop) (put : Nd → Ords → Ords) (n : Nd) : Prop :=
  ∃ t, ∀ ws os σ m, PS σ d oa wa (ws ++ [.put n]) os → os.length + 5 * n.size ≤ 80000 → ws.length + 10 * n.size ≤ 80000 → (∀ σ', PS σ' d oa wa ws (put n os) → Kept σ σ' [oa, wa] → T m σ') → T (m + t) σ
theorem puts_seq {d oa wa : Addr} {T : Nat → AH → Prop} {put : Nd → Ords → Ords} {k : Nat} (g : Grows put k) : ∀ ps : List Nd, (∀ p ∈ ps, Puts d oa wa T put p) → sz ps ≤ k →
    ∃ t, ∀ ws os σ m, PS σ d oa wa (ws ++ (ps.map WI.put).reverse) os → os.length + 5 * sz ps ≤ 80000 → ws.length + 10 * sz ps ≤ 80000 → (∀ σ', PS σ' d oa wa ws (ps.foldl (fun os p => put p os) os) → Kept σ σ' [oa, wa] → T m σ') → T (m + t) σ
  | [], _, _ => ⟨0, fun ws os σ m P _ _ q => q σ (by simpa using P) (Kept.refl _ _)⟩
  | p :: ps, hp, hk => by
    rw [sz_cons] at hk
    obtain ⟨t1, h1⟩ := hp p (by simp)
    obtain ⟨t2, h2⟩ := puts_seq g ps (fun q hq => hp q (by simp [hq])) (by exact lin3 (.l (.a (.v 0) (.v 1)) (.v 2) (.g (.v 1) (.v 2))) rfl hk)
    refine ⟨t2 + t1, fun ws os σ m P b1 b2 q => ?_⟩
    rw [sz_cons] at b1 b2
    have pp := p.size_pos
    have hl : ps.length ≤ sz ps := len_le_sizes ps
    have gp := g p os (by exact lin3 (.l (.a (.v 0) (.v 1)) (.v 2) (.g (.v 0) (.v 2))) rfl hk)
    rw [← Nat.add_assoc]
    refine h1 (ws ++ (ps.map WI.put).reverse) os σ (m + t2) (by simpa using P) (by exact lin3 (.l (.a (.v 0) (.m 5 (.a (.v 1) (.v 2)))) (.k 80000) (.g (.a (.v 0) (.m 5 (.v 1))) (.k 80000))) rfl b1) (by simp; exact lin4 (.l (.a (.v 0) (.m 10 (.a (.v 1) (.v 2)))) (.k 80000) (.l (.v 3) (.v 2) (.g (.a (.a (.v 0) (.v 3)) (.m 10 (.v 1))) (.k 80000)))) rfl b2 hl) fun σ1 P1 K1 => ?_
    exact h2 ws (put p os) σ1 m P1 (by exact lin4 (.l (.a (.v 0) (.m 5 (.a (.v 1) (.v 2)))) (.k 80000) (.l (.a (.v 3) (.k 5)) (.a (.a (.v 0) (.m 5 (.v 1))) (.k 5)) (.g (.a (.v 3) (.m 5 (.v 2))) (.k 80000)))) rfl b1 gp.2) (by exact lin3 (.l (.a (.v 0) (.m 10 (.a (.v 1) (.v 2)))) (.k 80000) (.g (.a (.v 0) (.m 10 (.v 2))) (.k 80000))) rfl b2) fun σ2 P2 K2 => q σ2 P2 (K1.trans K2)
theorem puts_alt {d oa wa : Addr} {T : Nat → AH → Prop} (tn : Turns d oa wa T) {put : Nd → Ords → Ords} {k : Nat} (g : Grows put k) : ∀ ps : List Nd, (∀ p ∈ ps, Puts d oa wa T put p) → sz ps ≤ k → ps ≠ [] →
    ∃ t, ∀ e e2 (x : Int) (js : List Nat) ws os σ m, PS σ d oa wa (ws ++ (choiceItems e ps).reverse) os → σ e = some (.list [.int x, .lst e2]) → σ e2 = some (.list (js.map fun j => .int (j : Nat))) → (∀ j ∈ js, j < os.length) → js.length ≤ os.length → e ≠ oa → e ≠ wa → e2 ≠ oa → e2 ≠ wa → e ≠ e2 →
      os.length + 5 * sz ps + 5 * ps.length ≤ 80005 → ws.length + 10 * sz ps + 5 * ps.length ≤ 80000 → (∀ σ', PS σ' d oa wa ws (runAlt put ps os js) → Kept σ σ' [oa, wa, e, e2] → T m σ') → T (m + t) σ
  | [], _, _, h => absurd rfl h
  | [p], hp, hk, _ => by
    obtain ⟨t1, h1⟩ := hp p (by simp)
    refine ⟨1 + t1, fun e e2 x js ws os σ m P se se2 hj hjl n1 n2 n3 n4 n5 b1 b2 q => ?_⟩
    rw [sz_cons] at b1 b2 hk
    have gp := g p os (by exact lin2 (.l (.a (.v 0) (.k 0)) (.v 1) (.g (.v 0) (.v 1))) rfl hk)
    have ek : (choiceItems e [p]).reverse = [.meet e] ++ [.put p] := rfl
    rw [ek, ← List.append_assoc] at P
    rw [← Nat.add_assoc]
    simp only [List.length_cons, List.length_nil] at b1 b2
    refine h1 (ws ++ [.meet e]) os σ (m + 1) P (by exact lin2 (.l (.a (.a (.v 0) (.m 5 (.a (.v 1) (.k 0)))) (.m 5 (.a (.k 0) (.k 1)))) (.k 80005) (.g (.a (.v 0) (.m 5 (.v 1))) (.k 80000))) rfl b1) (by simp; exact lin2 (.l (.a (.a (.v 0) (.m 10 (.a (.v 1) (.k 0)))) (.m 5 (.a (.k 0) (.k 1)))) (.k 80000) (.g (.a (.a (.v 0) (.k 1)) (.m 10 (.v 1))) (.k 80000))) rfl b2) fun σ1 P1 K1 => ?_
    have se' := K1 _ _ se (by simp [n1, n2])
    have se2' := K1 _ _ se2 (by simp [n3, n4])
    exact tn.meet e e2 x js ws _ σ1 m P1 (by exact lin3 (.l (.a (.a (.v 0) (.m 5 (.a (.v 1) (.k 0)))) (.m 5 (.a (.k 0) (.k 1)))) (.k 80005) (.l (.a (.v 2) (.k 5)) (.a (.a (.v 0) (.m 5 (.v 1))) (.k 5)) (.g (.v 2) (.k 90000)))) rfl b1 gp.2) (by exact lin2 (.l (.a (.a (.v 0) (.m 10 (.a (.v 1) (.k 0)))) (.m 5 (.a (.k 0) (.k 1)))) (.k 80000) (.g (.v 0) (.k 90000))) rfl b2) se' se2' (fun j h => Nat.lt_of_lt_of_le (hj j h) gp.1) n1 n2 n3 n4 fun σ2 P2 K2 => q σ2 P2 ((K1.trans K2).more (by intro x hx; simp at hx ⊢; rcases hx with h | h <;> simp [h]))
  | p :: r :: ps, hp, hk, _ => by
    obtain ⟨t1, h1⟩ := hp p (by simp)
    obtain ⟨t2, h2⟩ := puts_alt tn g (r :: ps) (fun q hq => hp q (by simp at hq ⊢; exact .inr hq)) (by rw [sz_cons] at hk; exact lin3 (.l (.a (.v 0) (.v 1)) (.v 2) (.g (.v 1) (.v 2))) rfl hk) (by simp)
    refine ⟨t2 + 1 + t1 + 1, fun e e2 x js ws os σ m P se se2 hj hjl n1 n2 n3 n4 n5 b1 b2 q => ?_⟩
    rw [sz_cons] at b1 b2 hk
    rw [runAlt_cons] at q
    have pp := p.size_pos
    have hl : (choiceItems e (r :: ps)).length ≤ 3 * (r :: ps).length := by
      have : ∀ l : List Nd, (choiceItems e l).length ≤ 3 * l.length := by
        intro l
        induction l with
        | nil => simp [choiceItems]
        | cons a l ih => cases l with
          | nil => simp [choiceItems]
          | cons b l => show (choiceItems e (b :: l)).length + 1 + 1 + 1 ≤ _; simp at ih ⊢; exact lin2 (.l (.v 0) (.m 3 (.a (.v 1) (.k 1))) (.g (.a (.a (.a (.v 0) (.k 1)) (.k 1)) (.k 1)) (.m 3 (.a (.a (.v 1) (.k 1)) (.k 1))))) rfl ih
      exact this _
    have gp := g p (os ++ [none]) (by exact lin3 (.l (.a (.v 0) (.v 1)) (.v 2) (.g (.v 0) (.v 2))) rfl hk)
    have ek : (choiceItems e (p :: r :: ps)).reverse = ((choiceItems e (r :: ps)).reverse ++ [.shut e] ++ [.put p]) ++ [.opn e] := by
      show (WI.opn e :: .put p :: .shut e :: choiceItems e (r :: ps)).reverse = _
      simp
    rw [ek, ← List.append_assoc] at P
    simp only [List.length_append, List.length_cons, List.length_nil] at b1 b2 gp hl
    have e0 : m + (t2 + 1 + t1 + 1) = m + t2 + 1 + t1 + 1 := by exact Nat.le_antisymm (lin3 (.g (.a (.v 0) (.a (.a (.a (.v 1) (.k 1)) (.v 2)) (.k 1))) (.a (.a (.a (.a (.v 0) (.v 1)) (.k 1)) (.v 2)) (.k 1))) rfl) (lin3 (.g (.a (.a (.a (.a (.v 0) (.v 1)) (.k 1)) (.v 2)) (.k 1)) (.a (.v 0) (.a (.a (.a (.v 1) (.k 1)) (.v 2)) (.k 1)))) rfl)
    rw [e0]
    refine tn.opn e e2 x _ os σ _ P (by exact lin4 (.l (.a (.a (.v 0) (.m 5 (.a (.v 1) (.v 2)))) (.m 5 (.a (.a (.v 3) (.k 1)) (.k 1)))) (.k 80005) (.g (.v 0) (.k 90000))) rfl b1) (by simp; exact lin5 (.l (.a (.a (.v 0) (.m 10 (.a (.v 1) (.v 2)))) (.m 5 (.a (.a (.v 3) (.k 1)) (.k 1)))) (.k 80000) (.l (.v 4) (.m 3 (.a (.v 3) (.k 1))) (.g (.a (.v 0) (.a (.v 4) (.k 2))) (.k 90000)))) rfl b2 hl) se n1 n2 fun σ1 P1 se1 K1 => ?_
    have se21 := K1 _ _ se2 (by simp [n3, n4, Ne.symm n5])
    rw [← List.append_assoc] at P1
    refine h1 _ (os ++ [none]) σ1 _ P1 (by simp; exact lin4 (.l (.a (.a (.v 0) (.m 5 (.a (.v 1) (.v 2)))) (.m 5 (.a (.a (.v 3) (.k 1)) (.k 1)))) (.k 80005) (.g (.a (.a (.v 0) (.k 1)) (.m 5 (.v 1))) (.k 80000))) rfl b1) (by simp; exact lin5 (.l (.a (.a (.v 0) (.m 10 (.a (.v 1) (.v 2)))) (.m 5 (.a (.a (.v 3) (.k 1)) (.k 1)))) (.k 80000) (.l (.v 4) (.m 3 (.a (.v 3) (.k 1))) (.g (.a (.a (.v 0) (.a (.v 4) (.k 1))) (.m 10 (.v 1))) (.k 80000)))) rfl b2 hl) fun σ2 P2 K2 => ?_
    have se_2 := K2 _ _ se1 (by simp [n1, n2])
    have se22 := K2 _ _ se21 (by simp [n3, n4])
    rw [← List.append_assoc] at P2
    refine tn.shut e e2 os.length js _ _ σ2 _ P2 (by exact lin5 (.l (.a (.v 0) (.k 5)) (.a (.a (.a (.v 1) (.a (.k 0) (.k 1))) (.m 5 (.v 2))) (.k 5)) (.l (.a (.a (.v 1) (.m 5 (.a (.v 2) (.v 3)))) (.m 5 (.a (.a (.v 4) (.k 1)) (.k 1)))) (.k 80005) (.g (.v 0) (.k 90000)))) rfl gp.2 b1) (by simp; exact lin5 (.l (.a (.a (.v 0) (.m 10 (.a (.v 1) (.v 2)))) (.m 5 (.a (.a (.v 3) (.k 1)) (.k 1)))) (.k 80000) (.l (.v 4) (.m 3 (.a (.v 3) (.k 1))) (.g (.a (.v 0) (.v 4)) (.k 90000)))) rfl b2 hl) (by exact lin5 (.l (.a (.a (.v 0) (.m 5 (.a (.v 1) (.v 2)))) (.m 5 (.a (.a (.v 3) (.k 1)) (.k 1)))) (.k 80005) (.l (.v 4) (.v 0) (.g (.v 4) (.k 90000)))) rfl b1 hjl) se_2 se22 (by exact lin2 (.l (.a (.v 0) (.a (.k 0) (.k 1))) (.v 1) (.b (.v 0) (.v 1))) rfl gp.1) n1 n2 n3 n4 n5 fun σ3 P3 se23 K3 => ?_
    have se_3 := K3 _ _ se_2 (by simp [n1, n2, n5])
    refine h2 e e2 (os.length : Int) _ ws _ σ3 m P3 se_3 se23 (fun j hj' => ?_) ?_ n1 n2 n3 n4 n5 ?_ (by simp; exact lin4 (.l (.a (.a (.v 0) (.m 10 (.a (.v 1) (.v 2)))) (.m 5 (.a (.a (.v 3) (.k 1)) (.k 1)))) (.k 80000) (.g (.a (.a (.v 0) (.m 10 (.v 2))) (.m 5 (.a (.v 3) (.k 1)))) (.k 80000))) rfl b2) fun σ4 P4 K4 => q σ4 P4 ?_
    · rw [List.length_set, List.length_append, List.length_singleton]
      rcases List.mem_append.mp hj' with h | h
      · have := hj j h; exact lin3 (.l (.a (.v 0) (.a (.k 0) (.k 1))) (.v 1) (.t (.v 2) (.v 0) (.b (.v 2) (.a (.v 1) (.k 1))))) rfl gp.1 this
      · rw [List.mem_singleton] at h; exact lin2 (.e (.v 0) (.v 1) (.b (.v 0) (.a (.v 1) (.k 1)))) rfl h
    · rw [List.length_set]; simp; exact lin3 (.l (.a (.v 0) (.a (.k 0) (.k 1))) (.v 1) (.l (.v 2) (.v 0) (.g (.v 2) (.v 1)))) rfl gp.1 hjl
    · rw [List.length_set]; simp; exact lin5 (.l (.a (.v 0) (.k 5)) (.a (.a (.a (.v 1) (.a (.k 0) (.k 1))) (.m 5 (.v 2))) (.k 5)) (.l (.a (.a (.v 1) (.m 5 (.a (.v 2) (.v 3)))) (.m 5 (.a (.a (.v 4) (.k 1)) (.k 1)))) (.k 80005) (.g (.a (.a (.a (.v 0) (.k 1)) (.m 5 (.v 3))) (.m 5 (.a (.v 4) (.k 1)))) (.k 80005)))) rfl gp.2 b1
    · refine (((K1.more ?_).trans (K2.more ?_)).trans (K3.more ?_)).trans K4
      · intro x hx; simp at hx ⊢; rcases hx with h | h | h <;> simp [h]
      · intro x hx; simp at hx ⊢; rcases hx with h | h <;> simp [h]
      · intro x hx; simp at hx ⊢; rcases hx with h | h | h <;> simp [h]
theorem puts {d oa wa : Addr} {T : Nat → AH → Prop} (tn : Turns d oa wa T) (hne : oa ≠ wa) : ∀ k n, n.size ≤ k → n.size ≤ 1000 → n.text ≤ 1000 → Puts d oa wa T (putN k) n
  | 0, n, h, _, _ => by have := n.size_pos; exact False.elim (lin1 (.t (.k 0) (.v 0) (.l (.v 0) (.k 0) (.z))) rfl this h)
  | k + 1, n, h, hz, ht => by
    have ih := puts tn hne k
    have g := grows k
    cases n with
    | cat a b =>
      have h1 := sz_row_cat (.cat a b)
      have h2 := sz_joined (rowCat (.cat a b))
      have h3 := two_cat a
      have h4 := two_cat b
      have h5 : (rowCat (.cat a b)).length = (rowCat a).length + (rowCat b).length := by show (rowCat a ++ rowCat b).length = _; rw [List.length_append]
      have h6 := tx_joined (rowCat (.cat a b))
      rw [tx_row_cat] at h6
      obtain ⟨t, ht⟩ := puts_seq (d := d) (oa := oa) (wa := wa) (T := T) g (joined (rowCat (.cat a b))) (fun p hp => ih p (by have := mem_sz hp; lia) (by have := mem_sz hp; lia) (by have := mem_tx hp; exact lin3 (.l (.v 0) (.k 1000) (.l (.v 1) (.v 2) (.l (.v 2) (.v 0) (.g (.v 1) (.k 1000))))) rfl ht this h6)) (by exact lin7 (.e (.a (.v 0) (.v 1)) (.a (.v 2) (.k 1)) (.t (.k 0) (.v 3) (.t (.k 0) (.v 4) (.f (.v 1) (.a (.v 3) (.v 4)) (.l (.v 2) (.a (.v 5) (.k 1)) (.l (.v 6) (.v 0) (.g (.v 6) (.v 5)))))))) rfl h1 h3 h4 h5 h h2)
      refine ⟨t + 1, fun ws os σ m P b1 b2 q => ?_⟩
      rw [← Nat.add_assoc]
      refine tn.cat a b ws os σ (m + t) P hz (by assumption) (by exact lin2 (.l (.a (.v 0) (.m 10 (.v 1))) (.k 80000) (.g (.v 0) (.k 90000))) rfl b2) fun σ1 P1 K1 => ?_
      exact ht ws os σ1 m P1 (by lia) (by lia) fun σ2 P2 K2 => q σ2 P2 (K1.trans K2)
    | alt a b =>
      have h1 := sz_row_alt (.alt a b)
      have h3 := two_alt a
      have h4 := two_alt b
      have h5 : (rowAlt (.alt a b)).length = (rowAlt a).length + (rowAlt b).length := by show (rowAlt a ++ rowAlt b).length = _; rw [List.length_append]
      have h6 := tx_row_alt (.alt a b)
      obtain ⟨t, ht⟩ := puts_alt tn g (rowAlt (.alt a b)) (fun p hp => ih p (by have := mem_sz hp; exact lin7 (.e (.a (.v 0) (.v 1)) (.a (.v 2) (.k 1)) (.t (.k 0) (.v 3) (.t (.k 0) (.v 4) (.f (.v 1) (.a (.v 4) (.v 3)) (.l (.v 2) (.a (.v 5) (.k 1)) (.l (.v 6) (.v 0) (.g (.v 6) (.v 5)))))))) rfl h1 h4 h3 h5 h this) (by have := mem_sz hp; exact lin6 (.e (.a (.v 0) (.v 1)) (.a (.v 2) (.k 1)) (.t (.k 0) (.v 3) (.f (.v 1) (.a (.v 4) (.v 3)) (.l (.v 2) (.k 1000) (.l (.v 5) (.v 0) (.g (.v 5) (.k 1000))))))) rfl h1 h4 h5 hz this) (by have := mem_tx hp; exact lin3 (.e (.v 0) (.v 1) (.l (.v 1) (.k 1000) (.l (.v 2) (.v 0) (.g (.v 2) (.k 1000))))) rfl h6 ht this)) (by exact lin6 (.e (.a (.v 0) (.v 1)) (.a (.v 2) (.k 1)) (.t (.k 0) (.v 3) (.t (.k 0) (.v 4) (.f (.v 1) (.a (.v 3) (.v 4)) (.l (.v 2) (.a (.v 5) (.k 1)) (.g (.v 0) (.v 5))))))) rfl h1 h3 h4 h5 h) (by intro z; rw [z] at h5; simp at h5; exact lin2 (.t (.k 0) (.v 0) (.f (.k 0) (.a (.v 0) (.v 1)) (.z))) rfl h3 h5)
      refine ⟨t + 1, fun ws os σ m P b1 b2 q => ?_⟩
      rw [← Nat.add_assoc]
      refine tn.alt a b ws os σ (m + t) P hz (by exact lin2 (.l (.a (.v 0) (.m 10 (.v 1))) (.k 80000) (.g (.v 0) (.k 90000))) rfl b2) fun e e2 σ1 he he2 ne P1 se se2 K1 => ?_
      have nn : ∀ {x : Addr}, σ x = none → x ≠ oa ∧ x ≠ wa := fun {x} hx => ⟨(fun z => by have := P.cd.o; rw [← z, hx] at this; cases this), (fun z => by have := P.w; rw [← z, hx] at this; cases this)⟩
      refine ht e e2 (-1) [] ws os σ1 m P1 se se2 (by simp) (by simp) (nn he).1 (nn he).2 (nn he2).1 (nn he2).2 ne (by exact lin4 (.l (.a (.v 0) (.m 5 (.v 1))) (.k 80000) (.e (.a (.v 2) (.v 3)) (.a (.v 1) (.k 1)) (.e (.a (.v 2) (.v 3)) (.a (.v 1) (.k 1)) (.e (.a (.v 2) (.v 3)) (.a (.v 1) (.k 1)) (.e (.a (.v 2) (.v 3)) (.a (.v 1) (.k 1)) (.e (.a (.v 2) (.v 3)) (.a (.v 1) (.k 1)) (.g (.a (.a (.v 0) (.m 5 (.v 2))) (.m 5 (.v 3))) (.k 80005)))))))) rfl b1 h1 h1 h1 h1 h1) (by lia) fun σ2 P2 K2 => q σ2 P2 ?_
      intro x o ex nx
      refine K2 x o (K1 x o ex nx) ?_
      simp at nx ⊢
      exact ⟨nx.1, nx.2, (fun z => by rw [z, he] at ex; cases ex), (fun z => by rw [z, he2] at ex; cases ex)⟩
    | arbno a =>
      have hs : (Nd.arbno a).size = a.size + 1 := rfl
      have g1 := fun os => g a (os ++ [some (.split (os.length + 2)), none, some .mark]) (by exact lin3 (.f (.v 0) (.a (.v 1) (.k 1)) (.l (.v 0) (.a (.v 2) (.k 1)) (.g (.v 1) (.v 2)))) rfl hs h)
      obtain ⟨t, ht⟩ := ih a (by exact lin3 (.f (.v 0) (.a (.v 1) (.k 1)) (.l (.v 0) (.a (.v 2) (.k 1)) (.g (.v 1) (.v 2)))) rfl hs h) (by exact lin2 (.f (.v 0) (.a (.v 1) (.k 1)) (.l (.v 0) (.k 1000) (.g (.v 1) (.k 1000)))) rfl hs hz) ht
      refine ⟨1 + 1 + 1 + t + 1, fun ws os σ m P b1 b2 q => ?_⟩
      have e0 : m + (1 + 1 + 1 + t + 1) = m + 1 + 1 + 1 + t + 1 := by exact Nat.le_antisymm (lin2 (.g (.a (.v 0) (.a (.a (.a (.a (.k 1) (.k 1)) (.k 1)) (.v 1)) (.k 1))) (.a (.a (.a (.a (.a (.v 0) (.k 1)) (.k 1)) (.k 1)) (.v 1)) (.k 1))) rfl) (lin2 (.g (.a (.a (.a (.a (.a (.v 0) (.k 1)) (.k 1)) (.k 1)) (.v 1)) (.k 1)) (.a (.v 0) (.a (.a (.a (.a (.k 1) (.k 1)) (.k 1)) (.v 1)) (.k 1)))) rfl)
      rw [e0]
      refine tn.arbno a ws os σ _ P (by exact lin2 (.l (.a (.v 0) (.m 5 (.v 1))) (.k 80000) (.g (.v 0) (.k 90000))) rfl b1) (by exact lin2 (.l (.a (.v 0) (.m 10 (.v 1))) (.k 80000) (.g (.v 0) (.k 90000))) rfl b2) fun e e2 σ1 he he2 ne P1 se se2 K1 => ?_
      have nn : ∀ {x : Addr}, σ x = none → x ≠ oa ∧ x ≠ wa := fun {x} hx => ⟨(fun z => by have := P.cd.o; rw [← z, hx] at this; cases this), (fun z => by have := P.w; rw [← z, hx] at this; cases this)⟩
      have g2 := g1 os
      have ew : ws ++ [.meet e, .emit (.jump os.length), .emit .gain, .put a] = (((ws ++ [.meet e]) ++ [.emit (.jump os.length)]) ++ [.emit .gain]) ++ [WI.put a] := by simp
      rw [ew] at P1
      simp only [List.length_append, List.length_cons, List.length_nil] at g2
      refine ht _ _ σ1 _ P1 (by simp; exact lin3 (.l (.a (.v 0) (.m 5 (.v 1))) (.k 80000) (.f (.v 1) (.a (.v 2) (.k 1)) (.f (.v 1) (.a (.v 2) (.k 1)) (.f (.v 1) (.a (.v 2) (.k 1)) (.f (.v 1) (.a (.v 2) (.k 1)) (.f (.v 1) (.a (.v 2) (.k 1)) (.g (.a (.a (.v 0) (.k 3)) (.m 5 (.v 2))) (.k 80000)))))))) rfl b1 hs hs hs hs hs) (by simp; lia) fun σ2 P2 K2 => ?_
      refine tn.emit .gain _ _ σ2 _ P2 (by lia) (by simp; exact lin2 (.l (.a (.v 0) (.m 10 (.v 1))) (.k 80000) (.g (.v 0) (.k 89998))) rfl b2) fun σ3 P3 K3 => ?_
      refine tn.emit (.jump os.length) _ _ σ3 _ P3 (by simp; lia) (by simp; exact lin2 (.l (.a (.v 0) (.m 10 (.v 1))) (.k 80000) (.g (.v 0) (.k 89999))) rfl b2) fun σ4 P4 K4 => ?_
      have K14 := (K2.trans K3).trans K4
      have se4 := K14 _ _ se (by simp [nn he])
      have se24 := K14 _ _ se2 (by simp [nn he2])
      refine tn.meet e e2 _ [os.length + 1] ws _ σ4 m P4 (by simp; lia) (by exact lin2 (.l (.a (.v 0) (.m 10 (.v 1))) (.k 80000) (.g (.v 0) (.k 90000))) rfl b2) se4 se24 (by simp; exact lin2 (.l (.a (.v 0) (.a (.a (.a (.k 0) (.k 1)) (.k 1)) (.k 1))) (.v 1) (.b (.v 0) (.a (.v 1) (.k 1)))) rfl g2.1) (nn he).1 (nn he).2 (nn he2).1 (nn he2).2 fun σ5 P5 K5 => q σ5 ?_ ((K1.trans K14).trans K5)
      have e5 : putN (k + 1) (.arbno a) os = setJumps (putN k a (os ++ [some (.split (os.length + 2)), none, some .mark]) ++ [some .gain] ++ [some (.jump os.length)]) [os.length + 1] := by
        show List.set _ _ _ = List.set _ _ _
        simp
      rw [e5]; exact P5
    | nm b a r =>
      have hs : (Nd.nm b a r).size = a.size + 1 := rfl
      have g1 := fun os => g a (os ++ [some .mark]) (by exact lin3 (.f (.v 0) (.a (.v 1) (.k 1)) (.l (.v 0) (.a (.v 2) (.k 1)) (.g (.v 1) (.v 2)))) rfl hs h)
      obtain ⟨t, ht⟩ := ih a (by exact lin3 (.f (.v 0) (.a (.v 1) (.k 1)) (.l (.v 0) (.a (.v 2) (.k 1)) (.g (.v 1) (.v 2)))) rfl hs h) (by exact lin2 (.f (.v 0) (.a (.v 1) (.k 1)) (.l (.v 0) (.k 1000) (.g (.v 1) (.k 1000)))) rfl hs hz) ht
      refine ⟨1 + t + 1, fun ws os σ m P b1 b2 q => ?_⟩
      have e0 : m + (1 + t + 1) = m + 1 + t + 1 := by exact Nat.le_antisymm (lin2 (.g (.a (.v 0) (.a (.a (.k 1) (.v 1)) (.k 1))) (.a (.a (.a (.v 0) (.k 1)) (.v 1)) (.k 1))) rfl) (lin2 (.g (.a (.a (.a (.v 0) (.k 1)) (.v 1)) (.k 1)) (.a (.v 0) (.a (.a (.k 1) (.v 1)) (.k 1)))) rfl)
      rw [e0]
      refine tn.nm b a r ws os σ _ P (by exact lin2 (.l (.a (.v 0) (.m 5 (.v 1))) (.k 80000) (.g (.v 0) (.k 90000))) rfl b1) (by exact lin2 (.l (.a (.v 0) (.m 10 (.v 1))) (.k 80000) (.g (.v 0) (.k 90000))) rfl b2) fun σ1 P1 K1 => ?_
      have g2 := g1 os
      have ew : ws ++ [.emit (.nm b r), .put a] = (ws ++ [.emit (.nm b r)]) ++ [WI.put a] := by simp
      rw [ew] at P1
      simp only [List.length_append, List.length_cons, List.length_nil] at g2
      refine ht _ _ σ1 _ P1 (by simp; exact lin3 (.l (.a (.v 0) (.m 5 (.v 1))) (.k 80000) (.f (.v 1) (.a (.v 2) (.k 1)) (.f (.v 1) (.a (.v 2) (.k 1)) (.f (.v 1) (.a (.v 2) (.k 1)) (.f (.v 1) (.a (.v 2) (.k 1)) (.f (.v 1) (.a (.v 2) (.k 1)) (.g (.a (.a (.v 0) (.k 1)) (.m 5 (.v 2))) (.k 80000)))))))) rfl b1 hs hs hs hs hs) (by simp; lia) fun σ2 P2 K2 => ?_
      exact tn.emit (.nm b r) _ _ σ2 _ P2 (by lia) (by exact lin2 (.l (.a (.v 0) (.m 10 (.v 1))) (.k 80000) (.g (.v 0) (.k 90000))) rfl b2) fun σ3 P3 K3 => q σ3 P3 ((K1.trans K2).trans K3)
    | pl p => exact ⟨1, fun ws os σ m P b1 b2 q => tn.leaf _ _ ws os σ m rfl P (by exact lin2 (.l (.a (.v 0) (.m 5 (.v 1))) (.k 80000) (.g (.v 0) (.k 90000))) rfl b1) (by exact lin2 (.l (.a (.v 0) (.m 10 (.v 1))) (.k 80000) (.g (.v 0) (.k 90000))) rfl b2) q⟩
    | rem => exact ⟨1, fun ws os σ m P b1 b2 q => tn.leaf _ _ ws os σ m rfl P (by exact lin1 (.l (.a (.v 0) (.m 5 (.k 1))) (.k 80000) (.g (.v 0) (.k 90000))) rfl b1) (by exact lin1 (.l (.a (.v 0) (.m 10 (.k 1))) (.k 80000) (.g (.v 0) (.k 90000))) rfl b2) q⟩
    | arb => exact ⟨1, fun ws os σ m P b1 b2 q => tn.leaf _ _ ws os σ m rfl P (by exact lin1 (.l (.a (.v 0) (.m 5 (.k 1))) (.k 80000) (.g (.v 0) (.k 90000))) rfl b1) (by exact lin1 (.l (.a (.v 0) (.m 10 (.k 1))) (.k 80000) (.g (.v 0) (.k 90000))) rfl b2) q⟩
    | delay x => exact ⟨1, fun ws os σ m P b1 b2 q => tn.leaf _ _ ws os σ m rfl P (by exact lin2 (.l (.a (.v 0) (.m 5 (.v 1))) (.k 80000) (.g (.v 0) (.k 90000))) rfl b1) (by exact lin2 (.l (.a (.v 0) (.m 10 (.v 1))) (.k 80000) (.g (.v 0) (.k 90000))) rfl b2) q⟩
    | cursor r => exact ⟨1, fun ws os σ m P b1 b2 q => tn.leaf _ _ ws os σ m rfl P (by exact lin2 (.l (.a (.v 0) (.m 5 (.v 1))) (.k 80000) (.g (.v 0) (.k 90000))) rfl b1) (by exact lin2 (.l (.a (.v 0) (.m 10 (.v 1))) (.k 80000) (.g (.v 0) (.k 90000))) rfl b2) q⟩
end
section
open PySem PySem.W PyProof.Rows PySem.Calls
theorem choice_len (e : Addr) : ∀ l : List Nd, (choiceItems e l).length ≤ 3 * l.length
  | [] => by simp [choiceItems]
  | [p] => by simp [choiceItems]
  | p :: q :: l => by have := choice_len e (q :: l); show (choiceItems e (q :: l)).length + 1 + 1 + 1 ≤ _; simp at this ⊢; exact lin2 (.l (.v 0) (.m 3 (.a (.v 1) (.k 1))) (.g (.a (.a (.a (.v 0) (.k 1)) (.k 1)) (.k 1)) (.m 3 (.a (.a (.v 1) (.k 1)) (.k 1))))) rfl this
theorem PS.pop {σ : AH} {d oa wa : Addr} {ws : List WI} {i : WI} {os : Ords} (P : PS σ d oa wa (ws ++ [i]) os) (h1 : oa ≠ wa) : PS (σ.put wa (.list (ws.map WI.v))) d oa wa ws os :=
  ⟨P.cd.other (P.ne h1) h1, AH.put_self _ _ _⟩
theorem PS.top {σ : AH} {d oa wa : Addr} {ws : List WI} {i : WI} {os : Ords} (P : PS σ d oa wa (ws ++ [i]) os) : σ wa = some (.list (ws.map WI.v ++ [i.v])) := by rw [P.w]; simp
section
variable {σ : AH} {Q : V → AH → Prop} {d oa : Addr} {os : Ords}
theorem st_while_e {n : Nat} {env : Env} {ρ : Loc} {σ : AH} {Q : Fl → Loc → AH → Prop} {test : Expr} {body orelse : List Stmt} {pos : Pos} (h : ∃ k, WhT n env test body orelse Q k ρ σ) : Stm n env (.While test body orelse pos) ρ σ Q := by
  obtain ⟨k, h⟩ := h
  exact st_while_t k h
theorem wht_succ {n : Nat} {env : Env} {ρ : Loc} {σ : AH} {Q : Fl → Loc → AH → Prop} {test : Expr} {body orelse : List Stmt} {k : Nat} (h : Test n env test ρ σ (fun b ρ1 σ1 => if b = true then Stms n env body ρ1 σ1 (ForQ (WhT n env test body orelse Q k) Q) else Stms n env orelse ρ1 σ1 Q)) : WhT n env test body orelse Q (k + 1) ρ σ := h
structure Turns0 (d oa wa : Addr) (T : Nat → AH → Prop) : Prop where
  put : ∀ nd ws os σ m (R : List WI → Ords → AH → Prop), PS σ d oa wa (ws ++ [.put nd]) os → ws.length ≤ 90000 →
    (∀ Q' : V → AH → Prop, (∀ a items os' σ', σ' a = some (.list (items.map WI.v)) → items.length ≤ 9000 → a ≠ wa → CdAt σ' d oa os' → σ' wa = some (.list (ws.map WI.v)) → R items os' σ' → Q' (.lst a) σ') → Con 3 (.ref 439) [.inst 463 d, nd.v] (σ.put wa (.list (ws.map WI.v))) Q') →
    (∀ items os' σ' σ'', R items os' σ' → PS σ'' d oa wa (ws ++ items.reverse) os' → Kept σ' σ'' [wa] → T m σ'') → T (m + 1) σ
  emit : ∀ o ws os σ m, PS σ d oa wa (ws ++ [.emit o]) os → os.length ≤ 90000 → ws.length ≤ 90000 → (∀ σ', PS σ' d oa wa ws (os ++ [some o]) → Kept σ σ' [oa, wa] → T m σ') → T (m + 1) σ
  bound : ∀ (i : WI) (word : Str) (e : Addr) ws os σ m (R : Ords → AH → Prop), i.v = .tup [.str word, .lst e] → (word == ("put" : Str)) = false → (word == ("emit" : Str)) = false → PS σ d oa wa (ws ++ [i]) os → ws.length ≤ 90000 →
    (∀ Q' : V → AH → Prop, (∀ os' σ', CdAt σ' d oa os' → σ' wa = some (.list (ws.map WI.v)) → R os' σ' → Q' .none σ') → Con 3 (.ref 460) [.inst 463 d, .str word, .lst e] (σ.put wa (.list (ws.map WI.v))) Q') →
    (∀ os' σ', R os' σ' → PS σ' d oa wa ws os' → T m σ') → T (m + 1) σ
theorem Kept.via {σ σ' σ'' : AH} {wa oa : Addr} {o : AO} (K : Kept (σ.put wa o) σ' [oa]) (K2 : Kept σ' σ'' [wa]) : Kept σ σ'' [oa, wa] := fun b p e n => by
  simp at n
  refine K2 b p (K b p ?_ (by simpa using n.1)) (by simpa using n.2)
  rw [AH.put_ne _ _ n.2]; exact e
theorem Kept.to {σ σ' : AH} {D : List Addr} (K : Kept σ σ' []) : Kept σ σ' D := fun b o e _ => K b o e (by exact nn)
theorem Kept.wa {σ σ' : AH} {D : List Addr} {wa : Addr} {o : AO} (K : Kept (σ.put wa o) σ' D) (h : wa ∉ D) : σ' wa = some o := K _ _ (AH.put_self _ _ _) h
theorem Kept.cd {σ σ' : AH} {d oa : Addr} {os : Ords} (K : Kept σ σ' []) (C : CdAt σ d oa os) : CdAt σ' d oa os := ⟨K _ _ C.h (by exact nn), K _ _ C.o (by exact nn)⟩
theorem not_of_none {σ : AH} {wa a : Addr} {o : AO} (h : (σ.put wa o) a = none) : a ≠ wa := fun z => by rw [z, AH.put_self] at h; cases h
theorem turns_of {wa : Addr} {T : Nat → AH → Prop} (hne : oa ≠ wa) (t0 : Turns0 d oa wa T) : Turns d oa wa T where
  leaf := fun n o ws os σ m h P b1 b2 q => by
    have C1 := (P.pop hne).cd
    refine t0.put n ws os σ m (fun items os' σ' => items = [] ∧ os' = os ++ [some o] ∧ Kept (σ.put wa (.list (ws.map WI.v))) σ' [oa]) P b2 (fun Q' hq => ?_) ?_
    · have hq' : ∀ a σ', (σ.put wa (.list (ws.map WI.v))) a = none → σ' a = some (.list []) → CdAt σ' d oa (os ++ [some o]) → Kept (σ.put wa (.list (ws.map WI.v))) σ' [oa] → Q' (.lst a) σ' := fun a σ' ha sa C2 K => hq a [] _ σ' sa (by simp) (not_of_none ha) C2 (K.wa (by simpa using Ne.symm hne)) ⟨rfl, rfl, K⟩
      cases n <;> (simp only [leafOrd] at h; cases h)
      · exact w_begun_pl C1 b1 hq'
      · exact w_begun_rem C1 b1 hq'
      · exact w_begun_arb C1 b1 hq'
      · exact w_begun_delay C1 b1 hq'
      · exact w_begun_cursor C1 b1 hq'
    · rintro items os' σ' σ'' ⟨rfl, rfl, K⟩ P2 K2
      exact q σ'' (by simpa using P2) (K.via K2)
  cat := fun x y ws os σ m P hz ht b2 q => by
    have h1 := sz_row_cat (.cat x y)
    have h3 := tx_row_cat (.cat x y)
    have h4 := sumTxt_le (rowCat (.cat x y))
    have h5 := joined_len (rowCat (.cat x y))
    have h6 : (rowCat (.cat x y)).length ≤ sz (rowCat (.cat x y)) := len_le_sizes _
    have C1 := (P.pop hne).cd
    refine t0.put _ ws os σ m (fun items os' σ' => items = (joined (rowCat (.cat x y))).map WI.put ∧ os' = os ∧ Kept (σ.put wa (.list (ws.map WI.v))) σ' []) P b2 (fun Q' hq => ?_) ?_
    · exact w_begun_cat hz (by exact lin3 (.e (.v 0) (.v 1) (.l (.v 1) (.k 1000) (.l (.v 2) (.v 0) (.g (.v 2) (.k 1000))))) rfl h3 ht h4) (by lia -abstractProof) fun a σ' ha sa K => hq a _ os σ' sa (by simp; exact lin4 (.e (.a (.v 0) (.v 1)) (.a (.v 2) (.k 1)) (.l (.v 2) (.k 1000) (.l (.v 3) (.v 1) (.g (.v 3) (.k 9000))))) rfl h1 hz h5) (not_of_none ha) (K.cd C1) (K.wa (by exact nn)) ⟨rfl, rfl, K⟩
    · rintro items os' σ' σ'' ⟨rfl, rfl, K⟩ P2 K2
      exact q σ'' P2 (Kept.via (K.to) K2)
  alt := fun x y ws os σ m P hz b2 q => by
    have h1 := sz_row_alt (.alt x y)
    have h6 : (rowAlt (.alt x y)).length ≤ sz (rowAlt (.alt x y)) := len_le_sizes _
    have C1 := (P.pop hne).cd
    refine t0.put _ ws os σ m (fun items os' σ' => ∃ e e2, (σ.put wa (.list (ws.map WI.v))) e = none ∧ (σ.put wa (.list (ws.map WI.v))) e2 = none ∧ e ≠ e2 ∧ items = choiceItems e (rowAlt (.alt x y)) ∧ os' = os ∧ σ' e = some (.list [.int (-1), .lst e2]) ∧ σ' e2 = some (.list []) ∧ Kept (σ.put wa (.list (ws.map WI.v))) σ' []) P b2 (fun Q' hq => ?_) ?_
    · refine w_begun_alt hz (by lia -abstractProof) C1 fun a e e2 σ' ha he he2 ne sa se se2 K => hq a _ os σ' sa ?_ (not_of_none ha) (K.cd C1) (K.wa (by exact nn)) ⟨e, e2, he, he2, ne, rfl, rfl, se, se2, K⟩
      have := choice_len e (rowAlt (.alt x y))
      exact lin4 (.e (.a (.v 0) (.v 1)) (.a (.v 2) (.k 1)) (.e (.a (.v 0) (.v 1)) (.a (.v 2) (.k 1)) (.l (.v 3) (.m 3 (.v 1)) (.l (.v 2) (.k 1000) (.l (.v 2) (.k 1000) (.l (.v 1) (.v 0) (.g (.v 3) (.k 9000)))))))) rfl h1 h1 this hz hz h6
    · rintro items os' σ' σ'' ⟨e, e2, he, he2, ne, rfl, rfl, se, se2, K⟩ P2 K2
      exact q e e2 σ'' (AH.none_of_put he) (AH.none_of_put he2) ne P2 (K2 _ _ se (by simpa using not_of_none he)) (K2 _ _ se2 (by simpa using not_of_none he2)) (Kept.via (K.to) K2)
  arbno := fun n ws os σ m P b1 b2 q => by
    have C1 := (P.pop hne).cd
    refine t0.put _ ws os σ m (fun items os' σ' => ∃ e e2, (σ.put wa (.list (ws.map WI.v))) e = none ∧ (σ.put wa (.list (ws.map WI.v))) e2 = none ∧ e ≠ e2 ∧ items = [.put n, .emit .gain, .emit (.jump os.length), .meet e] ∧ os' = os ++ [some (.split (os.length + 2)), none, some .mark] ∧ σ' e = some (.list [.int os.length, .lst e2]) ∧ σ' e2 = some (.list [.int ((os.length + 1 : Nat) : Int)]) ∧ Kept (σ.put wa (.list (ws.map WI.v))) σ' [oa]) P b2 (fun Q' hq => ?_) ?_
    · exact w_begun_arbno C1 b1 fun a e e2 σ' ha he he2 ne sa se se2 C2 K => hq a _ _ σ' sa (by simp) (not_of_none ha) C2 (K.wa (by simpa using Ne.symm hne)) ⟨e, e2, he, he2, ne, rfl, rfl, se, se2, K⟩
    · rintro items os' σ' σ'' ⟨e, e2, he, he2, ne, rfl, rfl, se, se2, K⟩ P2 K2
      exact q e e2 σ'' (AH.none_of_put he) (AH.none_of_put he2) ne P2 (K2 _ _ se (by simpa using not_of_none he)) (K2 _ _ se2 (by simpa using not_of_none he2)) (K.via K2)
  nm := fun b n r ws os σ m P b1 b2 q => by
    have C1 := (P.pop hne).cd
    refine t0.put _ ws os σ m (fun items os' σ' => items = [.put n, .emit (.nm b r)] ∧ os' = os ++ [some .mark] ∧ Kept (σ.put wa (.list (ws.map WI.v))) σ' [oa]) P b2 (fun Q' hq => ?_) ?_
    · exact w_begun_nm C1 b1 fun a σ' ha sa C2 K => hq a _ _ σ' sa (by simp) (not_of_none ha) C2 (K.wa (by simpa using Ne.symm hne)) ⟨rfl, rfl, K⟩
    · rintro items os' σ' σ'' ⟨rfl, rfl, K⟩ P2 K2
      exact q σ'' P2 (K.via K2)
  emit := t0.emit
  opn := fun e e2 x ws os σ m P b1 b2 se n1 n2 q => by
    have C1 := (P.pop hne).cd
    refine t0.bound (.opn e) "open" e ws os σ m (fun os' σ' => os' = os ++ [none] ∧ σ' e = some (.list [.int os.length, .lst e2]) ∧ Kept σ σ' [oa, wa, e]) rfl (by decide) (by decide) P b2 (fun Q' hq => ?_) ?_
    · refine (w_bound_open C1 (by exact lin1 (.l (.v 0) (.k 90000) (.g (.v 0) (.k 100000))) rfl b1) (by rw [AH.put_ne _ _ n2]; exact se) (Ne.symm n1) ?_).less (by decide)
      refine hq _ _ ⟨?_, ?_⟩ ?_ ⟨rfl, AH.put_self _ _ _, ((Kept.put (by simp)).trans (Kept.put (by simp))).trans (Kept.put (by simp))⟩
      · rw [AH.put_ne _ _ (fun z => by have := C1.h; rw [z, AH.put_ne _ _ n2, se] at this; cases this), AH.put_ne _ _ C1.ne]; exact C1.h
      · rw [AH.put_ne _ _ (Ne.symm n1)]; exact AH.put_self _ _ _
      · rw [AH.put_ne _ _ (Ne.symm n2), AH.put_ne _ _ (Ne.symm hne)]; exact AH.put_self _ _ _
    · rintro os' σ' ⟨rfl, se', K⟩ P2
      exact q σ' P2 se' K
  shut := fun e e2 k js ws os σ m P b1 b2 b3 se se2 hk n1 n2 n3 n4 n5 q => by
    have C1 := (P.pop hne).cd
    have nd2 : d ≠ e2 := fun z => by have := P.cd.h; rw [z, se2] at this; cases this
    refine t0.bound (.shut e) "shut" e ws os σ m (fun os' σ' => os' = (os ++ [none]).set k (some (.split (os.length + 1))) ∧ σ' e2 = some (.list ((js ++ [os.length]).map fun j => .int (j : Nat))) ∧ Kept σ σ' [oa, wa, e2]) rfl (by decide) (by decide) P b2 (fun Q' hq => ?_) ?_
    · refine (w_bound_shut C1 b1 (by rw [AH.put_ne _ _ n2]; exact se) (by rw [AH.put_ne _ _ n4]; exact se2) (by simp; exact lin1 (.l (.v 0) (.k 90000) (.g (.v 0) (.k 100000))) rfl b3) hk (Ne.symm n1) (Ne.symm n3) n5 nd2 ?_).less (by decide)
      refine hq _ _ ⟨?_, AH.put_self _ _ _⟩ ?_ ⟨rfl, ?_, (((Kept.put (by simp)).trans (Kept.put (by simp))).trans (Kept.put (by simp))).trans (Kept.put (by simp))⟩
      · rw [AH.put_ne _ _ C1.ne, AH.put_ne _ _ nd2, AH.put_ne _ _ C1.ne]; exact C1.h
      · rw [AH.put_ne _ _ (Ne.symm hne), AH.put_ne _ _ (Ne.symm n4), AH.put_ne _ _ (Ne.symm hne)]; exact AH.put_self _ _ _
      · rw [AH.put_ne _ _ n3, AH.put_self]; simp
    · rintro os' σ' ⟨rfl, se', K⟩ P2
      exact q σ' P2 se' K
  meet := fun e e2 x js ws os σ m P b1 b2 se se2 hj n1 n2 n3 n4 q => by
    have C1 := (P.pop hne).cd
    refine t0.bound (.meet e) "meet" e ws os σ m (fun os' σ' => os' = setJumps os js ∧ Kept σ σ' [oa, wa]) rfl (by decide) (by decide) P b2 (fun Q' hq => ?_) ?_
    · refine (w_bound_meet C1 b1 (by rw [AH.put_ne _ _ n2]; exact se) (by rw [AH.put_ne _ _ n4]; exact se2) hj (Ne.symm n1) (Ne.symm n3) fun σ' C2 K => ?_).less (by decide)
      exact hq _ _ C2 (K.wa (by simpa using Ne.symm hne)) ⟨rfl, (Kept.put (by simp)).trans (K.more (by simp))⟩
    · rintro os' σ' ⟨rfl, K⟩ P2
      exact q σ' P2 K
def Locs (d wa : Addr) (ρ : Loc) : Prop := at_ ρ "self" = some (.inst 463 d) ∧ at_ ρ "waiting" = some (.lst wa)
def TOf (d wa : Addr) (W : Nat → Loc → AH → Prop) : Nat → AH → Prop := fun m σ' => ∀ ρ, Locs d wa ρ → W m ρ σ'
set_option tactic.hygienic true
theorem w_put {n : Nd} (C : CdAt σ d oa os) (hz : n.size ≤ 1000) (ht : n.text ≤ 1000) (hl : os.length ≤ 1000) (q : ∀ σ', CdAt σ' d oa (putN n.size n os) → Kept σ σ' [oa] → Q .none σ') : Con 5 (.ref 434) [.inst 463 d, n.v] σ Q := by
  have co := (C_PatternCode).1
  refine con_fn (F_PatternCode_put) rfl fun L => ?_
  wtm_at "w_in"
  (refine ss_cons (st_asn ?_ rfl rfl))
  refine ex_list ?_
  wtm_at "wp"
  refine nm_str rfl ?_
  wtm_at "wp"
  intro wa hwa
  wtm_at "wp"
  have n1 : oa ≠ wa := fun z => by have := C.o; rw [z, hwa] at this; cases this
  have P0 : PS (σ.put wa (.list [(WI.put n).v])) d oa wa ([] ++ [.put n]) os := ⟨C.new hwa, AH.put_self _ _ _⟩
  refine st_while_e ?_
  have key : ∀ {T : Nat → AH → Prop}, Turns d oa wa T → (∀ σ', PS σ' d oa wa [] (putN n.size n os) → Kept σ σ' [oa] → T 1 σ') → ∃ k, T k (σ.put wa (.list [(WI.put n).v])) := by
    intro T tn fin
    obtain ⟨t, h⟩ := puts tn n1 n.size n (Nat.le_refl _) hz ht
    exact ⟨1 + t, h [] os _ 1 P0 (by exact lin2 (.l (.v 0) (.k 1000) (.l (.v 1) (.k 1000) (.l (.v 1) (.k 1000) (.l (.v 1) (.k 1000) (.l (.v 1) (.k 1000) (.l (.v 1) (.k 1000) (.g (.a (.v 0) (.m 5 (.v 1))) (.k 80000)))))))) rfl hl hz hz hz hz hz) (by simp; lia) fun σ' P1 K1 => fin σ' P1 fun b o eb nb => by
      refine K1 b o ?_ ?_
      · rw [AH.put_ne _ _ (by exact ne_sn eb hwa)]; exact eb
      · simp at nb ⊢; exact ⟨nb, fun z => by rw [z, hwa] at eb; cases eb⟩⟩
  have fin2 : ∀ {W : Nat → Loc → AH → Prop} {ρ : Loc} {σ0 : AH}, Locs d wa ρ → (∃ k, TOf d wa W k σ0) → ∃ k, W k ρ σ0 := by
    rintro W ρ σ0 hl ⟨k, h⟩
    exact ⟨k, h ρ hl⟩
  refine fin2 ⟨by rfl, by rfl⟩ (key (turns_of n1 ⟨?put, ?emit, ?bound⟩) ?fin)
  case fin =>
    rintro σ' P1 K1 ρ ⟨l1, l2⟩
    refine wht_succ ?_
    wtm_at "wp"
    refine call_b ?_
    wtm_at "wp"
    refine call_len_lst P1.w (by simp) ?_
    wtm_at "wp"
    exact q σ' P1.cd K1
  case emit =>
    intro o ws os σ m P h1 h2 q ρ hl
    have hl2 := hl
    obtain ⟨l1, l2⟩ := hl
    have et : σ wa = some (.list (ws.map WI.v ++ [.tup [.str "emit", o.v]])) := P.top
    have P2 := P.pop n1
    refine wht_succ ?_
    wtm_at "wp"
    refine call_b ?_
    wtm_at "wp"
    refine call_len_lst P.w (by simp; exact lin1 (.l (.v 0) (.k 90000) (.g (.v 0) (.k 999999))) rfl h2) ?_
    wtm_at "wp"
    try refine ite_tt (by simp) ?_
    wtm_at "wp"
    (refine st_assign ?_)
    refine ex_meth ?_
    wtm_at "wp"
    refine ⟨_, gm_list PySem.F.slot_list_pop PySem.F.type_list_pop et, keeps_builtin, ?_⟩
    wtm_at "wp"
    refine call_pop et (by simp; exact lin1 (.l (.v 0) (.k 90000) (.g (.v 0) (.k 1000000))) rfl h2) ?_
    wtm_at "wp"
    refine nm_str rfl ?_
    wtm_at "wp"
    refine nm_str rfl ?_
    wtm_at "wp"
    refine ex_meth ?_
    wtm_at "wp"
    refine ⟨_, gm_inst co (L_PatternCode_emit) (M_PatternCode_emit).1 P2.cd.h rfl, (M_PatternCode_emit).2, ?_⟩
    wtm_at "wp"
    refine Con.call ((w_emit P2.cd (by exact lin1 (.l (.v 0) (.k 90000) (.g (.v 0) (.k 100000))) rfl h1) (some o) ?_).less (by decide))
    wtm_at "wp"
    exact q _ ⟨P2.cd.put _, by rw [AH.put_ne _ _ (Ne.symm n1)]; exact P2.w⟩ ((Kept.put (by simp)).trans (Kept.put (by simp))) _ ⟨by wtm_at "lk1", by wtm_at "lk1"⟩
  case put =>
    intro nd ws os σ m R P h2 hB q ρ hl
    obtain ⟨l1, l2⟩ := hl
    have et : σ wa = some (.list (ws.map WI.v ++ [.tup [.str "put", nd.v]])) := P.top
    have P2 := P.pop n1
    refine wht_succ ?_
    wtm_at "wp"
    refine call_b ?_
    wtm_at "wp"
    refine call_len_lst P.w (by simp; exact lin1 (.l (.v 0) (.k 90000) (.g (.v 0) (.k 999999))) rfl h2) ?_
    wtm_at "wp"
    try refine ite_tt (by simp) ?_
    wtm_at "wp"
    (refine st_assign ?_)
    refine ex_meth ?_
    wtm_at "wp"
    refine ⟨_, gm_list PySem.F.slot_list_pop PySem.F.type_list_pop et, keeps_builtin, ?_⟩
    wtm_at "wp"
    refine call_pop et (by simp; exact lin1 (.l (.v 0) (.k 90000) (.g (.v 0) (.k 1000000))) rfl h2) ?_
    wtm_at "wp"
    refine nm_str rfl ?_
    wtm_at "wp"
    refine ex_meth ?_
    wtm_at "wp"
    refine ⟨_, gm_list PySem.F.slot_list_extend PySem.F.type_list_extend P2.w, keeps_builtin, ?_⟩
    refine exs_one ?_
    refine ex_slice ?_
    refine ex_meth ?_
    wtm_at "wp"
    refine ⟨_, gm_inst co (L_PatternCode_begun) (M_PatternCode_begun).1 P2.cd.h rfl, (M_PatternCode_begun).2, ?_⟩
    wtm_at "wp"
    refine Con.call ((hB _ ?_).less (by decide))
    intro a items os' σ' sa hi na C2 sw r
    wtm_at "wp"
    refine op_neg ?_
    wtm_at "wp"
    refine sl_rev sa (by simp; exact lin1 (.l (.v 0) (.k 9000) (.g (.v 0) (.k 1000000))) rfl hi) ?_
    intro b hb
    have nb : wa ≠ b := fun z => by rw [← z, sw] at hb; cases hb
    refine call_extend (by rw [AH.put_ne _ _ nb]; exact sw) (AH.put_self _ _ _) (by simp; exact lin1 (.l (.v 0) (.k 90000) (.g (.v 0) (.k 100000))) rfl h2) (by simp; exact lin1 (.l (.v 0) (.k 9000) (.g (.v 0) (.k 100000))) rfl hi) ?_
    wtm_at "wp"
    have C3 := C2.new (o := .list (items.map WI.v).reverse) hb
    refine q items os' σ' _ r ⟨C3.other ?_ n1, ?_⟩ ((Kept.new hb).trans (Kept.put (by simp))) _ ⟨by wtm_at "lk1", by wtm_at "lk1"⟩
    · exact P.ne n1
    · rw [AH.put_self]; simp
  case bound =>
    intro i word e ws os σ m R ei hw1 hw2 P h2 hB q ρ hl
    obtain ⟨l1, l2⟩ := hl
    have et : σ wa = some (.list (ws.map WI.v ++ [.tup [.str word, .lst e]])) := by rw [← ei]; exact P.top
    have P2 := P.pop n1
    refine wht_succ ?_
    wtm_at "wp"
    refine call_b ?_
    wtm_at "wp"
    refine call_len_lst P.w (by simp; exact lin1 (.l (.v 0) (.k 90000) (.g (.v 0) (.k 999999))) rfl h2) ?_
    wtm_at "wp"
    try refine ite_tt (by simp) ?_
    wtm_at "wp"
    (refine st_assign ?_)
    refine ex_meth ?_
    wtm_at "wp"
    refine ⟨_, gm_list PySem.F.slot_list_pop PySem.F.type_list_pop et, keeps_builtin, ?_⟩
    wtm_at "wp"
    refine call_pop et (by simp; exact lin1 (.l (.v 0) (.k 90000) (.g (.v 0) (.k 1000000))) rfl h2) ?_
    wtm_at "wp"
    refine nm_str rfl ?_
    wtm_at "wp"
    try refine ite_ff hw1 ?_
    wtm_at "wp"
    refine nm_str rfl ?_
    wtm_at "wp"
    try refine ite_ff hw2 ?_
    wtm_at "wp"
    refine ex_meth ?_
    wtm_at "wp"
    refine ⟨_, gm_inst co (L_PatternCode_bound) (M_PatternCode_bound).1 P2.cd.h rfl, (M_PatternCode_bound).2, ?_⟩
    wtm_at "wp"
    refine Con.call ((hB _ ?_).less (by decide))
    intro os' σ' C2 sw r
    wtm_at "wp"
    exact q os' σ' r ⟨C2, sw⟩ _ ⟨by wtm_at "lk1", by wtm_at "lk1"⟩
end
end
section
open PySem PySem.W PyProof.Rows PySem.Calls
set_option tactic.hygienic false
noncomputable def Ord.isJump : Ord → Bool | .jump _ => true | _ => false
noncomputable def Ord.kind : Ord → Str
  | .one _ => "one" | .rem => "one" | .ways => "ways" | .split _ => "split" | .jump _ => "jump" | .mark => "mark" | .nm true _ => "set" | .nm false _ => "name" | .gain => "gain" | .place _ => "place" | .ask _ => "ask" | .done => "done"
noncomputable def Ord.args : Ord → List V
  | .one p => [.str p.kind, p.told] | .rem => [.str "rem", .none] | .ways => [.str "arb"] | .split g => [.int g] | .jump g => [.int g] | .mark => [] | .nm true r => [refV r] | .nm false r => [refV r] | .gain => [] | .place r => [refV r] | .ask k => [.tup [.str "name", .str k]] | .done => []
theorem Ord.v_eq (o : Ord) : o.v = .tup (.str o.kind :: o.args) := by
  cases o with
  | nm b r => cases b <;> rfl
  | _ => rfl
noncomputable def resolve (os : List Ord) : Nat → Nat → Nat
  | 0, g => g
  | k + 1, g => match os[g]? with | some (.jump g') => resolve os k g' | _ => g
def Resolves (os : List Ord) (g : Nat) : Prop := ∃ f o, os[resolve os f g]? = some o ∧ o.isJump = false
noncomputable def finalOf (os : List Ord) (g : Nat) : Nat := @dite _ (Resolves os g) (Classical.propDecidable _) (fun h => resolve os (Classical.choose h) g) (fun _ => g)
theorem finalOf_eq {os : List Ord} {g : Nat} (h : Resolves os g) : ∃ f o, finalOf os g = resolve os f g ∧ os[resolve os f g]? = some o ∧ o.isJump = false := by
  obtain ⟨o, h1, h2⟩ := Classical.choose_spec h
  exact ⟨_, o, by unfold finalOf; rw [dif_pos h], h1, h2⟩
noncomputable def straightO (os : List Ord) : Ord → Ord
  | .jump g => .jump (finalOf os g)
  | .split g => .split (finalOf os g)
  | o => o
noncomputable def Ord.goal : Ord → Option Nat
  | .jump g => some g
  | .split g => some g
  | _ => none
set_option tactic.hygienic true
theorem ord_case (o : Ord) : (o.goal = none ∧ ([("jump" : Str), "split"].contains o.kind) = false) ∨ ∃ g, o.goal = some g ∧ ([("jump" : Str), "split"].contains o.kind) = true ∧ o.args = [.int g] := by
  cases o with
  | jump g => exact .inr ⟨g, rfl, by dsimp only [Ord.kind]; decide, rfl⟩
  | split g => exact .inr ⟨g, rfl, by dsimp only [Ord.kind]; decide, rfl⟩
  | nm b r => cases b <;> exact .inl ⟨rfl, by dsimp only [Ord.kind]; decide⟩
  | _ => exact .inl ⟨rfl, by dsimp only [Ord.kind]; decide⟩
theorem jump_case (o : Ord) : (o.isJump = false ∧ (o.kind == ("jump" : Str)) = false) ∨ ∃ g, o = .jump g := by
  cases o with
  | jump g => exact .inr ⟨g, rfl⟩
  | nm b r => cases b <;> exact .inl ⟨rfl, by dsimp only [Ord.kind]; decide⟩
  | _ => exact .inl ⟨rfl, by dsimp only [Ord.kind]; decide⟩
set_option tactic.hygienic false
theorem straight_v {os : List Ord} {o : Ord} {g : Nat} (h : o.goal = some g) : (straightO os o).v = .tup [.str o.kind, .int ((finalOf os g : Nat) : Int)] := by
  cases o <;> cases h <;> rfl
theorem Kept.put0 {σ σ1 : AH} {a : Addr} {o : AO} (K : Kept σ σ1 []) (h : σ a = none) : Kept σ (σ1.put a o) [] := fun b p e n => by
  rw [AH.put_ne _ _ (by exact ne_sn e h)]; exact K b p e n
theorem straight_none {os : List Ord} {o : Ord} (h : o.goal = none) : straightO os o = o := by cases o <;> first | rfl | cases h
section
variable {σ : AH} {Q : V → AH → Prop}
set_option tactic.hygienic true
theorem w_straightened {a : Addr} {os : List Ord} (ha : σ a = some (.list (os.map Ord.v))) (hl : os.length ≤ 90000) (hr : ∀ o ∈ os, ∀ g, o.goal = some g → Resolves os g)
    (q : ∀ b σ', σ b = none → σ' b = some (.list ((os.map (straightO os)).map Ord.v)) → Kept σ σ' [] → Q (.lst b) σ') : Con 1 (.ref 474) [.lst a] σ Q := by
  refine con_fn (F_straightened) rfl fun L => ?_
  wtm_at "w_in"
  (refine ss_cons (st_asn ?_ rfl rfl))
  refine ex_list ?_
  wtm_at "wp"
  intro fa hfa
  have naf : a ≠ fa := fun e => by rw [← e, ha] at hfa; cases hfa
  wtm_at "wp"
  refine st_for ?_
  wtm_at "wp"
  refine ⟨_, _, iter_lst (by rw [AH.put_ne _ _ naf]; exact ha), ?_⟩
  refine forj_inv (fun vs ρ σ' => EX2 fun (ds : List Ord) (rs : List Ord) => AN6 (os = ds ++ rs) (vs = rs.map Ord.v) (σ' fa = some (.list ((ds.map (straightO os)).map Ord.v))) (Kept σ σ' []) (at_ ρ "found" = some (.lst fa)) (at_ ρ "orders" = some (.lst a))) ?_ ?_ ?_ _ _ _ ?_
  · rintro vs ρ σ1 ⟨ds, rs, e1, e2, e3, K, l1, l2⟩
    exact K _ _ ha (by exact nn)
  · rintro v vs ρ σ1 ⟨ds, rs, e1, e2, e3, K, l1, l2⟩
    cases rs with
    | nil => cases e2
    | cons o rs =>
      rw [List.map_cons, List.cons.injEq] at e2
      obtain ⟨rfl, rfl⟩ := e2
      have hdl : ((ds.map (straightO os)).map Ord.v).length ≤ 1000000 := by have := congrArg List.length e1; simp at this ⊢; exact lin3 (.f (.v 0) (.a (.v 1) (.a (.v 2) (.k 1))) (.l (.v 0) (.k 90000) (.g (.v 1) (.k 1000000)))) rfl this hl
      have e1' : os = (ds ++ [o]) ++ rs := by rw [e1]; simp
      have ho : o ∈ os := by rw [e1]; simp
      have ha1 := K _ _ ha (by exact nn)
      rcases ord_case o with ⟨h1, h2⟩ | ⟨g, h1, h2, h3⟩
      · rw [o.v_eq]
        wtm_at "wp"
        refine nm_str rfl ?_
        wtm_at "wp"
        refine nm_str rfl ?_
        wtm_at "wp"
        refine cmp_in_tup (l := ["jump", "split"]) ?_
        wtm_at "wp"
        try refine ite_ff h2 ?_
        wtm_at "wp"
        refine ex_meth ?_
        wtm_at "wp"
        refine ⟨_, gm_list PySem.F.slot_list_append PySem.F.type_list_append e3, keeps_builtin, ?_⟩
        wtm_at "wp"
        refine call_append e3 hdl ?_
        wtm_at "wp"
        refine ⟨ds ++ [o], rs, e1', rfl, ?_, K.put0 hfa, by wtm_at "lk1", by wtm_at "lk1"⟩
        rw [AH.put_self]; simp [straight_none h1, ← o.v_eq]
      · rw [o.v_eq, h3]
        wtm_at "wp"
        refine nm_str rfl ?_
        wtm_at "wp"
        refine nm_str rfl ?_
        wtm_at "wp"
        refine cmp_in_tup (l := ["jump", "split"]) ?_
        wtm_at "wp"
        try refine ite_tt h2 ?_
        wtm_at "wp"
        (refine st_asn ?_ rfl rfl)
        wtm_at "wp"
        obtain ⟨F0, o2, eF, ho2, hj2⟩ := finalOf_eq (hr o ho g h1)
        rw [← eF] at ho2
        refine st_while (fun k ρ σ' => σ' = σ1 ∧ ∃ g', resolve os k g' = finalOf os g ∧ at_ ρ "goal" = some (.int (g' : Nat)) ∧ at_ ρ "found" = some (.lst fa) ∧ at_ ρ "orders" = some (.lst a) ∧ at_ ρ "order" = some (.tup [.str o.kind, .int g])) F0 ⟨rfl, g, eF.symm, by wtm_at "lk1", by wtm_at "lk1", by wtm_at "lk1", by wtm_at "lk1"⟩ ?_
        rintro k ρ2 _ ⟨rfl, g', hg, l3, l4, l5, l6⟩
        have step : ∀ p : Ord, os[g']? = some p → ∀ (P : Prop), (p.isJump = false → (p.kind == ("jump" : Str)) = false → g' = finalOf os g → P) → (∀ g2 k2, k = k2 + 1 → p = .jump g2 → resolve os k2 g2 = finalOf os g → P) → P := by
          intro p hp P h1 h2
          rcases jump_case p with ⟨j1, j2⟩ | ⟨g2, rfl⟩
          · refine h1 j1 j2 ?_
            cases k with
            | zero => exact hg
            | succ k => rw [← hg]; show _ = (match os[g']? with | some (.jump g') => resolve os k g' | _ => g'); rw [hp]; cases p <;> first | rfl | cases j1
          · cases k with
            | zero => have hg : g' = _ := hg
                      rw [← hg, hp] at ho2; cases ho2; cases hj2
            | succ k => refine h2 g2 k rfl rfl ?_
                        rw [← hg]; show _ = (match os[g']? with | some (.jump g') => resolve os k g' | _ => g'); rw [hp]
        have there : ∃ p, os[g']? = some p := by
          cases hp : os[g']? with
          | some p => exact ⟨p, rfl⟩
          | none =>
            have : g' = finalOf os g := by
              cases k with
              | zero => exact hg
              | succ k => rw [← hg]; show _ = (match os[g']? with | some (.jump g') => resolve os k g' | _ => g'); rw [hp]
            rw [← this, hp] at ho2; cases ho2
        obtain ⟨p, hp⟩ := there
        have hpv : (os.map Ord.v)[g']? = some (.tup (.str p.kind :: p.args)) := by rw [List.getElem?_map, hp, ← p.v_eq]; rfl
        have hlt : g' < 2 ^ 62 := by have := (List.getElem?_eq_some_iff.mp hp).1; exact lin2 (.t (.v 0) (.v 1) (.l (.v 1) (.k 90000) (.b (.v 0) (.k 4611686018427387904)))) rfl this hl
        wtm_at "wp"
        refine sub_lst (j := g') ha1 rfl hpv hlt ?_
        wtm_at "wp"
        refine nm_str rfl ?_
        wtm_at "wp"
        refine step p hp _ (fun j1 j2 j3 => ?_) (fun g2 k2 ek ep hg2 => ?_)
        · try refine ite_ff j2 ?_
          wtm_at "wp"
          (refine st_asn ?_ rfl rfl)
          wtm_at "wp"
          refine ex_meth ?_
          wtm_at "wp"
          refine ⟨_, gm_list PySem.F.slot_list_append PySem.F.type_list_append e3, keeps_builtin, ?_⟩
          wtm_at "wp"
          refine call_append e3 hdl ?_
          wtm_at "wp"
          refine ⟨ds ++ [o], rs, e1', rfl, ?_, K.put0 hfa, by wtm_at "lk1", by wtm_at "lk1"⟩
          rw [AH.put_self, j3]; simp [straight_v h1]
        · subst ep
          try refine ite_tt (by dsimp only [Ord.kind]; decide) ?_
          wtm_at "wp"
          (refine st_asn ?_ rfl rfl)
          wtm_at "wp"
          refine sub_lst (j := g') ha1 rfl hpv hlt ?_
          have e4 : (V.tup (.str (Ord.jump g2).kind :: (Ord.jump g2).args)) = .tup [.str "jump", .int g2] := rfl
          rw [e4]
          wtm_at "wp"
          exact ⟨k2, by exact lin2 (.f (.v 0) (.a (.v 1) (.k 1)) (.b (.v 1) (.v 0))) rfl ek, rfl, g2, hg2, by wtm_at "lk1", by wtm_at "lk1", by wtm_at "lk1", by wtm_at "lk1"⟩
  · rintro ρ σ1 ⟨ds, rs, e1, e2, e3, K, l1, l2⟩
    have : rs = [] := by cases rs with | nil => rfl | cons p rs => cases e2
    subst this
    wtm_at "wp"
    refine q fa σ1 hfa ?_ K
    rw [List.append_nil] at e1
    rw [← e1] at e3; exact e3
  · exact ⟨[], os, rfl, rfl, AH.put_self _ _ _, Kept.new hfa, by wtm_at "lk1", by wtm_at "lk1"⟩
end
end
section
open PySem PySem.W PyProof.Rows PySem.Calls
set_option tactic.hygienic false
noncomputable def seqAt (f : Nd → Nat → List Ord) : List Nd → Nat → List Ord
  | [], _ => []
  | p :: ps, b => f p b ++ seqAt f ps (b + (f p b).length)
noncomputable def altAt (f : Nd → Nat → List Ord) : List Nd → Nat → List Ord
  | [], _ => []
  | [p], b => f p b
  | p :: q :: ps, b =>
    let c := f p (b + 1)
    let rest := altAt f (q :: ps) (b + c.length + 2)
    .split (b + c.length + 2) :: (c ++ .jump (b + c.length + 2 + rest.length) :: rest)
noncomputable def codeAt : Nat → Nd → Nat → List Ord
  | 0, _, _ => []
  | k + 1, n, b => match n with
    | .pl p => [.one p]
    | .rem => [.rem]
    | .arb => [.ways]
    | .delay x => [.ask x]
    | .cursor r => [.place r]
    | .cat x y => seqAt (codeAt k) (joined (rowCat (.cat x y))) b
    | .alt x y => altAt (codeAt k) (rowAlt (.alt x y)) b
    | .arbno a =>
      let c := codeAt k a (b + 3)
      .split (b + 2) :: .jump (b + 3 + c.length + 2) :: .mark :: (c ++ [.gain, .jump b])
    | .nm now a r => .mark :: (codeAt k a (b + 1) ++ [.nm now r])
noncomputable def sJ (E : Nat) : Ords → List Nat → Ords
  | os, [] => os
  | os, j :: js => sJ E (os.set j (some (.jump E))) js
theorem setJumps_eq : ∀ (js : List Nat) (os : Ords), setJumps os js = sJ os.length os js
  | [], _ => rfl
  | j :: js, os => by
    show setJumps (os.set j _) js = sJ _ (os.set j _) js
    rw [setJumps_eq js, List.length_set]
theorem sJ_len (E : Nat) : ∀ (js : List Nat) (os : Ords), (sJ E os js).length = os.length
  | [], _ => rfl
  | j :: js, os => by show (sJ E (os.set j _) js).length = _; rw [sJ_len E js, List.length_set]
theorem sJ_append (E : Nat) (xs : Ords) : ∀ (js : List Nat) (os : Ords), (∀ j ∈ js, j < os.length) → sJ E (os ++ xs) js = sJ E os js ++ xs
  | [], _, _ => rfl
  | j :: js, os, h => by
    show sJ E ((os ++ xs).set j _) js = sJ E (os.set j _) js ++ xs
    rw [List.set_append_left _ _ (h j (by simp)), sJ_append E xs js _ (fun i hi => by rw [List.length_set]; exact h i (by simp [hi]))]
theorem sJ_snoc (E j : Nat) : ∀ (js : List Nat) (os : Ords), sJ E os (js ++ [j]) = (sJ E os js).set j (some (.jump E))
  | [], _ => rfl
  | i :: js, os => sJ_snoc E j js (os.set i _)
theorem putN_seq {f : Nd → Nat → List Ord} {put : Nd → Ords → Ords} : ∀ (ps : List Nd) (os : Ords), (∀ p ∈ ps, ∀ os, put p os = os ++ (f p os.length).map some) → ps.foldl (fun os p => put p os) os = os ++ (seqAt f ps os.length).map some
  | [], os, _ => by simp [seqAt]
  | p :: ps, os, h => by
    rw [List.foldl_cons, h p (by simp), putN_seq ps _ (fun q hq => h q (by simp [hq]))]
    simp [seqAt]
theorem putN_alt {f : Nd → Nat → List Ord} {put : Nd → Ords → Ords} : ∀ (ps : List Nd) (os : Ords) (js : List Nat), ps ≠ [] → (∀ p ∈ ps, ∀ os, put p os = os ++ (f p os.length).map some) → (∀ j ∈ js, j < os.length) →
    runAlt put ps os js = sJ (os.length + (altAt f ps os.length).length) os js ++ (altAt f ps os.length).map some
  | [], _, _, h, _, _ => absurd rfl h
  | [p], os, js, _, h, hj => by
    show setJumps (put p os) js = _
    rw [setJumps_eq, h p (by simp), sJ_append _ _ _ _ hj]
    simp [altAt]
  | p :: q :: ps, os, js, _, h, hj => by
    rw [runAlt_cons, h p (by simp)]
    have e1 : ((os ++ [none] ++ (f p (os ++ [none]).length).map some ++ [none]).set os.length (some (.split ((os ++ [none] ++ (f p (os ++ [none]).length).map some).length + 1)))) = os ++ (some (Ord.split (os.length + (f p (os.length + 1)).length + 2)) :: ((f p (os.length + 1)).map some ++ [none])) := by
      simp [List.set_append_right]
      lia -abstractProof
    have e2 : (os ++ [none] ++ (f p (os ++ [none]).length).map some).length = os.length + (f p (os.length + 1)).length + 1 := by simp; exact Nat.le_antisymm (lin2 (.g (.a (.v 0) (.a (.v 1) (.k 1))) (.a (.a (.v 0) (.v 1)) (.k 1))) rfl) (lin2 (.g (.a (.a (.v 0) (.v 1)) (.k 1)) (.a (.v 0) (.a (.v 1) (.k 1)))) rfl)
    rw [e1, e2]
    rw [putN_alt (q :: ps) _ _ (by simp) (fun r hr => h r (by simp at hr ⊢; exact .inr hr)) (fun j hj' => by
      rcases List.mem_append.mp hj' with z | z
      · have := hj j z; simp; exact lin3 (.t (.v 0) (.v 1) (.b (.v 0) (.a (.v 1) (.a (.a (.v 2) (.k 1)) (.k 1))))) rfl this
      · rw [List.mem_singleton] at z; simp; exact lin3 (.e (.v 0) (.a (.a (.v 1) (.v 2)) (.k 1)) (.b (.v 0) (.a (.v 1) (.a (.a (.v 2) (.k 1)) (.k 1))))) rfl z)]
    have e3 : (os ++ (some (Ord.split (os.length + (f p (os.length + 1)).length + 2)) :: ((f p (os.length + 1)).map some ++ [none]))).length = os.length + (f p (os.length + 1)).length + 2 := by simp; exact Nat.le_antisymm (lin2 (.g (.a (.v 0) (.a (.a (.v 1) (.k 1)) (.k 1))) (.a (.a (.v 0) (.v 1)) (.k 2))) rfl) (lin2 (.g (.a (.a (.v 0) (.v 1)) (.k 2)) (.a (.v 0) (.a (.a (.v 1) (.k 1)) (.k 1)))) rfl)
    rw [e3, sJ_snoc, sJ_append _ _ _ _ hj]
    have e4 : altAt f (p :: q :: ps) os.length = .split (os.length + (f p (os.length + 1)).length + 2) :: (f p (os.length + 1) ++ .jump (os.length + (f p (os.length + 1)).length + 2 + (altAt f (q :: ps) (os.length + (f p (os.length + 1)).length + 2)).length) :: altAt f (q :: ps) (os.length + (f p (os.length + 1)).length + 2)) := rfl
    rw [e4]
    generalize altAt f (q :: ps) (os.length + (f p (os.length + 1)).length + 2) = R
    generalize hA : f p (os.length + 1) = A
    have e5 : os.length + (Ord.split (os.length + A.length + 2) :: (A ++ Ord.jump (os.length + A.length + 2 + R.length) :: R)).length = os.length + A.length + 2 + R.length := by simp; exact Nat.le_antisymm (lin3 (.g (.a (.v 0) (.a (.a (.v 1) (.a (.v 2) (.k 1))) (.k 1))) (.a (.a (.a (.v 0) (.v 1)) (.k 2)) (.v 2))) rfl) (lin3 (.g (.a (.a (.a (.v 0) (.v 1)) (.k 2)) (.v 2)) (.a (.v 0) (.a (.a (.v 1) (.a (.v 2) (.k 1))) (.k 1)))) rfl)
    rw [e5]
    generalize hE : os.length + A.length + 2 + R.length = E
    have hs : (sJ E os js).length = os.length := sJ_len _ _ _
    rw [List.set_append_right _ _ (by exact lin3 (.e (.v 0) (.v 1) (.g (.v 0) (.a (.a (.v 1) (.v 2)) (.k 1)))) rfl hs)]
    have e6 : os.length + A.length + 1 - (sJ E os js).length = (A.map some).length + 1 := by rw [hs]; simp; lia -abstractProof
    rw [e6, List.set_cons_succ, List.set_append_right _ _ (Nat.le_refl _)]
    simp
theorem putN_eq : ∀ (k : Nat) (n : Nd) (os : Ords), n.size ≤ k → putN k n os = os ++ (codeAt k n os.length).map some
  | 0, n, _, h => by have := n.size_pos; exact False.elim (lin1 (.t (.k 0) (.v 0) (.l (.v 0) (.k 0) (.z))) rfl this h)
  | k + 1, n, os, h => by
    have ih := putN_eq k
    cases n with
    | cat a b =>
      have h1 := sz_row_cat (.cat a b)
      have h2 := sz_joined (rowCat (.cat a b))
      have h3 := two_cat a
      have h4 := two_cat b
      have h5 : (rowCat (.cat a b)).length = (rowCat a).length + (rowCat b).length := by show (rowCat a ++ rowCat b).length = _; rw [List.length_append]
      exact putN_seq (f := codeAt k) (joined (rowCat (.cat a b))) os fun p hp os => ih p os (by have := mem_sz hp; lia -abstractProof)
    | alt a b =>
      have h1 := sz_row_alt (.alt a b)
      have h3 := two_alt a
      have h4 := two_alt b
      have h5 : (rowAlt (.alt a b)).length = (rowAlt a).length + (rowAlt b).length := by show (rowAlt a ++ rowAlt b).length = _; rw [List.length_append]
      exact putN_alt (f := codeAt k) (rowAlt (.alt a b)) os [] (by intro z; rw [z] at h5; simp at h5; exact lin2 (.t (.k 0) (.v 0) (.f (.k 0) (.a (.v 0) (.v 1)) (.z))) rfl h3 h5) (fun p hp os => ih p os (by have := mem_sz hp; exact lin7 (.e (.a (.v 0) (.v 1)) (.a (.v 2) (.k 1)) (.t (.k 0) (.v 3) (.t (.k 0) (.v 4) (.f (.v 1) (.a (.v 4) (.v 3)) (.l (.v 2) (.a (.v 5) (.k 1)) (.l (.v 6) (.v 0) (.g (.v 6) (.v 5)))))))) rfl h1 h4 h3 h5 h this)) (by simp)
    | arbno a =>
      have hs : (Nd.arbno a).size = a.size + 1 := rfl
      show List.set (putN k a _ ++ _) _ _ = os ++ (Ord.split (os.length + 2) :: Ord.jump _ :: Ord.mark :: (codeAt k a (os.length + 3) ++ [Ord.gain, Ord.jump os.length])).map some
      rw [ih a _ (by exact lin3 (.f (.v 0) (.a (.v 1) (.k 1)) (.l (.v 0) (.a (.v 2) (.k 1)) (.g (.v 1) (.v 2)))) rfl hs h)]
      have e1 : (os ++ [some (Ord.split (os.length + 2)), none, some Ord.mark]).length = os.length + 3 := by simp
      rw [e1]
      rw [List.append_assoc, List.append_assoc, List.set_append_right _ _ (by exact lin1 (.g (.v 0) (.a (.v 0) (.k 1))) rfl)]
      simp [Nat.add_assoc]; lia -abstractProof
    | nm b a r =>
      have hs : (Nd.nm b a r).size = a.size + 1 := rfl
      show putN k a (os ++ [some Ord.mark]) ++ [_] = os ++ (Ord.mark :: (codeAt k a (os.length + 1) ++ [Ord.nm b r])).map some
      rw [ih a _ (by exact lin3 (.f (.v 0) (.a (.v 1) (.k 1)) (.l (.v 0) (.a (.v 2) (.k 1)) (.g (.v 1) (.v 2)))) rfl hs h)]
      simp
    | _ => rfl
noncomputable def rawOf (n : Nd) : List Ord := codeAt n.size n 0 ++ [.done]
noncomputable def codeOf (n : Nd) : List Ord := (rawOf n).map (straightO (rawOf n))
end
section
open PySem PySem.W PyProof.Rows PySem.Calls
section
variable {σ : AH} {Q : V → AH → Prop}
theorem call_c {n : Nat} {env : Env} {ρ : Loc} {Q : V → Loc → AH → Prop} {x : Str} {a : Nat} {p pos : Pos} {args : List Expr} (kf : Keeps (.ref a)) (h : Exs n env args ρ σ (CallK n env (.ref a) Q)) (hk : autoParam (env.kindOf x = some .globalImplicit) aRfl) (ht : autoParam (gTab.lookup x = some (some (some (.ref a)))) aRfl)
    (hd : (x == ("__debug__" : Str)) = false := by decide) (hp : autoParam (args.all plainE = true) aRfl) :
    Ex n env (.Call (.Name x p) args [] pos) ρ σ Q := ex_call (ex_global hk (g_is ht) (fun _ => .glob _) ⟨_, rfl, kf, h⟩ hd) rfl hp
theorem w_pc_init {d : Addr} (hd : σ d = some (.dict [])) (q : ∀ a, σ a = none → Q .none ((σ.put a (.list [])).put d (.dict [("orders", .lst a)]))) : Con 1 (.ref 420) [.inst 463 d] σ Q := by
  have co := (C_PatternCode).1
  refine con_fn (F_PatternCode_init) rfl fun L => ?_
  wtm_at "w_in"
  (refine ss_cons (st_assign ?_))
  refine ex_list ?_
  wtm_at "wp"
  intro a ha
  have nda : d ≠ a := fun z => by rw [z, ha] at hd; cases hd
  refine asg_attr ?_
  wtm_at "wp"
  refine st_attr co (L_PatternCode_orders) (by rw [AH.put_ne _ _ nda]; exact hd) (by simp) ?_
  have e : setK [] "orders" (.lst a) = [(("orders" : Str), V.lst a)] := rfl
  rw [e]
  wtm_at "wp"
  exact q a ha
theorem w_compile {n : Nd} (hz : n.size ≤ 1000) (ht : n.text ≤ 1000) (hr : ∀ o ∈ rawOf n, ∀ g, o.goal = some g → Resolves (rawOf n) g)
    (q : ∀ a σ', σ a = none → σ' a = some (.list ((codeOf n).map Ord.v)) → Kept σ σ' [] → Q (.lst a) σ') : Con 6 (.ref 481) [n.v] σ Q := by
  have co := C_PatternCode
  refine con_fn (F_compile_pattern) rfl fun L => ?_
  wtm_at "w_in"
  (refine ss_cons (st_asn ?_ rfl rfl))
  refine call_c co.2.2.1 ?_
  wtm_at "wp"
  refine Con.call ((con_cls co.2.1 (L_PatternCode_init) (M_PatternCode_init).1 fun d hd => w_pc_init (AH.put_self _ _ _) fun oa hoa => ⟨rfl, ?_⟩).less (by decide))
  have hoa0 := AH.none_of_put hoa
  have nod : oa ≠ d := fun z => by rw [z, AH.put_self] at hoa; cases hoa
  have C : CdAt ((((σ.put d (.dict [])).put oa (.list []))).put d (.dict [("orders", .lst oa)])) d oa [] := ⟨AH.put_self _ _ _, by rw [AH.put_ne _ _ nod]; exact AH.put_self _ _ _⟩
  have K0 : Kept σ ((((σ.put d (.dict [])).put oa (.list []))).put d (.dict [("orders", .lst oa)])) [] := ((Kept.new hd).put0 hoa0).put0 hd
  revert C K0
  generalize ((((σ.put d (.dict [])).put oa (.list []))).put d (.dict [("orders", .lst oa)])) = σ1
  intro C K0
  wtm_at "wp"
  refine ex_meth ?_
  wtm_at "wp"
  refine ⟨_, gm_inst co.1 (L_PatternCode_put) (M_PatternCode_put).1 C.h rfl, (M_PatternCode_put).2, ?_⟩
  wtm_at "wp"
  refine Con.call ((w_put C hz ht (by simp) ?_).less (by decide))
  intro σ2 C2 K2
  have gl := (grows n.size n [] (Nat.le_refl _)).2
  simp only [List.length_nil] at gl
  wtm_at "wp"
  refine ex_meth ?_
  wtm_at "wp"
  refine ⟨_, gm_inst co.1 (L_PatternCode_emit) (M_PatternCode_emit).1 C2.h rfl, (M_PatternCode_emit).2, ?_⟩
  wtm_at "wp"
  refine nm_str rfl ?_
  wtm_at "wp"
  refine Con.call ((w_emit C2 (by exact lin2 (.l (.a (.v 0) (.k 5)) (.a (.a (.k 0) (.m 5 (.v 1))) (.k 5)) (.l (.v 1) (.k 1000) (.l (.v 1) (.k 1000) (.l (.v 1) (.k 1000) (.l (.v 1) (.k 1000) (.l (.v 1) (.k 1000) (.g (.v 0) (.k 100000)))))))) rfl gl hz hz hz hz hz) (some .done) ?_).less (by decide))
  have C3 := C2.put (putN n.size n [] ++ [some .done])
  have e1 : (putN n.size n [] ++ [some Ord.done]) = (rawOf n).map some := by
    rw [putN_eq n.size n [] (Nat.le_refl _)]; simp [rawOf]
  have e2 : ((rawOf n).map some).map ovV = (rawOf n).map Ord.v := by rw [List.map_map]; rfl
  rw [e1] at C3 ⊢
  have so := C3.o
  rw [e2] at so C3 ⊢
  wtm_at "wp"
  refine call_g ?_
  wtm_at "wp"
  refine op_attr co.1 (L_PatternCode_orders) C3.h (v := .lst oa) rfl (vk_lst _) ?_
  wtm_at "wp"
  refine Con.call ((w_straightened so ?_ hr ?_).less (by decide))
  · have := congrArg List.length e1
    rw [List.length_map, List.length_append] at this
    simp at this; lia
  · intro b σ3 hb sb K3
    have kk : Kept σ (σ2.put oa (.list ((rawOf n).map Ord.v))) [] := fun x o ex nx => by
      have ne : x ≠ oa := fun z => by rw [z, hoa0] at ex; cases ex
      rw [AH.put_ne _ _ ne]
      exact K2 x o (K0 x o ex nx) (by simpa using ne)
    refine q b σ3 ?_ sb (kk.trans K3)
    cases z : σ b with
    | none => rfl
    | some o => rw [kk _ _ z (by exact nn)] at hb; cases hb
end
end
section
open PySem PySem.W PyProof.Rows PySem.Calls
noncomputable def wayD (o pc at' nm mk cl : V) : List (Str × V) := [("orders", o), ("pc", pc), ("at", at'), ("named", nm), ("marks", mk), ("calls", cl)]
noncomputable def matchD (s : Str) (d ha : Addr) : List (Str × V) := [("subject", .str s), ("host", .inst 519 d), ("history", .lst ha)]
set_option tactic.hygienic true
theorem AH.put_put (σ : AH) (a : Addr) (o o' : AO) : (σ.put a o).put a o' = σ.put a o' := by
  funext b; unfold AH.put; by_cases h : b = a <;> simp [h]
section
variable {σ : AH} {Q : V → AH → Prop} {d dw dm ha : Addr} {o pc at' nm mk cl : V} {s : Str}
set_option tactic.hygienic false
theorem w_way_init (hd : σ dw = some (.dict [])) (q : Q .none (σ.put dw (.dict (wayD o pc at' nm mk cl)))) : Con 1 (.ref 537) [.inst 547 dw, o, pc, at', nm, mk, cl] σ Q := by
  have co := (C_Way).1
  refine con_fn (F_Way_init) rfl fun L => ?_
  wtm_at "w_in"
  (refine ss_cons (st_assign ?_))
  wtm_at "wp"
  refine asg_attr ?_
  wtm_at "wp"
  refine st_attr co (L_Way_orders) hd (by simp) ?_
  wtm_at "wp"
  (refine st_assign ?_)
  wtm_at "wp"
  refine asg_attr ?_
  wtm_at "wp"
  refine st_attr co (L_Way_pc) (AH.put_self _ _ _) (Nat.le_of_ble_eq_true rfl) ?_
  rw [AH.put_put]
  wtm_at "wp"
  (refine st_assign ?_)
  wtm_at "wp"
  refine asg_attr ?_
  wtm_at "wp"
  refine st_attr co (L_Way_at) (AH.put_self _ _ _) (Nat.le_of_ble_eq_true rfl) ?_
  rw [AH.put_put]
  wtm_at "wp"
  (refine st_assign ?_)
  wtm_at "wp"
  refine asg_attr ?_
  wtm_at "wp"
  refine st_attr co (L_Way_named) (AH.put_self _ _ _) (Nat.le_of_ble_eq_true rfl) ?_
  rw [AH.put_put]
  wtm_at "wp"
  (refine st_assign ?_)
  wtm_at "wp"
  refine asg_attr ?_
  wtm_at "wp"
  refine st_attr co (L_Way_marks) (AH.put_self _ _ _) (Nat.le_of_ble_eq_true rfl) ?_
  rw [AH.put_put]
  wtm_at "wp"
  (refine st_assign ?_)
  wtm_at "wp"
  refine asg_attr ?_
  wtm_at "wp"
  refine st_attr co (L_Way_calls) (AH.put_self _ _ _) (Nat.le_of_ble_eq_true rfl) ?_
  rw [AH.put_put]
  wtm_at "wp"
  exact q
theorem con_way (q : ∀ dw, σ dw = none → Q (.inst 547 dw) (σ.put dw (.dict (wayD o pc at' nm mk cl)))) : Con 2 (.ref 547) [o, pc, at', nm, mk, cl] σ Q := by
  have co := C_Way
  refine con_cls co.2.1 (L_Way_init) (M_Way_init).1 fun d hd => w_way_init (AH.put_self _ _ _) ⟨rfl, ?_⟩
  rw [AH.put_put]
  exact q d hd
def VOk (v : V) : Prop := ∀ u, v ≠ .glob u
theorem w_way_copied (ho : VOk o) (hn : VOk nm) (hm : VOk mk) (hc : VOk cl) {k a p : Int} (hd : σ dw = some (.dict (wayD o (.int p) (.int a) nm mk cl))) (q : ∀ d2, σ d2 = none → Q (.inst 547 d2) (σ.put d2 (.dict (wayD o (.int k) (.int a) nm mk cl)))) : Con 3 (.ref 544) [.inst 547 dw, .int k] σ Q := by
  have co := C_Way
  refine con_fn (F_Way_copied) rfl fun L => ?_
  wtm_at "w_in"
  wtm_at "wp"
  refine call_c co.2.2.1 ?_
  wtm_at "wp"
  refine op_attr co.1 (L_Way_orders) hd (v := o) rfl ho ?_
  wtm_at "wp"
  refine op_attr co.1 (L_Way_at) hd (v := .int a) rfl (vk_int _) ?_
  wtm_at "wp"
  refine op_attr co.1 (L_Way_named) hd (v := nm) rfl hn ?_
  wtm_at "wp"
  refine op_attr co.1 (L_Way_marks) hd (v := mk) rfl hm ?_
  wtm_at "wp"
  refine op_attr co.1 (L_Way_calls) hd (v := cl) rfl hc ?_
  wtm_at "wp"
  exact Con.call (con_way q)
set_option tactic.hygienic true
theorem w_match_init (hd : σ dm = some (.dict [])) (q : ∀ ha, σ ha = none → Q .none ((σ.put ha (.list [])).put dm (.dict (matchD s d ha)))) : Con 1 (.ref 565) [.inst 624 dm, .str s, .inst 519 d] σ Q := by
  have co := (C_Match).1
  refine con_fn (F_Match_init) rfl fun L => ?_
  wtm_at "w_in"
  (refine ss_cons (st_assign ?_))
  wtm_at "wp"
  refine asg_attr ?_
  wtm_at "wp"
  refine st_attr co (L_Match_subject) hd (by simp) ?_
  wtm_at "wp"
  (refine st_assign ?_)
  wtm_at "wp"
  refine asg_attr ?_
  wtm_at "wp"
  refine st_attr co (L_Match_host) (AH.put_self _ _ _) (Nat.le_of_ble_eq_true rfl) ?_
  rw [AH.put_put]
  wtm_at "wp"
  (refine st_assign ?_)
  refine ex_list ?_
  wtm_at "wp"
  intro ha hha
  have nd : dm ≠ ha := fun z => by rw [z, AH.put_self] at hha; cases hha
  refine asg_attr ?_
  wtm_at "wp"
  refine st_attr co (L_Match_history) (by rw [AH.put_ne _ _ nd]; exact AH.put_self _ _ _) (Nat.le_of_ble_eq_true rfl) ?_
  have e : ∀ o1 o2 o3, ((σ.put dm o1).put ha o2).put dm o3 = (σ.put ha o2).put dm o3 := fun o1 o2 o3 => by
    funext b; unfold AH.put; by_cases h : b = dm <;> simp [h]
  rw [e]
  wtm_at "wp"
  exact q ha (AH.none_of_put hha)
theorem con_match (q : ∀ dm ha, σ dm = none → σ ha = none → dm ≠ ha → Q (.inst 624 dm) ((σ.put ha (.list [])).put dm (.dict (matchD s d ha)))) : Con 2 (.ref 624) [.str s, .inst 519 d] σ Q := by
  have co := C_Match
  refine con_cls co.2.1 (L_Match_init) (M_Match_init).1 fun dm hd => w_match_init (AH.put_self _ _ _) fun ha hha => ⟨rfl, ?_⟩
  have nd : dm ≠ ha := fun z => by rw [z, AH.put_self] at hha; cases hha
  have e : ∀ o1 o2 o3, ((σ.put dm o1).put ha o2).put dm o3 = (σ.put ha o2).put dm o3 := fun o1 o2 o3 => by
    funext b; unfold AH.put; by_cases h : b = dm <;> simp [h]
  rw [e]
  exact q dm ha hd (AH.none_of_put hha) nd
set_option tactic.hygienic false
theorem w_way_back (hm : σ dm = some (.dict (matchD s d ha))) {l : List V} (hl : l.length ≤ 100000) (hh : σ ha = some (.list l)) (q : match l.getLast? with | none => Q .none σ | some v => Q v (σ.put ha (.list l.dropLast))) : Con 1 (.ref 579) [.inst 624 dm] σ Q := by
  have co := (C_Match).1
  refine con_fn (F_Match_way_back) rfl fun L => ?_
  wtm_at "w_in"
  wtm_at "wp"
  refine call_b ?_
  wtm_at "wp"
  refine op_attr co (L_Match_history) hm (v := .lst ha) rfl (vk_lst _) ?_
  wtm_at "wp"
  refine call_len_lst hh (by exact lin1 (.l (.v 0) (.k 100000) (.g (.v 0) (.k 1000000))) rfl hl) ?_
  wtm_at "wp"
  rcases List.eq_nil_or_concat l with rfl | ⟨l, v, rfl⟩
  · try refine ite_ff (by decide) ?_
    wtm_at "wp"
    exact q
  · rw [List.concat_eq_append] at *
    try refine ite_tt (by simp) ?_
    refine ex_meth ?_
    wtm_at "wp"
    refine op_attr co (L_Match_history) hm (v := .lst ha) rfl (vk_lst _) ?_
    refine ⟨_, gm_list PySem.F.slot_list_pop PySem.F.type_list_pop hh, keeps_builtin, ?_⟩
    wtm_at "wp"
    refine call_pop hh (by simp at hl; exact lin1 (.l (.v 0) (.k 99999) (.g (.v 0) (.k 1000000))) rfl hl) ?_
    simp at q
    exact q
end
end
section
open PySem PySem.W PyProof.Rows PySem.Calls
section
variable {σ : AH} {Q : V → AH → Prop} {d dw dm ha : Addr} {o nm mk cl : V} {s : Str} {pc a : Nat}
theorem isi_pl {p : Pl} {n : Nat} {env : Env} {ρ : Loc} {σ : AH} {Q : V → Loc → AH → Prop} (q : Q (.bool false) ρ σ) : CallJ n env (.builtin "isinstance") [p.told, .glob (.type "tuple")] ρ σ Q := by cases p <;> first | exact isi_str_tup q | exact isi_int_tup q
theorem w_met_once {p : Pl} (hs : s.length ≤ 1000) (hp : p.fits) (hm : σ dm = some (.dict (matchD s d ha))) (hw : σ dw = some (.dict (wayD o (.int pc) (.int a) nm mk cl)))
    (q : match p.ends s a with | none => Q (.bool false) σ | some e => Q (.bool true) (σ.put dw (.dict (wayD o (.int ((pc : Int) + 1)) (.int e) nm mk cl)))) : Con 6 (.ref 593) [.inst 624 dm, .tup [.str "one", .str p.kind, p.told], .inst 547 dw] σ Q := by
  have co := (C_Match).1
  have cw := (C_Way).1
  refine con_fn (F_Match_met_once) rfl fun L => ?_
  wtm_at "w_in"
  (refine ss_cons (st_asn ?_ rfl rfl))
  wtm_at "wp"
  refine test_value ?_
  refine call_b ?_
  wtm_at "wp"
  refine nm_type rfl rfl ?_
  wtm_at "wp"
  refine isi_pl ?_
  wtm_at "wp"
  (refine st_asn ?_ rfl rfl)
  refine call_g ?_
  wtm_at "wp"
  refine op_attr co (L_Match_subject) hm (v := .str s) rfl (vk_str _) ?_
  wtm_at "wp"
  refine op_attr cw (L_Way_at) hw (v := .int a) rfl (vk_int _) ?_
  wtm_at "wp"
  refine Con.call ((w_plain_end hs hp ?_).less (by decide))
  cases he : p.ends s a with
  | none =>
    rw [he] at q
    wtm_at "wp"
    refine is_none ?_
    wtm_at "wp"
    exact q
  | some e =>
    rw [he] at q
    have eo : oV (some e) = .int e := rfl
    rw [eo]
    wtm_at "wp"
    refine is_none ?_
    wtm_at "wp"
    (refine st_assign ?_)
    wtm_at "wp"
    refine asg_attr ?_
    wtm_at "wp"
    refine st_attr cw (L_Way_at) hw (by simp [wayD]) ?_
    have e1 : setK (wayD o (.int pc) (.int a) nm mk cl) "at" (.int e) = wayD o (.int pc) (.int e) nm mk cl := rfl
    rw [e1]
    wtm_at "wp"
    refine st_aug_attr ?_
    wtm_at "wp"
    refine op_attr cw (L_Way_pc) (AH.put_self _ _ _) (v := .int pc) rfl (vk_int _) ?_
    wtm_at "wp"
    refine st_attr cw (L_Way_pc) (AH.put_self _ _ _) (by simp [wayD]) ?_
    have e2 : setK (wayD o (.int pc) (.int e) nm mk cl) "pc" (.int ((pc : Int) + 1)) = wayD o (.int ((pc : Int) + 1)) (.int e) nm mk cl := rfl
    rw [e2, AH.put_put]
    wtm_at "wp"
    exact q
theorem w_met_rem (hs : s.length ≤ 1000) (hm : σ dm = some (.dict (matchD s d ha))) (hw : σ dw = some (.dict (wayD o (.int pc) (.int a) nm mk cl)))
    (q : Q (.bool true) (σ.put dw (.dict (wayD o (.int ((pc : Int) + 1)) (.int s.length) nm mk cl)))) : Con 6 (.ref 593) [.inst 624 dm, .tup [.str "one", .str "rem", .none], .inst 547 dw] σ Q := by
  have co := (C_Match).1
  have cw := (C_Way).1
  refine con_fn (F_Match_met_once) rfl fun L => ?_
  wtm_at "w_in"
  (refine ss_cons (st_asn ?_ rfl rfl))
  wtm_at "wp"
  refine test_value ?_
  refine call_b ?_
  wtm_at "wp"
  refine nm_type rfl rfl ?_
  wtm_at "wp"
  refine isi_none_tup ?_
  wtm_at "wp"
  (refine st_asn ?_ rfl rfl)
  refine call_g ?_
  wtm_at "wp"
  refine op_attr co (L_Match_subject) hm (v := .str s) rfl (vk_str _) ?_
  wtm_at "wp"
  refine op_attr cw (L_Way_at) hw (v := .int a) rfl (vk_int _) ?_
  wtm_at "wp"
  refine Con.call ((w_plain_rem hs ?_).less (by decide))
  wtm_at "wp"
  refine is_none ?_
  wtm_at "wp"
  (refine st_assign ?_)
  wtm_at "wp"
  refine asg_attr ?_
  wtm_at "wp"
  refine st_attr cw (L_Way_at) hw (by simp [wayD]) ?_
  have e1 : setK (wayD o (.int pc) (.int a) nm mk cl) "at" (.int s.length) = wayD o (.int pc) (.int s.length) nm mk cl := rfl
  rw [e1]
  wtm_at "wp"
  refine st_aug_attr ?_
  wtm_at "wp"
  refine op_attr cw (L_Way_pc) (AH.put_self _ _ _) (v := .int pc) rfl (vk_int _) ?_
  wtm_at "wp"
  refine st_attr cw (L_Way_pc) (AH.put_self _ _ _) (by simp [wayD]) ?_
  have e2 : setK (wayD o (.int pc) (.int s.length) nm mk cl) "pc" (.int ((pc : Int) + 1)) = wayD o (.int ((pc : Int) + 1)) (.int s.length) nm mk cl := rfl
  rw [e2, AH.put_put]
  wtm_at "wp"
  exact q
theorem w_ended_gain {b : Nat} (hs : s.length ≤ 1000) (hm : σ dm = some (.dict (matchD s d ha))) (ho : VOk mk) (hw : σ dw = some (.dict (wayD o (.int pc) (.int a) nm (.tup [mk, .int b]) cl)))
    (q : Q (.bool (decide ((a : Int) > b))) (σ.put dw (.dict (wayD o (.int pc) (.int a) nm mk cl)))) : Con 6 (.ref 600) [.inst 624 dm, .tup [.str "gain"], .inst 547 dw] σ Q := by
  have co := (C_Match).1
  have cw := (C_Way).1
  refine con_fn (F_Match_ended) rfl fun L => ?_
  wtm_at "w_in"
  (refine ss_cons (st_assign ?_))
  wtm_at "wp"
  refine op_attr cw (L_Way_marks) hw (v := .tup [mk, .int b]) rfl (vk_tup _) ?_
  wtm_at "wp"
  (refine st_assign ?_)
  wtm_at "wp"
  refine asg_attr ?_
  wtm_at "wp"
  refine st_attr cw (L_Way_marks) hw (by simp [wayD]) ?_
  have e1 : setK (wayD o (.int pc) (.int a) nm (.tup [mk, .int b]) cl) "marks" mk = wayD o (.int pc) (.int a) nm mk cl := rfl
  rw [e1]
  wtm_at "wp"
  (refine st_asn ?_ rfl rfl)
  wtm_at "wp"
  have ndw : dm ≠ dw := fun z => by rw [z, hw] at hm; cases hm
  refine op_attr co (L_Match_subject) (by rw [AH.put_ne _ _ ndw]; exact hm) (v := .str s) rfl (vk_str _) ?_
  wtm_at "wp"
  refine op_attr cw (L_Way_at) (AH.put_self _ _ _) (v := .int a) rfl (vk_int _) ?_
  wtm_at "wp"
  refine sl_str (by rw [sizeLine_eq]; omega) ?_
  wtm_at "wp"
  refine nm_str rfl ?_
  wtm_at "wp"
  refine op_attr cw (L_Way_at) (AH.put_self _ _ _) (v := .int a) rfl (vk_int _) ?_
  wtm_at "wp"
  exact q
theorem w_ended_name {b : Nat} {r : V} (hs : s.length ≤ 1000) (hm : σ dm = some (.dict (matchD s d ha))) (ho : VOk mk) (hn : VOk nm) (hw : σ dw = some (.dict (wayD o (.int pc) (.int a) nm (.tup [mk, .int b]) cl)))
    (q : Q (.bool true) (σ.put dw (.dict (wayD o (.int pc) (.int a) (.tup [nm, .tup [r, .str (Txt.slice s (some b) (some a))]]) mk cl)))) : Con 6 (.ref 600) [.inst 624 dm, .tup [.str "name", r], .inst 547 dw] σ Q := by
  have co := (C_Match).1
  have cw := (C_Way).1
  refine con_fn (F_Match_ended) rfl fun L => ?_
  wtm_at "w_in"
  (refine ss_cons (st_assign ?_))
  wtm_at "wp"
  refine op_attr cw (L_Way_marks) hw (v := .tup [mk, .int b]) rfl (vk_tup _) ?_
  wtm_at "wp"
  (refine st_assign ?_)
  wtm_at "wp"
  refine asg_attr ?_
  wtm_at "wp"
  refine st_attr cw (L_Way_marks) hw (by simp [wayD]) ?_
  have e1 : setK (wayD o (.int pc) (.int a) nm (.tup [mk, .int b]) cl) "marks" mk = wayD o (.int pc) (.int a) nm mk cl := rfl
  rw [e1]
  wtm_at "wp"
  (refine st_asn ?_ rfl rfl)
  wtm_at "wp"
  have ndw : dm ≠ dw := fun z => by rw [z, hw] at hm; cases hm
  refine op_attr co (L_Match_subject) (by rw [AH.put_ne _ _ ndw]; exact hm) (v := .str s) rfl (vk_str _) ?_
  wtm_at "wp"
  refine op_attr cw (L_Way_at) (AH.put_self _ _ _) (v := .int a) rfl (vk_int _) ?_
  wtm_at "wp"
  refine sl_str (by rw [sizeLine_eq]; exact lin1 (.l (.v 0) (.k 1000) (.g (.v 0) (.k 16777216))) rfl hs) ?_
  wtm_at "wp"
  refine nm_str rfl ?_
  wtm_at "wp"
  refine nm_str rfl ?_
  wtm_at "wp"
  (refine st_assign ?_)
  wtm_at "wp"
  refine op_attr cw (L_Way_named) (AH.put_self _ _ _) (v := nm) rfl hn ?_
  wtm_at "wp"
  refine asg_attr ?_
  wtm_at "wp"
  refine st_attr cw (L_Way_named) (AH.put_self _ _ _) (by simp [wayD]) ?_
  have e2 : ∀ x, setK (wayD o (.int pc) (.int a) nm mk cl) "named" x = wayD o (.int pc) (.int a) x mk cl := fun _ => rfl
  rw [e2, AH.put_put]
  wtm_at "wp"
  exact q
theorem w_ended_set {b : Nat} {av ar al rd : Addr} {key : Str} {vals : List (Str × V)} {log : List V} {st lim : Int} (hs : s.length ≤ 1000) (hm : σ dm = some (.dict (matchD s d ha))) (ho : VOk mk) (hw : σ dw = some (.dict (wayD o (.int pc) (.int a) nm (.tup [mk, .int b]) cl)))
    (H : HostAt (σ.put dw (.dict (wayD o (.int pc) (.int a) nm mk cl))) d av ar al vals log st lim) (hr : (σ.put dw (.dict (wayD o (.int pc) (.int a) nm mk cl))) rd = some (.dict (refD key))) (hv : vals.length ≤ 1000) (hlog : log.length ≤ 1000000) (hne : al ≠ av) (had : d ≠ av) (hra : rd ≠ av)
    (q : Q (.bool true) (((σ.put dw (.dict (wayD o (.int pc) (.int a) nm mk cl))).put av (.dict (setK vals key (.str (Txt.slice s (some b) (some a)))))).put al (.list (log ++ [.tup [.str key, .str (Txt.slice s (some b) (some a))]])))) : Con 6 (.ref 600) [.inst 624 dm, .tup [.str "set", .inst 110 rd], .inst 547 dw] σ Q := by
  have co := (C_Match).1
  have cw := (C_Way).1
  have cp := (C_PlainHost).1
  refine con_fn (F_Match_ended) rfl fun L => ?_
  wtm_at "w_in"
  (refine ss_cons (st_assign ?_))
  wtm_at "wp"
  refine op_attr cw (L_Way_marks) hw (v := .tup [mk, .int b]) rfl (vk_tup _) ?_
  wtm_at "wp"
  (refine st_assign ?_)
  wtm_at "wp"
  refine asg_attr ?_
  wtm_at "wp"
  refine st_attr cw (L_Way_marks) hw (by simp [wayD]) ?_
  have e1 : setK (wayD o (.int pc) (.int a) nm (.tup [mk, .int b]) cl) "marks" mk = wayD o (.int pc) (.int a) nm mk cl := rfl
  rw [e1]
  wtm_at "wp"
  (refine st_asn ?_ rfl rfl)
  wtm_at "wp"
  have ndw : dm ≠ dw := fun z => by rw [z, hw] at hm; cases hm
  refine op_attr co (L_Match_subject) (by rw [AH.put_ne _ _ ndw]; exact hm) (v := .str s) rfl (vk_str _) ?_
  wtm_at "wp"
  refine op_attr cw (L_Way_at) (AH.put_self _ _ _) (v := .int a) rfl (vk_int _) ?_
  wtm_at "wp"
  refine sl_str (by rw [sizeLine_eq]; exact lin1 (.l (.v 0) (.k 1000) (.g (.v 0) (.k 16777216))) rfl hs) ?_
  wtm_at "wp"
  refine nm_str rfl ?_
  wtm_at "wp"
  refine nm_str rfl ?_
  wtm_at "wp"
  refine ex_meth ?_
  wtm_at "wp"
  refine op_attr co (L_Match_host) (by rw [AH.put_ne _ _ ndw]; exact hm) (v := .inst 519 d) rfl (vk_inst _ _) ?_
  refine ⟨_, gm_inst cp (L_PlainHost_assign) (M_PlainHost_assign).1 H.h rfl, (M_PlainHost_assign).2, ?_⟩
  wtm_at "wp"
  exact Con.call ((w_host_assign H hr hv hlog hne q had hra).less (by decide))
end
end
section
open PySem PySem.W PyProof.Rows PySem.Calls
section
variable {σ : AH} {Q : V → AH → Prop} {d dw dm ha : Addr} {o nm mk cl : V} {s : Str} {pc a : Nat}
noncomputable def arbL (s : Str) (a : Nat) : List Nat := List.range' a (s.length + 1 - a)
theorem w_arb_ends (hs : s.length ≤ 1000) (ha : a ≤ 1000) (q : ∀ e, σ e = none → Q (.lst e) (σ.put e (.list ((arbL s a).map fun i => .int (i : Nat))))) : Con 1 (.ref 292) [.str s, .int a] σ Q := by
  refine con_fn (F_arb_ends) rfl fun L => ?_
  wtm_at "w_in"
  wtm_at "wp"
  refine call_t ?_
  refine exs_one ?_
  refine call_t ?_
  wtm_at "wp"
  refine call_b ?_
  wtm_at "wp"
  refine call_len_str (by exact lin1 (.l (.v 0) (.k 1000) (.g (.v 0) (.k 1000000))) rfl hs) ?_
  wtm_at "wp"
  refine call_range2 ?_
  refine call_list_rng (by lia) (by lia) (by lia) (by lia) ?_
  intro e he
  have er : rangeVs (a : Int) ((s.length : Int) + 1) = (arbL s a).map fun i => .int (i : Nat) := by
    unfold rangeVs arbL
    have e1 : ((s.length : Int) + 1 - (a : Int)).toNat = s.length + 1 - a := by lia
    rw [e1, List.range_eq_range', List.range'_eq_map_range (s := a)]
    rw [List.map_map, List.range_eq_range']
    refine List.map_congr_left fun i _ => ?_
    simp
  rw [er]
  exact q e he
theorem w_ends_of (hs : s.length ≤ 1000) (ha : a ≤ 1000) (q : ∀ e, σ e = none → Q (.lst e) (σ.put e (.list ((arbL s a).map fun i => .int (i : Nat))))) : Con 2 (.ref 327) [.str "arb", .str s, .int a, .none] σ Q := by
  refine con_fn (F_ends_of) rfl fun L => ?_
  wtm_at "w_in"
  wtm_at "wp"
  refine call_g ?_
  wtm_at "wp"
  exact Con.call (w_arb_ends hs ha q)
structure Laid (σ σ' : AH) (dw ha : Addr) (o nm mk cl : V) (pc : Nat) (hist : List V) (es : List Nat) (ps : List (Addr × Nat)) : Prop where
  snd : ps.map (·.2) = es
  hi : σ' ha = some (.list (hist ++ ps.map fun p => .inst 547 p.1))
  at_ : ∀ p ∈ ps, σ' p.1 = some (.dict (wayD o (.int ((pc : Int) + 1)) (.int (p.2 : Nat)) nm mk cl))
  new : ∀ p ∈ ps, σ p.1 = none
  nd : (ps.map (·.1)).Nodup
  kept : Kept σ σ' [dw, ha]
theorem w_met_often (ho : VOk o) (hn : VOk nm) (hmk : VOk mk) (hc : VOk cl) {ea : Addr} {e0 : Nat} {es : List Nat} {hist : List V} (hes : es.length ≤ 1000) (hhl : hist.length ≤ 100000) (hm : σ dm = some (.dict (matchD s d ha))) (hw : σ dw = some (.dict (wayD o (.int pc) (.int a) nm mk cl)))
    (hh : σ ha = some (.list hist)) (he : σ ea = some (.list ((e0 :: es).map fun i => .int (i : Nat)))) (nea : ea ≠ ha)
    (q : ∀ ps σ', Laid σ σ' dw ha o nm mk cl pc hist es.reverse ps → σ' dw = some (.dict (wayD o (.int ((pc : Int) + 1)) (.int e0) nm mk cl)) → Q (.bool true) σ') : Con 4 (.ref 614) [.inst 624 dm, .inst 547 dw, .lst ea] σ Q := by
  have co := (C_Match).1
  have cw := (C_Way).1
  have ndw : dm ≠ dw := fun z => by rw [z, hw] at hm; cases hm
  have n2 : ha ≠ dw := fun z => by rw [z, hw] at hh; cases hh
  have n3 : dm ≠ ha := fun z => by rw [z, hh] at hm; cases hm
  have n4 : ea ≠ dw := fun z => by rw [z, hw] at he; cases he
  refine con_fn (F_Match_met_often) rfl fun L => ?_
  wtm_at "w_in"
  wtm_at "wp"
  refine call_b ?_
  wtm_at "wp"
  refine call_len_lst he (by simp; exact lin1 (.l (.v 0) (.k 1000) (.g (.v 0) (.k 999999))) rfl hes) ?_
  wtm_at "wp"
  try refine ite_ff (by simp; lia) ?_
  wtm_at "wp"
  refine st_aug_attr ?_
  wtm_at "wp"
  refine op_attr cw (L_Way_pc) hw (v := .int pc) rfl (vk_int _) ?_
  wtm_at "wp"
  refine st_attr cw (L_Way_pc) hw (by simp [wayD]) ?_
  have e2 : setK (wayD o (.int pc) (.int a) nm mk cl) "pc" (.int ((pc : Int) + 1)) = wayD o (.int ((pc : Int) + 1)) (.int a) nm mk cl := rfl
  rw [e2]
  wtm_at "wp"
  refine st_for ?_
  wtm_at "wp"
  refine op_neg ?_
  wtm_at "wp"
  refine sl_tail_rev (x := .int e0) (xs := es.map fun i => .int (i : Nat)) (by rw [AH.put_ne _ _ n4]; exact he) (by simp; exact lin1 (.l (.v 0) (.k 1000) (.g (.v 0) (.k 100000))) rfl hes) ?_
  intro ra hra
  have hra0 := AH.none_of_put hra
  have m1 : dw ≠ ra := fun z => by rw [z] at hw; rw [hw] at hra0; cases hra0
  have m2 : dm ≠ ra := fun z => by rw [z] at hm; rw [hm] at hra0; cases hra0
  have m3 : ha ≠ ra := fun z => by rw [z] at hh; rw [hh] at hra0; cases hra0
  have m4 : ea ≠ ra := fun z => by rw [z] at he; rw [he] at hra0; cases hra0
  refine ⟨_, _, iter_lst (AH.put_self _ _ _), ?_⟩
  refine forj_inv (fun vs ρ σ' => EX3 fun ds rs ps => AN8 (es.reverse = ds ++ rs) (vs = rs.map (fun i => .int (i : Nat))) (Laid σ σ' dw ha o nm mk cl pc hist ds ps) (σ' dw = some (.dict (wayD o (.int ((pc : Int) + 1)) (.int a) nm mk cl))) (σ' ra = some (.list (es.map fun i => .int (i : Nat)).reverse)) (at_ ρ "self" = some (.inst 624 dm)) (at_ ρ "way" = some (.inst 547 dw)) (at_ ρ "ends" = some (.lst ea))) ?_ ?_ ?_ _ _ _ ?_
  · rintro vs ρ σ1 ⟨ds, rs, ps, q1, q2, LD, q4, q5, l1, l2, l3⟩
    exact q5
  · rintro v vs ρ σ1 ⟨ds, rs, ps, q1, q2, LD, q4, q5, l1, l2, l3⟩
    cases rs with
    | nil => cases q2
    | cons e rs =>
      rw [List.map_cons, List.cons.injEq] at q2
      obtain ⟨rfl, rfl⟩ := q2
      have hm1 := LD.kept _ _ hm (by simp [ndw, n3])
      have hpl : (hist ++ ps.map fun p => V.inst 547 p.1).length ≤ 1000000 := by
        have h1 := congrArg List.length LD.snd
        have h2 := congrArg List.length q1
        simp at h1 h2 ⊢; exact lin5 (.f (.v 0) (.a (.v 1) (.a (.v 2) (.k 1))) (.e (.v 3) (.v 1) (.l (.v 0) (.k 1000) (.l (.v 4) (.k 100000) (.g (.a (.v 4) (.v 3)) (.k 1000000)))))) rfl h2 h1 hes hhl
      have hq4 : σ1 dw = some (.dict (wayD o (.int ((pc + 1 : Nat) : Int)) (.int a) nm mk cl)) := by rw [q4]; simp
      wtm_at "wp"
      (refine st_asn ?_ rfl rfl)
      refine ex_meth ?_
      wtm_at "wp"
      refine ⟨_, gm_inst cw (L_Way_copied) (M_Way_copied).1 q4 rfl, (M_Way_copied).2, ?_⟩
      wtm_at "wp"
      refine op_attr cw (L_Way_pc) q4 (v := .int ((pc : Int) + 1)) rfl (vk_int _) ?_
      wtm_at "wp"
      refine Con.call (w_way_copied ho hn hmk hc q4 fun d2 hd2 => ?_)
      have o1 : dw ≠ d2 := fun z => by rw [z, hd2] at q4; cases q4
      have o2 : dm ≠ d2 := fun z => by rw [z, hd2] at hm1; cases hm1
      have o3 : ha ≠ d2 := fun z => by have := LD.hi; rw [z, hd2] at this; cases this
      have o4 : ra ≠ d2 := fun z => by rw [z, hd2] at q5; cases q5
      wtm_at "wp"
      (refine st_assign ?_)
      wtm_at "wp"
      refine asg_attr ?_
      wtm_at "wp"
      refine st_attr cw (L_Way_at) (AH.put_self _ _ _) (by simp [wayD]) ?_
      have e3 : setK (wayD o (.int ((pc : Int) + 1)) (.int a) nm mk cl) "at" (.int (e : Nat)) = wayD o (.int ((pc : Int) + 1)) (.int (e : Nat)) nm mk cl := rfl
      rw [e3, AH.put_put]
      wtm_at "wp"
      refine ex_meth ?_
      wtm_at "wp"
      refine op_attr co (L_Match_history) (by rw [AH.put_ne _ _ o2]; exact hm1) (v := .lst ha) rfl (vk_lst _) ?_
      refine ⟨_, gm_list PySem.F.slot_list_append PySem.F.type_list_append (by rw [AH.put_ne _ _ o3]; exact LD.hi), keeps_builtin, ?_⟩
      wtm_at "wp"
      refine call_append (by rw [AH.put_ne _ _ o3]; exact LD.hi) hpl ?_
      wtm_at "wp"
      have hd20 : σ d2 = none := LD.kept.gone hd2 (by simp [Ne.symm o1, Ne.symm o3])
      refine ⟨ds ++ [e], rs, ps ++ [(d2, e)], by rw [q1]; simp, rfl, ⟨by simp [LD.snd], ?_, ?_, ?_, ?_, ?_⟩, ?_, ?_, by wtm_at "lk1", by wtm_at "lk1", by wtm_at "lk1"⟩
      · rw [AH.put_self]; simp
      · intro p hp
        rcases List.mem_append.mp hp with h | h
        · have h1 := LD.at_ p h
          rw [AH.put_ne _ _ (ne_dl h1 LD.hi), AH.put_ne _ _ (by exact ne_sn h1 hd2)]; exact h1
        · rw [List.mem_singleton] at h; subst h
          rw [AH.put_ne _ _ (Ne.symm o3)]; exact AH.put_self _ _ _
      · intro p hp
        rcases List.mem_append.mp hp with h | h
        · exact LD.new p h
        · rw [List.mem_singleton] at h; subst h; exact hd20
      · rw [List.map_append, List.nodup_append]
        refine ⟨LD.nd, by simp, fun x hx y hy e => ?_⟩
        simp at hy; subst hy; subst e
        obtain ⟨p, hp, rfl⟩ := List.mem_map.mp hx
        rw [LD.at_ p hp] at hd2; cases hd2
      · intro b ob eb nb
        have nb' := nb
        simp at nb'
        have h1 := LD.kept b ob eb nb
        rw [AH.put_ne _ _ nb'.2, AH.put_ne _ _ (by exact ne_sn h1 hd2)]; exact h1
      · rw [AH.put_ne _ _ (Ne.symm n2), AH.put_ne _ _ o1]; exact q4
      · rw [AH.put_ne _ _ (Ne.symm m3), AH.put_ne _ _ o4]; exact q5
  · rintro ρ σ1 ⟨ds, rs, ps, q1, q2, LD, q4, q5, l1, l2, l3⟩
    have : rs = [] := by cases rs with | nil => rfl | cons p rs => cases q2
    subst this
    rw [List.append_nil] at q1
    subst q1
    have he1 := LD.kept _ _ he (by simp [n4, nea])
    wtm_at "wp"
    (refine st_assign ?_)
    wtm_at "wp"
    refine sub_lst (j := 0) (v := .int e0) he1 (by rfl) (by rfl) (by decide) ?_
    refine asg_attr ?_
    wtm_at "wp"
    refine st_attr cw (L_Way_at) q4 (by simp [wayD]) ?_
    have e3 : setK (wayD o (.int ((pc : Int) + 1)) (.int a) nm mk cl) "at" (.int e0) = wayD o (.int ((pc : Int) + 1)) (.int e0) nm mk cl := rfl
    rw [e3]
    wtm_at "wp"
    refine q ps _ ⟨LD.snd, ?_, fun p hp => ?_, LD.new, LD.nd, LD.kept.trans (Kept.put (by simp))⟩ (AH.put_self _ _ _)
    · rw [AH.put_ne _ _ n2]; exact LD.hi
    · rw [AH.put_ne]
      · exact LD.at_ p hp
      · intro z; have := LD.new p hp; rw [z, hw] at this; cases this
  · refine ⟨[], es.reverse, [], rfl, by simp, ⟨rfl, ?_, by simp, by simp, by simp, ?_⟩, ?_, AH.put_self _ _ _, by wtm_at "lk1", by wtm_at "lk1", by wtm_at "lk1"⟩
    · rw [AH.put_ne _ _ m3, AH.put_ne _ _ n2, hh]; simp
    · exact (Kept.put (by simp)).trans (Kept.new hra)
    · rw [AH.put_ne _ _ m1, AH.put_self]
end
end
section
open PySem PySem.W PyProof.Rows PySem.Calls
section
variable {σ : AH} {Q : V → AH → Prop} {d dw dm ha : Addr} {o nm mk cl : V} {s : Str} {pc a : Nat}
theorem w_asked (ho : VOk o) (hc : VOk cl) {av ar al : Addr} {key x : Str} {vals : List (Str × V)} {log : List V} {st lim : Int} (hm : σ dm = some (.dict (matchD s d ha))) (hw : σ dw = some (.dict (wayD o (.int pc) (.int a) nm mk cl)))
    (H : HostAt σ d av ar al vals log st lim) (hx : (getK vals key).getD (.str "") = .str x) (hxl : x.length ≤ 1000)
    (q : ∀ ob σ', σ ob = none → σ' ob = some (.list ((codeOf (.pl (.chars x))).map Ord.v)) → σ' dw = some (.dict (wayD (.lst ob) (.int 0) (.int a) nm mk (.tup [cl, .tup [o, .int ((pc : Int) + 1)]]))) → Kept σ σ' [dw] → Q (.bool true) σ') :
    Con 7 (.ref 621) [.inst 624 dm, .tup [.str "name", .str key], .inst 547 dw] σ Q := by
  have co := (C_Match).1
  have cw := (C_Way).1
  have cp := (C_PlainHost).1
  have ndw : dm ≠ dw := fun z => by rw [z, hw] at hm; cases hm
  refine con_fn (F_Match_asked) rfl fun L => ?_
  wtm_at "w_in"
  (refine ss_cons (st_asn ?_ rfl rfl))
  refine ex_meth ?_
  wtm_at "wp"
  refine op_attr co (L_Match_host) hm (v := .inst 519 d) rfl (vk_inst _ _) ?_
  refine ⟨_, gm_inst cp (L_PlainHost_value_of) (M_PlainHost_value_of).1 H.h rfl, (M_PlainHost_value_of).2, ?_⟩
  wtm_at "wp"
  refine Con.call ((w_value_name H ?_).less (by decide))
  rw [hx]
  wtm_at "wp"
  refine test_value ?_
  refine call_g ?_
  wtm_at "wp"
  refine Con.call ((w_is_fail_str ?_).less (by decide))
  wtm_at "wp"
  (refine st_assign ?_)
  wtm_at "wp"
  refine op_attr cw (L_Way_calls) hw (v := cl) rfl hc ?_
  wtm_at "wp"
  refine op_attr cw (L_Way_orders) hw (v := o) rfl ho ?_
  wtm_at "wp"
  refine op_attr cw (L_Way_pc) hw (v := .int pc) rfl (vk_int _) ?_
  wtm_at "wp"
  refine asg_attr ?_
  wtm_at "wp"
  refine st_attr cw (L_Way_calls) hw (by simp [wayD]) ?_
  have e1 : ∀ x, setK (wayD o (.int pc) (.int a) nm mk cl) "calls" x = wayD o (.int pc) (.int a) nm mk x := fun _ => rfl
  rw [e1]
  wtm_at "wp"
  (refine st_assign ?_)
  wtm_at "wp"
  refine call_g ?_
  refine exs_one ?_
  refine call_g ?_
  wtm_at "wp"
  refine Con.call ((w_pattern_str ?_).less (by decide))
  refine Con.call ((w_compile (n := .pl (.chars x)) (by simp [Nd.size]) (by simpa [Nd.text] using hxl) ?_ ?_).less (by decide))
  · intro o ho g hg
    have e : rawOf (.pl (.chars x)) = [.one (.chars x), .done] := rfl
    rw [e] at ho
    simp at ho
    rcases ho with rfl | rfl <;> cases hg
  intro ob σ1 hob sob K
  have nob : ob ≠ dw := fun z => by rw [z, AH.put_self] at hob; cases hob
  have s1 := K _ _ (AH.put_self _ _ _) (by exact nn)
  wtm_at "wp"
  refine asg_attr ?_
  wtm_at "wp"
  refine st_attr cw (L_Way_orders) s1 (by simp [wayD]) ?_
  have e2 : ∀ x y, setK (wayD o (.int pc) (.int a) nm mk x) "orders" y = wayD y (.int pc) (.int a) nm mk x := fun _ _ => rfl
  rw [e2]
  wtm_at "wp"
  refine asg_attr ?_
  wtm_at "wp"
  refine st_attr cw (L_Way_pc) (AH.put_self _ _ _) (by simp [wayD]) ?_
  have e3 : ∀ x y, setK (wayD y (.int pc) (.int a) nm mk x) "pc" (.int 0) = wayD y (.int 0) (.int a) nm mk x := fun _ _ => rfl
  rw [e3, AH.put_put]
  wtm_at "wp"
  refine q ob _ (AH.none_of_put hob) ?_ (AH.put_self _ _ _) (((Kept.put (by simp)).trans K.to).trans (Kept.put (by simp)))
  rw [AH.put_ne _ _ nob]; exact sob
theorem w_other_ways (ho : VOk o) (hn : VOk nm) (hmk : VOk mk) (hc : VOk cl) {hist : List V} (hs : s.length ≤ 1000) (hal : a ≤ s.length) (hhl : hist.length ≤ 100000) (hm : σ dm = some (.dict (matchD s d ha))) (hw : σ dw = some (.dict (wayD o (.int pc) (.int a) nm mk cl)))
    (hh : σ ha = some (.list hist)) (q : ∀ ps σ', Laid σ σ' dw ha o nm mk cl pc hist (arbL s (a + 1)).reverse ps → σ' dw = some (.dict (wayD o (.int ((pc : Int) + 1)) (.int a) nm mk cl)) → Q (.bool true) σ') :
    Con 5 (.ref 607) [.inst 624 dm, .tup [.str "ways", .str "arb"], .inst 547 dw] σ Q := by
  have co := (C_Match).1
  have cw := (C_Way).1
  have ndw : dm ≠ dw := fun z => by rw [z, hw] at hm; cases hm
  refine con_fn (F_Match_other) rfl fun L => ?_
  wtm_at "w_in"
  (refine ss_cons (st_asn ?_ rfl rfl))
  wtm_at "wp"
  refine nm_str rfl ?_
  wtm_at "wp"
  refine nm_str rfl ?_
  wtm_at "wp"
  refine ex_meth ?_
  wtm_at "wp"
  refine ⟨_, gm_inst co (L_Match_met_often) (M_Match_met_often).1 hm rfl, (M_Match_met_often).2, ?_⟩
  wtm_at "wp"
  refine call_g ?_
  wtm_at "wp"
  refine op_attr co (L_Match_subject) hm (v := .str s) rfl (vk_str _) ?_
  wtm_at "wp"
  refine op_attr cw (L_Way_at) hw (v := .int a) rfl (vk_int _) ?_
  wtm_at "wp"
  refine Con.call ((w_ends_of hs (by exact lin2 (.l (.v 0) (.k 1000) (.l (.v 1) (.v 0) (.g (.v 1) (.k 1000)))) rfl hs hal) ?_).less (by decide))
  intro ea hea
  have nea : ∀ {x ob}, σ x = some ob → x ≠ ea := fun {x ob} hx z => by rw [z, hea] at hx; cases hx
  have el : arbL s a = a :: arbL s (a + 1) := by
    unfold arbL
    have : s.length + 1 - a = (s.length + 1 - (a + 1)) + 1 := by lia
    rw [this, List.range'_succ]
  wtm_at "wp"
  refine Con.call (w_met_often ho hn hmk hc (e0 := a) (es := arbL s (a + 1)) (hist := hist) (by simp [arbL]; exact lin2 (.l (.v 0) (.k 1000) (.g (.v 0) (.a (.k 1000) (.v 1)))) rfl hs) hhl (by rw [AH.put_ne _ _ (nea hm)]; exact hm) (by rw [AH.put_ne _ _ (nea hw)]; exact hw) (by rw [AH.put_ne _ _ (nea hh)]; exact hh) (by rw [AH.put_self, el]) (Ne.symm (nea hh)) fun ps σ' LD sd => ?_)
  refine q ps σ' ⟨LD.snd, LD.hi, LD.at_, fun p hp => AH.none_of_put (LD.new p hp), LD.nd, (Kept.new hea).trans LD.kept⟩ sd
theorem w_other_ask (ho : VOk o) (hc : VOk cl) {av ar al : Addr} {key x : Str} {vals : List (Str × V)} {log : List V} {st lim : Int} (hm : σ dm = some (.dict (matchD s d ha))) (hw : σ dw = some (.dict (wayD o (.int pc) (.int a) nm mk cl)))
    (H : HostAt σ d av ar al vals log st lim) (hx : (getK vals key).getD (.str "") = .str x) (hxl : x.length ≤ 1000)
    (q : ∀ ob σ', σ ob = none → σ' ob = some (.list ((codeOf (.pl (.chars x))).map Ord.v)) → σ' dw = some (.dict (wayD (.lst ob) (.int 0) (.int a) nm mk (.tup [cl, .tup [o, .int ((pc : Int) + 1)]]))) → Kept σ σ' [dw] → Q (.bool true) σ') :
    Con 8 (.ref 607) [.inst 624 dm, .tup [.str "ask", .tup [.str "name", .str key]], .inst 547 dw] σ Q := by
  have co := (C_Match).1
  refine con_fn (F_Match_other) rfl fun L => ?_
  wtm_at "w_in"
  (refine ss_cons (st_asn ?_ rfl rfl))
  wtm_at "wp"
  refine nm_str rfl ?_
  wtm_at "wp"
  refine nm_str rfl ?_
  wtm_at "wp"
  refine nm_str rfl ?_
  wtm_at "wp"
  refine ex_meth ?_
  wtm_at "wp"
  refine ⟨_, gm_inst co (L_Match_asked) (M_Match_asked).1 hm rfl, (M_Match_asked).2, ?_⟩
  wtm_at "wp"
  exact Con.call (w_asked ho hc hm hw H hx hxl q)
theorem w_other_done {cl' o' : V} {p' : Int} (hm : σ dm = some (.dict (matchD s d ha))) (hw : σ dw = some (.dict (wayD o (.int pc) (.int a) nm mk (.tup [cl', .tup [o', .int p']]))))
    (q : Q (.bool true) (σ.put dw (.dict (wayD o' (.int p') (.int a) nm mk cl')))) :
    Con 5 (.ref 607) [.inst 624 dm, .tup [.str "done"], .inst 547 dw] σ Q := by
  have co := (C_Match).1
  have cw := (C_Way).1
  refine con_fn (F_Match_other) rfl fun L => ?_
  wtm_at "w_in"
  (refine ss_cons (st_asn ?_ rfl rfl))
  wtm_at "wp"
  refine nm_str rfl ?_
  wtm_at "wp"
  refine nm_str rfl ?_
  wtm_at "wp"
  refine nm_str rfl ?_
  wtm_at "wp"
  refine nm_str rfl ?_
  wtm_at "wp"
  (refine st_assign ?_)
  wtm_at "wp"
  refine op_attr cw (L_Way_calls) hw (v := .tup [cl', .tup [o', .int p']]) rfl (vk_tup _) ?_
  wtm_at "wp"
  refine asg_attr ?_
  wtm_at "wp"
  refine st_attr cw (L_Way_calls) hw (by simp [wayD]) ?_
  have e1 : ∀ x y, setK (wayD o (.int pc) (.int a) nm mk y) "calls" x = wayD o (.int pc) (.int a) nm mk x := fun _ _ => rfl
  rw [e1]
  wtm_at "wp"
  refine asg_attr ?_
  wtm_at "wp"
  refine st_attr cw (L_Way_orders) (AH.put_self _ _ _) (by simp [wayD]) ?_
  have e2 : ∀ x y, setK (wayD o (.int pc) (.int a) nm mk x) "orders" y = wayD y (.int pc) (.int a) nm mk x := fun _ _ => rfl
  rw [e2, AH.put_put]
  wtm_at "wp"
  refine asg_attr ?_
  wtm_at "wp"
  refine st_attr cw (L_Way_pc) (AH.put_self _ _ _) (by simp [wayD]) ?_
  have e3 : ∀ x y z, setK (wayD y (.int pc) (.int a) nm mk x) "pc" z = wayD y z (.int a) nm mk x := fun _ _ _ => rfl
  rw [e3, AH.put_put]
  wtm_at "wp"
  exact q
end
end
section
open PySem PySem.W PyProof.Rows PySem.Calls
section
variable {σ : AH} {Q : V → AH → Prop} {d dw dm ha : Addr} {o nm mk cl : V} {s : Str} {pc a : Nat} {n : Nat}
theorem w_done_one {more : List V} (hm : σ dm = some (.dict (matchD s d ha))) (h : Con n (.ref 593) [.inst 624 dm, .tup (.str "one" :: more), .inst 547 dw] σ Q) : Con (n + 1) (.ref 586) [.inst 624 dm, .tup (.str "one" :: more), .inst 547 dw] σ Q := by
  have co := (C_Match).1
  have cw := (C_Way).1
  refine con_fn (F_Match_done) rfl fun L => ?_
  wtm_at "w_in"
  (first | refine ss_cons (st_asn ?_ rfl rfl) | refine ss_cons (st_assign ?_))
  wtm_at "wp"
  refine nm_str rfl ?_
  wtm_at "wp"
  refine ex_meth ?_
  wtm_at "wp"
  refine ⟨_, gm_inst co (L_Match_met_once) (M_Match_met_once).1 hm rfl, (M_Match_met_once).2, ?_⟩
  wtm_at "wp"
  exact Con.call h
theorem w_done_ways {more : List V} (hm : σ dm = some (.dict (matchD s d ha))) (h : Con n (.ref 607) [.inst 624 dm, .tup (.str "ways" :: more), .inst 547 dw] σ Q) : Con (n + 1) (.ref 586) [.inst 624 dm, .tup (.str "ways" :: more), .inst 547 dw] σ Q := by
  have co := (C_Match).1
  have cw := (C_Way).1
  refine con_fn (F_Match_done) rfl fun L => ?_
  wtm_at "w_in"
  (first | refine ss_cons (st_asn ?_ rfl rfl) | refine ss_cons (st_assign ?_))
  wtm_at "wp"
  refine nm_str rfl ?_
  wtm_at "wp"
  refine nm_str rfl ?_
  wtm_at "wp"
  refine nm_str rfl ?_
  wtm_at "wp"
  refine nm_str rfl ?_
  wtm_at "wp"
  refine nm_str rfl ?_
  wtm_at "wp"
  refine nm_str rfl ?_
  wtm_at "wp"
  refine nm_str rfl ?_
  wtm_at "wp"
  refine cmp_in_tup (l := ["name", "set", "gain"]) ?_
  wtm_at "wp"
  refine nm_str rfl ?_
  wtm_at "wp"
  refine ex_meth ?_
  wtm_at "wp"
  refine ⟨_, gm_inst co (L_Match_other) (M_Match_other).1 hm rfl, (M_Match_other).2, ?_⟩
  wtm_at "wp"
  exact Con.call h
theorem w_done_ask {more : List V} (hm : σ dm = some (.dict (matchD s d ha))) (h : Con n (.ref 607) [.inst 624 dm, .tup (.str "ask" :: more), .inst 547 dw] σ Q) : Con (n + 1) (.ref 586) [.inst 624 dm, .tup (.str "ask" :: more), .inst 547 dw] σ Q := by
  have co := (C_Match).1
  have cw := (C_Way).1
  refine con_fn (F_Match_done) rfl fun L => ?_
  wtm_at "w_in"
  (first | refine ss_cons (st_asn ?_ rfl rfl) | refine ss_cons (st_assign ?_))
  wtm_at "wp"
  refine nm_str rfl ?_
  wtm_at "wp"
  refine nm_str rfl ?_
  wtm_at "wp"
  refine nm_str rfl ?_
  wtm_at "wp"
  refine nm_str rfl ?_
  wtm_at "wp"
  refine nm_str rfl ?_
  wtm_at "wp"
  refine nm_str rfl ?_
  wtm_at "wp"
  refine nm_str rfl ?_
  wtm_at "wp"
  refine cmp_in_tup (l := ["name", "set", "gain"]) ?_
  wtm_at "wp"
  refine nm_str rfl ?_
  wtm_at "wp"
  refine ex_meth ?_
  wtm_at "wp"
  refine ⟨_, gm_inst co (L_Match_other) (M_Match_other).1 hm rfl, (M_Match_other).2, ?_⟩
  wtm_at "wp"
  exact Con.call h
theorem w_done_done {more : List V} (hm : σ dm = some (.dict (matchD s d ha))) (h : Con n (.ref 607) [.inst 624 dm, .tup (.str "done" :: more), .inst 547 dw] σ Q) : Con (n + 1) (.ref 586) [.inst 624 dm, .tup (.str "done" :: more), .inst 547 dw] σ Q := by
  have co := (C_Match).1
  have cw := (C_Way).1
  refine con_fn (F_Match_done) rfl fun L => ?_
  wtm_at "w_in"
  (first | refine ss_cons (st_asn ?_ rfl rfl) | refine ss_cons (st_assign ?_))
  wtm_at "wp"
  refine nm_str rfl ?_
  wtm_at "wp"
  refine nm_str rfl ?_
  wtm_at "wp"
  refine nm_str rfl ?_
  wtm_at "wp"
  refine nm_str rfl ?_
  wtm_at "wp"
  refine nm_str rfl ?_
  wtm_at "wp"
  refine nm_str rfl ?_
  wtm_at "wp"
  refine nm_str rfl ?_
  wtm_at "wp"
  refine cmp_in_tup (l := ["name", "set", "gain"]) ?_
  wtm_at "wp"
  refine nm_str rfl ?_
  wtm_at "wp"
  refine ex_meth ?_
  wtm_at "wp"
  refine ⟨_, gm_inst co (L_Match_other) (M_Match_other).1 hm rfl, (M_Match_other).2, ?_⟩
  wtm_at "wp"
  exact Con.call h
theorem w_done_jump {g : Nat} (hm : σ dm = some (.dict (matchD s d ha))) (hw : σ dw = some (.dict (wayD o (.int pc) (.int a) nm mk cl))) (q : Q (.bool true) (σ.put dw (.dict (wayD o (.int g) (.int a) nm mk cl)))) : Con 1 (.ref 586) [.inst 624 dm, .tup [.str "jump", .int g], .inst 547 dw] σ Q := by
  have co := (C_Match).1
  have cw := (C_Way).1
  refine con_fn (F_Match_done) rfl fun L => ?_
  wtm_at "w_in"
  (first | refine ss_cons (st_asn ?_ rfl rfl) | refine ss_cons (st_assign ?_))
  wtm_at "wp"
  refine nm_str rfl ?_
  wtm_at "wp"
  refine nm_str rfl ?_
  wtm_at "wp"
  refine nm_str rfl ?_
  wtm_at "wp"
  (first | refine st_asn ?_ rfl rfl | refine st_assign ?_)
  wtm_at "wp"
  refine asg_attr ?_
  wtm_at "wp"
  refine st_attr cw (L_Way_pc) hw (by simp [wayD]) ?_
  have e9 : ∀ x a y z u v, setK (wayD x (.int pc) a y z u) "pc" v = wayD x v a y z u := fun _ _ _ _ _ _ => rfl
  rw [e9]
  wtm_at "wp"
  exact q
theorem w_done_split (ho : VOk o) (hn : VOk nm) (hmk : VOk mk) (hc : VOk cl) {g : Nat} {hist : List V} (hm : σ dm = some (.dict (matchD s d ha))) (hw : σ dw = some (.dict (wayD o (.int pc) (.int a) nm mk cl))) (hh : σ ha = some (.list hist)) (hhl : hist.length ≤ 100000) (q : ∀ d2, σ d2 = none → Q (.bool true) (((σ.put d2 (.dict (wayD o (.int g) (.int a) nm mk cl))).put ha (.list (hist ++ [.inst 547 d2]))).put dw (.dict (wayD o (.int ((pc : Int) + 1)) (.int a) nm mk cl)))) : Con 4 (.ref 586) [.inst 624 dm, .tup [.str "split", .int g], .inst 547 dw] σ Q := by
  have co := (C_Match).1
  have cw := (C_Way).1
  have n1 : ha ≠ dw := fun z => by rw [z, hw] at hh; cases hh
  refine con_fn (F_Match_done) rfl fun L => ?_
  wtm_at "w_in"
  (first | refine ss_cons (st_asn ?_ rfl rfl) | refine ss_cons (st_assign ?_))
  wtm_at "wp"
  refine nm_str rfl ?_
  wtm_at "wp"
  refine nm_str rfl ?_
  wtm_at "wp"
  refine ex_meth ?_
  wtm_at "wp"
  refine op_attr co (L_Match_history) hm (v := .lst ha) rfl (vk_lst _) ?_
  refine ⟨_, gm_list PySem.F.slot_list_append PySem.F.type_list_append hh, keeps_builtin, ?_⟩
  refine exs_one ?_
  refine ex_meth ?_
  wtm_at "wp"
  refine ⟨_, gm_inst cw (L_Way_copied) (M_Way_copied).1 hw rfl, (M_Way_copied).2, ?_⟩
  wtm_at "wp"
  refine Con.call (w_way_copied ho hn hmk hc hw fun d2 hd2 => ?_)
  have n2 : ha ≠ d2 := fun z => by rw [z, hd2] at hh; cases hh
  have n3 : dw ≠ d2 := fun z => by rw [z, hd2] at hw; cases hw
  refine call_append (by rw [AH.put_ne _ _ n2]; exact hh) (by exact lin1 (.l (.v 0) (.k 100000) (.g (.v 0) (.k 1000000))) rfl hhl) ?_
  wtm_at "wp"
  have hw2 : ((σ.put d2 (.dict (wayD o (.int g) (.int a) nm mk cl))).put ha (.list (hist ++ [.inst 547 d2]))) dw = some (.dict (wayD o (.int pc) (.int a) nm mk cl)) := by rw [AH.put_ne _ _ (Ne.symm n1), AH.put_ne _ _ n3]; exact hw
  refine st_aug_attr ?_
  wtm_at "wp"
  refine op_attr cw (L_Way_pc) hw2 (v := .int pc) rfl (vk_int _) ?_
  wtm_at "wp"
  refine st_attr cw (L_Way_pc) hw2 (by simp [wayD]) ?_
  have e9 : ∀ x a y z u v, setK (wayD x (.int pc) a y z u) "pc" v = wayD x v a y z u := fun _ _ _ _ _ _ => rfl
  rw [e9]
  wtm_at "wp"
  exact q d2 hd2
theorem w_done_mark (hmk : VOk mk) (hm : σ dm = some (.dict (matchD s d ha))) (hw : σ dw = some (.dict (wayD o (.int pc) (.int a) nm mk cl))) (q : Q (.bool true) (σ.put dw (.dict (wayD o (.int ((pc : Int) + 1)) (.int a) nm (.tup [mk, .int a]) cl)))) : Con 1 (.ref 586) [.inst 624 dm, .tup [.str "mark"], .inst 547 dw] σ Q := by
  have co := (C_Match).1
  have cw := (C_Way).1
  refine con_fn (F_Match_done) rfl fun L => ?_
  wtm_at "w_in"
  (first | refine ss_cons (st_asn ?_ rfl rfl) | refine ss_cons (st_assign ?_))
  wtm_at "wp"
  refine nm_str rfl ?_
  wtm_at "wp"
  refine nm_str rfl ?_
  wtm_at "wp"
  refine nm_str rfl ?_
  wtm_at "wp"
  refine nm_str rfl ?_
  wtm_at "wp"
  (first | refine st_asn ?_ rfl rfl | refine st_assign ?_)
  wtm_at "wp"
  refine op_attr cw (L_Way_marks) hw (v := mk) rfl hmk ?_
  wtm_at "wp"
  refine op_attr cw (L_Way_at) hw (v := .int a) rfl (vk_int _) ?_
  wtm_at "wp"
  refine asg_attr ?_
  wtm_at "wp"
  refine st_attr cw (L_Way_marks) hw (by simp [wayD]) ?_
  have e8 : ∀ x, setK (wayD o (.int pc) (.int a) nm mk cl) "marks" x = wayD o (.int pc) (.int a) nm x cl := fun _ => rfl
  rw [e8]
  wtm_at "wp"
  refine st_aug_attr ?_
  wtm_at "wp"
  refine op_attr cw (L_Way_pc) (AH.put_self _ _ _) (v := .int pc) rfl (vk_int _) ?_
  wtm_at "wp"
  refine st_attr cw (L_Way_pc) (AH.put_self _ _ _) (by simp [wayD]) ?_
  have e9 : ∀ x a y z u v, setK (wayD x (.int pc) a y z u) "pc" v = wayD x v a y z u := fun _ _ _ _ _ _ => rfl
  rw [e9]
  wtm_at "wp"
  rw [AH.put_put]
  exact q
theorem w_done_ended {word : Str} {more : List V} {R : Bool → AH → Prop} (h1 : (word == ("one" : Str)) = false) (h2 : (word == ("split" : Str)) = false) (h3 : (word == ("jump" : Str)) = false) (h4 : (word == ("mark" : Str)) = false) (h5 : ([("name" : Str), "set", "gain"].contains word) = true) (hm : σ dm = some (.dict (matchD s d ha)))
    (h : Con n (.ref 600) [.inst 624 dm, .tup (.str word :: more), .inst 547 dw] σ (fun v σ' => ∃ b, v = .bool b ∧ R b σ')) (q0 : ∀ σ', R false σ' → Q (.bool false) σ')
    (q1 : ∀ σ', R true σ' → ∃ o pc at' nm mk cl, σ' dw = some (.dict (wayD o (.int pc) at' nm mk cl)) ∧ Q (.bool true) (σ'.put dw (.dict (wayD o (.int (pc + 1)) at' nm mk cl)))) : Con (n + 1) (.ref 586) [.inst 624 dm, .tup (.str word :: more), .inst 547 dw] σ Q := by
  have co := (C_Match).1
  have cw := (C_Way).1
  refine con_fn (F_Match_done) rfl fun L => ?_
  wtm_at "w_in"
  (first | refine ss_cons (st_asn ?_ rfl rfl) | refine ss_cons (st_assign ?_))
  wtm_at "wp"
  refine nm_str rfl ?_
  wtm_at "wp"
  try refine ite_ff h1 ?_
  wtm_at "wp"
  refine nm_str rfl ?_
  wtm_at "wp"
  try refine ite_ff h2 ?_
  wtm_at "wp"
  refine nm_str rfl ?_
  wtm_at "wp"
  try refine ite_ff h3 ?_
  wtm_at "wp"
  refine nm_str rfl ?_
  wtm_at "wp"
  try refine ite_ff h4 ?_
  wtm_at "wp"
  refine nm_str rfl ?_
  wtm_at "wp"
  refine nm_str rfl ?_
  wtm_at "wp"
  refine nm_str rfl ?_
  wtm_at "wp"
  refine cmp_in_tup (l := ["name", "set", "gain"]) ?_
  wtm_at "wp"
  try refine ite_tt h5 ?_
  wtm_at "wp"
  refine test_value ?_
  refine ex_meth ?_
  wtm_at "wp"
  refine ⟨_, gm_inst co (L_Match_ended) (M_Match_ended).1 hm rfl, (M_Match_ended).2, ?_⟩
  wtm_at "wp"
  refine Con.call (Con.mono h ?_)
  rintro v σ' ⟨b, rfl, r⟩
  wtm_at "wp"
  cases b with
  | false =>
    wtm_at "wp"
    exact q0 σ' r
  | true =>
    obtain ⟨o, pc, at', nm, mk, cl, hw, q⟩ := q1 σ' r
    wtm_at "wp"
    refine st_aug_attr ?_
    wtm_at "wp"
    refine op_attr cw (L_Way_pc) hw (v := .int pc) rfl (vk_int _) ?_
    wtm_at "wp"
    refine st_attr cw (L_Way_pc) hw (by simp [wayD]) ?_
    have e9 : ∀ x a y z u v, setK (wayD x (.int pc) a y z u) "pc" v = wayD x v a y z u := fun _ _ _ _ _ _ => rfl
    rw [e9]
    wtm_at "wp"
    exact q
theorem w_done_place {av ar al rd : Addr} {key : Str} {vals : List (Str × V)} {log : List V} {st lim : Int} (hm : σ dm = some (.dict (matchD s d ha))) (hw : σ dw = some (.dict (wayD o (.int pc) (.int a) nm mk cl))) (H : HostAt σ d av ar al vals log st lim) (hr : σ rd = some (.dict (refD key))) (hv : vals.length ≤ 1000) (hlog : log.length ≤ 1000000) (hne : al ≠ av) (had : d ≠ av) (hra : rd ≠ av) (hda : dw ≠ av) (hdl : dw ≠ al)
    (q : Q (.bool true) (((σ.put av (.dict (setK vals key (.int a)))).put al (.list (log ++ [.tup [.str key, .int a]]))).put dw (.dict (wayD o (.int ((pc : Int) + 1)) (.int a) nm mk cl)))) : Con 2 (.ref 586) [.inst 624 dm, .tup [.str "place", .inst 110 rd], .inst 547 dw] σ Q := by
  have co := (C_Match).1
  have cw := (C_Way).1
  have cp := (C_PlainHost).1
  refine con_fn (F_Match_done) rfl fun L => ?_
  wtm_at "w_in"
  (first | refine ss_cons (st_asn ?_ rfl rfl) | refine ss_cons (st_assign ?_))
  wtm_at "wp"
  refine nm_str rfl ?_
  wtm_at "wp"
  refine nm_str rfl ?_
  wtm_at "wp"
  refine nm_str rfl ?_
  wtm_at "wp"
  refine nm_str rfl ?_
  wtm_at "wp"
  refine nm_str rfl ?_
  wtm_at "wp"
  refine nm_str rfl ?_
  wtm_at "wp"
  refine nm_str rfl ?_
  wtm_at "wp"
  refine cmp_in_tup (l := ["name", "set", "gain"]) ?_
  wtm_at "wp"
  refine nm_str rfl ?_
  wtm_at "wp"
  refine test_value ?_
  refine ex_meth ?_
  wtm_at "wp"
  refine op_attr co (L_Match_host) hm (v := .inst 519 d) rfl (vk_inst _ _) ?_
  refine ⟨_, gm_inst cp (L_PlainHost_assign) (M_PlainHost_assign).1 H.h rfl, (M_PlainHost_assign).2, ?_⟩
  wtm_at "wp"
  refine op_attr cw (L_Way_at) hw (v := .int a) rfl (vk_int _) ?_
  wtm_at "wp"
  refine Con.call (w_host_assign H hr hv hlog hne ?_ had hra)
  wtm_at "wp"
  have hw2 : ((σ.put av (.dict (setK vals key (.int a)))).put al (.list (log ++ [.tup [.str key, .int a]]))) dw = some (.dict (wayD o (.int pc) (.int a) nm mk cl)) := by rw [AH.put_ne _ _ hdl, AH.put_ne _ _ hda]; exact hw
  refine st_aug_attr ?_
  wtm_at "wp"
  refine op_attr cw (L_Way_pc) hw2 (v := .int pc) rfl (vk_int _) ?_
  wtm_at "wp"
  refine st_attr cw (L_Way_pc) hw2 (by simp [wayD]) ?_
  have e9 : ∀ x a y z u v, setK (wayD x (.int pc) a y z u) "pc" v = wayD x v a y z u := fun _ _ _ _ _ _ => rfl
  rw [e9]
  wtm_at "wp"
  exact q
end
end
section
open PySem PySem.W PyProof.Rows PySem.Calls
structure MWay where
  pc : Nat
  at_ : Nat
  named : Named
  marks : List Nat
  call : Option (Str × Nat)
noncomputable def nmV : Named → V
  | [] => .none
  | p :: r => .tup [nmV r, .tup [refV p.1, .str p.2]]
noncomputable def mkV : List Nat → V
  | [] => .none
  | m :: r => .tup [mkV r, .int m]
noncomputable def MWay.order (code : List Ord) (w : MWay) : Option Ord := match w.call with
  | none => code[w.pc]?
  | some (t, _) => [Ord.one (.chars t), .done][w.pc]?
noncomputable def mstep (s : Str) (o : Ord) (w : MWay) (hist : List MWay) (h : HS) : Option MWay × List MWay × HS := match o with
  | .one p => (match p.ends s w.at_ with | some e => some { w with at_ := e.toNat, pc := w.pc + 1 } | none => none, hist, h)
  | .rem => (some { w with at_ := s.length, pc := w.pc + 1 }, hist, h)
  | .ways => (some { w with pc := w.pc + 1 }, hist ++ (arbL s (w.at_ + 1)).reverse.map (fun e => { w with pc := w.pc + 1, at_ := e }), h)
  | .split g => (some { w with pc := w.pc + 1 }, hist ++ [{ w with pc := g }], h)
  | .jump g => (some { w with pc := g }, hist, h)
  | .mark => (some { w with marks := w.at_ :: w.marks, pc := w.pc + 1 }, hist, h)
  | .nm true r => (some { w with marks := w.marks.tail, pc := w.pc + 1 }, hist, h.set r.2 (.str (Txt.slice s (some (w.marks.headD 0 : Nat)) (some (w.at_ : Nat)))))
  | .nm false r => (some { w with marks := w.marks.tail, named := (r, Txt.slice s (some (w.marks.headD 0 : Nat)) (some (w.at_ : Nat))) :: w.named, pc := w.pc + 1 }, hist, h)
  | .gain => (if w.marks.headD 0 < w.at_ then some { w with marks := w.marks.tail, pc := w.pc + 1 } else none, hist, h)
  | .place r => (some { w with pc := w.pc + 1 }, hist, h.set r.2 (.int w.at_))
  | .ask k => (some { w with pc := 0, call := some (h.textOf k, w.pc + 1) }, hist, h)
  | .done => (match w.call with | some (_, r) => some { w with pc := r, call := none } | none => none, hist, h)
noncomputable def Ord.ok (refs : List Ref) (s : Str) (w : MWay) (h : HS) : Ord → Prop
  | .one p => p.fits
  | .rem => True
  | .ways => w.at_ ≤ s.length ∧ w.call = none
  | .split _ => w.call = none
  | .jump _ => True
  | .mark => w.call = none
  | .nm true r => r ∈ refs ∧ w.marks ≠ [] ∧ w.call = none
  | .nm false _ => w.marks ≠ [] ∧ w.call = none
  | .gain => w.marks ≠ [] ∧ w.call = none
  | .place r => r ∈ refs ∧ w.call = none
  | .ask k => (getK h.vals k).getD (.str "") = .str (h.textOf k) ∧ (h.textOf k).length ≤ 1000 ∧ w.call = none
  | .done => w.call ≠ none
structure MFix where
  dm : Addr
  ha : Addr
  oa : Addr
  d : Addr
  av : Addr
  ar : Addr
  al : Addr
  refs : List Ref
  lim : Int
  code : List Ord
  s : Str
structure MOk (F : MFix) (σ0 : AH) : Prop where
  mt : σ0 F.dm = some (.dict (matchD F.s F.d F.ha))
  od : σ0 F.oa = some (.list (F.code.map Ord.v))
  rf : ∀ r ∈ F.refs, σ0 r.1 = some (.dict (refD r.2))
  away : ∀ r ∈ F.refs, r.1 ∉ [F.d, F.av, F.al, F.ha]
  n1 : F.dm ∉ [F.d, F.av, F.al, F.ha]
  n2 : F.oa ∉ [F.d, F.av, F.al, F.ha]
  n3 : [F.d, F.av, F.ar, F.al, F.ha].Nodup
  sd : ∃ o, σ0 F.d = some o
  sv : ∃ o, σ0 F.av = some o
  sr : ∃ o, σ0 F.ar = some o
  sl : ∃ o, σ0 F.al = some o
  sh : ∃ o, σ0 F.ha = some o
  hs : F.s.length ≤ 1000
  hc : F.code.length ≤ 100000
noncomputable def wayOf (oa : Addr) (w : MWay) : List (Str × V) := wayD (.lst oa) (.int w.pc) (.int w.at_) (nmV w.named) (mkV w.marks) .none
structure MBase (F : MFix) (σ0 σ : AH) (h : HS) (hist : List (Addr × MWay)) : Prop where
  host : HostAt σ F.d F.av F.ar F.al h.vals h.log h.steps F.lim
  hi : σ F.ha = some (.list (hist.map fun p => .inst 547 p.1))
  ways : ∀ p ∈ hist, σ p.1 = some (.dict (wayOf F.oa p.2)) ∧ p.2.call = none
  nd : (hist.map (·.1)).Nodup
  new : ∀ p ∈ hist, σ0 p.1 = none
  rest : Kept σ0 σ [F.d, F.av, F.al, F.ha]
noncomputable def MCur (F : MFix) (σ0 σ : AH) (dw : Addr) (w : MWay) : Prop := match w.call with
  | none => σ dw = some (.dict (wayOf F.oa w))
  | some (t, r) => ∃ ob, σ0 ob = none ∧ σ ob = some (.list ([Ord.one (.chars t), .done].map Ord.v)) ∧ σ dw = some (.dict (wayD (.lst ob) (.int w.pc) (.int w.at_) (nmV w.named) (mkV w.marks) (.tup [.none, .tup [.lst F.oa, .int r]])))
structure MSt (F : MFix) (σ0 σ : AH) (h : HS) (hist : List (Addr × MWay)) (dw : Addr) (w : MWay) : Prop where
  base : MBase F σ0 σ h hist
  fresh : σ0 dw = none
  off : dw ∉ hist.map (·.1)
  cur : MCur F σ0 σ dw w
section
variable {F : MFix} {σ0 σ : AH} {h : HS} {hist : List (Addr × MWay)} {dw : Addr} {w : MWay}
theorem MOk.new (O : MOk F σ0) {x : Addr} (hx : σ0 x = none) : x ∉ [F.d, F.av, F.ar, F.al, F.ha] := by
  intro m
  simp only [List.mem_cons, List.not_mem_nil, or_false] at m
  rcases m with m | m | m | m | m <;> subst m
  · obtain ⟨o, e⟩ := O.sd; rw [e] at hx; cases hx
  · obtain ⟨o, e⟩ := O.sv; rw [e] at hx; cases hx
  · obtain ⟨o, e⟩ := O.sr; rw [e] at hx; cases hx
  · obtain ⟨o, e⟩ := O.sl; rw [e] at hx; cases hx
  · obtain ⟨o, e⟩ := O.sh; rw [e] at hx; cases hx
theorem MBase.put (O : MOk F σ0) (B : MBase F σ0 σ h hist) {x : Addr} {o : AO} (hx : σ0 x = none) (no : x ∉ hist.map (·.1)) : MBase F σ0 (σ.put x o) h hist := by
  have n := O.new hx
  simp only [List.mem_cons, List.not_mem_nil, or_false, not_or] at n
  obtain ⟨a1, a2, a3, a4, a5⟩ := n
  refine ⟨⟨?_, ?_, ?_, ?_⟩, ?_, fun p hp => ⟨?_, (B.ways p hp).2⟩, B.nd, B.new, fun b ob e nb => ?_⟩
  · rw [AH.put_ne _ _ (Ne.symm a1)]; exact B.host.h
  · rw [AH.put_ne _ _ (Ne.symm a2)]; exact B.host.v
  · rw [AH.put_ne _ _ (Ne.symm a3)]; exact B.host.r
  · rw [AH.put_ne _ _ (Ne.symm a4)]; exact B.host.l
  · rw [AH.put_ne _ _ (Ne.symm a5)]; exact B.hi
  · rw [AH.put_ne _ _ (fun z => no (by rw [← z]; exact List.mem_map_of_mem hp))]; exact (B.ways p hp).1
  · rw [AH.put_ne _ _ (fun z => by rw [z, hx] at e; cases e)]; exact B.rest b ob e nb
theorem MOk.ne (O : MOk F σ0) : AN10 (F.d ≠ F.av) (F.d ≠ F.ar) (F.d ≠ F.al) (F.d ≠ F.ha) (F.av ≠ F.ar) (F.av ≠ F.al) (F.av ≠ F.ha) (F.ar ≠ F.al) (F.ar ≠ F.ha) (F.al ≠ F.ha) := by
  have := O.n3
  simp only [List.nodup_cons, List.mem_cons, List.not_mem_nil, or_false, not_or, List.nodup_nil, and_true, not_false_eq_true] at this
  obtain ⟨⟨a, b, c, e⟩, ⟨f, g, i⟩, ⟨j, k⟩, l⟩ := this
  exact ⟨a, b, c, e, f, g, i, j, k, l⟩
theorem MBase.wne (O : MOk F σ0) (B : MBase F σ0 σ h hist) {p : Addr × MWay} (hp : p ∈ hist) : p.1 ≠ F.d ∧ p.1 ≠ F.av ∧ p.1 ≠ F.ar ∧ p.1 ≠ F.al ∧ p.1 ≠ F.ha := by
  have n := O.new (B.new p hp)
  simp only [List.mem_cons, List.not_mem_nil, or_false, not_or] at n
  exact n
theorem MBase.assign (O : MOk F σ0) (B : MBase F σ0 σ h hist) (k : Str) (v : V) : MBase F σ0 ((σ.put F.av (.dict (setK h.vals k v))).put F.al (.list (h.log ++ [.tup [.str k, v]]))) (h.set k v) hist := by
  obtain ⟨n1, n2, n3, n4, n5, n6, n7, n8, n9, n10⟩ := O.ne
  refine ⟨⟨?_, ?_, ?_, ?_⟩, ?_, fun p hp => ⟨?_, (B.ways p hp).2⟩, B.nd, B.new, fun b ob e nb => ?_⟩
  · rw [AH.put_ne _ _ n3, AH.put_ne _ _ n1]; exact B.host.h
  · rw [AH.put_ne _ _ n6]; exact AH.put_self _ _ _
  · rw [AH.put_ne _ _ n8, AH.put_ne _ _ (Ne.symm n5)]; exact B.host.r
  · exact AH.put_self _ _ _
  · rw [AH.put_ne _ _ (Ne.symm n10), AH.put_ne _ _ (Ne.symm n7)]; exact B.hi
  · obtain ⟨a1, a2, a3, a4, a5⟩ := B.wne O hp
    rw [AH.put_ne _ _ a4, AH.put_ne _ _ a2]; exact (B.ways p hp).1
  · have h1 := B.rest b ob e nb
    simp only [List.mem_cons, List.not_mem_nil, or_false, not_or] at nb
    rw [AH.put_ne _ _ nb.2.2.1, AH.put_ne _ _ nb.2.1]; exact h1
theorem MBase.step (O : MOk F σ0) (B : MBase F σ0 σ h hist) : MBase F σ0 (σ.put F.d (.dict (hostD F.av F.ar F.al (h.steps + 1) F.lim))) { h with steps := h.steps + 1 } hist := by
  obtain ⟨n1, n2, n3, n4, n5, n6, n7, n8, n9, n10⟩ := O.ne
  refine ⟨⟨AH.put_self _ _ _, ?_, ?_, ?_⟩, ?_, fun p hp => ⟨?_, (B.ways p hp).2⟩, B.nd, B.new, fun b ob e nb => ?_⟩
  · rw [AH.put_ne _ _ (Ne.symm n1)]; exact B.host.v
  · rw [AH.put_ne _ _ (Ne.symm n2)]; exact B.host.r
  · rw [AH.put_ne _ _ (Ne.symm n3)]; exact B.host.l
  · rw [AH.put_ne _ _ (Ne.symm n4)]; exact B.hi
  · obtain ⟨a1, a2, a3, a4, a5⟩ := B.wne O hp
    rw [AH.put_ne _ _ a1]; exact (B.ways p hp).1
  · have h1 := B.rest b ob e nb
    simp only [List.mem_cons, List.not_mem_nil, or_false, not_or] at nb
    rw [AH.put_ne _ _ nb.1]; exact h1
theorem MBase.lay (O : MOk F σ0) (B : MBase F σ0 σ h hist) {σ' : AH} {ps : List (Addr × MWay)} (K : Kept σ σ' [dw, F.ha]) (hdw : σ0 dw = none) (ho : dw ∉ hist.map (·.1)) (hi : σ' F.ha = some (.list (hist.map (fun p => .inst 547 p.1) ++ ps.map fun p => .inst 547 p.1)))
    (hw : ∀ p ∈ ps, σ' p.1 = some (.dict (wayOf F.oa p.2)) ∧ p.2.call = none) (hn : ∀ p ∈ ps, σ p.1 = none) (nd : (ps.map (·.1)).Nodup) : MBase F σ0 σ' h (hist ++ ps) := by
  obtain ⟨n1, n2, n3, n4, n5, n6, n7, n8, n9, n10⟩ := O.ne
  have nw := O.new hdw
  simp only [List.mem_cons, List.not_mem_nil, or_false, not_or] at nw
  obtain ⟨a1, a2, a3, a4, a5⟩ := nw
  have new0 : ∀ p ∈ ps, σ0 p.1 = none := fun p hp => by
    refine B.rest.gone (hn p hp) ?_
    have := hn p hp
    simp only [List.mem_cons, List.not_mem_nil, or_false, not_or]
    refine ⟨fun z => ?_, fun z => ?_, fun z => ?_, fun z => ?_⟩
    · rw [z, B.host.h] at this; cases this
    · rw [z, B.host.v] at this; cases this
    · rw [z, B.host.l] at this; cases this
    · rw [z, B.hi] at this; cases this
  refine ⟨⟨K _ _ B.host.h (by simp [Ne.symm a1, n4]), K _ _ B.host.v (by simp [Ne.symm a2, n7]), K _ _ B.host.r (by simp [Ne.symm a3, n9]), K _ _ B.host.l (by simp [Ne.symm a4, n10])⟩, by rw [hi, List.map_append], fun p hp => ?_, ?_, fun p hp => ?_, fun b ob e nb => ?_⟩
  · rcases List.mem_append.mp hp with h1 | h1
    · obtain ⟨b1, b2, b3, b4, b5⟩ := B.wne O h1
      exact ⟨K _ _ (B.ways p h1).1 (by simp [b5]; exact fun z => ho (by rw [← z]; exact List.mem_map_of_mem h1)), (B.ways p h1).2⟩
    · exact hw p h1
  · rw [List.map_append, List.nodup_append]
    refine ⟨B.nd, nd, fun x hx y hy e => ?_⟩
    subst e
    obtain ⟨p, hp, rfl⟩ := List.mem_map.mp hx
    obtain ⟨q, hq, e⟩ := List.mem_map.mp hy
    have := hn q hq
    rw [e, (B.ways p hp).1] at this; cases this
  · rcases List.mem_append.mp hp with h1 | h1
    · exact B.new p h1
    · exact new0 p h1
  · have h1 := B.rest b ob e nb
    simp only [List.mem_cons, List.not_mem_nil, or_false, not_or] at nb
    refine K b ob h1 ?_
    simp only [List.mem_cons, List.not_mem_nil, or_false, not_or]
    exact ⟨(fun z => by rw [z, hdw] at e; cases e), nb.2.2.2⟩
theorem MBase.pop (O : MOk F σ0) {p : Addr × MWay} (B : MBase F σ0 σ h (hist ++ [p])) : MSt F σ0 (σ.put F.ha (.list (hist.map fun p => .inst 547 p.1))) h hist p.1 p.2 := by
  obtain ⟨n1, n2, n3, n4, n5, n6, n7, n8, n9, n10⟩ := O.ne
  have nd := B.nd
  rw [List.map_append, List.nodup_append] at nd
  have hw := B.ways p (by simp)
  have hp := B.wne O (p := p) (by simp)
  refine ⟨⟨⟨?_, ?_, ?_, ?_⟩, AH.put_self _ _ _, fun q hq => ⟨?_, (B.ways q (by simp [hq])).2⟩, nd.1, fun q hq => B.new q (by simp [hq]), fun b ob e nb => ?_⟩, B.new p (by simp), fun m => ?_, ?_⟩
  · rw [AH.put_ne _ _ n4]; exact B.host.h
  · rw [AH.put_ne _ _ n7]; exact B.host.v
  · rw [AH.put_ne _ _ n9]; exact B.host.r
  · rw [AH.put_ne _ _ n10]; exact B.host.l
  · rw [AH.put_ne _ _ (B.wne O (p := q) (by simp [hq])).2.2.2.2]; exact (B.ways q (by simp [hq])).1
  · have h1 := B.rest b ob e nb
    simp only [List.mem_cons, List.not_mem_nil, or_false, not_or] at nb
    rw [AH.put_ne _ _ nb.2.2.2]; exact h1
  · exact nd.2.2 _ m _ (by simp) rfl
  · unfold MCur
    rw [hw.2]
    dsimp only
    rw [AH.put_ne _ _ hp.2.2.2.2]; exact hw.1
end
end
section
open PySem PySem.W PyProof.Rows PySem.Calls
theorem vok_nm (l : Named) : VOk (nmV l) := fun u h => by cases l <;> cases h
theorem vok_mk (l : List Nat) : VOk (mkV l) := fun u h => by cases l <;> cases h
theorem vok_lst (a : Addr) : VOk (.lst a) := fun _ h => by cases h
theorem vok_none : VOk .none := fun _ h => by cases h
theorem vok_tup (l : List V) : VOk (.tup l) := fun _ h => by cases h
section
variable {F : MFix} {σ0 σ : AH} {h : HS} {hist : List (Addr × MWay)} {dw : Addr} {m : MWay}
theorem MCur.gen (C : MCur F σ0 σ dw m) : EX2 fun O cl => AN4 (VOk O) (VOk cl) (σ dw = some (.dict (wayD O (.int m.pc) (.int m.at_) (nmV m.named) (mkV m.marks) cl))) (∀ m', m'.call = m.call → MCur F σ0 (σ.put dw (.dict (wayD O (.int m'.pc) (.int m'.at_) (nmV m'.named) (mkV m'.marks) cl))) dw m') := by
  unfold MCur at C
  cases hc : m.call with
  | none =>
    rw [hc] at C
    refine ⟨.lst F.oa, .none, vok_lst _, vok_none, C, fun m' e => ?_⟩
    unfold MCur
    rw [e]
    exact AH.put_self _ _ _
  | some p =>
    obtain ⟨t, r⟩ := p
    rw [hc] at C
    obtain ⟨ob, e1, e2, e3⟩ := C
    refine ⟨.lst ob, _, vok_lst _, vok_tup _, e3, fun m' e => ?_⟩
    unfold MCur
    rw [e]
    refine ⟨ob, e1, ?_, AH.put_self _ _ _⟩
    rw [AH.put_ne _ _ (by exact ne_ld e2 e3)]; exact e2
theorem MSt.go (O : MOk F σ0) (S : MSt F σ0 σ h hist dw m) {x : AO} {m' : MWay} (C : MCur F σ0 (σ.put dw x) dw m') : MSt F σ0 (σ.put dw x) h hist dw m' := ⟨S.base.put O S.fresh S.off, S.fresh, S.off, C⟩
theorem MSt.mt (O : MOk F σ0) (S : MSt F σ0 σ h hist dw m) : σ F.dm = some (.dict (matchD F.s F.d F.ha)) := S.base.rest _ _ O.mt O.n1
theorem MCur.plain (C : MCur F σ0 σ dw m) (hc : m.call = none) : σ dw = some (.dict (wayOf F.oa m)) := by unfold MCur at C; rw [hc] at C; exact C
theorem mcur_plain {x : AH} (hc : m.call = none) (e : x dw = some (.dict (wayOf F.oa m))) : MCur F σ0 x dw m := by unfold MCur; rw [hc]; exact e
variable {o : Ord}
noncomputable def StepEnd (F : MFix) (σ0 : AH) (hist : List (Addr × MWay)) (dw : Addr) (r : Option MWay × List MWay × HS) (v : V) (σ' : AH) : Prop := match r with
  | (none, _, h') => v = .bool false ∧ MBase F σ0 σ' h' hist
  | (some w', hs', h') => v = .bool true ∧ ∃ hist', hist'.map (·.2) = hs' ∧ MSt F σ0 σ' h' hist' dw w'
theorem w_mdone (O : MOk F σ0) (S : MSt F σ0 σ h hist dw m) (hok : o.ok F.refs F.s m h) (hv : h.vals.length ≤ 1000) (hlog : h.log.length ≤ 1000000) (hhl : hist.length ≤ 100000) :
    Con 9 (.ref 586) [.inst 624 F.dm, o.v, .inst 547 dw] σ (StepEnd F σ0 hist dw (mstep F.s o m (hist.map (·.2)) h)) := by
  have hm := S.mt O
  obtain ⟨n1, n2, n3, n4, n5, n6, n7, n8, n9, n10⟩ := O.ne
  have nw := O.new S.fresh
  (replace nw := nin5.mp nw)
  obtain ⟨a1, a2, a3, a4, a5⟩ := nw
  have hH := S.base.host
  have hhl' : (hist.map fun p => V.inst 547 p.1).length ≤ 100000 := by rw [List.length_map]; exact hhl
  cases o with
  | one p =>
    obtain ⟨O', cl, v1, v2, hw, fin⟩ := S.cur.gen
    refine (w_done_one hm (w_met_once O.hs hok hm hw ?_)).less (by decide)
    unfold StepEnd mstep
    dsimp only
    cases he : p.ends F.s m.at_ with
    | none => exact ⟨rfl, S.base⟩
    | some e =>
      refine ⟨rfl, hist, rfl, S.go O ?_⟩
      have e0 := ends_pos hok he
      have := fin { m with at_ := e.toNat, pc := m.pc + 1 } rfl
      dsimp only at this
      rw [Int.toNat_of_nonneg e0] at this
      exact this
  | rem =>
    obtain ⟨O', cl, v1, v2, hw, fin⟩ := S.cur.gen
    refine (w_done_one hm (w_met_rem O.hs hm hw ?_)).less (by decide)
    exact ⟨rfl, hist, rfl, S.go O (fin { m with at_ := F.s.length, pc := m.pc + 1 } rfl)⟩
  | jump g =>
    obtain ⟨O', cl, v1, v2, hw, fin⟩ := S.cur.gen
    refine (w_done_jump hm hw ?_).less (by decide)
    exact ⟨rfl, hist, rfl, S.go O (fin { m with pc := g } rfl)⟩
  | mark =>
    obtain ⟨O', cl, v1, v2, hw, fin⟩ := S.cur.gen
    refine (w_done_mark (vok_mk _) hm hw ?_).less (by decide)
    exact ⟨rfl, hist, rfl, S.go O (fin { m with marks := m.at_ :: m.marks, pc := m.pc + 1 } rfl)⟩
  | split g =>
    have hc : m.call = none := hok
    have hw := S.cur.plain hc
    refine (w_done_split (vok_lst _) (vok_nm _) (vok_mk _) vok_none hm hw S.base.hi hhl' fun d2 hd2 => ?_).less (by decide)
    have nd : dw ≠ d2 := fun z => by rw [z, hd2] at hw; cases hw
    have nh : F.ha ≠ d2 := fun z => by have := S.base.hi; rw [z, hd2] at this; cases this
    refine ⟨rfl, hist ++ [(d2, { m with pc := g })], by simp, ?_⟩
    refine ⟨S.base.lay O (ps := [(d2, { m with pc := g })]) (((Kept.new hd2).trans (Kept.put (by simp))).trans (Kept.put (by simp))) S.fresh S.off ?_ ?_ (by simpa using hd2) (by simp), S.fresh, ?_, ?_⟩
    · rw [AH.put_ne _ _ (Ne.symm a5)]; exact AH.put_self _ _ _
    · intro p hp
      rw [List.mem_singleton] at hp; subst hp
      refine ⟨?_, hc⟩
      rw [AH.put_ne _ _ (Ne.symm nd), AH.put_ne _ _ (Ne.symm nh)]
      exact AH.put_self _ _ _
    · rw [List.map_append, List.mem_append]
      rintro (z | z)
      · exact S.off z
      · simp at z; exact nd z
    · exact mcur_plain hc (AH.put_self _ _ _)
  | ways =>
    obtain ⟨hal, hc⟩ := hok
    have hw := S.cur.plain hc
    refine (w_done_ways hm (w_other_ways (vok_lst _) (vok_nm _) (vok_mk _) vok_none O.hs hal hhl' hm hw S.base.hi fun ps σ' LD sd => ?_)).less (by decide)
    refine ⟨rfl, hist ++ ps.map fun p => (p.1, { m with pc := m.pc + 1, at_ := p.2 }), ?_, ?_, S.fresh, ?_, ?_⟩
    · rw [List.map_append, ← LD.snd]; simp
    · refine S.base.lay O LD.kept S.fresh S.off (by rw [LD.hi]; simp; rfl) ?_ ?_ (by simpa [Function.comp_def] using LD.nd)
      · intro p hp
        obtain ⟨q, hq, rfl⟩ := List.mem_map.mp hp
        exact ⟨LD.at_ q hq, hc⟩
      · intro p hp
        obtain ⟨q, hq, rfl⟩ := List.mem_map.mp hp
        exact LD.new q hq
    · rw [List.map_append, List.mem_append]
      rintro (z | z)
      · exact S.off z
      · simp only [List.map_map, List.mem_map] at z
        obtain ⟨q, hq, e⟩ := z
        have := LD.new q hq
        have e' : q.1 = dw := e
        rw [e', hw] at this; cases this
    · exact mcur_plain hc sd
  | nm b r =>
    cases b with
    | false =>
      obtain ⟨hmk, hc⟩ := hok
      have hw := S.cur.plain hc
      obtain ⟨pc, at_, named, marks, call⟩ := m
      cases marks with
      | nil => exact absurd rfl hmk
      | cons b ms =>
        refine (w_done_ended (R := fun y σ' => y = true ∧ σ' = σ.put dw _) (by decide) (by decide) (by decide) (by decide) (by decide) hm (w_ended_name O.hs hm (vok_mk ms) (vok_nm _) hw ⟨true, rfl, rfl, rfl⟩) (fun _ z => by cases z.1) fun σ' z => ?_).less (by decide)
        obtain ⟨_, rfl⟩ := z
        refine ⟨_, _, _, _, _, _, AH.put_self _ _ _, ?_⟩
        rw [AH.put_put]
        exact ⟨rfl, hist, rfl, S.go O (mcur_plain hc (AH.put_self _ _ _))⟩
    | true =>
      obtain ⟨hr, hmk, hc⟩ := hok
      have hw := S.cur.plain hc
      have hrf := S.base.rest _ _ (O.rf r hr) (O.away r hr)
      have haw := O.away r hr
      (replace haw := nin4.mp haw)
      obtain ⟨pc, at_, named, marks, call⟩ := m
      cases marks with
      | nil => exact absurd rfl hmk
      | cons b ms =>
        have S1 : MSt F σ0 (σ.put dw (.dict (wayOf F.oa ⟨pc, at_, named, ms, call⟩))) h hist dw ⟨pc, at_, named, ms, call⟩ := S.go O (mcur_plain hc (AH.put_self _ _ _))
        have hrf1 := S1.base.rest _ _ (O.rf r hr) (O.away r hr)
        refine (w_done_ended (R := fun y σ' => y = true ∧ σ' = _) (by decide) (by decide) (by decide) (by decide) (by decide) hm (w_ended_set O.hs hm (vok_mk ms) hw S1.base.host hrf1 hv hlog (Ne.symm n6) n1 haw.2.1 ⟨true, rfl, rfl, rfl⟩) (fun _ z => by cases z.1) fun σ' z => ?_).less (by decide)
        obtain ⟨_, rfl⟩ := z
        refine ⟨_, _, _, _, _, _, by rw [AH.put_ne _ _ a4, AH.put_ne _ _ a2]; exact AH.put_self _ _ _, ?_⟩
        have B2 := S1.base.assign O r.2 (.str (Txt.slice F.s (some (b : Nat)) (some (at_ : Nat))))
        exact ⟨rfl, hist, rfl, ⟨B2.put O S.fresh S.off, S.fresh, S.off, mcur_plain hc (AH.put_self _ _ _)⟩⟩
  | gain =>
    obtain ⟨hmk, hc⟩ := hok
    have hw := S.cur.plain hc
    obtain ⟨pc, at_, named, marks, call⟩ := m
    cases marks with
    | nil => exact absurd rfl hmk
    | cons b ms =>
      refine (w_done_ended (R := fun y σ' => y = decide ((at_ : Int) > b) ∧ σ' = σ.put dw _) (by decide) (by decide) (by decide) (by decide) (by decide) hm (w_ended_gain O.hs hm (vok_mk ms) hw ⟨_, rfl, rfl, rfl⟩) (fun σ' z => ?_) fun σ' z => ?_).less (by decide)
      · obtain ⟨z1, rfl⟩ := z
        have z1 := z1.symm
        have : ¬ b < at_ := by simp at z1; lia
        show StepEnd F σ0 hist dw (if b < at_ then _ else none, _, h) _ _
        rw [if_neg this]
        exact ⟨rfl, S.base.put O S.fresh S.off⟩
      · obtain ⟨z1, rfl⟩ := z
        have z1 := z1.symm
        have : b < at_ := by simp at z1; lia
        refine ⟨_, _, _, _, _, _, AH.put_self _ _ _, ?_⟩
        rw [AH.put_put]
        show StepEnd F σ0 hist dw (if b < at_ then some ⟨pc + 1, at_, named, ms, call⟩ else none, hist.map (·.2), h) _ _
        rw [if_pos this]
        exact ⟨rfl, hist, rfl, S.go O (mcur_plain hc (AH.put_self _ _ _))⟩
  | place r =>
    obtain ⟨hr, hc⟩ := hok
    have hw := S.cur.plain hc
    have hrf := S.base.rest _ _ (O.rf r hr) (O.away r hr)
    have haw := O.away r hr
    (replace haw := nin4.mp haw)
    refine (w_done_place hm hw hH hrf hv hlog (Ne.symm n6) n1 haw.2.1 a2 a4 ?_).less (by decide)
    have B2 := S.base.assign O r.2 (.int (m.at_ : Nat))
    exact ⟨rfl, hist, rfl, ⟨B2.put O S.fresh S.off, S.fresh, S.off, mcur_plain (m := { m with pc := m.pc + 1 }) hc (AH.put_self _ _ _)⟩⟩
  | ask k =>
    obtain ⟨hx, hxl, hc⟩ := hok
    have hw := S.cur.plain hc
    refine (w_done_ask hm (w_other_ask (vok_lst _) vok_none hm hw hH hx hxl fun ob σ' hob sob sdw K => ?_)).less (by decide)
    refine ⟨rfl, hist, rfl, ?_⟩
    have kd : ∀ {x : Addr} {oo : AO}, x ≠ dw → σ x = some oo → σ' x = some oo := fun {x oo} nx e => K x oo e (by simpa using nx)
    have ob0 : σ0 ob = none := by
      refine S.base.rest.gone hob ?_
      (refine nin4.mpr ?_)
      refine ⟨fun z => ?_, fun z => ?_, fun z => ?_, fun z => ?_⟩
      · rw [z, hH.h] at hob; cases hob
      · rw [z, hH.v] at hob; cases hob
      · rw [z, hH.l] at hob; cases hob
      · rw [z, S.base.hi] at hob; cases hob
    refine ⟨⟨⟨kd (Ne.symm a1) hH.h, kd (Ne.symm a2) hH.v, kd (Ne.symm a3) hH.r, kd (Ne.symm a4) hH.l⟩, kd (Ne.symm a5) S.base.hi, fun p hp => ⟨kd (fun z => S.off (by rw [← z]; exact List.mem_map_of_mem hp)) (S.base.ways p hp).1, (S.base.ways p hp).2⟩, S.base.nd, S.base.new, fun x oo e nx => ?_⟩, S.fresh, S.off, ?_⟩
    · exact kd (by exact ne_sn e S.fresh) (S.base.rest x oo e nx)
    · exact ⟨ob, ob0, sob, by rw [sdw]; rfl⟩
  | done =>
    have hok : m.call ≠ none := hok
    have hc0 := S.cur
    unfold MCur at hc0
    cases hc : m.call with
    | none => exact absurd hc hok
    | some p =>
      obtain ⟨t, r⟩ := p
      rw [hc] at hc0
      obtain ⟨ob, e1, e2, e3⟩ := hc0
      refine (w_done_done hm (w_other_done hm e3 ?_)).less (by decide)
      show StepEnd F σ0 hist dw (match m.call with | some (_, r) => some { m with pc := r, call := none } | none => none, hist.map (·.2), h) _ _
      rw [hc]
      exact ⟨rfl, hist, rfl, S.go O (mcur_plain (m := { m with pc := r, call := none }) rfl (AH.put_self _ _ _))⟩
end
end
section
open PySem PySem.W PyProof.Rows PySem.Calls
inductive MR (code : List Ord) (s : Str) (refs : List Ref) (lim : Int) : Nat → MWay → List MWay → HS → Option MWay × HS → Prop
  | met {k w hist h} (ho : w.order code = some .done) (hc : w.call = none) (hs : h.steps + 1 ≤ lim) : MR code s refs lim k w hist h (some w, { h with steps := h.steps + 1 })
  | go {k m w hist h o w' hist' h' R} (ho : w.order code = some o) (hok : o.ok refs s w { h with steps := h.steps + 1 }) (hv : h.vals.length ≤ 1000) (hl : h.log.length ≤ 1000000) (hh : hist.length ≤ 100000) (hs : h.steps + 1 ≤ lim)
      (e : mstep s o w hist { h with steps := h.steps + 1 } = (some w', hist', h')) (t : MR code s refs lim m w' hist' h' R) (hm : m < k) : MR code s refs lim k w hist h R
  | back {k m w hist h o w' hist' h' R} (ho : w.order code = some o) (hok : o.ok refs s w { h with steps := h.steps + 1 }) (hv : h.vals.length ≤ 1000) (hl : h.log.length ≤ 1000000) (hh : (hist ++ [w']).length ≤ 100000) (hs : h.steps + 1 ≤ lim)
      (e : mstep s o w (hist ++ [w']) { h with steps := h.steps + 1 } = (none, hist', h')) (t : MR code s refs lim m w' hist h' R) (hm : m < k) : MR code s refs lim k w (hist ++ [w']) h R
  | fail {k w h o hist' h'} (ho : w.order code = some o) (hok : o.ok refs s w { h with steps := h.steps + 1 }) (hv : h.vals.length ≤ 1000) (hl : h.log.length ≤ 1000000) (hs : h.steps + 1 ≤ lim)
      (e : mstep s o w [] { h with steps := h.steps + 1 } = (none, hist', h')) : MR code s refs lim (k + 1) w [] h (none, h')
inductive MRb (code : List Ord) (s : Str) (refs : List Ref) (lim : Int) (k : Nat) (hs : List MWay) (h' : HS) (R : Option MWay × HS) : Prop
  | back (m : Nat) (hs' : List MWay) (w' : MWay) (eh : hs = hs' ++ [w']) (t : MR code s refs lim m w' hs' h' R) (hm : m < k)
  | fail (eh : hs = []) (eR : R = (none, h')) (hk : 0 < k)
inductive MRn (code : List Ord) (s : Str) (refs : List Ref) (lim : Int) (k : Nat) (w : MWay) (hs : List MWay) (h : HS) (R : Option MWay × HS) (o : Ord) : Prop
  | go (m : Nat) (w' : MWay) (hist' : List MWay) (h' : HS) (e : mstep s o w hs { h with steps := h.steps + 1 } = (some w', hist', h')) (t : MR code s refs lim m w' hist' h' R) (hm : m < k)
  | stop (hist' : List MWay) (h' : HS) (e : mstep s o w hs { h with steps := h.steps + 1 } = (none, hist', h')) (b : MRb code s refs lim k hs h' R)
inductive MRi (code : List Ord) (s : Str) (refs : List Ref) (lim : Int) (k : Nat) (w : MWay) (hs : List MWay) (h : HS) (R : Option MWay × HS) (o : Ord) : Prop
  | met (eo : o = .done) (hc : w.call = none) (eR : R = (some w, { h with steps := h.steps + 1 }))
  | on (hok : o.ok refs s w { h with steps := h.steps + 1 }) (hv : h.vals.length ≤ 1000) (hl : h.log.length ≤ 1000000) (hh : hs.length ≤ 100000) (n : MRn code s refs lim k w hs h R o)
theorem MR.inv {code : List Ord} {s : Str} {refs : List Ref} {lim : Int} {k : Nat} {w : MWay} {hs : List MWay} {h : HS} {R : Option MWay × HS} (T : MR code s refs lim k w hs h R) :
    h.steps + 1 ≤ lim ∧ ∃ o, w.order code = some o ∧ MRi code s refs lim k w hs h R o := by
  cases T with
  | met ho hc hs => exact ⟨hs, _, ho, .met rfl hc rfl⟩
  | go ho hok hv hl hh hs e t hm => exact ⟨hs, _, ho, .on hok hv hl hh (.go _ _ _ _ e t hm)⟩
  | back ho hok hv hl hh hs e t hm => exact ⟨hs, _, ho, .on hok hv hl hh (.stop _ _ e (.back _ _ _ rfl t hm))⟩
  | fail ho hok hv hl hs e => exact ⟨hs, _, ho, .on hok hv hl (Nat.zero_le _) (.stop _ _ e (.fail rfl rfl (Nat.succ_pos _)))⟩
section
variable {F : MFix} {σ0 σ : AH} {h : HS} {hist : List (Addr × MWay)} {dw : Addr} {m : MWay}
theorem MSt.read (O : MOk F σ0) (S : MSt F σ0 σ h hist dw m) {o : Ord} (ho : m.order F.code = some o) : EX4 fun x l nm mk => ∃ cl, AN6 (σ dw = some (.dict (wayD (.lst x) (.int m.pc) (.int m.at_) nm mk cl))) (σ x = some (.list l)) (l[m.pc]? = some o.v) (l.length ≤ 100000) (VOk cl) (cl.isNone = m.call.isNone) := by
  have C := S.cur
  unfold MCur at C
  unfold MWay.order at ho
  cases hc : m.call with
  | none =>
    rw [hc] at C ho
    dsimp only at C ho
    refine ⟨F.oa, _, _, _, _, C, S.base.rest _ _ O.od O.n2, by rw [List.getElem?_map, ho]; rfl, by rw [List.length_map]; exact O.hc, vok_none, rfl⟩
  | some p =>
    obtain ⟨t, r⟩ := p
    rw [hc] at C ho
    dsimp only at C ho
    obtain ⟨ob, e1, e2, e3⟩ := C
    exact ⟨ob, _, _, _, _, e3, e2, by rw [List.getElem?_map, ho]; rfl, by simp, vok_tup _, rfl⟩
theorem ite_common {b : Bool} {P A : Prop} (hP : P) (h : b = true → P → A) : if b = true then A else P := by
  cases b with
  | false => exact hP
  | true => exact h rfl hP
theorem kind_last (o : Ord) : (o.kind == ("abort" : Str)) = false ∧ ((o.kind == ("done" : Str)) = true → o = .done) := by
  cases o with
  | nm b r => cases b <;> exact ⟨by dsimp only [Ord.kind]; decide, by dsimp only [Ord.kind]; intro h; exact absurd h (by decide)⟩
  | done => exact ⟨by decide, fun _ => rfl⟩
  | _ => exact ⟨by dsimp only [Ord.kind]; decide, by dsimp only [Ord.kind]; intro h; exact absurd h (by decide)⟩

noncomputable def runF (σ : AH) (oa : Addr) (o : Option MWay) (v : V) (σ' : AH) : Prop := match o with
  | none => v = .tup [.int 1, .none]
  | some m => ∃ dw, v = .tup [.int 0, .inst 547 dw] ∧ σ' dw = some (.dict (wayOf oa m)) ∧ σ dw = none
inductive RQ (F : MFix) (σ : AH) (R : Option MWay × HS) (v : V) (σ' : AH) : Prop
  | mk (hv : runF σ F.oa R.1 v σ') (H : HostAt σ' F.d F.av F.ar F.al R.2.vals R.2.log R.2.steps F.lim) (K : Kept σ σ' [F.d, F.av, F.al, F.ha])
theorem w_run (O : MOk F σ) (H : HostAt σ F.d F.av F.ar F.al h.vals h.log h.steps F.lim) (hh : σ F.ha = some (.list [])) {begin k : Nat} {R : Option MWay × HS} (T : MR F.code F.s F.refs F.lim k ⟨0, begin, [], [], none⟩ [] h R) :
    Con 10 (.ref 572) [.inst 624 F.dm, .lst F.oa, .int begin] σ (RQ F σ R) := by
  have co := (C_Match).1
  have cw := C_Way
  have cp := (C_PlainHost).1
  refine con_fn (F_Match_run) rfl fun L => ?_
  wtm_at "w_in"
  (refine ss_cons (st_asn ?_ rfl rfl))
  refine call_c cw.2.2.1 ?_
  wtm_at "wp"
  refine Con.call ((con_way fun dw hdw => ?_).less (by decide))
  wtm_at "wp"
  have B0 : MBase F σ σ h [] := ⟨H, hh, (by intro p hp; cases hp), by simp, (by intro p hp; cases hp), Kept.refl _ _⟩
  have S0 : MSt F σ (σ.put dw (.dict (wayOf F.oa ⟨0, begin, [], [], none⟩))) h [] dw ⟨0, begin, [], [], none⟩ :=
    ⟨B0.put O hdw (by exact nn), hdw, by simp, mcur_plain rfl (AH.put_self _ _ _)⟩
  let I : Nat → Loc → AH → Prop := fun k ρ σ' => at_ ρ "self" = some (.inst 624 F.dm) ∧ ((EX4 fun m dw hist h => AN3 (at_ ρ "way" = some (.inst 547 dw)) (MSt F σ σ' h hist dw m) (MR F.code F.s F.refs F.lim k m (hist.map (·.2)) h R)) ∨ (AN3 (at_ ρ "way" = some .none) (R.1 = none) (MBase F σ σ' R.2 [])))
  refine st_while I k ⟨by wtm_at "lk1", .inl ⟨_, dw, [], h, by wtm_at "lk1", S0, T⟩⟩ ?_
  rintro k ρ σ1 ⟨l1, ⟨m, dw, hist, h1, l2, S, T⟩ | ⟨l2, e1, B⟩⟩
  · wtm_at "wp"
    refine isnot_none ?_
    wtm_at "wp"
    wtm_at "w_t"
    wtm_at "wp"
    refine ex_meth ?_
    wtm_at "wp"
    refine op_attr co (L_Match_host) (S.mt O) (v := .inst 519 F.d) rfl (vk_inst _ _) ?_
    refine ⟨_, gm_inst cp (L_PlainHost_step) (M_PlainHost_step).1 S.base.host.h rfl, (M_PlainHost_step).2, ?_⟩
    wtm_at "wp"
    obtain ⟨hlim, o, ho, cases_⟩ := T.inv
    refine Con.call ((w_host_step S.base.host hlim ?_).less (by decide))
    have nw := O.new S.fresh
    (replace nw := nin5.mp nw)
    have S2 : MSt F σ (σ1.put F.d (.dict (hostD F.av F.ar F.al (h1.steps + 1) F.lim))) { h1 with steps := h1.steps + 1 } hist dw m := by
      refine ⟨S.base.step O, S.fresh, S.off, ?_⟩
      have C := S.cur
      unfold MCur at C ⊢
      cases hc : m.call with
      | none =>
        rw [hc] at C
        dsimp only at C ⊢
        rw [AH.put_ne _ _ nw.1]; exact C
      | some p =>
        obtain ⟨t, r⟩ := p
        rw [hc] at C
        obtain ⟨ob, e1, e2, e3⟩ := C
        refine ⟨ob, e1, ?_, ?_⟩
        · rw [AH.put_ne _ _ (by exact ne_ld e2 S.base.host.h)]; exact e2
        · rw [AH.put_ne _ _ nw.1]; exact e3
    revert S2
    generalize (σ1.put F.d (.dict (hostD F.av F.ar F.al (h1.steps + 1) F.lim))) = σ2
    intro S2
    obtain ⟨x, l, nm, mk, cl, hw, hx, hl, hll, vcl, hcl⟩ := S2.read O ho
    have hlen : m.pc < 2 ^ 62 := by have := (List.getElem?_eq_some_iff.mp hl).1; exact lin2 (.t (.v 0) (.v 1) (.l (.v 1) (.k 100000) (.b (.v 0) (.k 4611686018427387904)))) rfl this hll
    wtm_at "wp"
    (refine st_asn ?_ rfl rfl)
    wtm_at "wp"
    refine op_attr cw.1 (L_Way_orders) hw (v := .lst x) rfl (vk_lst _) ?_
    wtm_at "wp"
    refine op_attr cw.1 (L_Way_pc) hw (v := .int m.pc) rfl (vk_int _) ?_
    refine sub_lst (j := m.pc) hx rfl hl hlen ?_
    rw [o.v_eq]
    wtm_at "wp"
    refine nm_str rfl ?_
    wtm_at "wp"
    have both : ∀ (P : Bool → Prop), ((o.kind == ("done" : Str)) = true → cl.isNone = true → P true) → (((o.kind == ("done" : Str)) = false ∨ cl.isNone = false) → P false) → P ((o.kind == ("done" : Str)) && cl.isNone) := by
      intro P p1 p2
      cases q1 : (o.kind == ("done" : Str)) with
      | false => exact p2 (.inl q1)
      | true =>
        cases q2 : cl.isNone with
        | true => exact p1 q1 q2
        | false => exact p2 (.inr q2)
    have kl := kind_last o
    rcases cases_ with ⟨rfl, hc, rfl⟩ | ⟨hok, hv, hlog, hhl, cases_⟩
    · try refine ite_tt (by decide) ?_
      wtm_at "wp"
      refine op_attr cw.1 (L_Way_calls) hw (v := cl) rfl vcl ?_
      wtm_at "wp"
      refine is_none ?_ vcl
      rw [hcl, hc]
      wtm_at "wp"
      refine nm_int rfl ?_
      wtm_at "wp"
      have C := S2.cur
      exact ⟨⟨dw, rfl, C.plain hc, S2.fresh⟩, S2.base.host, S2.base.rest⟩
    · have sd := w_mdone O S2 hok hv hlog (by simpa using hhl)
      rw [o.v_eq] at sd
      refine ite_common ?_ (fun q1 hP => ?_)
      rotate_left
      · have q2 : cl.isNone = false := by
          have := kl.2 q1
          subst this
          rw [hcl]
          cases hc : m.call with
          | none => exact absurd hc hok
          | some p => rfl
        wtm_at "wp"
        refine op_attr cw.1 (L_Way_calls) hw (v := cl) rfl vcl ?_
        wtm_at "wp"
        refine is_none ?_ vcl
        rw [q2]
        repeat (first | exact hP | wtm_at "w1")
      · wtm_at "wp"
        refine nm_str rfl ?_
        wtm_at "wp"
        try refine ite_ff kl.1 ?_
        wtm_at "wp"
        refine test_value ?_
        refine ex_meth ?_
        wtm_at "wp"
        refine ⟨_, gm_inst co (L_Match_done) (M_Match_done).1 (S2.mt O) rfl, (M_Match_done).2, ?_⟩
        wtm_at "wp"
        refine Con.call (Con.mono sd ?_)
        intro v σ3 se
        rcases cases_ with ⟨m', w', hist', h', em, T', hm'⟩ | ⟨hist', h', em, hback⟩
        · rw [em] at se
          obtain ⟨rfl, hi2, e2, S3⟩ := se
          wtm_at "wp"
          exact ⟨m', hm', by wtm_at "lk1", .inl ⟨w', dw, hi2, h', by wtm_at "lk1", S3, by rw [e2]; exact T'⟩⟩
        · rw [em] at se
          obtain ⟨rfl, B3⟩ := se
          have hm3 := B3.rest _ _ O.mt O.n1
          have hil : (hist.map fun p => V.inst 547 p.1).length ≤ 100000 := by simpa using hhl
          wtm_at "wp"
          (refine st_asn ?_ rfl rfl)
          refine ex_meth ?_
          wtm_at "wp"
          refine ⟨_, gm_inst co (L_Match_way_back) (M_Match_way_back).1 hm3 rfl, (M_Match_way_back).2, ?_⟩
          wtm_at "wp"
          refine Con.call ((w_way_back hm3 hil B3.hi ?_).less (by decide))
          rcases hback with ⟨m', hs', w', eh, T', hm'⟩ | ⟨eh, eR, hk⟩
          · obtain ⟨hl', p, rfl⟩ : ∃ l p, hist = l ++ [p] := by
              rcases List.eq_nil_or_concat hist with rfl | ⟨l, p, rfl⟩
              · simp at eh
              · exact ⟨l, p, List.concat_eq_append ..⟩
            obtain ⟨e3, e4⟩ := List.append_inj' (show hl'.map (·.2) ++ [p.2] = hs' ++ [w'] by simpa using eh) rfl
            rw [List.cons.injEq] at e4
            have ed : ((hl' ++ [p]).map fun p => V.inst 547 p.1) = (hl'.map fun p => V.inst 547 p.1) ++ [V.inst 547 p.1] := by simp
            have S4 := B3.pop O
            have hc4 := (B3.ways p (by simp)).2
            rw [ed, List.getLast?_concat, List.dropLast_concat]
            revert S4
            generalize (σ3.put F.ha (.list (hl'.map fun p => V.inst 547 p.1))) = σ4
            intro S4
            wtm_at "wp"
            refine isnot_none ?_
            wtm_at "wp"
            wtm_at "w_t"
            wtm_at "wp"
            refine op_attr cw.1 (L_Way_orders) (S4.cur.plain hc4) (v := .lst F.oa) rfl (vk_lst _) ?_
            wtm_at "wp"
            refine is_none ?_
            wtm_at "wp"
            wtm_at "w_f"
            wtm_at "wp"
            exact ⟨m', hm', by wtm_at "lk1", .inl ⟨p.2, p.1, hl', h', by wtm_at "lk1", S4, by rw [e3, e4.1]; exact T'⟩⟩
          · have hn : hist = [] := by simpa using eh
            subst hn
            simp only [List.map_nil, List.getLast?_nil]
            wtm_at "wp"
            refine isnot_none ?_
            wtm_at "wp"
            subst eR
            exact ⟨0, hk, by wtm_at "lk1", .inr ⟨by wtm_at "lk1", rfl, B3⟩⟩
  · wtm_at "wp"
    refine isnot_none ?_
    wtm_at "wp"
    refine nm_int rfl ?_
    wtm_at "wp"
    exact ⟨by rw [e1]; rfl, B.host, B.rest⟩
end
end
section
open PySem PySem.W PyProof.Rows PySem.Calls
theorem mok_of {σ : AH} {d av ar al dm ha oa : Addr} {refs : List Ref} {lim : Int} {h : HS} {code : List Ord} {s : Str} (H : Hst σ d av ar al refs lim h) (hm : σ dm = some (.dict (matchD s d ha))) (hh : σ ha = some (.list [])) (ho : σ oa = some (.list (code.map Ord.v)))
    (n1 : dm ≠ d) (n2 : dm ≠ av) (n3 : ha ≠ ar) (n4 : ha ≠ al) (n5 : oa ≠ al) (n6 : oa ≠ ha) (hs : s.length ≤ 1000) (hc : code.length ≤ 100000) : MOk ⟨dm, ha, oa, d, av, ar, al, refs, lim, code, s⟩ σ := by
  have t : ∀ {x y : Addr} {a b}, σ x = some (.dict a) → σ y = some (.list b) → x ≠ y := fun e1 e2 z => by rw [z, e2] at e1; cases e1
  have hd := H.host.h; have hv := H.host.v; have hr := H.host.r; have hl := H.host.l
  have ap := H.apart
  simp only [List.nodup_cons, List.mem_cons, List.not_mem_nil, or_false, not_or, List.nodup_nil, and_true, not_false_eq_true] at ap
  obtain ⟨⟨p1, p2, p3⟩, ⟨p4, p5⟩, p6⟩ := ap
  refine ⟨hm, ho, H.rf, fun r hr' => ?_, ?_, ?_, ?_, ⟨_, hd⟩, ⟨_, hv⟩, ⟨_, hr⟩, ⟨_, hl⟩, ⟨_, hh⟩, hs, hc⟩
  · have a := H.away r hr'
    (replace a := nin4.mp a); (refine nin4.mpr ?_)
    exact ⟨a.1, a.2.1, a.2.2.2, t (H.rf r hr') hh⟩
  · (refine nin4.mpr ?_)
    exact ⟨n1, n2, t hm hl, t hm hh⟩
  · (refine nin4.mpr ?_)
    exact ⟨(t hd ho).symm, (t hv ho).symm, n5, n6⟩
  · simp only [List.nodup_cons, List.mem_cons, List.not_mem_nil, or_false, not_or, List.nodup_nil, and_true, not_false_eq_true]
    exact ⟨⟨p1, p2, p3, t hd hh⟩, ⟨p4, p5, t hv hh⟩, ⟨p6, n3.symm⟩, n4.symm⟩
theorem Hst.kept {σ σ' : AH} {d av ar al : Addr} {refs : List Ref} {lim : Int} {h : HS} (H : Hst σ d av ar al refs lim h) (K : Kept σ σ' []) : Hst σ' d av ar al refs lim h :=
  ⟨⟨K _ _ H.host.h (by exact nn), K _ _ H.host.v (by exact nn), K _ _ H.host.r (by exact nn), K _ _ H.host.l (by exact nn)⟩, fun r hr => K _ _ (H.rf r hr) (by exact nn), H.apart, H.away⟩
inductive RQ4 (σ : AH) (oa d av ar al ha : Addr) (refs : List Ref) (lim : Int) (R : Option MWay × HS) (v : V) (σ' : AH) : Prop
  | mk (hv : runF σ oa R.1 v σ') (H : Hst σ' d av ar al refs lim R.2) (K : Kept σ σ' [d, av, al, ha])
section
variable {σ : AH} {Q : V → AH → Prop}
theorem w_named_rows {l : Named} (hl : l.length ≤ 100000) (q : ∀ a σ', σ a = none → σ' a = some (.list (namedL l.reverse)) → Kept σ σ' [] → Q (.lst a) σ') : Con 1 (.ref 635) [nmV l] σ Q := by
  refine con_fn (F_named_rows) rfl fun L => ?_
  wtm_at "w_in"
  (refine ss_cons (st_asn ?_ rfl rfl))
  refine ex_list ?_
  wtm_at "wp"
  intro fa hfa
  wtm_at "wp"
  refine st_while (fun k ρ σ' => ∃ ds rs : Named, l = ds ++ rs ∧ k = rs.length ∧ σ' fa = some (.list (namedL ds)) ∧ Kept σ σ' [] ∧ at_ ρ "found" = some (.lst fa) ∧ at_ ρ "named" = some (nmV rs)) l.length ⟨[], l, rfl, rfl, AH.put_self _ _ _, Kept.new hfa, by wtm_at "lk1", by wtm_at "lk1"⟩ ?_
  rintro k ρ σ1 ⟨ds, rs, e1, e2, sf, K, l1, l2⟩
  have hdl : (namedL ds).length ≤ 1000000 := by have := congrArg List.length e1; simp [namedL] at this ⊢; exact lin3 (.f (.v 0) (.a (.v 1) (.v 2)) (.l (.v 0) (.k 100000) (.g (.v 1) (.k 1000000)))) rfl this hl
  cases rs with
  | nil =>
    have l2 : at_ ρ "named" = some .none := l2
    wtm_at "wp"
    refine isnot_none ?_
    wtm_at "wp"
    refine ex_meth ?_
    wtm_at "wp"
    refine ⟨_, gm_list PySem.F.slot_list_reverse PySem.F.type_list_reverse sf, keeps_builtin, ?_⟩
    wtm_at "wp"
    refine call_reverse sf hdl ?_
    wtm_at "wp"
    refine q fa _ hfa ?_ (K.put0 hfa)
    rw [AH.put_self, e1, List.append_nil]
    simp [namedL]
  | cons p rs =>
    have l2 : at_ ρ "named" = some (.tup [nmV rs, .tup [refV p.1, .str p.2]]) := l2
    wtm_at "wp"
    refine isnot_none ?_
    wtm_at "wp"
    wtm_at "w_t"
    wtm_at "wp"
    (refine st_assign ?_)
    wtm_at "wp"
    refine ex_meth ?_
    wtm_at "wp"
    refine ⟨_, gm_list PySem.F.slot_list_append PySem.F.type_list_append sf, keeps_builtin, ?_⟩
    wtm_at "wp"
    refine call_append sf hdl ?_
    wtm_at "wp"
    refine ⟨rs.length, by rw [e2]; simp, ds ++ [p], rs, by rw [e1]; simp, rfl, ?_, K.put0 hfa, by wtm_at "lk1", by wtm_at "lk1"⟩
    rw [AH.put_self]; simp [namedL]
inductive MPo (code : List Ord) (s : Str) (refs : List Ref) (lim : Int) : Nat → Nat → HS → Option (Nat × Nat × Named) × HS → Prop
  | done {b h} : MPo code s refs lim b 0 h (none, h)
  | hit {b n k m h h'} (hn : m.named.length ≤ 100000) (t : MR code s refs lim k ⟨0, b, [], [], none⟩ [] h (some m, h')) : MPo code s refs lim b (n + 1) h (some (b, m.at_, m.named.reverse), h')
  | miss {b n k h h' R} (t : MR code s refs lim k ⟨0, b, [], [], none⟩ [] h (none, h')) (r : MPo code s refs lim (b + 1) n h' R) : MPo code s refs lim b (n + 1) h R
inductive MPoi (code : List Ord) (s : Str) (refs : List Ref) (lim : Int) (b m : Nat) (h : HS) (R : Option (Nat × Nat × Named) × HS) : Prop
  | hit (k : Nat) (w : MWay) (h2 : HS) (t : MR code s refs lim k ⟨0, b, [], [], none⟩ [] h (some w, h2)) (hn : w.named.length ≤ 100000) (e : R = (some (b, w.at_, w.named.reverse), h2))
  | miss (k : Nat) (h2 : HS) (t : MR code s refs lim k ⟨0, b, [], [], none⟩ [] h (none, h2)) (r : MPo code s refs lim (b + 1) m h2 R)
theorem MPo.inv {code : List Ord} {s : Str} {refs : List Ref} {lim : Int} {b m : Nat} {h : HS} {R : Option (Nat × Nat × Named) × HS} (M : MPo code s refs lim b (m + 1) h R) : MPoi code s refs lim b m h R := by
  cases M with
  | hit hn t => exact .hit _ _ _ t hn rfl
  | miss t r => exact .miss _ _ t r
theorem MPo.inv0 {code : List Ord} {s : Str} {refs : List Ref} {lim : Int} {b : Nat} {h : HS} {R : Option (Nat × Nat × Named) × HS} (M : MPo code s refs lim b 0 h R) : R = (none, h) := by cases M; rfl
variable {d av ar al oa : Addr} {refs : List Ref} {lim : Int} {h : HS} {s : Str} {code : List Ord}
theorem w_run_new {dm ha : Addr} {begin k : Nat} {R : Option MWay × HS} (H : Hst σ d av ar al refs lim h) (hm : σ dm = some (.dict (matchD s d ha))) (hh : σ ha = some (.list [])) (ho : σ oa = some (.list (code.map Ord.v)))
    (n1 : dm ≠ d) (n2 : dm ≠ av) (n3 : ha ≠ ar) (n4 : ha ≠ al) (n5 : oa ≠ al) (n6 : oa ≠ ha) (hs : s.length ≤ 1000) (hc : code.length ≤ 100000) (T : MR code s refs lim k ⟨0, begin, [], [], none⟩ [] h R) :
    Con 10 (.ref 572) [.inst 624 dm, .lst oa, .int begin] σ (RQ4 σ oa d av ar al ha refs lim R) := by
  have O := mok_of H hm hh ho n1 n2 n3 n4 n5 n6 hs hc
  refine Con.mono (w_run O H.host hh T) ?_
  rintro v σ' ⟨h1, h2, h3⟩
  refine ⟨h1, ⟨h2, fun r hr => h3 _ _ (H.rf r hr) (O.away r hr), H.apart, H.away⟩, h3⟩
theorem w_match_orders {R : Option (Nat × Nat × Named) × HS} (H : Hst σ d av ar al refs lim h) (ho : σ oa = some (.list (code.map Ord.v))) (n5 : oa ≠ al) (hs : s.length ≤ 1000) (hc : code.length ≤ 100000) (T : MPo code s refs lim 0 (s.length + 1) h R) :
    Con 11 (.ref 642) [.lst oa, .str s, .bool false, .inst 519 d] σ (HQ (foundB σ R.1) σ d av ar al refs lim R.2) := by
  have cm := C_Match
  have cw := C_Way
  refine con_fn (F_match_orders) rfl fun L => ?_
  wtm_at "w_in"
  refine ss_cons (st_for ?_)
  refine call_t ?_
  wtm_at "wp"
  refine test_value ?_
  wtm_at "wp"
  refine call_b ?_
  wtm_at "wp"
  refine call_len_str (by exact lin1 (.l (.v 0) (.k 1000) (.g (.v 0) (.k 1000000))) rfl hs) ?_
  wtm_at "wp"
  refine call_range1 ?_
  refine ⟨_, _, iter_rng (by lia) (by lia) (by lia) (by lia), ?_⟩
  refine forj_rng (fun b m ρ σ' => ∃ h, AN6 (MPo code s refs lim b m h R) (Hst σ' d av ar al refs lim h) (Kept σ σ' [d, av, al]) (at_ ρ "orders" = some (.lst oa)) (at_ ρ "subject" = some (.str s)) (at_ ρ "host" = some (.inst 519 d))) ?_ ?_ s.length ?_
  · rintro b m ρ σ1 ⟨h1, M, H1, K1, l1, l2, l3⟩
    have ho1 := K1 _ _ ho (by
      (refine nin3.mpr ?_)
      exact ⟨fun z => (by rw [z] at ho; cases ho.symm.trans H.host.h), fun z => (by rw [z] at ho; cases ho.symm.trans H.host.v), n5⟩)
    wtm_at "wp"
    (refine st_assign ?_)
    refine ex_meth ?_
    refine call_c cm.2.2.1 ?_
    wtm_at "wp"
    refine Con.call ((con_match fun dm ha hdm hha nd => ?_).less (by decide))
    have H2 : Hst ((σ1.put ha (.list [])).put dm (.dict (matchD s d ha))) d av ar al refs lim h1 := H1.kept ((Kept.new hha).put0 hdm)
    have ne : ∀ {x : Addr} {o}, σ1 x = some o → dm ≠ x ∧ ha ≠ x := fun {x o} e => ⟨(by exact (ne_sn e hdm).symm), (by exact (ne_sn e hha).symm)⟩
    have hm2 : ((σ1.put ha (.list [])).put dm (.dict (matchD s d ha))) dm = some (.dict (matchD s d ha)) := AH.put_self _ _ _
    have hh2 : ((σ1.put ha (.list [])).put dm (.dict (matchD s d ha))) ha = some (.list []) := by rw [AH.put_ne _ _ nd.symm]; exact AH.put_self _ _ _
    have ho2 : ((σ1.put ha (.list [])).put dm (.dict (matchD s d ha))) oa = some (.list (code.map Ord.v)) := (Kept.new (D := []) hha).put0 hdm _ _ ho1 (by exact nn)
    have K2 : Kept σ1 ((σ1.put ha (.list [])).put dm (.dict (matchD s d ha))) [] := (Kept.new hha).put0 hdm
    refine ⟨_, gm_inst cm.1 (L_Match_run) (M_Match_run).1 hm2 rfl, (M_Match_run).2, ?_⟩
    wtm_at "wp"
    rcases M.inv with ⟨k, mw, h2, T1, hn, eR⟩ | ⟨k, h2, T1, r⟩
    · refine Con.call (Con.mono (w_run_new H2 hm2 hh2 ho2 (ne H1.host.h).1 (ne H1.host.v).1 (ne H1.host.r).2 (ne H1.host.l).2 n5 (ne ho1).2.symm hs hc T1) ?_)
      rintro v σ2 ⟨hv, H3, K3⟩
      have K13 : Kept σ1 σ2 [d, av, al] := fun x o e nx => K3 x o (K2 x o e (by exact nn)) (by
        (replace nx := nin3.mp nx); (refine nin4.mpr ?_)
        exact ⟨nx.1, nx.2.1, nx.2.2, (ne e).2.symm⟩)
      obtain ⟨dw, rfl, e1, e2⟩ := hv
      wtm_at "wp"
      refine nm_int rfl ?_
      wtm_at "wp"
      refine op_attr cw.1 (L_Way_at) e1 (v := .int mw.at_) rfl (vk_int _) ?_
      wtm_at "wp"
      refine call_g ?_
      wtm_at "wp"
      refine op_attr cw.1 (L_Way_named) e1 (v := nmV mw.named) rfl (by intro _ h; cases hx : mw.named <;> rw [hx] at h <;> cases h) ?_
      wtm_at "wp"
      refine Con.call ((w_named_rows hn ?_).less (by decide))
      intro a σ3 ha3 sa K4
      wtm_at "wp"
      rw [eR]
      refine ⟨⟨a, rfl, sa, ?_⟩, H3.kept K4, (K1.trans K13).trans K4.to⟩
      have := H3.not ha3
      exact K1.gone (K13.gone ha3 this) this
    · refine Con.call (Con.mono (w_run_new H2 hm2 hh2 ho2 (ne H1.host.h).1 (ne H1.host.v).1 (ne H1.host.r).2 (ne H1.host.l).2 n5 (ne ho1).2.symm hs hc T1) ?_)
      rintro v σ2 ⟨hv, H3, K3⟩
      have K13 : Kept σ1 σ2 [d, av, al] := fun x o e nx => K3 x o (K2 x o e (by exact nn)) (by
        (replace nx := nin3.mp nx); (refine nin4.mpr ?_)
        exact ⟨nx.1, nx.2.1, nx.2.2, (ne e).2.symm⟩)
      have hv : v = .tup [.int 1, .none] := hv
      subst hv
      wtm_at "wp"
      refine nm_int rfl ?_
      wtm_at "wp"
      refine nm_int rfl ?_
      wtm_at "wp"
      exact ⟨h2, r, H3, K1.trans K13, by wtm_at "lk1", by wtm_at "lk1", by wtm_at "lk1"⟩
  · rintro b ρ σ1 ⟨h1, M, H1, K1, l1, l2, l3⟩
    wtm_at "wp"
    rw [M.inv0]
    exact ⟨rfl, H1, K1⟩
  · exact ⟨h, T, H, fun b o e _ => e, by wtm_at "lk1", by wtm_at "lk1", by wtm_at "lk1"⟩
end
end
section
open PySem PySem.W PyProof.Rows PySem.Calls
structure Feed (σ : AH) (fa : Addr) (t : Nat) : Prop where
  ex : ∃ ca turn, ∃ cells : List Int, σ fa = some (.list [.lst ca, .int (turn : Nat)]) ∧ σ ca = some (.list (cells.map V.int)) ∧ fa ≠ ca ∧ cells.length ≤ 1000 ∧ turn ≤ t
theorem Feed.kept {σ σ' : AH} {fa : Addr} {t : Nat} (F : Feed σ fa t) (K : Kept σ σ' []) : Feed σ' fa t := by
  obtain ⟨ca, turn, cells, h1, h2, h3, h4, h5⟩ := F.ex
  exact ⟨ca, turn, cells, K _ _ h1 (by exact nn), K _ _ h2 (by exact nn), h3, h4, h5⟩
theorem Feed.less {σ : AH} {fa : Addr} {t t' : Nat} (F : Feed σ fa t) (h : t ≤ t') : Feed σ fa t' := by
  obtain ⟨ca, turn, cells, h1, h2, h3, h4, h5⟩ := F.ex
  exact ⟨ca, turn, cells, h1, h2, h3, h4, by exact lin3 (.l (.v 0) (.v 1) (.l (.v 1) (.v 2) (.g (.v 0) (.v 2)))) rfl h5 h⟩
section
variable {σ : AH} {Q : V → AH → Prop}
theorem by_three (a : Int) : Builtin.divisionGoesByPylong a 3 = false := by
  unfold Builtin.divisionGoesByPylong
  have : ((if ((3 : Int) == 0) = true then 0 else (3 : Int).natAbs.log2 / 30 + 1) : Nat) = 1 := by decide
  simp only [this]
  simp
theorem bits_small {n : Nat} (h : n ≤ 1000) : Builtin.Int.intBits (n : Int) ≤ 64 := by
  have : ∀ n ∈ List.range 1001, Builtin.Int.intBits ((n : Nat) : Int) ≤ 64 := by decide +kernel
  exact this n (by simp; exact lin1 (.l (.v 0) (.k 1000) (.b (.v 0) (.k 1001))) rfl h)
theorem mod_range {a : Int} {m : Nat} (hm : 0 < m) : ∃ r : Nat, r < m ∧ a.fmod (m : Int) = (r : Int) := by
  have h1 := Int.fmod_nonneg_of_pos a (b := (m : Int)) (by omega)
  have h2 := Int.fmod_lt_of_pos a (b := (m : Int)) (by omega)
  exact ⟨(a.fmod (m : Int)).toNat, by omega, by omega⟩
set_option tactic.hygienic true
theorem w_law_next {fa : Addr} {t m : Nat} (F : Feed σ fa t) (ht : t ≤ 1000) (hm : 0 < m) (q : ∀ (r : Nat) σ', r < m → Feed σ' fa (t + 1) → Kept σ σ' [fa] → Q (.int r) σ') : Con 1 (.ref 649) [.lst fa, .int m] σ Q := by
  obtain ⟨ca, turn, cells, h1, h2, h3, h4, h5⟩ := F.ex
  have fin : ∀ {a : Int}, Q (.int (a.fmod m)) (σ.put fa (.list [.lst ca, .int ((turn : Int) + 1)])) := fun {a} => by
    obtain ⟨r, hr, e⟩ := mod_range (a := a) hm
    rw [e]
    refine q r _ hr ⟨ca, turn + 1, cells, AH.put_self _ _ _, ?_, h3, h4, by exact lin2 (.l (.v 0) (.v 1) (.g (.a (.v 0) (.k 1)) (.a (.v 1) (.k 1)))) rfl h5⟩ (Kept.put (by simp))
    rw [AH.put_ne _ _ h3.symm]; exact h2
  have hm0 : ((m : Nat) : Int) ≠ 0 := by lia
  refine con_fn (F_law_next) rfl fun L => ?_
  wtm_at "w_in"
  (refine ss_cons (st_assign ?_))
  wtm_at "wp"
  refine asg_unlist h1 ?_
  wtm_at "wp"
  (refine st_assign ?_)
  wtm_at "wp"
  refine asg_sub ?_
  wtm_at "wp"
  refine set_lst h1 (by decide) (by simp) (by simp) ?_
  have e0 : [V.lst ca, V.int (turn : Int)].set ((1 : Int).toNat) (V.int ((turn : Int) + 1)) = [.lst ca, .int ((turn : Int) + 1)] := rfl
  rw [e0]
  have h2' : (σ.put fa (.list [.lst ca, .int ((turn : Int) + 1)])) ca = some (.list (cells.map V.int)) := by rw [AH.put_ne _ _ h3.symm]; exact h2
  wtm_at "wp"
  refine call_b ?_
  wtm_at "wp"
  refine call_len_lst h2' (by simp; exact lin1 (.l (.v 0) (.k 1000) (.g (.v 0) (.k 1000000))) rfl h4) ?_
  wtm_at "wp"
  wtm_at "w_sp" <;> rename_i hlt
  · have hlt' : turn < cells.length := by simp at hlt; exact hlt
    wtm_at "wp"
    refine call_b ?_
    refine exs_one ?_
    refine call_t ?_
    wtm_at "wp"
    refine sub_lst (j := turn) (v := .int cells[turn]) h2' rfl (by rw [List.getElem?_map, List.getElem?_eq_getElem hlt']; rfl) (by exact lin2 (.l (.v 0) (.k 1000) (.l (.v 1) (.v 0) (.b (.v 1) (.k 4611686018427387904)))) rfl ht h5) ?_
    wtm_at "wp"
    refine call_int ?_
    refine call_abs ?_
    wtm_at "wp"
    exact op_mod hm0 fin
  · wtm_at "wp"
    refine op_mul ?_ ?_
    rotate_left
    · exact IntMulOk.of_left (by decide)
    wtm_at "wp"
    refine op_mul ?_ ?_
    rotate_left
    · exact IntMulOk.of_left (bits_small (by exact lin2 (.l (.v 0) (.k 1000) (.l (.v 1) (.v 0) (.g (.v 1) (.k 1000)))) rfl ht h5))
    wtm_at "wp"
    refine op_fdiv (by decide) (by_three _) ?_
    wtm_at "wp"
    refine call_b ?_
    wtm_at "wp"
    refine call_len_lst h2' (by simp; exact lin1 (.l (.v 0) (.k 1000) (.g (.v 0) (.k 1000000))) rfl h4) ?_
    wtm_at "wp"
    exact op_mod hm0 fin
inductive LeafOk (tp : Bool) : Nd → Prop
  | chars {t : Str} (h : t.length ≤ 2) : LeafOk tp (.pl (.chars t))
  | any {t : Str} (h : t.length ≤ 2) : LeafOk tp (.pl (.any t))
  | span {t : Str} (h : t.length ≤ 2) : LeafOk tp (.pl (.span t))
  | brk {t : Str} (h : t.length ≤ 2) : LeafOk tp (.pl (.brk t))
  | len {m : Nat} : LeafOk tp (.pl (.len m))
  | rpos {m : Nat} : LeafOk tp (.pl (.rpos m))
  | rtab {m : Nat} : LeafOk tp (.pl (.rtab m))
  | pos {m : Nat} (h : tp = true) : LeafOk tp (.pl (.pos m))
  | tab {m : Nat} (h : tp = true) : LeafOk tp (.pl (.tab m))
  | rem : LeafOk tp .rem
  | arb : LeafOk tp .arb
  | delay : LeafOk tp (.delay "P")
  | cursor {a : Addr} (h : tp = true) : LeafOk tp (.cursor (a, "Q"))
inductive NodeOk (tp : Bool) : Nat → Nd → Prop
  | leaf {d : Nat} {n : Nd} (h : LeafOk tp n) : NodeOk tp d n
  | arbno {d : Nat} {n : Nd} (h : NodeOk tp d n) : NodeOk tp (d + 1) (.arbno n)
  | nm {d : Nat} {n : Nd} {b : Bool} {r : Ref} (h : NodeOk tp d n) (hr : r.2 = "P" ∨ r.2 = "Q") : NodeOk tp (d + 1) (.nm b n r)
  | cat {d : Nat} {x y : Nd} (h : NodeOk tp d x) (h' : NodeOk tp d y) : NodeOk tp (d + 1) (.cat x y)
  | alt {d : Nat} {x y : Nd} (h : NodeOk tp d x) (h' : NodeOk tp d y) : NodeOk tp (d + 1) (.alt x y)
set_option tactic.hygienic false
noncomputable def Nd.refs : Nd → List Ref
  | .cursor r => [r]
  | .cat a b => a.refs ++ b.refs
  | .alt a b => a.refs ++ b.refs
  | .arbno a => a.refs
  | .nm _ a r => r :: a.refs
  | .pl _ => [] | .rem => [] | .arb => [] | .delay _ => []
def RefsAt (σ : AH) (l : List Ref) : Prop := ∀ r ∈ l, σ r.1 = some (.dict (refD r.2))
theorem RefsAt.kept {σ σ' : AH} {l : List Ref} {fa : Addr} {t : Nat} (R : RefsAt σ l) (F : Feed σ fa t) (K : Kept σ σ' [fa]) : RefsAt σ' l := fun r hr => K _ _ (R r hr) (by
  obtain ⟨ca, turn, cells, h1, _⟩ := F.ex
  simp only [List.mem_cons, List.not_mem_nil, or_false]
  intro z
  have := R r hr
  rw [z, h1] at this; cases this)
theorem w_ref_init {rd : Addr} {a b k : V} (hd : σ rd = some (.dict [])) (q : Q .none (σ.put rd (.dict [("kind", a), ("owner", b), ("key", k)]))) : Con 1 (.ref 107) [.inst 110 rd, a, b, k] σ Q := by
  have co := (C_NameRef).1
  refine con_fn (F_NameRef_init) rfl fun L => ?_
  wtm_at "w_in"
  (refine ss_cons (st_assign ?_))
  wtm_at "wp"
  refine asg_attr ?_
  wtm_at "wp"
  refine st_attr co (L_NameRef_kind) hd (by simp) ?_
  wtm_at "wp"
  (refine st_assign ?_)
  wtm_at "wp"
  refine asg_attr ?_
  wtm_at "wp"
  refine st_attr co (L_NameRef_owner) (AH.put_self _ _ _) (Nat.le_of_ble_eq_true rfl) ?_
  rw [AH.put_put]
  wtm_at "wp"
  (refine st_assign ?_)
  wtm_at "wp"
  refine asg_attr ?_
  wtm_at "wp"
  refine st_attr co (L_NameRef_key) (AH.put_self _ _ _) (Nat.le_of_ble_eq_true rfl) ?_
  rw [AH.put_put]
  wtm_at "wp"
  exact q
theorem con_ref {key : Str} (q : ∀ rd, σ rd = none → Q (.inst 110 rd) (σ.put rd (.dict (refD key)))) : Con 2 (.ref 110) [.str "var", .none, .str key] σ Q := by
  have co := C_NameRef
  refine con_cls co.2.1 (L_NameRef_init) (M_NameRef_init).1 fun d hd => w_ref_init (AH.put_self _ _ _) ⟨rfl, ?_⟩
  rw [AH.put_put]
  exact q d hd
end
end
section
open PySem PySem.W PyProof.Rows PySem.Calls
theorem five_texts {j : Nat} (h : j < 5) : ∃ t : Str, t.length ≤ 2 ∧ ([.str "a", .str "b", .str "ab", .str "(", .str ""] : List V)[j]? = some (.str t) := by
  have : j = 0 ∨ j = 1 ∨ j = 2 ∨ j = 3 ∨ j = 4 := by lia
  rcases this with rfl | rfl | rfl | rfl | rfl <;> exact ⟨_, by decide, rfl⟩
theorem three_texts {j : Nat} (h : j < 3) : ∃ t : Str, t.length ≤ 2 ∧ ([.str "a", .str "b(", .str ")"] : List V)[j]? = some (.str t) := by
  have : j = 0 ∨ j = 1 ∨ j = 2 := by lia
  rcases this with rfl | rfl | rfl <;> exact ⟨_, by decide, rfl⟩
theorem three_kinds (tp : Bool) {j : Nat} (h : j < 3) : ∃ k : Str, ([.str "any", .str "span", .str "break"] : List V)[j]? = some (.str k) ∧ ∀ t : Str, t.length ≤ 2 → ∃ p : Pl, LeafOk tp (.pl p) ∧ p.kind = k ∧ p.told = .str t := by
  have : j = 0 ∨ j = 1 ∨ j = 2 := by lia
  rcases this with rfl | rfl | rfl
  · exact ⟨"any", rfl, fun t ht => ⟨.any t, .any ht, rfl, rfl⟩⟩
  · exact ⟨"span", rfl, fun t ht => ⟨.span t, .span ht, rfl, rfl⟩⟩
  · exact ⟨"break", rfl, fun t ht => ⟨.brk t, .brk ht, rfl, rfl⟩⟩
theorem count_kinds {tp : Bool} {j : Nat} (h : j < 3 ∨ ((j = 7 ∨ j = 8) ∧ tp = true)) : ∃ k : Str, ([.str "len", .str "rpos", .str "rtab", .str "", .str "", .str "", .str "", .str "pos", .str "tab"] : List V)[j]? = some (.str k) ∧ ∀ m : Nat, ∃ p : Pl, LeafOk tp (.pl p) ∧ p.kind = k ∧ p.told = .int m := by
  rcases h with h | ⟨h | h, ht⟩
  · have : j = 0 ∨ j = 1 ∨ j = 2 := by lia
    rcases this with rfl | rfl | rfl
    · exact ⟨"len", rfl, fun m => ⟨.len m, .len, rfl, rfl⟩⟩
    · exact ⟨"rpos", rfl, fun m => ⟨.rpos m, .rpos, rfl, rfl⟩⟩
    · exact ⟨"rtab", rfl, fun m => ⟨.rtab m, .rtab, rfl, rfl⟩⟩
  · subst h; exact ⟨"pos", rfl, fun m => ⟨.pos m, .pos ht, rfl, rfl⟩⟩
  · subst h; exact ⟨"tab", rfl, fun m => ⟨.tab m, .tab ht, rfl, rfl⟩⟩
theorem rest_kinds (tp : Bool) {j : Nat} (h : j < 3) : ∃ n : Nd, LeafOk tp n ∧ n.refs = [] ∧ ([.tup [.str "rem"], .tup [.str "arb"], .tup [.str "delay", .tup [.str "name", .str "P"]]] : List V)[j]? = some n.v := by
  have : j = 0 ∨ j = 1 ∨ j = 2 := by lia
  rcases this with rfl | rfl | rfl
  · exact ⟨.rem, .rem, rfl, rfl⟩
  · exact ⟨.arb, .arb, rfl, rfl⟩
  · exact ⟨.delay "P", .delay, rfl, rfl⟩
theorem Feed.new {σ : AH} {fa : Addr} {t : Nat} (F : Feed σ fa t) {a : Addr} {o : AO} (ha : σ a = none) : Feed (σ.put a o) fa t := F.kept (Kept.new ha)
theorem Feed.ne {σ : AH} {fa : Addr} {t : Nat} (F : Feed σ fa t) {a : Addr} (ha : σ a = none) : a ≠ fa := by
  obtain ⟨ca, turn, cells, h1, _⟩ := F.ex
  intro z; rw [z, h1] at ha; cases ha
section
variable {σ : AH} {Q : V → AH → Prop}
set_option tactic.hygienic true
theorem w_law_leaf {fa : Addr} {t : Nat} {tp : Bool} (F : Feed σ fa t) (ht : t ≤ 990) (q : ∀ (n : Nd) σ', LeafOk tp n → RefsAt σ' n.refs → Feed σ' fa (t + 3) → Kept σ σ' [fa] → Q n.v σ') : Con 3 (.ref 656) [.lst fa, .bool tp] σ Q := by
  refine con_fn (F_law_leaf) rfl fun L => ?_
  wtm_at "w_in"
  refine ss_cons (Tr.mono (Q := fun f ρ1 σ1 => f = .next ∧ ∃ r : Nat, r < 14 ∧ (tp = true ∨ r < 11) ∧ at_ ρ1 "kind" = some (.int r) ∧ at_ ρ1 "feed" = some (.lst fa) ∧ Feed σ1 fa (t + 1) ∧ Kept σ σ1 [fa]) ?_ ?_)
  · (refine st_asn ?_ rfl rfl)
    refine call_g ?_
    wtm_at "wp"
    refine test_value ?_
    wtm_at "wp"
    cases tp with
    | true =>
      wtm_at "wp"
      refine Con.call ((w_law_next (m := 14) F (by exact lin1 (.l (.v 0) (.k 990) (.g (.v 0) (.k 1000))) rfl ht) (by lia) fun r σ' hr F1 K1 => ?_).less (by decide))
      wtm_at "wp"
      exact ⟨rfl, r, hr, .inl rfl, by wtm_at "lk1", by wtm_at "lk1", F1, K1⟩
    | false =>
      wtm_at "wp"
      refine Con.call ((w_law_next (m := 11) F (by exact lin1 (.l (.v 0) (.k 990) (.g (.v 0) (.k 1000))) rfl ht) (by lia) fun r σ' hr F1 K1 => ?_).less (by decide))
      wtm_at "wp"
      exact ⟨rfl, r, by exact lin1 (.t (.v 0) (.k 11) (.b (.v 0) (.k 14))) rfl hr, .inr hr, by wtm_at "lk1", by wtm_at "lk1", F1, K1⟩
  rintro f ρ1 σ1 ⟨rfl, r, hr, htp, l1, l2, F1, K1⟩
  show Stms _ _ _ _ _ _
  wtm_at "wp"
  wtm_at "w_sp" <;> rename_i c1
  · -- chars
    wtm_at "wp"
    refine ex_list ?_
    wtm_at "wp"
    intro la hla
    refine call_g ?_
    wtm_at "wp"
    refine Con.call ((w_law_next (m := 5) (F1.new hla) (by exact lin1 (.l (.v 0) (.k 990) (.g (.a (.v 0) (.k 1)) (.k 1000))) rfl ht) (by lia) fun r2 σ2 hr2 F2 K2 => ?_).less (by decide))
    obtain ⟨tx, htx, etx⟩ := five_texts hr2
    refine sub_lst (j := r2) (K2 _ _ (AH.put_self _ _ _) (by simpa using F1.ne hla)) rfl etx (by exact lin1 (.t (.v 0) (.k 5) (.b (.v 0) (.k 4611686018427387904))) rfl hr2) ?_
    wtm_at "wp"
    exact q (.pl (.chars tx)) σ2 (.chars htx) (by intro r hr; cases hr) (F2.less (by exact lin1 (.g (.a (.a (.v 0) (.k 1)) (.k 1)) (.a (.v 0) (.k 3))) rfl)) (K1.trans ((Kept.new hla).trans K2))
  wtm_at "wp"
  simp only [decide_eq_true_eq] at c1
  wtm_at "w_sp" <;> rename_i c2
  · -- signs
    simp only [decide_eq_true_eq] at c2
    wtm_at "wp"
    refine ex_list ?_
    wtm_at "wp"
    intro la hla
    wtm_at "wp"
    obtain ⟨k, ek, hk⟩ := three_kinds tp (j := r - 2) (by lia)
    refine sub_lst (j := r - 2) (AH.put_self _ _ _) (by lia) ek (by lia) ?_
    wtm_at "wp"
    refine ex_list ?_
    wtm_at "wp"
    intro lb hlb
    refine call_g ?_
    wtm_at "wp"
    refine Con.call ((w_law_next (m := 3) ((F1.new hla).new hlb) (by exact lin1 (.l (.v 0) (.k 990) (.g (.a (.v 0) (.k 1)) (.k 1000))) rfl ht) (by lia) fun r2 σ2 hr2 F2 K2 => ?_).less (by decide))
    obtain ⟨tx, htx, etx⟩ := three_texts hr2
    refine sub_lst (j := r2) (K2 _ _ (AH.put_self _ _ _) (by simpa using (F1.new hla).ne hlb)) rfl etx (by exact lin1 (.t (.v 0) (.k 3) (.b (.v 0) (.k 4611686018427387904))) rfl hr2) ?_
    wtm_at "wp"
    obtain ⟨p, hp, e1, e2⟩ := hk tx htx
    have := q (.pl p) σ2 hp (by intro r hr; cases hr) (F2.less (by exact lin1 (.g (.a (.a (.v 0) (.k 1)) (.k 1)) (.a (.v 0) (.k 3))) rfl)) (K1.trans ((Kept.new hla).trans ((Kept.new hlb).trans K2)))
    have e3 : (Nd.pl p).v = .tup [.str p.kind, p.told] := rfl
    rw [e3, e1, e2] at this
    exact this
  wtm_at "wp"
  simp only [decide_eq_true_eq] at c2
  wtm_at "w_sp" <;> rename_i c3
  · simp only [decide_eq_true_eq] at c3
    refine ite_t ?_
    wtm_at "wp"
    refine ex_list ?_
    wtm_at "wp"
    intro la hla
    wtm_at "wp"
    obtain ⟨k, ek, hk⟩ := count_kinds (tp := tp) (j := r - 5) (by left; lia)
    refine sub_lst (j := r - 5) (AH.put_self _ _ _) (by lia) ek (by lia) ?_
    wtm_at "wp"
    refine call_g ?_
    wtm_at "wp"
    refine Con.call ((w_law_next (m := 4) (F1.new hla) (by exact lin1 (.l (.v 0) (.k 990) (.g (.a (.v 0) (.k 1)) (.k 1000))) rfl ht) (by lia) fun r2 σ2 hr2 F2 K2 => ?_).less (by decide))
    wtm_at "wp"
    obtain ⟨p, hp, e1, e2⟩ := hk r2
    have := q (.pl p) σ2 hp (by intro r hr; cases hr) (F2.less (by exact lin1 (.g (.a (.a (.v 0) (.k 1)) (.k 1)) (.a (.v 0) (.k 3))) rfl)) (K1.trans ((Kept.new hla).trans K2))
    have e3 : (Nd.pl p).v = .tup [.str p.kind, p.told] := rfl
    rw [e3, e1, e2] at this
    exact this
  · simp only [decide_eq_true_eq] at c3
    wtm_at "wp"
    wtm_at "w_sp" <;> rename_i c4
    · simp only [decide_eq_true_eq] at c4
      have ht : tp = true := by
        rcases htp with h | h
        · exact h
        · lia
      refine ite_t ?_
      wtm_at "wp"
      refine ex_list ?_
      wtm_at "wp"
      intro la hla
      wtm_at "wp"
      obtain ⟨k, ek, hk⟩ := count_kinds (tp := tp) (j := r - 5) (by right; exact ⟨by lia, ht⟩)
      refine sub_lst (j := r - 5) (AH.put_self _ _ _) (by lia) ek (by lia) ?_
      wtm_at "wp"
      refine call_g ?_
      wtm_at "wp"
      refine Con.call ((w_law_next (m := 4) (F1.new hla) (by exact lin1 (.l (.v 0) (.k 990) (.g (.a (.v 0) (.k 1)) (.k 1000))) rfl (by assumption)) (by lia) fun r2 σ2 hr2 F2 K2 => ?_).less (by decide))
      wtm_at "wp"
      obtain ⟨p, hp, e1, e2⟩ := hk r2
      have := q (.pl p) σ2 hp (by intro r hr; cases hr) (F2.less (by exact lin1 (.g (.a (.a (.v 0) (.k 1)) (.k 1)) (.a (.v 0) (.k 3))) rfl)) (K1.trans ((Kept.new hla).trans K2))
      have e3 : (Nd.pl p).v = .tup [.str p.kind, p.told] := rfl
      rw [e3, e1, e2] at this
      exact this
    · simp only [decide_eq_true_eq] at c4
      wtm_at "wp"
      wtm_at "w_sp" <;> rename_i c5
      · have c5 : (r : Int) = 11 := by simpa using c5
        have ht : tp = true := by
          rcases htp with h | h
          · exact h
          · lia
        wtm_at "wp"
        refine call_c (C_NameRef).2.2.1 ?_
        wtm_at "wp"
        refine Con.call (con_ref fun rd hrd => ?_)
        wtm_at "wp"
        have hrs : RefsAt (σ1.put rd (.dict (refD "Q"))) (Nd.cursor (rd, "Q")).refs := by
          intro r hr
          have e : (Nd.cursor (rd, "Q")).refs = [((rd, "Q") : Ref)] := rfl
          rw [e, List.mem_singleton] at hr
          subst hr; exact AH.put_self _ _ _
        exact q (.cursor (rd, "Q")) _ (.cursor ht) hrs ((F1.new hrd).less (by exact lin1 (.g (.a (.v 0) (.k 1)) (.a (.v 0) (.k 3))) rfl)) (K1.trans (Kept.new hrd))
      · have c5 : ¬ (r : Int) = 11 := by simpa using c5
        wtm_at "wp"
        refine ex_list ?_
        wtm_at "wp"
        intro la hla
        wtm_at "wp"
        obtain ⟨n, hn, er, en⟩ := rest_kinds tp (j := r - 8) (by lia)
        refine sub_lst (j := r - 8) (AH.put_self _ _ _) (by lia) en (by lia) ?_
        exact q n _ hn (by rw [er]; intro r hr; cases hr) ((F1.new hla).less (by exact lin1 (.g (.a (.v 0) (.k 1)) (.a (.v 0) (.k 3))) rfl)) (K1.trans (Kept.new hla))
end
end
section
open PySem PySem.W PyProof.Rows PySem.Calls
set_option tactic.hygienic false
theorem RefsAt.append {σ : AH} {l m : List Ref} (h : RefsAt σ l) (h' : RefsAt σ m) : RefsAt σ (l ++ m) := fun r hr => by
  rcases List.mem_append.mp hr with z | z
  · exact h r z
  · exact h' r z
theorem nm_kinds {j : Nat} (h : j < 2) : ∃ b k, ([.str "now", .str "later"] : List V)[j]? = some (.str k) ∧ ∀ n r, (Nd.nm b n r).v = .tup [.str k, n.v, refV r] := by
  have : j = 0 ∨ j = 1 := by lia
  rcases this with rfl | rfl
  · exact ⟨true, "now", rfl, fun _ _ => rfl⟩
  · exact ⟨false, "later", rfl, fun _ _ => rfl⟩
theorem two_kinds {j : Nat} (h : j < 2) (tp : Bool) (d : Nat) : ∃ k, ([.str "cat", .str "alt"] : List V)[j]? = some (.str k) ∧ ∀ x y, NodeOk tp d x → NodeOk tp d y → ∃ n, NodeOk tp (d + 1) n ∧ n.refs = x.refs ++ y.refs ∧ n.v = .tup [.str k, x.v, y.v] := by
  have : j = 0 ∨ j = 1 := by lia
  rcases this with rfl | rfl
  · exact ⟨"cat", rfl, fun x y hx hy => ⟨.cat x y, .cat hx hy, rfl, rfl⟩⟩
  · exact ⟨"alt", rfl, fun x y hx hy => ⟨.alt x y, .alt hx hy, rfl, rfl⟩⟩
theorem two_names {j : Nat} (h : j < 2) : ∃ d : Nat, ((("PQ" : Str)).cps.toList[j]? = some d) ∧ ((⟨#[d]⟩ : Str) = "P" ∨ (⟨#[d]⟩ : Str) = "Q") := by
  have : j = 0 ∨ j = 1 := by lia
  rcases this with rfl | rfl
  · exact ⟨80, by decide, .inl (by decide)⟩
  · exact ⟨81, by decide, .inr (by decide)⟩
theorem fmod_two (r : Nat) : ∃ j : Nat, j < 2 ∧ ((r : Int)).fmod 2 = (j : Int) := mod_range (a := (r : Int)) (m := 2) (by decide)
section

set_option tactic.hygienic true
theorem w_law_node {fa : Addr} {tp : Bool} : ∀ (d : Nat) {σ : AH} {Q : V → AH → Prop} {t : Nat}, Feed σ fa t → t + 20 * (d + 1) * (d + 1) ≤ 900 → d ≤ 2 →
    (∀ (n : Nd) σ', NodeOk tp d n → RefsAt σ' n.refs → Feed σ' fa (t + (5 * 2 ^ d - 1)) → Kept σ σ' [fa] → Q n.v σ') → Con (d + 4) (.ref 663) [.lst fa, .int d, .bool tp] σ Q
  | 0, σ, Q, t, F, ht, hd, q => by
    refine con_fn (F_law_node) rfl fun L => ?_
    wtm_at "w_in"
    (refine ss_cons (st_asn ?_ rfl rfl))
    wtm_at "wp"
    refine call_g ?_
    wtm_at "wp"
    refine Con.call ((w_law_leaf F (by exact lin2 (.l (.a (.v 0) (.v 1)) (.k 900) (.g (.v 0) (.k 990))) rfl ht) fun n σ' h1 h2 h3 h4 => ?_).less (by decide))
    exact q n σ' (.leaf h1) h2 (h3.less (by lia)) h4
  | d + 1, σ, Q, t, F, ht, hd, q => by
    have hd1 : d = 0 ∨ d = 1 := by lia
    have pow : 5 * 2 ^ (d + 1) = 10 * 2 ^ d := by rw [Nat.pow_succ]; exact Nat.le_antisymm (lin1 (.g (.m 5 (.w (.v 0) 2)) (.m 10 (.v 0))) rfl) (lin1 (.g (.m 10 (.v 0)) (.m 5 (.w (.v 0) 2))) rfl)
    have hb : t + 1 + 5 * 2 ^ d + 20 * (d + 1) * (d + 1) ≤ 900 := by rcases hd1 with rfl | rfl <;> (simp at ht ⊢; first | exact lin1 (.l (.v 0) (.k 820) (.g (.v 0) (.k 874))) rfl ht | exact lin1 (.l (.v 0) (.k 720) (.g (.v 0) (.k 809))) rfl ht)
    have hpos : 1 ≤ 2 ^ d := Nat.one_le_two_pow
    rw [pow] at q
    refine con_fn (F_law_node) rfl fun L => ?_
    wtm_at "w_in"
    (refine ss_cons (st_asn ?_ rfl rfl))
    wtm_at "wp"
    try refine ite_tt (by simp) ?_
    refine call_g ?_
    wtm_at "wp"
    refine Con.call ((w_law_next (m := 9) F (by exact lin2 (.l (.a (.v 0) (.v 1)) (.k 900) (.g (.v 0) (.k 1000))) rfl ht) (by lia) fun r σ1 hr F1 K1 => ?_).less (by exact lin1 (.g (.k 1) (.a (.v 0) (.k 4))) rfl))
    wtm_at "wp"
    wtm_at "w_sp" <;> rename_i c1
    · wtm_at "wp"
      refine call_g ?_
      wtm_at "wp"
      refine Con.call ((w_law_leaf F1 (by exact lin2 (.l (.a (.v 0) (.v 1)) (.k 900) (.g (.a (.v 0) (.k 1)) (.k 990))) rfl ht) fun n σ' h1 h2 h3 h4 => ?_).less (by exact lin1 (.g (.k 3) (.a (.v 0) (.k 4))) rfl))
      exact q n σ' (.leaf h1) h2 (h3.less (by lia)) (K1.trans h4)
    · simp only [decide_eq_true_eq] at c1
      have ed : (((d + 1 : Nat) : Int)) - 1 = (d : Int) := by lia
      wtm_at "wp"
      (refine st_asn ?_ rfl rfl)
      refine call_g ?_
      wtm_at "wp"
      rw [ed]
      refine Con.call (w_law_node d F1 (by lia) (by exact lin1 (.l (.a (.v 0) (.k 1)) (.k 2) (.g (.v 0) (.k 2))) rfl hd) fun n σ2 h1 h2 F2 K2 => ?_)
      wtm_at "wp"
      wtm_at "w_sp" <;> rename_i c2
      · wtm_at "wp"
        exact q (.arbno n) σ2 (.arbno h1) h2 (F2.less (by lia)) (K1.trans K2)
      · have c2 : ¬ (r : Int) = 8 := by simpa using c2
        wtm_at "wp"
        wtm_at "w_sp" <;> rename_i c3
        · simp only [decide_eq_true_eq] at c3
          wtm_at "wp"
          refine ex_list ?_
          wtm_at "wp"
          intro la hla
          wtm_at "wp"
          obtain ⟨b, k, ek, hk⟩ := nm_kinds (j := r - 6) (by lia)
          refine sub_lst (j := r - 6) (AH.put_self _ _ _) (by lia) ek (by lia) ?_
          wtm_at "wp"
          refine call_c (C_NameRef).2.2.1 ?_
          wtm_at "wp"
          refine call_g ?_
          wtm_at "wp"
          refine Con.call ((w_law_next (m := 2) (F2.new hla) (by lia) (by lia) fun r2 σ3 hr2 F3 K3 => ?_).less (by exact lin1 (.g (.k 1) (.a (.v 0) (.k 4))) rfl))
          obtain ⟨dd, ed, hdd⟩ := two_names hr2
          refine sub_str (j := r2) rfl ed (by exact lin1 (.t (.v 0) (.k 2) (.b (.v 0) (.k 4611686018427387904))) rfl hr2) ?_
          wtm_at "wp"
          refine Con.call ((con_ref fun rd hrd => ?_).less (by exact lin1 (.g (.k 2) (.a (.v 0) (.k 4))) rfl))
          wtm_at "wp"
          have K13 : Kept σ2 σ3 [fa] := (Kept.new hla).trans K3
          have := q (.nm b n (rd, ⟨#[dd]⟩)) (σ3.put rd (.dict (refD ⟨#[dd]⟩))) (.nm h1 hdd) (by
            intro r' hr'
            have e : (Nd.nm b n ((rd, ⟨#[dd]⟩) : Ref)).refs = ((rd, ⟨#[dd]⟩) : Ref) :: n.refs := rfl
            rw [e] at hr'
            rcases List.mem_cons.mp hr' with z | z
            · subst z; exact AH.put_self _ _ _
            · have h3 := h2.kept F2 K13 r' z
              rw [AH.put_ne _ _ (by exact ne_sn h3 hrd)]; exact h3) ((F3.new hrd).less (by lia)) (((K1.trans K2).trans K13).trans (Kept.new hrd))
          rw [hk] at this
          exact this
        · simp only [decide_eq_true_eq] at c3
          wtm_at "wp"
          refine ex_list ?_
          wtm_at "wp"
          intro la hla
          wtm_at "wp"
          refine op_mod (by decide) ?_
          obtain ⟨j, hj, ej⟩ := fmod_two r
          rw [ej]
          obtain ⟨k, ek, hk⟩ := two_kinds hj tp d
          refine sub_lst (j := j) (AH.put_self _ _ _) rfl ek (by exact lin1 (.t (.v 0) (.k 2) (.b (.v 0) (.k 4611686018427387904))) rfl hj) ?_
          wtm_at "wp"
          refine call_g ?_
          wtm_at "wp"
          rw [ed]
          refine Con.call (w_law_node d (F2.new hla) (by lia) (by exact lin1 (.l (.a (.v 0) (.k 1)) (.k 2) (.g (.v 0) (.k 2))) rfl hd) fun n2 σ3 h3 h4 F3 K3 => ?_)
          wtm_at "wp"
          have K13 : Kept σ2 σ3 [fa] := (Kept.new hla).trans K3
          obtain ⟨m, hm, er, em⟩ := hk n n2 h1 h3
          have := q m σ3 hm (by rw [er]; exact (h2.kept F2 K13).append h4) (F3.less (by lia)) ((K1.trans K2).trans K13)
          rw [em] at this
          exact this
set_option tactic.hygienic false
noncomputable def hasR : Nd → Bool
  | .cat a b => hasR a || hasR b
  | .alt a b => hasR a || hasR b
  | .arbno _ => true
  | .nm _ a _ => hasR a
  | _ => false
theorem pl_facts (p : Pl) : ([("cat" : Str), "alt"].contains p.kind) = false ∧ (p.kind == ("arbno" : Str)) = false ∧ ([("later" : Str), "now"].contains p.kind) = false := by
  cases p <;> (dsimp only [Pl.kind]; decide)
end
end
section
open PySem PySem.W PyProof.Rows PySem.Calls
section

theorem has_args (n : Nd) : ((([("cat" : Str), "alt"].contains n.kind) = true ∧ ∃ a b, n.args = [a.v, b.v] ∧ hasR n = (hasR a || hasR b) ∧ a.size < n.size ∧ b.size < n.size)) ∨
    (([("cat" : Str), "alt"].contains n.kind) = false ∧ ((n.kind == ("arbno" : Str)) = true ∧ hasR n = true)) ∨
    (([("cat" : Str), "alt"].contains n.kind) = false ∧ (n.kind == ("arbno" : Str)) = false ∧ ([("later" : Str), "now"].contains n.kind) = true ∧ ∃ a r, n.args = [a.v, r] ∧ hasR n = hasR a ∧ a.size < n.size) ∨
    (([("cat" : Str), "alt"].contains n.kind) = false ∧ (n.kind == ("arbno" : Str)) = false ∧ ([("later" : Str), "now"].contains n.kind) = false ∧ hasR n = false) := by
  cases n with
  | cat a b => exact .inl ⟨by dsimp only [Nd.kind]; decide, a, b, rfl, rfl, by simp [Nd.size]; exact lin2 (.b (.v 0) (.a (.a (.v 0) (.v 1)) (.k 1))) rfl, by simp [Nd.size]; exact lin2 (.b (.v 0) (.a (.a (.v 1) (.v 0)) (.k 1))) rfl⟩
  | alt a b => exact .inl ⟨by dsimp only [Nd.kind]; decide, a, b, rfl, rfl, by simp [Nd.size]; exact lin2 (.b (.v 0) (.a (.a (.v 0) (.v 1)) (.k 1))) rfl, by simp [Nd.size]; exact lin2 (.b (.v 0) (.a (.a (.v 1) (.v 0)) (.k 1))) rfl⟩
  | arbno a => exact .inr (.inl ⟨by dsimp only [Nd.kind]; decide, by dsimp only [Nd.kind]; decide, rfl⟩)
  | nm b a r => cases b <;> exact .inr (.inr (.inl ⟨by dsimp only [Nd.kind]; decide, by dsimp only [Nd.kind]; decide, by dsimp only [Nd.kind]; decide, a, _, rfl, rfl, by simp [Nd.size]⟩))
  | pl p => exact .inr (.inr (.inr ⟨(pl_facts p).1, (pl_facts p).2.1, (pl_facts p).2.2, rfl⟩))
  | _ => exact .inr (.inr (.inr ⟨by dsimp only [Nd.kind]; decide, by dsimp only [Nd.kind]; decide, by dsimp only [Nd.kind]; decide, rfl⟩))
theorem w_has_rounds : ∀ (k : Nat) (n : Nd) {σ : AH} {Q : V → AH → Prop}, n.size ≤ k → Q (.bool (hasR n)) σ → Con (k + 1) (.ref 670) [n.v] σ Q
  | 0, n, σ, Q, h, q => by have := n.size_pos; exact False.elim (lin1 (.t (.k 0) (.v 0) (.l (.v 0) (.k 0) (.z))) rfl this h)
  | k + 1, n, σ, Q, h, q => by
    rw [n.v_eq]
    refine con_fn (F_law_has_rounds) rfl fun L => ?_
    wtm_at "w_in"
    wtm_at "wp"
    refine cmp_in_tup (l := ["cat", "alt"]) ?_
    rcases has_args n with ⟨h1, a, b, ea, er, ha, hb⟩ | ⟨h1, h2, er⟩ | ⟨h1, h2, h3, a, r, ea, er, ha⟩ | ⟨h1, h2, h3, er⟩
    · rw [er] at q
      rw [ea]
      wtm_at "wp"
      try refine ite_tt h1 ?_
      wtm_at "wp"
      refine ex_bool_op ?_
      refine boolv_cons ?_
      refine call_g ?_
      wtm_at "wp"
      refine Con.call (w_has_rounds k a (by exact lin3 (.t (.v 0) (.v 1) (.l (.v 1) (.a (.v 2) (.k 1)) (.g (.v 0) (.v 2)))) rfl ha h) ?_)
      wtm_at "wp"
      cases ha : hasR a with
      | true =>
        refine (if_pos rfl).mpr ?_
        rw [ha] at q
        exact q
      | false =>
        refine (if_neg (by decide)).mpr ?_
        refine boolv_one ?_
        refine call_g ?_
        wtm_at "wp"
        rw [ha] at q
        exact Con.call (w_has_rounds k b (by exact lin3 (.t (.v 0) (.v 1) (.l (.v 1) (.a (.v 2) (.k 1)) (.g (.v 0) (.v 2)))) rfl hb h) q)
    · wtm_at "wp"
      try refine ite_ff h1 ?_
      wtm_at "wp"
      refine ex_bool_op ?_
      refine boolv_cons ?_
      wtm_at "wp"
      rw [h2]
      wtm_at "wp"
      refine (if_pos rfl).mpr ?_
      rw [er] at q
      exact q
    · rw [ea]
      wtm_at "wp"
      try refine ite_ff h1 ?_
      wtm_at "wp"
      refine ex_bool_op ?_
      refine boolv_cons ?_
      wtm_at "wp"
      rw [h2]
      wtm_at "wp"
      refine (if_neg (by decide)).mpr ?_
      refine boolv_one ?_
      refine ex_bool_op ?_
      refine boolv_cons ?_
      wtm_at "wp"
      refine cmp_in_tup (l := ["later", "now"]) ?_
      rw [h3]
      wtm_at "wp"
      refine (if_neg (by decide)).mpr ?_
      refine boolv_one ?_
      refine call_g ?_
      wtm_at "wp"
      rw [er] at q
      exact Con.call (w_has_rounds k a (by exact lin3 (.t (.v 0) (.v 1) (.l (.v 1) (.a (.v 2) (.k 1)) (.g (.v 0) (.v 2)))) rfl ha h) q)
    · wtm_at "wp"
      try refine ite_ff h1 ?_
      wtm_at "wp"
      refine ex_bool_op ?_
      refine boolv_cons ?_
      wtm_at "wp"
      rw [h2]
      wtm_at "wp"
      refine (if_neg (by decide)).mpr ?_
      refine boolv_one ?_
      refine ex_bool_op ?_
      refine boolv_cons ?_
      wtm_at "wp"
      refine cmp_in_tup (l := ["later", "now"]) ?_
      rw [h3]
      wtm_at "wp"
      refine (if_pos rfl).mpr ?_
      rw [er] at q
      exact q
variable {σ : AH} {Q : V → AH → Prop}
theorem ex_dict_PQ {n : Nat} {env : Env} {ρ : Loc} {Q : V → Loc → AH → Prop} {x y : Str} {a b p1 p2 p3 p4 pos : _} (q : ∀ d, σ d = none → Q (.dct d) ρ (σ.put d (.dict [("P", .str x), ("Q", .str y)]))) :
    Ex n env (.Dict [some (.Constant (.str "P") a p1), some (.Constant (.str "Q") b p2)] [.Constant (.str x) 0 p3, .Constant (.str y) 0 p4] pos) ρ σ Q := fun A s hA S F _ => by
  refine wpAny_Dict_pairs (knd := strKind c.prog c.w) (pairs := [(eval (.Constant (.str "P") a p1) env, do let z ← eval (.Constant (.str x) 0 p3) env; PySem.standAt pos; Pure.pure z), (eval (.Constant (.str "Q") b p2) env, do let z ← eval (.Constant (.str y) 0 p4) env; PySem.standAt pos; Pure.pure z)]) (by rfl) (by simp) (by simp) ?_
  refine evalPairs_cons (Constant_str (wpAny_bind (Constant_str (wpAny_bind (wpAny_standAt (wpAny_pure ?_))))))
  refine evalPairs_cons (Constant_str (wpAny_bind (Constant_str (wpAny_bind (wpAny_standAt (wpAny_pure ?_))))))
  refine evalPairs_nil ?_
  refine ⟨[("P", _), ("Q", _)], ⟨rfl, rfl, rfl, rfl, trivial⟩, Heap.DictOf.new _, fun h' hd sb => ?_⟩
  have kp : ∀ b o, s.heap.get? b = some o → h'.get? b = some o := fun b o e => (sb.2 b (Nat.ne_of_lt (Heap.lt_size e))).trans (push_keeps _ b o e)
  have hd2 : h'.DictOf (strKind c.prog c.w) s.heap.objs.size [("P", _), ("Q", _)] := hd
  refine Post.new (s := s) S F kp ?_ (Nat.le_refl _) (.dict hd2 (.cons (.str _ _) (.cons (.str _ _) .nil))) (.dct _) (q _ ?_)
  · obtain ⟨o, _, _, e, _⟩ := hd2; exact Nat.le_of_lt (Heap.lt_size e)
  · cases z : σ s.heap.objs.size with
    | none => rfl
    | some ao => obtain ⟨ob, e1, _⟩ := (S.objs _ _ z).at; exact absurd (Heap.lt_size e1) (Nat.lt_irrefl _)
set_option tactic.hygienic true
theorem w_host_init {d av ar : Addr} {lim : Int} (hd : σ d = some (.dict [])) (q : ∀ al, σ al = none → Q .none ((σ.put al (.list [])).put d (.dict (hostD av ar al 0 lim)))) : Con 1 (.ref 495) [.inst 519 d, .dct av, .int lim, .lst ar] σ Q := by
  have co := (C_PlainHost).1
  refine con_fn (F_PlainHost_init) rfl fun L => ?_
  wtm_at "w_in"
  (refine ss_cons (st_assign ?_))
  wtm_at "wp"
  refine asg_attr ?_
  wtm_at "wp"
  refine st_attr co (L_PlainHost_values) hd (by simp) ?_
  wtm_at "wp"
  (refine st_assign ?_)
  wtm_at "wp"
  refine asg_attr ?_
  wtm_at "wp"
  refine st_attr co (L_PlainHost_limit) (AH.put_self _ _ _) (Nat.le_of_ble_eq_true rfl) ?_
  rw [AH.put_put]
  wtm_at "wp"
  (refine st_assign ?_)
  wtm_at "wp"
  refine asg_attr ?_
  wtm_at "wp"
  refine st_attr co (L_PlainHost_refused) (AH.put_self _ _ _) (Nat.le_of_ble_eq_true rfl) ?_
  rw [AH.put_put]
  wtm_at "wp"
  (refine st_assign ?_)
  wtm_at "wp"
  refine asg_attr ?_
  wtm_at "wp"
  refine st_attr co (L_PlainHost_width) (AH.put_self _ _ _) (Nat.le_of_ble_eq_true rfl) ?_
  rw [AH.put_put]
  wtm_at "wp"
  (refine st_assign ?_)
  wtm_at "wp"
  refine asg_attr ?_
  wtm_at "wp"
  refine st_attr co (L_PlainHost_steps) (AH.put_self _ _ _) (Nat.le_of_ble_eq_true rfl) ?_
  rw [AH.put_put]
  wtm_at "wp"
  (refine st_assign ?_)
  refine ex_list ?_
  wtm_at "wp"
  intro al hal
  have nd : d ≠ al := fun z => by rw [z, AH.put_self] at hal; cases hal
  refine asg_attr ?_
  wtm_at "wp"
  refine st_attr co (L_PlainHost_log) (by rw [AH.put_ne _ _ nd]; exact AH.put_self _ _ _) (Nat.le_of_ble_eq_true rfl) ?_
  have e : ∀ o1 o2 o3, ((σ.put d o1).put al o2).put d o3 = (σ.put al o2).put d o3 := fun o1 o2 o3 => by
    funext b; unfold AH.put; by_cases h : b = d <;> simp [h]
  rw [e]
  wtm_at "wp"
  exact q al (AH.none_of_put hal)
set_option tactic.hygienic false
noncomputable def h0S : HS := ⟨[("P", .str "a"), ("Q", .str "")], [], 0⟩
set_option tactic.hygienic true
theorem w_law_host {refs : List Ref} (R : RefsAt σ refs) (q : ∀ d av ar al σ', σ d = none → σ av = none → σ ar = none → σ al = none → Hst σ' d av ar al refs 99999 h0S → Kept σ σ' [] → Q (.inst 519 d) σ') : Con 3 (.ref 682) [] σ Q := by
  have co := C_PlainHost
  refine con_fn (F_law_host) rfl fun L => ?_
  wtm_at "w_in"
  wtm_at "wp"
  refine call_c co.2.2.1 ?_
  refine exs_cons ?_ rfl
  refine ex_dict_PQ ?_
  intro av hav
  wtm_at "wp"
  refine ex_list ?_
  wtm_at "wp"
  intro ar har
  wtm_at "wp"
  refine Con.call (con_cls co.2.1 (L_PlainHost_init) (M_PlainHost_init).1 fun d hd => w_host_init (AH.put_self _ _ _) fun al hal => ⟨rfl, ?_⟩)
  have n1 : d ≠ al := fun z => by rw [z, AH.put_self] at hal; cases hal
  have hal1 := AH.none_of_put hal
  have n2 : ar ≠ al := fun z => by rw [z, AH.put_self] at hal1; cases hal1
  have n3 : ar ≠ d := fun z => by rw [z, AH.put_self] at hd; cases hd
  have hal2 := AH.none_of_put hal1
  have hd2 := AH.none_of_put hd
  have n4 : av ≠ al := fun z => by rw [z, AH.put_self] at hal2; cases hal2
  have n5 : av ≠ d := fun z => by rw [z, AH.put_self] at hd2; cases hd2
  have n6 : av ≠ ar := fun z => by rw [z, AH.put_self] at har; cases har
  have e : ∀ o1 o2 o3, ((((σ.put av o1).put ar o2).put d o3).put al (.list [])).put d (.dict (hostD av ar al 0 99999)) = (((σ.put av o1).put ar o2).put al (.list [])).put d (.dict (hostD av ar al 0 99999)) := fun o1 o2 o3 => by
    funext b; unfold AH.put; by_cases h : b = d <;> simp [h]
  rw [e]
  have hav0 : σ av = none := hav
  have har0 := AH.none_of_put har
  have hd0 := AH.none_of_put hd2
  have hal0 := AH.none_of_put hal2
  have K : Kept σ ((((σ.put av (.dict [("P", .str "a"), ("Q", .str "")])).put ar (.list [])).put al (.list [])).put d (.dict (hostD av ar al 0 99999))) [] := (((Kept.new hav0).put0 har0).put0 hal0).put0 hd0
  refine q d av ar al _ hd0 hav0 har0 hal0 ⟨⟨AH.put_self _ _ _, ?_, ?_, ?_⟩, fun r hr => K _ _ (R r hr) (by exact nn), ?_, fun r hr => ?_⟩ K
  · rw [AH.put_ne _ _ n5, AH.put_ne _ _ n4, AH.put_ne _ _ n6]; exact AH.put_self _ _ _
  · rw [AH.put_ne _ _ n3, AH.put_ne _ _ n2]; exact AH.put_self _ _ _
  · rw [AH.put_ne _ _ n1.symm]; exact AH.put_self _ _ _
  · simp only [List.nodup_cons, List.mem_cons, List.not_mem_nil, or_false, not_or, List.nodup_nil, and_true, not_false_eq_true]
    exact ⟨⟨n5.symm, n3.symm, n1⟩, ⟨n6, n4⟩, n2⟩
  · have h := R r hr
    (refine nin4.mpr ?_)
    exact ⟨(by exact ne_sn h hd0), (by exact ne_sn h hav0), (by exact ne_sn h har0), (by exact ne_sn h hal0)⟩
end
end
section
open PySem PySem.W PyProof.Rows PySem.Calls
set_option tactic.hygienic false
noncomputable def toldL (n : Named) : List V := n.map fun p => .tup [.str p.1.2, .str p.2]
section
variable {σ : AH} {Q : V → AH → Prop}
theorem w_told_none {al : Addr} {st ls : Int} (q : Q (.tup [.none, .lst al, .int st]) σ) : Con 1 (.ref 675) [.none, .lst al, .int st, .int ls] σ Q := by
  refine con_fn (F_law_told) rfl fun L => ?_
  wtm_at "w_in"
  wtm_at "wp"
  refine isnot_none ?_
  wtm_at "wp"
  exact q
theorem w_told_some {al x : Addr} {st : Int} {b a ls : Nat} {n : Named} (hx : σ x = some (.list (namedL n))) (hn : n.length ≤ 100000) (hr : ∀ p ∈ n, σ p.1.1 = some (.dict (refD p.1.2)))
    (q : ∀ y σ', σ y = none → σ' y = some (.list (toldL n)) → Kept σ σ' [] → Q (.tup [.tup [.int ((b : Int) - ls), .int ((a : Int) - ls), .lst y], .lst al, .int st]) σ') : Con 1 (.ref 675) [.tup [.int b, .int a, .lst x], .lst al, .int st, .int ls] σ Q := by
  have cr := (C_NameRef).1
  refine con_fn (F_law_told) rfl fun L => ?_
  wtm_at "w_in"
  wtm_at "wp"
  refine isnot_none ?_
  wtm_at "wp"
  wtm_at "w_t"
  wtm_at "wp"
  (refine st_asn ?_ rfl rfl)
  wtm_at "wp"
  refine ex_listcomp (cl := []) (closureFor_none (by decide)) (by decide) rfl (by decide) (fun _ h => nomatch h) (by decide) (fun _ _ h => nomatch h) ?_ (hr := rule_tuple)
  wtm_at "wp"
  refine ⟨_, _, [], iter_lst hx, (fun _ _ h => nomatch h), fun C => ?_⟩
  refine compj_inv (fun vs acc ρ σ' => ∃ ds rs : Named, n = ds ++ rs ∧ vs = namedL rs ∧ acc = toldL ds ∧ σ' = σ) ?_ ?_ ?_ _ _ _ _ ⟨[], n, rfl, rfl, rfl, rfl⟩
  · rintro vs acc ρ σ' ⟨ds, rs, e1, e2, e3, rfl⟩
    exact hx
  · rintro v vs acc ρ σ' ⟨ds, rs, e1, e2, e3, rfl⟩
    cases rs with
    | nil => cases e2
    | cons p rs =>
      have e2 : v :: vs = .tup [refV p.1, .str p.2] :: namedL rs := e2
      rw [List.cons.injEq] at e2
      obtain ⟨rfl, rfl⟩ := e2
      have hacc : acc.length ≤ 1000000 := by rw [e3]; have := congrArg List.length e1; simp [toldL] at this ⊢; exact lin3 (.f (.v 0) (.a (.v 1) (.a (.v 2) (.k 1))) (.l (.v 0) (.k 100000) (.g (.v 1) (.k 1000000)))) rfl this hn
      wtm_at "wp"
      refine op_attr cr (L_NameRef_key) (hr p (by rw [e1]; simp)) (v := .str p.1.2) rfl (vk_str _) ?_
      wtm_at "wp"
      exact ⟨hacc, (fun _ h => nomatch h), ds ++ [p], rs, by rw [e1]; simp, rfl, by rw [e3]; simp [toldL], rfl⟩
  · rintro acc ρ σ' ⟨ds, rs, e1, e2, e3, rfl⟩ D hD
    have : rs = [] := by cases rs with | nil => rfl | cons p rs => cases e2
    subst this
    rw [List.append_nil] at e1
    subst e1
    wtm_at "wp"
    exact q D _ hD (by rw [AH.put_self, e3]) (Kept.new hD)
end
end
section
open PySem PySem.W PyProof.Rows PySem.Calls
noncomputable def sumTo (f : Nat → Nat) : Nat → Nat
  | 0 => f 0
  | m + 1 => f (m + 1) + sumTo f m
theorem sumTo_mono {f g : Nat → Nat} : ∀ m, (∀ x, x ≤ m → f x ≤ g x) → sumTo f m ≤ sumTo g m
  | 0, h => h 0 (Nat.le_refl _)
  | m + 1, h => Nat.add_le_add (h _ (Nat.le_refl _)) (sumTo_mono m fun x hx => h x (by exact lin2 (.l (.v 0) (.v 1) (.g (.v 0) (.a (.v 1) (.k 1)))) rfl hx))
theorem le_sumTo {f : Nat → Nat} : ∀ {m x : Nat}, x ≤ m → f x ≤ sumTo f m
  | 0, x, h => by have : x = 0 := by exact Nat.le_antisymm (lin1 (.l (.v 0) (.k 0) (.g (.v 0) (.k 0))) rfl h) (lin1 (.g (.k 0) (.v 0)) rfl)
                  subst this; exact Nat.le_refl _
  | m + 1, x, h => by
    show f x ≤ f (m + 1) + sumTo f m
    by_cases q : x = m + 1
    · subst q; exact lin2 (.g (.v 0) (.a (.v 0) (.v 1))) rfl
    · have := le_sumTo (f := f) (m := m) (x := x) (by lia -abstractProof); exact lin3 (.l (.v 0) (.v 1) (.g (.v 0) (.a (.v 2) (.v 1)))) rfl this
noncomputable def leafB (m : Nat) (k : Nat → Nat) : Nat := sumTo (fun x => 2 + k x) m + 4
noncomputable def arF (p : Nat → (Nat → Nat) → Nat) (k : Nat → Nat) : Nat → Nat → Nat
  | 0, _ => 0
  | f + 1, m => 4 + k m + p m (fun x => 2 + (if x < m then arF p k f x else 0))
noncomputable def cB : Nd → Nat → (Nat → Nat) → Nat
  | .cat a b, m, k => 1 + cB a m (fun x => cB b x k)
  | .alt a b, m, k => 1 + cB a m (fun x => 1 + k x) + cB b m k
  | .arbno a, m, k => arF (cB a) k (m + 1) m
  | .nm _ a _, m, k => 1 + cB a m (fun x => 1 + k x)
  | _, m, k => leafB m k
def MonoF (p : Nat → (Nat → Nat) → Nat) : Prop := ∀ (m : Nat) (k k' : Nat → Nat), (∀ x, x ≤ m → k x ≤ k' x) → p m k ≤ p m k'
theorem arF_mono {p q : Nat → (Nat → Nat) → Nat} (hp : MonoF p) (hq : ∀ m k, p m k ≤ q m k) {k k' : Nat → Nat} : ∀ f m, (∀ x, x ≤ m → k x ≤ k' x) → arF p k f m ≤ arF q k' f m
  | 0, _, _ => Nat.le_refl _
  | f + 1, m, h => by
    show 4 + k m + p m _ ≤ 4 + k' m + q m _
    have h1 := h m (Nat.le_refl _)
    have h2 : p m (fun x => 2 + (if x < m then arF p k f x else 0)) ≤ p m (fun x => 2 + (if x < m then arF q k' f x else 0)) := hp _ _ _ fun x hx => by
      by_cases q : x < m
      · simp only [if_pos q]
        have := arF_mono hp hq f x (k := k) (k' := k') fun y hy => h y (by exact lin3 (.t (.v 0) (.v 1) (.l (.v 2) (.v 0) (.g (.v 2) (.v 1)))) rfl q hy)
        exact lin2 (.l (.v 0) (.v 1) (.g (.a (.k 2) (.v 0)) (.a (.k 2) (.v 1)))) rfl this
      · simp only [if_neg q]; lia -abstractProof
    have h3 := hq m (fun x => 2 + (if x < m then arF q k' f x else 0))
    exact lin5 (.l (.v 0) (.v 1) (.l (.v 2) (.v 3) (.l (.v 4) (.v 0) (.g (.a (.a (.k 4) (.v 2)) (.v 4)) (.a (.a (.k 4) (.v 3)) (.v 1)))))) rfl h3 h1 h2
theorem leafB_mono : MonoF leafB := fun m k k' h => by
  unfold leafB
  have := sumTo_mono (f := fun x => 2 + k x) (g := fun x => 2 + k' x) m fun x hx => by have := h x hx; exact lin2 (.l (.v 0) (.v 1) (.g (.a (.k 2) (.v 0)) (.a (.k 2) (.v 1)))) rfl this
  exact lin2 (.l (.v 0) (.v 1) (.g (.a (.v 0) (.k 4)) (.a (.v 1) (.k 4)))) rfl this
theorem cB_mono : ∀ n : Nd, MonoF (cB n) := by
  intro n
  induction n with
  | cat a b iha ihb => exact fun m k k' h => Nat.add_le_add_left (iha m _ _ fun x hx => ihb x _ _ fun y hy => h y (by exact lin3 (.l (.v 0) (.v 1) (.l (.v 1) (.v 2) (.g (.v 0) (.v 2)))) rfl hy hx)) 1
  | alt a b iha ihb =>
    intro m k k' h
    show 1 + cB a m _ + cB b m k ≤ 1 + cB a m _ + cB b m k'
    have h1 := iha m (fun x => 1 + k x) (fun x => 1 + k' x) fun x hx => by have := h x hx; exact lin2 (.l (.v 0) (.v 1) (.g (.a (.k 1) (.v 0)) (.a (.k 1) (.v 1)))) rfl this
    have h2 := ihb m k k' h
    exact lin4 (.l (.v 0) (.v 1) (.l (.v 2) (.v 3) (.g (.a (.a (.k 1) (.v 2)) (.v 0)) (.a (.a (.k 1) (.v 3)) (.v 1))))) rfl h2 h1
  | arbno a ih => exact fun m k k' h => arF_mono ih (fun _ _ => Nat.le_refl _) (m + 1) m h
  | nm b a r ih => exact fun m k k' h => Nat.add_le_add_left (ih m _ _ fun x hx => by have := h x hx; exact lin2 (.l (.v 0) (.v 1) (.g (.a (.k 1) (.v 0)) (.a (.k 1) (.v 1)))) rfl this) 1
  | pl p => exact leafB_mono
  | rem => exact leafB_mono
  | arb => exact leafB_mono
  | delay k => exact leafB_mono
  | cursor r => exact leafB_mono
noncomputable def dB (r : Bool) : Nat → Nat → (Nat → Nat) → Nat
  | 0, m, k => leafB m k
  | d + 1, m, k =>
    let c1 := max (leafB m k) (1 + dB r d m (fun x => dB r d x k))
    let c2 := max c1 (1 + dB r d m (fun x => 1 + k x) + dB r d m k)
    if r then max c2 (arF (dB r d) k (m + 1) m) else c2
theorem mx {a a2 b b2 : Nat} (h : a ≤ a2) (h2 : b ≤ b2) : max a b ≤ max a2 b2 := Nat.max_le.mpr ⟨Nat.le_trans h (Nat.le_max_left _ _), Nat.le_trans h2 (Nat.le_max_right _ _)⟩
theorem dB_mono (r : Bool) : ∀ d, MonoF (dB r d)
  | 0 => leafB_mono
  | d + 1 => fun m k k' h => by
    have ih := dB_mono r d
    have hc := mx (mx (leafB_mono m k k' h) (Nat.add_le_add_left (ih m _ _ (fun x hx => ih x k k' fun y hy => h y (Nat.le_trans hy hx))) 1)) (Nat.add_le_add (Nat.add_le_add_left (ih m (fun x => 1 + k x) (fun x => 1 + k' x) fun x hx => Nat.add_le_add_left (h x hx) 1) 1) (ih m k k' h))
    cases r with
    | false => exact hc
    | true => exact mx hc (arF_mono ih (fun _ _ => Nat.le_refl _) (m + 1) m h)
noncomputable def c2B (r : Bool) (d m : Nat) (k : Nat → Nat) : Nat := max (max (leafB m k) (1 + dB r d m (fun x => dB r d x k))) (1 + dB r d m (fun x => 1 + k x) + dB r d m k)
theorem c2_le (r : Bool) (d m : Nat) (k : Nat → Nat) : c2B r d m k ≤ dB r (d + 1) m k := by
  cases r with
  | false => exact Nat.le_refl _
  | true => exact Nat.le_max_left _ _
theorem leaf_le (r : Bool) (m : Nat) (k : Nat → Nat) : ∀ d, leafB m k ≤ dB r d m k
  | 0 => Nat.le_refl _
  | d + 1 => Nat.le_trans (Nat.le_trans (Nat.le_max_left _ _) (Nat.le_max_left _ _)) (c2_le r d m k)
theorem cat_le (r : Bool) (d m : Nat) (k : Nat → Nat) : 1 + dB r d m (fun x => dB r d x k) ≤ dB r (d + 1) m k := Nat.le_trans (Nat.le_trans (Nat.le_max_right _ _) (Nat.le_max_left _ _)) (c2_le r d m k)
theorem alt_le (r : Bool) (d m : Nat) (k : Nat → Nat) : 1 + dB r d m (fun x => 1 + k x) + dB r d m k ≤ dB r (d + 1) m k := Nat.le_trans (Nat.le_max_right _ _) (c2_le r d m k)
theorem cB_le {tp : Bool} (r : Bool) : ∀ {d : Nat} {n : Nd}, NodeOk tp d n → (hasR n = true → r = true) → ∀ m k, cB n m k ≤ dB r d m k := by
  intro d n h
  induction h with
  | leaf h => intro _ m k; cases h <;> exact leaf_le r m k _
  | @arbno d n h ih =>
    intro hr m k
    have hr : r = true := hr rfl
    subst hr
    have := arF_mono (cB_mono n) (ih (fun _ => rfl)) (k := k) (k' := k) (m + 1) m (fun _ _ => Nat.le_refl _)
    exact Nat.le_trans this (Nat.le_max_right _ _)
  | @nm d n b r' h hk ih =>
    intro hr m k
    have h1 := ih hr m (fun x => 1 + k x)
    exact Nat.le_trans (Nat.add_le_add_left h1 1) (Nat.le_trans (Nat.le_add_right _ _) (alt_le r d m k))
  | @cat d x y hx hy ihx ihy =>
    intro hr m k
    have hr' : hasR x = true ∨ hasR y = true → r = true := fun h => hr (by show (hasR x || hasR y) = true; rcases h with h | h <;> simp [h])
    have h1 := ihx (fun h => hr' (.inl h)) m (fun z => cB y z k)
    have h2 := dB_mono r d m (fun z => cB y z k) (fun z => dB r d z k) fun z _ => ihy (fun h => hr' (.inr h)) z k
    exact Nat.le_trans (Nat.add_le_add_left (Nat.le_trans h1 h2) 1) (cat_le r d m k)
  | @alt d x y hx hy ihx ihy =>
    intro hr m k
    have hr' : hasR x = true ∨ hasR y = true → r = true := fun h => hr (by show (hasR x || hasR y) = true; rcases h with h | h <;> simp [h])
    have h1 := ihx (fun h => hr' (.inl h)) m (fun z => 1 + k z)
    have h2 := ihy (fun h => hr' (.inr h)) m k
    exact Nat.le_trans (Nat.add_le_add (Nat.add_le_add_left h1 1) h2) (alt_le r d m k)
theorem dB_few : (∀ m ∈ List.range 5, dB false 2 m (fun _ => 1) ≤ 10000) ∧ (∀ m ∈ List.range 3, dB true 2 m (fun _ => 1) ≤ 10000) := by decide +kernel
theorem cB_few {tp : Bool} {n : Nd} (h : NodeOk tp 2 n) {m : Nat} (hm : m ≤ 4) (hr : hasR n = true → m ≤ 2) : cB n m (fun _ => 1) ≤ 10000 := by
  cases hn : hasR n with
  | false => exact Nat.le_trans (cB_le false h (by rw [hn]; intro h; cases h) m _) (dB_few.1 m (by simp; exact lin1 (.l (.v 0) (.k 4) (.b (.v 0) (.k 5))) rfl hm))
  | true => exact Nat.le_trans (cB_le true h (fun _ => rfl) m _) (dB_few.2 m (by have := hr hn; simp; lia -abstractProof))
end
section
open PySem PySem.W PyProof.Rows PySem.Calls Builtin Builtin.Str
theorem clip_nat (i n : Nat) : max (0 : Int) (min (if (i : Int) < 0 then (i : Int) + n else i) n) = ((min i n : Nat) : Int) := by
  rw [if_neg (Int.not_lt.mpr (Int.natCast_nonneg i))]; lia -abstractProof
theorem range_nat (p q : Nat) : sliceRange (p : Int) (q : Int) 1 = (List.range (q - p)).map (p + ·) := by
  unfold sliceRange
  have e : ((if (1 : Int) > 0 then (if (p : Int) < q then ((q : Int) - p + 1 - 1) / 1 else 0) else (if (p : Int) > q then ((p : Int) - q - 1 - 1) / (-1) else 0)) : Int).toNat = q - p := by
    rw [if_pos (by decide), Int.ediv_one, Int.add_sub_cancel]
    by_cases h : (p : Int) < q
    · rw [if_pos h]; lia
    · rw [if_neg h]; lia
  dsimp only
  rw [e]
  exact List.map_congr_left fun k _ => by lia
theorem idx_nat (a b n : Nat) : strSliceIndices (some (a : Int)) (some (b : Int)) 1 n = (List.range (min b n - min a n)).map (min a n + ·) := by
  have : strSliceIndices (some (a : Int)) (some (b : Int)) 1 n = sliceRange (max (0 : Int) (min (if (a : Int) < 0 then (a : Int) + n else a) n)) (max (0 : Int) (min (if (b : Int) < 0 then (b : Int) + n else b) n)) 1 := rfl
  rw [this, clip_nat, clip_nat, range_nat]
set_option tactic.hygienic true
theorem pick_range (l : List Nat) (s m : Nat) : ((List.range m).map (s + ·)).filterMap (l[·]?) = (l.drop s).take m := by
  induction m generalizing s with
  | zero => rfl
  | succ m ih =>
    rw [List.range_succ_eq_map, List.map_cons, List.map_map]
    have e : ((fun x => s + x) ∘ Nat.succ) = fun x => s + 1 + x := funext fun x => by show s + (x + 1) = _; exact Nat.le_antisymm (lin2 (.g (.a (.v 0) (.a (.v 1) (.k 1))) (.a (.a (.v 0) (.k 1)) (.v 1))) rfl) (lin2 (.g (.a (.a (.v 0) (.k 1)) (.v 1)) (.a (.v 0) (.a (.v 1) (.k 1)))) rfl)
    rw [e]
    have ih1 := ih (s + 1)
    show List.filterMap (fun i => l[i]?) (s :: (List.range m).map fun x => s + 1 + x) = _
    cases h : l[s]? with
    | none =>
      have hs : l.length ≤ s := List.getElem?_eq_none_iff.mp h
      rw [List.filterMap_cons, h]; dsimp only; rw [ih1, List.drop_of_length_le (Nat.le_succ_of_le hs), List.drop_of_length_le hs, List.take_nil, List.take_nil]
    | some v =>
      obtain ⟨hs, hv⟩ := List.getElem?_eq_some_iff.mp h
      rw [List.filterMap_cons, h]; dsimp only; rw [ih1, List.drop_eq_getElem_cons hs, List.take_succ_cons, hv]
theorem slice_nat (x : Str) (a b : Nat) : Txt.slice x (some (a : Int)) (some (b : Int)) = ⟨((x.cps.toList.drop a).take (b - a)).toArray⟩ := by
  have hl : x.cps.toList.length = x.length := Array.length_toList
  have key : (x.cps.toList.drop (min a x.length)).take (min b x.length - min a x.length) = (x.cps.toList.drop a).take (b - a) := by
    by_cases h : a ≤ x.length
    · rw [Nat.min_eq_left h]
      by_cases h2 : b ≤ x.length
      · rw [Nat.min_eq_left h2]
      · have hd : (x.cps.toList.drop a).length = x.length - a := by rw [List.length_drop, hl]
        rw [Nat.min_eq_right (Nat.le_of_not_le h2), List.take_of_length_le (Nat.le_of_eq hd), List.take_of_length_le (by rw [hd]; exact Nat.sub_le_sub_right (Nat.le_of_not_le h2) a)]
    · have h3 : x.length ≤ a := Nat.le_of_not_le h
      rw [Nat.min_eq_right h3, List.drop_of_length_le (Nat.le_of_eq hl), List.drop_of_length_le (by rw [hl]; exact h3), List.take_nil, List.take_nil]
  unfold Txt.slice
  rw [idx_nat]
  by_cases h : ((1 : Int) == 1 && ((List.range (min b x.length - min a x.length)).map (min a x.length + ·)).length == x.length) = true
  · rw [if_pos h, ← key]
    rw [Bool.and_eq_true, List.length_map, List.length_range, beq_iff_eq, beq_iff_eq] at h
    have h1 : min a x.length = 0 ∨ x.length = 0 := by lia
    have h2 : x.cps.toList.length ≤ min b x.length - min a x.length := by rw [hl]; exact lin2 (.f (.v 0) (.v 1) (.g (.v 1) (.v 0))) rfl h.2
    have e : ((x.cps.toList.drop (min a x.length)).take (min b x.length - min a x.length)) = x.cps.toList := by
      rw [List.take_of_length_le (by rw [List.length_drop]; exact Nat.le_trans (Nat.sub_le _ _) h2)]
      rcases h1 with h1 | h1
      · rw [h1]; rfl
      · have : x.cps.toList = [] := List.eq_nil_of_length_eq_zero (hl.trans h1)
        rw [this, List.drop_nil]
    rw [e]
  · rw [if_neg h, ← key, ← pick_range]
    have : (fun i => x.cps[i]?) = fun i => x.cps.toList[i]? := funext fun i => (Array.getElem?_toList).symm
    rw [this]
set_option tactic.hygienic false
theorem cps_append (a b : Str) : (a ++ b).cps.toList = a.cps.toList ++ b.cps.toList := by show (a.cps ++ b.cps).toList = _; simp
theorem slice_shift (p s : Str) (a b : Nat) : Txt.slice (p ++ s) (some ((a + p.length : Nat) : Int)) (some ((b + p.length : Nat) : Int)) = Txt.slice s (some (a : Int)) (some (b : Int)) := by
  rw [slice_nat, slice_nat, cps_append]
  have hl : p.cps.toList.length = p.length := Array.length_toList
  have e1 : b + p.length - (a + p.length) = b - a := by lia
  rw [e1, List.drop_append, List.drop_of_length_le (by exact lin3 (.e (.v 0) (.v 1) (.g (.v 0) (.a (.v 2) (.v 1)))) rfl hl), List.nil_append, hl]
  have e2 : a + p.length - p.length = a := by lia
  rw [e2]
theorem sign_shift (p s t : Str) (a : Nat) : signIn (p ++ s) ((a + p.length : Nat) : Int) t = signIn s (a : Int) t := by
  unfold signIn
  rw [cps_append]
  have hl : p.cps.toList.length = p.length := Array.length_toList
  have e : (((a + p.length : Nat) : Int)).toNat = a + p.length := by lia -abstractProof
  have e2 : ((a : Nat) : Int).toNat = a := by lia -abstractProof
  rw [e, e2, List.getElem?_append_right (by exact lin3 (.e (.v 0) (.v 1) (.g (.v 0) (.a (.v 2) (.v 1)))) rfl hl), hl, Nat.add_sub_cancel]
theorem len_shift (p s : Str) : (p ++ s).length = s.length + p.length := by rw [Str.len_append]; exact Nat.le_antisymm (lin2 (.g (.a (.v 0) (.v 1)) (.a (.v 1) (.v 0))) rfl) (lin2 (.g (.a (.v 0) (.v 1)) (.a (.v 1) (.v 0))) rfl)
theorem run_shift (p s t : Str) (b : Bool) : ∀ k i, runFrom (p ++ s) t b k (i + p.length) = runFrom s t b k i + p.length
  | 0, _ => rfl
  | k + 1, i => by
    unfold runFrom
    rw [len_shift, sign_shift]
    by_cases h : i < s.length ∧ signIn s i t = b
    · rw [if_pos h, if_pos ⟨by exact lin3 (.t (.v 0) (.v 1) (.b (.a (.v 0) (.v 2)) (.a (.v 1) (.v 2)))) rfl h.1, h.2⟩]
      have := run_shift p s t b k (i + 1)
      rw [← this]; congr 1; exact Nat.le_antisymm (lin2 (.g (.a (.a (.v 0) (.v 1)) (.k 1)) (.a (.a (.v 0) (.k 1)) (.v 1))) rfl) (lin2 (.g (.a (.a (.v 0) (.k 1)) (.v 1)) (.a (.a (.v 0) (.v 1)) (.k 1))) rfl)
    · rw [if_neg h, if_neg (fun z => h ⟨by exact lin3 (.t (.a (.v 0) (.v 1)) (.a (.v 2) (.v 1)) (.b (.v 0) (.v 2))) rfl z.1, z.2⟩)]
set_option tactic.hygienic true
theorem runFrom_le {s t : Str} {b : Bool} : ∀ {k i : Nat}, i ≤ s.length → runFrom s t b k i ≤ s.length
  | 0, _, h => h
  | k + 1, i, h => by
    unfold runFrom
    split
    · rename_i h1; exact runFrom_le (by exact lin2 (.t (.v 0) (.v 1) (.g (.a (.v 0) (.k 1)) (.v 1))) rfl h1.1)
    · exact h
set_option tactic.hygienic false
theorem runEnd_shift (p s t : Str) (b : Bool) (i : Nat) : runEnd (p ++ s) (i + p.length) t b = runEnd s i t b + p.length := by
  unfold runEnd
  have e : (p ++ s).length - (i + p.length) = s.length - i := by rw [len_shift]; lia -abstractProof
  rw [e]; exact run_shift p s t b _ i
theorem slice_len {x : Str} {a b : Nat} (t : Str) (e : Txt.slice x (some (a : Int)) (some (b : Int)) = t) (ht : t.length = b - a) (h : a ≤ x.length) (hab : a ≤ b) : b ≤ x.length := by
  rw [slice_nat] at e
  have h1 := congrArg (fun y : Str => y.cps.toList.length) e
  have hlen : x.cps.toList.length = x.length := Array.length_toList
  have h2 : t.cps.toList.length = t.length := Array.length_toList
  simp [hlen, h2] at h1
  have h3 : t.cps.size = t.length := rfl
  lia -abstractProof
noncomputable def Pl.good : Pl → Prop
  | .chars t => t.length ≤ 1000
  | .len m => 0 ≤ m
  | .rtab m => 0 ≤ m
  | _ => True
noncomputable def Pl.free : Pl → Bool
  | .pos _ => false
  | .tab _ => false
  | _ => true
theorem Pl.good.fits {p : Pl} (h : p.good) : p.fits := by cases p <;> first | exact h | trivial
set_option tactic.hygienic true
theorem ends_range {p : Pl} {s : Str} {a : Nat} {e : Int} (hg : p.good) (ha : a ≤ s.length) (h : p.ends s a = some e) : (a : Int) ≤ e ∧ e ≤ s.length := by
  cases p <;> simp only [Pl.ends] at h
  · rename_i t
    unfold charsEnd at h; split at h <;> cases h
    rename_i hc
    have hc : Txt.slice s (some (a : Int)) (some ((a : Int) + t.length)) = t := by simpa using hc
    have ec : ((a : Int) + t.length) = ((a + t.length : Nat) : Int) := by lia -abstractProof
    rw [ec] at hc
    have := slice_len t hc (by lia -abstractProof) ha (by exact lin2 (.g (.v 0) (.a (.v 0) (.v 1))) rfl)
    lia -abstractProof
  · unfold lenEnd at h; split at h <;> cases h
    have : (0 : Int) ≤ _ := hg
    lia -abstractProof
  · unfold posEnd at h; split at h <;> cases h; lia -abstractProof
  · unfold rposEnd at h; split at h <;> cases h; lia -abstractProof
  · unfold tabEnd at h; split at h <;> cases h; rename_i q; lia -abstractProof
  · unfold rtabEnd at h; split at h <;> cases h
    have : (0 : Int) ≤ _ := hg
    lia -abstractProof
  · unfold anyAt at h; split at h <;> cases h; rename_i q; lia -abstractProof
  · unfold spanEnd at h; split at h <;> cases h
    rename_i t q
    have : runEnd s a t true ≤ s.length := runFrom_le ha
    lia -abstractProof
  · unfold breakEnd at h; split at h <;> cases h
    rename_i t q
    have : a ≤ runEnd s a t false := runFrom_ge
    lia -abstractProof
theorem ends_shift {p : Pl} (q s : Str) (a : Nat) (hf : p.free = true) : p.ends (q ++ s) (a + q.length) = (p.ends s a).map (· + (q.length : Int)) := by
  have hl := len_shift q s
  cases p <;> simp only [Pl.ends]
  · rename_i t
    unfold charsEnd
    have e1 : (((a + q.length : Nat) : Int) + t.length) = (((a + t.length) + q.length : Nat) : Int) := by lia -abstractProof
    have e2 : ((a : Int) + t.length) = ((a + t.length : Nat) : Int) := by lia -abstractProof
    rw [e1, slice_shift, e2]
    split <;> simp
  · unfold lenEnd
    split <;> split <;> (try simp) <;> lia -abstractProof
  · cases hf
  · unfold rposEnd
    have e : (((q ++ s).length : Int) - ((a + q.length : Nat) : Int)) = (s.length : Int) - a := by lia -abstractProof
    rw [e]
    split <;> simp
  · cases hf
  · unfold rtabEnd
    split <;> split <;> (try simp) <;> lia -abstractProof
  · unfold anyAt
    rw [sign_shift]
    split <;> rename_i h1 <;> split <;> rename_i h2
    · simp; lia -abstractProof
    · exact absurd ⟨by lia -abstractProof, h1.2⟩ h2
    · exact absurd ⟨by lia -abstractProof, h2.2⟩ h1
    · rfl
  · unfold spanEnd
    rw [runEnd_shift]
    split <;> split <;> (try simp) <;> first | exact lin3 (.t (.a (.v 0) (.v 1)) (.a (.v 2) (.v 1)) (.l (.v 2) (.v 0) (.z))) rfl (by assumption) (Nat.le_of_not_lt (by assumption)) | exact lin3 (.t (.v 0) (.v 1) (.l (.a (.v 1) (.v 2)) (.a (.v 0) (.v 2)) (.z))) rfl (by assumption) (Nat.le_of_not_lt (by assumption))
  · unfold breakEnd
    rw [runEnd_shift]
    split <;> split <;> (try simp) <;> first | exact lin4 (.t (.a (.v 0) (.v 1)) (.v 2) (.e (.v 2) (.a (.v 3) (.v 1)) (.l (.v 3) (.v 0) (.z)))) rfl (by assumption) hl (Nat.le_of_not_lt (by assumption)) | exact lin4 (.t (.v 0) (.v 1) (.f (.v 2) (.a (.v 1) (.v 3)) (.l (.v 2) (.a (.v 0) (.v 3)) (.z)))) rfl (by assumption) hl (Nat.le_of_not_lt (by assumption))
end
section
open PySem PySem.W PyProof.Rows PySem.Calls
set_option tactic.hygienic false
noncomputable def keyOk (k : Str) : Prop := k = "P" ∨ k = "Q"
noncomputable def Nd.st (tp : Bool) (refs : List Ref) : Nd → Prop
  | .pl p => p.good ∧ (tp = true ∨ p.free = true)
  | .rem => True
  | .arb => True
  | .delay k => k = "P"
  | .cursor r => tp = true ∧ r.2 = "Q" ∧ r ∈ refs
  | .cat a b => a.st tp refs ∧ b.st tp refs
  | .alt a b => a.st tp refs ∧ b.st tp refs
  | .arbno a => a.st tp refs
  | .nm _ a r => a.st tp refs ∧ r ∈ refs ∧ keyOk r.2
theorem node_st {tp : Bool} {refs : List Ref} {d : Nat} {n : Nd} (h : NodeOk tp d n) (hr : ∀ r ∈ n.refs, r ∈ refs) : n.st tp refs := by
  induction h with
  | leaf h =>
    cases h with
    | chars h => exact ⟨by show _ ≤ 1000; exact lin1 (.l (.v 0) (.k 2) (.g (.v 0) (.k 1000))) rfl h, .inr rfl⟩
    | any h => exact ⟨trivial, .inr rfl⟩
    | span h => exact ⟨trivial, .inr rfl⟩
    | brk h => exact ⟨trivial, .inr rfl⟩
    | len => exact ⟨Int.natCast_nonneg _, .inr rfl⟩
    | rpos => exact ⟨trivial, .inr rfl⟩
    | rtab => exact ⟨Int.natCast_nonneg _, .inr rfl⟩
    | pos h => exact ⟨trivial, .inl h⟩
    | tab h => exact ⟨trivial, .inl h⟩
    | rem => trivial
    | arb => trivial
    | delay => rfl
    | cursor h => exact ⟨h, rfl, hr _ (by simp [Nd.refs])⟩
  | arbno h ih => exact ih hr
  | nm h hk ih => exact ⟨ih fun r h => hr r (List.mem_cons_of_mem _ h), hr _ (List.mem_cons_self ..), hk⟩
  | cat h h' ih ih' => exact ⟨ih fun r h => hr r (List.mem_append_left _ h), ih' fun r h => hr r (List.mem_append_right _ h)⟩
  | alt h h' ih ih' => exact ⟨ih fun r h => hr r (List.mem_append_left _ h), ih' fun r h => hr r (List.mem_append_right _ h)⟩
noncomputable def It.st (tp : Bool) (refs : List Ref) : It → Prop
  | .nd n => n.st tp refs
  | .round a _ => a.st tp refs
  | .fin _ r _ => r ∈ refs ∧ keyOk r.2
inductive TC (s : Str) : List It → Nat → Nat → Prop
  | nil {a b} : TC s [] a b
  | pl {p r a b b'} (h : ∀ e, p.ends s a = some e → TC s r e.toNat b) (hb : b + 1 ≤ b') : TC s (.nd (.pl p) :: r) a b'
  | rem {r a b b'} (h : TC s r s.length b) (hb : b + 1 ≤ b') : TC s (.nd .rem :: r) a b'
  | arb {r a b1 b2 b'} (h1 : TC s r a b1) (h2 : a < s.length → TC s (.nd .arb :: r) (a + 1) b2) (hb : b1 + b2 + 1 ≤ b') : TC s (.nd .arb :: r) a b'
  | delay {k r a b b'} (h : ∀ t : Str, t.length ≤ 1000 → TC s (.nd (.pl (.chars t)) :: r) a b) (hb : b + 1 ≤ b') : TC s (.nd (.delay k) :: r) a b'
  | cursor {k r a b b'} (h : TC s r a b) (hb : b + 1 ≤ b') : TC s (.nd (.cursor k) :: r) a b'
  | cat {x y r a b b'} (h : TC s (.nd x :: .nd y :: r) a b) (hb : b + 1 ≤ b') : TC s (.nd (.cat x y) :: r) a b'
  | alt {x y r a b1 b2 b'} (h1 : TC s (.nd x :: r) a b1) (h2 : TC s (.nd y :: r) a b2) (hb : b1 + b2 + 1 ≤ b') : TC s (.nd (.alt x y) :: r) a b'
  | arbno {x r a b1 b2 b'} (h1 : TC s r a b1) (h2 : TC s (.nd x :: .round x a :: r) a b2) (hb : b1 + b2 + 1 ≤ b') : TC s (.nd (.arbno x) :: r) a b'
  | nm {now x k r a b b'} (h : TC s (.nd x :: .fin now k a :: r) a b) (hb : b + 1 ≤ b') : TC s (.nd (.nm now x k) :: r) a b'
  | round {x b0 r a b b'} (h : a ≠ b0 → TC s (.nd (.arbno x) :: r) a b) (hb : b + 1 ≤ b') : TC s (.round x b0 :: r) a b'
  | fin {now k b0 r a b b'} (h : TC s r a b) (hb : b + 1 ≤ b') : TC s (.fin now k b0 :: r) a b'
theorem tc_arb {s : Str} {rest : List It} {k : Nat → Nat} : ∀ (m a : Nat), a + m = s.length → (∀ a', a ≤ a' → a' ≤ s.length → TC s rest a' (k (s.length - a'))) → TC s (.nd .arb :: rest) a (leafB m k)
  | 0, a, e, h => by
    have h1 := h a (Nat.le_refl _) (by exact lin2 (.e (.a (.v 0) (.k 0)) (.v 1) (.g (.v 0) (.v 1))) rfl e)
    have e1 : s.length - a = 0 := by lia -abstractProof
    rw [e1] at h1
    exact .arb (b2 := 0) h1 (fun z => by exact False.elim (lin2 (.f (.a (.v 0) (.k 0)) (.v 1) (.t (.v 0) (.v 1) (.z))) rfl e z)) (by unfold leafB sumTo; exact lin1 (.g (.a (.a (.v 0) (.k 0)) (.k 1)) (.a (.a (.k 2) (.v 0)) (.k 4))) rfl)
  | m + 1, a, e, h => by
    have h1 := h a (Nat.le_refl _) (by exact lin3 (.e (.a (.v 0) (.a (.v 1) (.k 1))) (.v 2) (.g (.v 0) (.v 2))) rfl e)
    have e1 : s.length - a = m + 1 := by lia -abstractProof
    rw [e1] at h1
    exact .arb h1 (fun _ => tc_arb m (a + 1) (by exact Nat.le_antisymm (lin3 (.e (.a (.v 0) (.a (.v 1) (.k 1))) (.v 2) (.g (.a (.a (.v 0) (.k 1)) (.v 1)) (.v 2))) rfl e) (lin3 (.f (.a (.v 0) (.a (.v 1) (.k 1))) (.v 2) (.g (.v 2) (.a (.a (.v 0) (.k 1)) (.v 1)))) rfl e)) fun a' l1 l2 => h a' (by exact lin2 (.l (.a (.v 0) (.k 1)) (.v 1) (.g (.v 0) (.v 1))) rfl l1) l2) (by unfold leafB; show _ ≤ (2 + k (m + 1)) + sumTo _ m + 4; exact lin2 (.g (.a (.a (.v 0) (.a (.v 1) (.k 4))) (.k 1)) (.a (.a (.a (.k 2) (.v 0)) (.v 1)) (.k 4))) rfl)
theorem tc_leaf {m x : Nat} {k : Nat → Nat} (h : x ≤ m) : k x + 2 ≤ leafB m k := by
  have := le_sumTo (f := fun x => 2 + k x) h
  unfold leafB; exact lin2 (.l (.a (.k 2) (.v 0)) (.v 1) (.g (.a (.v 0) (.k 2)) (.a (.v 1) (.k 4)))) rfl this
theorem tc_chars {s : Str} {rest : List It} {k : Nat → Nat} {a : Nat} {p : Pl} (hp : p.good) (ha : a ≤ s.length) (h : ∀ a', a ≤ a' → a' ≤ s.length → TC s rest a' (k (s.length - a'))) : TC s (.nd (.pl p) :: rest) a (sumTo (fun x => 2 + k x) (s.length - a) + 1) := by
  refine .pl (b := sumTo (fun x => 2 + k x) (s.length - a)) (fun e he => ?_) (by exact lin1 (.g (.a (.v 0) (.k 1)) (.a (.v 0) (.k 1))) rfl)
  have hr := ends_range hp ha he
  have h1 := h e.toNat (by lia) (by lia)
  have h2 := le_sumTo (f := fun x => 2 + k x) (m := s.length - a) (x := s.length - e.toNat) (by lia)
  have mono : ∀ {c a b b'}, TC s c a b → b ≤ b' → TC s c a b' := fun {c a b b'} t hb => by
    cases t with
    | nil => exact .nil
    | pl h hb' => exact .pl h (by exact lin3 (.l (.a (.v 0) (.k 1)) (.v 1) (.l (.v 1) (.v 2) (.g (.a (.v 0) (.k 1)) (.v 2)))) rfl hb' hb)
    | rem h hb' => exact .rem h (by exact lin3 (.l (.a (.v 0) (.k 1)) (.v 1) (.l (.v 1) (.v 2) (.g (.a (.v 0) (.k 1)) (.v 2)))) rfl hb' hb)
    | arb h1 h2 hb' => exact .arb h1 h2 (by exact lin4 (.l (.a (.a (.v 0) (.v 1)) (.k 1)) (.v 2) (.l (.v 2) (.v 3) (.g (.a (.a (.v 0) (.v 1)) (.k 1)) (.v 3)))) rfl hb' hb)
    | delay h hb' => exact .delay h (by exact lin3 (.l (.a (.v 0) (.k 1)) (.v 1) (.l (.v 1) (.v 2) (.g (.a (.v 0) (.k 1)) (.v 2)))) rfl hb' hb)
    | cursor h hb' => exact .cursor h (by exact lin3 (.l (.a (.v 0) (.k 1)) (.v 1) (.l (.v 1) (.v 2) (.g (.a (.v 0) (.k 1)) (.v 2)))) rfl hb' hb)
    | cat h hb' => exact .cat h (by exact lin3 (.l (.a (.v 0) (.k 1)) (.v 1) (.l (.v 1) (.v 2) (.g (.a (.v 0) (.k 1)) (.v 2)))) rfl hb' hb)
    | alt h1 h2 hb' => exact .alt h1 h2 (by exact lin4 (.l (.a (.a (.v 0) (.v 1)) (.k 1)) (.v 2) (.l (.v 2) (.v 3) (.g (.a (.a (.v 0) (.v 1)) (.k 1)) (.v 3)))) rfl hb' hb)
    | arbno h1 h2 hb' => exact .arbno h1 h2 (by exact lin4 (.l (.a (.a (.v 0) (.v 1)) (.k 1)) (.v 2) (.l (.v 2) (.v 3) (.g (.a (.a (.v 0) (.v 1)) (.k 1)) (.v 3)))) rfl hb' hb)
    | nm h hb' => exact .nm h (by exact lin3 (.l (.a (.v 0) (.k 1)) (.v 1) (.l (.v 1) (.v 2) (.g (.a (.v 0) (.k 1)) (.v 2)))) rfl hb' hb)
    | round h hb' => exact .round h (by exact lin3 (.l (.a (.v 0) (.k 1)) (.v 1) (.l (.v 1) (.v 2) (.g (.a (.v 0) (.k 1)) (.v 2)))) rfl hb' hb)
    | fin h hb' => exact .fin h (by exact lin3 (.l (.a (.v 0) (.k 1)) (.v 1) (.l (.v 1) (.v 2) (.g (.a (.v 0) (.k 1)) (.v 2)))) rfl hb' hb)
  exact mono h1 (by exact lin2 (.l (.a (.k 2) (.v 0)) (.v 1) (.g (.v 0) (.v 1))) rfl h2)
theorem tc_of {s : Str} {tp : Bool} {refs : List Ref} : ∀ (n : Nd), n.st tp refs → ∀ (rest : List It) (a : Nat) (k : Nat → Nat), a ≤ s.length → (∀ a', a ≤ a' → a' ≤ s.length → TC s rest a' (k (s.length - a'))) → TC s (.nd n :: rest) a (cB n (s.length - a) k) := by
  intro n
  induction n with
  | pl p =>
    intro hn rest a k ha h
    have := tc_chars hn.1 ha h
    cases this with
    | pl h hb => exact .pl h (by show _ ≤ leafB _ _; unfold leafB; exact lin2 (.l (.a (.v 0) (.k 1)) (.a (.v 1) (.k 1)) (.g (.a (.v 0) (.k 1)) (.a (.v 1) (.k 4)))) rfl hb)
  | rem =>
    intro hn rest a k ha h
    have h1 := h s.length ha (Nat.le_refl _)
    rw [Nat.sub_self] at h1
    exact .rem h1 (by have := tc_leaf (k := k) (m := s.length - a) (x := 0) (by exact lin1 (.g (.k 0) (.v 0)) rfl); show _ ≤ leafB _ _; exact lin2 (.l (.a (.v 0) (.k 2)) (.v 1) (.g (.a (.v 0) (.k 1)) (.v 1))) rfl this)
  | arb =>
    intro hn rest a k ha h
    exact tc_arb _ a (by lia -abstractProof) h
  | delay x =>
    intro hn rest a k ha h
    exact .delay (b := sumTo (fun x => 2 + k x) (s.length - a) + 1) (fun t ht => tc_chars (p := .chars t) ht ha h) (by show _ ≤ leafB _ _; unfold leafB; exact lin1 (.g (.a (.a (.v 0) (.k 1)) (.k 1)) (.a (.v 0) (.k 4))) rfl)
  | cursor r =>
    intro hn rest a k ha h
    exact .cursor (h a (Nat.le_refl _) ha) (by have := tc_leaf (k := k) (m := s.length - a) (x := s.length - a) (by exact lin1 (.g (.v 0) (.v 0)) rfl); show _ ≤ leafB _ _; exact lin2 (.l (.a (.v 0) (.k 2)) (.v 1) (.g (.a (.v 0) (.k 1)) (.v 1))) rfl this)
  | cat x y ihx ihy =>
    intro hn rest a k ha h
    refine .cat (ihx hn.1 (.nd y :: rest) a (fun z => cB y z k) ha fun a' l1 l2 => ?_) (by show _ ≤ 1 + _; exact lin1 (.g (.a (.v 0) (.k 1)) (.a (.k 1) (.v 0))) rfl)
    exact ihy hn.2 rest a' k l2 fun a2 l3 l4 => h a2 (by exact lin3 (.l (.v 0) (.v 1) (.l (.v 2) (.v 0) (.g (.v 2) (.v 1)))) rfl l3 l1) l4
  | alt x y ihx ihy =>
    intro hn rest a k ha h
    have h1 := cB_mono x (s.length - a) k (fun z => 1 + k z) fun z _ => by exact lin1 (.g (.v 0) (.a (.k 1) (.v 0))) rfl
    exact .alt (ihx hn.1 rest a k ha h) (ihy hn.2 rest a k ha h) (by show _ ≤ 1 + _ + _; exact lin3 (.l (.v 0) (.v 1) (.g (.a (.a (.v 0) (.v 2)) (.k 1)) (.a (.a (.k 1) (.v 1)) (.v 2)))) rfl h1)
  | nm b x r ih =>
    intro hn rest a k ha h
    refine .nm (ih hn.1 (.fin b r a :: rest) a (fun z => 1 + k z) ha fun a' l1 l2 => ?_) (by show _ ≤ 1 + _; exact lin1 (.g (.a (.v 0) (.k 1)) (.a (.k 1) (.v 0))) rfl)
    exact .fin (h a' l1 l2) (by exact lin1 (.g (.a (.v 0) (.k 1)) (.a (.k 1) (.v 0))) rfl)
  | arbno x ih =>
    intro hn rest a k ha h
    have key : ∀ f a, a ≤ s.length → s.length - a < f → (∀ a', a ≤ a' → a' ≤ s.length → TC s rest a' (k (s.length - a'))) → TC s (.nd (.arbno x) :: rest) a (arF (cB x) k f (s.length - a)) := by
      intro f
      induction f with
      | zero => intro a ha hf; exact (fun z0 => False.elim (lin1 (.t (.v 0) (.k 0) (.z)) rfl hf))
      | succ f ihf =>
        intro a ha hf h
        refine .arbno (h a (Nat.le_refl _) ha) (ih hn (.round x a :: rest) a (fun z => 2 + (if z < s.length - a then arF (cB x) k f z else 0)) ha fun a' l1 l2 => ?_) (by show _ ≤ 4 + _ + _; exact lin2 (.g (.a (.a (.v 0) (.v 1)) (.k 1)) (.a (.a (.k 4) (.v 0)) (.v 1))) rfl)
        by_cases q : a' = a
        · exact .round (b := 0) (fun z => absurd q z) (by exact lin1 (.g (.a (.k 0) (.k 1)) (.a (.k 2) (.v 0))) rfl)
        · have hlt : s.length - a' < s.length - a := by lia -abstractProof
          refine .round (fun _ => ihf a' l2 (by exact lin3 (.t (.v 0) (.v 1) (.t (.v 1) (.a (.v 2) (.k 1)) (.b (.v 0) (.v 2)))) rfl hlt hf) fun a2 l3 l4 => h a2 (by exact lin3 (.l (.v 0) (.v 1) (.l (.v 2) (.v 0) (.g (.v 2) (.v 1)))) rfl l3 l1) l4) ?_
          rw [if_pos hlt]; exact lin1 (.g (.a (.v 0) (.k 1)) (.a (.k 2) (.v 0))) rfl
    exact key (s.length - a + 1) a ha (by exact lin1 (.b (.v 0) (.a (.v 0) (.k 1))) rfl) h
inductive PB (s : Str) : List TWay → Nat → Prop
  | nil {b} : PB s [] b
  | snoc {p w b1 b2 b} (h : PB s p b1) (hw : TC s w.chain w.at_ b2) (hb : b1 + b2 ≤ b) : PB s (p ++ [w]) b
structure WS (s : Str) (tp : Bool) (refs : List Ref) (N : Nat) (w : TWay) : Prop where
  it : ∀ i ∈ w.chain, i.st tp refs
  at_ : w.at_ ≤ s.length
  nm : w.named.length ≤ N
  nr : ∀ p ∈ w.named, p.1 ∈ refs
theorem WS.up {s : Str} {tp : Bool} {refs : List Ref} {N M : Nat} {w : TWay} (h : WS s tp refs N w) (hm : N ≤ M) : WS s tp refs M w := ⟨h.it, h.at_, Nat.le_trans h.nm hm, h.nr⟩
noncomputable def pq (x v : V) : List (Str × V) := [("P", x), ("Q", v)]
def Plain (v : V) : Prop := ∃ (k : Str) (u : V), v = .tup [.str k, u] ∧ ((∃ x, u = .str x) ∨ ∃ i, u = .int i)
structure HI (N : Nat) (h : HS) : Prop where
  steps : h.steps = (N : Int)
  vals : ∃ (x : Str) (v : V), h.vals = pq (.str x) v ∧ x.length ≤ 1000
  log : h.log.length ≤ N
  plain : ∀ v ∈ h.log, Plain v
theorem HI.step {N : Nat} {h : HS} (H : HI N h) : HI (N + 1) { h with steps := h.steps + 1 } := ⟨by show h.steps + 1 = _; rw [H.steps]; lia -abstractProof, H.vals, Nat.le_succ_of_le H.log, H.plain⟩
theorem set_P (x v u : V) : setK (pq x v) "P" u = pq u v := rfl
theorem set_Q (x v u : V) : setK (pq x v) "Q" u = pq x u := rfl
theorem HI.setStr {N : Nat} {h : HS} (H : HI N h) {k : Str} (hk : keyOk k) {y : Str} (hy : y.length ≤ 1000) (hl : h.log.length + 1 ≤ N) : HI N (h.set k (.str y)) := by
  obtain ⟨x, v, e, hx⟩ := H.vals
  refine ⟨H.steps, ?_, by show (h.log ++ [_]).length ≤ N; simp; omega, fun v hv => ?_⟩
  rotate_left
  · have hv : v ∈ h.log ++ [_] := hv
    rcases List.mem_append.mp hv with hv | hv
    · exact H.plain v hv
    · rw [List.mem_singleton] at hv; exact ⟨k, _, hv, .inl ⟨y, rfl⟩⟩
  show ∃ (x : Str) (v : V), setK h.vals k (.str y) = pq (.str x) v ∧ x.length ≤ 1000
  rw [e]
  rcases hk with rfl | rfl
  · exact ⟨y, v, set_P .., hy⟩
  · exact ⟨x, .str y, set_Q .., hx⟩
theorem HI.setQ {N : Nat} {h : HS} (H : HI N h) {i : Int} (hl : h.log.length + 1 ≤ N) : HI N (h.set "Q" (.int i)) := by
  obtain ⟨x, v, e, hx⟩ := H.vals
  refine ⟨H.steps, ⟨x, .int i, ?_, hx⟩, by show (h.log ++ [_]).length ≤ N; simp; omega, fun v hv => ?_⟩
  rotate_left
  · have hv : v ∈ h.log ++ [_] := hv
    rcases List.mem_append.mp hv with hv | hv
    · exact H.plain v hv
    · rw [List.mem_singleton] at hv; exact ⟨"Q", _, hv, .inr ⟨i, rfl⟩⟩
  show setK h.vals "Q" (.int i) = _
  rw [e]; exact set_Q ..
theorem HI.text {N : Nat} {h : HS} (H : HI N h) : (getK h.vals "P").getD (.str "") = .str (h.textOf "P") ∧ (h.textOf "P").length ≤ 1000 := by
  obtain ⟨x, v, e, hx⟩ := H.vals
  have : h.textOf "P" = x := by unfold HS.textOf; rw [e]; rfl
  rw [this, e]
  exact ⟨rfl, hx⟩
def WOk (s : Str) (tp : Bool) (refs : List Ref) (N : Nat) (wo : Option TWay) (b : Nat) : Prop := ∀ w, wo = some w → WS s tp refs N w ∧ TC s w.chain w.at_ b
structure AdvOut (s : Str) (tp : Bool) (refs : List Ref) (N B n : Nat) (r : Option TWay × List TWay × HS) : Prop where
  way : ∃ b1 b2, WOk s tp refs N r.1 b1 ∧ PB s r.2.1 b2 ∧ b1 + b2 + 1 ≤ B
  pile : ∀ w ∈ r.2.1, WS s tp refs N w
  len : r.2.1.length ≤ n + 1
  hi : HI N r.2.2
set_option tactic.hygienic true
theorem adv_out {s : Str} {tp : Bool} {refs : List Ref} {N B bp bw : Nat} {i : It} {r : List It} {a : Nat} {n : Named} {p : List TWay} {h : HS} (hs : s.length ≤ 1000) (W : WS s tp refs N ⟨i :: r, a, n⟩) (T : TC s (i :: r) a bw) (P : PB s p bp) (hB : bw + bp ≤ B)
    (hp : ∀ w ∈ p, WS s tp refs N w) (H : HI N h) : i.ok refs { h with steps := h.steps + 1 } ∧ AdvOut s tp refs (N + 1) B p.length (adv s i r a n p { h with steps := h.steps + 1 }) := by
  have hi := W.it i (by simp)
  have hr : ∀ j ∈ r, j.st tp refs := fun j hj => W.it j (by simp [hj])
  have H1 := H.step
  have hp1 : ∀ w ∈ p, WS s tp refs (N + 1) w := fun w hw => (hp w hw).up (by exact lin1 (.g (.v 0) (.a (.v 0) (.k 1))) rfl)
  have hn : n.length ≤ N := W.nm
  have hnr : ∀ p ∈ n, p.1 ∈ refs := W.nr
  have ha : a ≤ s.length := W.at_
  have ws : ∀ {c a' n'}, (∀ j ∈ c, It.st tp refs j) → a' ≤ s.length → n'.length ≤ N + 1 → (∀ p ∈ n', p.1 ∈ refs) → WS s tp refs (N + 1) ⟨c, a', n'⟩ := fun h1 h2 h3 h4 => ⟨h1, h2, h3, h4⟩
  have one : ∀ {c a' n' b}, (∀ j ∈ c, It.st tp refs j) → a' ≤ s.length → n'.length ≤ N + 1 → (∀ p ∈ n', p.1 ∈ refs) → TC s c a' b → WOk s tp refs (N + 1) (some ⟨c, a', n'⟩) b := fun h1 h2 h3 h4 h5 w e => by cases e; exact ⟨ws h1 h2 h3 h4, h5⟩
  have cons : ∀ {j c}, It.st tp refs j → (∀ j ∈ c, It.st tp refs j) → ∀ x ∈ j :: c, It.st tp refs x := fun h1 h2 x hx => by
    rcases List.mem_cons.mp hx with rfl | hx
    · exact h1
    · exact h2 x hx
  have app : ∀ {w}, WS s tp refs (N + 1) w → ∀ x ∈ p ++ [w], WS s tp refs (N + 1) x := fun h1 x hx => by
    rcases List.mem_append.mp hx with hx | hx
    · exact hp1 x hx
    · rw [List.mem_singleton] at hx; subst hx; exact h1
  have log1 : { h with steps := h.steps + 1 }.log.length + 1 ≤ N + 1 := by have := H.log; show h.log.length + 1 ≤ _; exact lin2 (.l (.v 0) (.v 1) (.g (.a (.v 0) (.k 1)) (.a (.v 1) (.k 1)))) rfl this
  cases T with
  | pl hh hb =>
    refine ⟨hi.1.fits, ?_⟩
    rename_i q b
    have e1 : (adv s (.nd (.pl q)) r a n p { h with steps := h.steps + 1 }) = (match q.ends s a with | some e => some ⟨r, e.toNat, n⟩ | none => none, p, { h with steps := h.steps + 1 }) := rfl
    rw [e1]
    cases he : q.ends s a with
    | none => exact ⟨⟨0, _, (fun w e => by cases e), P, by exact lin4 (.l (.a (.v 0) (.k 1)) (.v 1) (.l (.a (.v 1) (.v 2)) (.v 3) (.g (.a (.a (.k 0) (.v 2)) (.k 1)) (.v 3)))) rfl hb hB⟩, hp1, Nat.le_succ _, H1⟩
    | some e =>
      have hrg := ends_range hi.1 ha he
      exact ⟨⟨_, _, one hr (by lia) (by exact lin2 (.l (.v 0) (.v 1) (.g (.v 0) (.a (.v 1) (.k 1)))) rfl hn) hnr (hh e he), P, by exact lin4 (.l (.a (.v 0) (.k 1)) (.v 1) (.l (.a (.v 1) (.v 2)) (.v 3) (.g (.a (.a (.v 0) (.v 2)) (.k 1)) (.v 3)))) rfl hb hB⟩, hp1, Nat.le_succ _, H1⟩
  | rem hh hb => exact ⟨trivial, ⟨_, _, one hr (Nat.le_refl _) (by exact lin2 (.l (.v 0) (.v 1) (.g (.v 0) (.a (.v 1) (.k 1)))) rfl hn) hnr hh, P, by exact lin4 (.l (.a (.v 0) (.k 1)) (.v 1) (.l (.a (.v 1) (.v 2)) (.v 3) (.g (.a (.a (.v 0) (.v 2)) (.k 1)) (.v 3)))) rfl hb hB⟩, hp1, Nat.le_succ _, H1⟩
  | arb h1 h2 hb =>
    refine ⟨trivial, ?_⟩
    rename_i b1 b2
    have e1 : (adv s (.nd .arb) r a n p { h with steps := h.steps + 1 }) = (some ⟨r, a, n⟩, (if a < s.length then p ++ [⟨.nd .arb :: r, a + 1, n⟩] else p), { h with steps := h.steps + 1 }) := rfl
    rw [e1]
    by_cases q : a < s.length
    · rw [if_pos q]
      exact ⟨⟨_, _, one hr ha (by exact lin2 (.l (.v 0) (.v 1) (.g (.v 0) (.a (.v 1) (.k 1)))) rfl hn) hnr h1, .snoc P (h2 q) (Nat.le_refl _), by exact lin5 (.l (.a (.a (.v 0) (.v 1)) (.k 1)) (.v 2) (.l (.a (.v 2) (.v 3)) (.v 4) (.g (.a (.a (.v 0) (.a (.v 3) (.v 1))) (.k 1)) (.v 4)))) rfl hb hB⟩, app (ws (cons (j := .nd .arb) trivial hr) (by exact lin2 (.t (.v 0) (.v 1) (.g (.a (.v 0) (.k 1)) (.v 1))) rfl q) (by exact lin2 (.l (.v 0) (.v 1) (.g (.v 0) (.a (.v 1) (.k 1)))) rfl hn) hnr), by simp, H1⟩
    · rw [if_neg q]
      exact ⟨⟨_, _, one hr ha (by exact lin2 (.l (.v 0) (.v 1) (.g (.v 0) (.a (.v 1) (.k 1)))) rfl hn) hnr h1, P, by exact lin5 (.l (.a (.a (.v 0) (.v 1)) (.k 1)) (.v 2) (.l (.a (.v 2) (.v 3)) (.v 4) (.g (.a (.a (.v 0) (.v 3)) (.k 1)) (.v 4)))) rfl hb hB⟩, hp1, Nat.le_succ _, H1⟩
  | delay hh hb =>
    rename_i k b
    have hk : k = "P" := hi
    subst hk
    have ht := H1.text
    exact ⟨ht.1, ⟨_, _, one (cons (j := .nd (.pl (.chars _))) ⟨ht.2, .inr rfl⟩ hr) ha (by exact lin2 (.l (.v 0) (.v 1) (.g (.v 0) (.a (.v 1) (.k 1)))) rfl hn) hnr (hh _ ht.2), P, by exact lin4 (.l (.a (.v 0) (.k 1)) (.v 1) (.l (.a (.v 1) (.v 2)) (.v 3) (.g (.a (.a (.v 0) (.v 2)) (.k 1)) (.v 3)))) rfl hb hB⟩, hp1, Nat.le_succ _, H1⟩
  | cursor hh hb =>
    obtain ⟨h1, h2, h3⟩ := hi
    rename_i k b
    obtain ⟨ka, kk⟩ := k
    have h2 : kk = "Q" := h2
    subst h2
    exact ⟨h3, ⟨_, _, one hr ha (by exact lin2 (.l (.v 0) (.v 1) (.g (.v 0) (.a (.v 1) (.k 1)))) rfl hn) hnr hh, P, by exact lin4 (.l (.a (.v 0) (.k 1)) (.v 1) (.l (.a (.v 1) (.v 2)) (.v 3) (.g (.a (.a (.v 0) (.v 2)) (.k 1)) (.v 3)))) rfl hb hB⟩, hp1, Nat.le_succ _, H1.setQ log1⟩
  | cat hh hb => exact ⟨trivial, ⟨_, _, one (cons hi.1 (cons hi.2 hr)) ha (by exact lin2 (.l (.v 0) (.v 1) (.g (.v 0) (.a (.v 1) (.k 1)))) rfl hn) hnr hh, P, by exact lin4 (.l (.a (.v 0) (.k 1)) (.v 1) (.l (.a (.v 1) (.v 2)) (.v 3) (.g (.a (.a (.v 0) (.v 2)) (.k 1)) (.v 3)))) rfl hb hB⟩, hp1, Nat.le_succ _, H1⟩
  | alt h1 h2 hb => exact ⟨trivial, ⟨_, _, one (cons hi.1 hr) ha (by exact lin2 (.l (.v 0) (.v 1) (.g (.v 0) (.a (.v 1) (.k 1)))) rfl hn) hnr h1, .snoc P h2 (Nat.le_refl _), by exact lin5 (.l (.a (.a (.v 0) (.v 1)) (.k 1)) (.v 2) (.l (.a (.v 2) (.v 3)) (.v 4) (.g (.a (.a (.v 0) (.a (.v 3) (.v 1))) (.k 1)) (.v 4)))) rfl hb hB⟩, app (ws (cons hi.2 hr) ha (by exact lin2 (.l (.v 0) (.v 1) (.g (.v 0) (.a (.v 1) (.k 1)))) rfl hn) hnr), by show (p ++ [_]).length ≤ _; simp, H1⟩
  | arbno h1 h2 hb => exact ⟨trivial, ⟨_, _, one hr ha (by exact lin2 (.l (.v 0) (.v 1) (.g (.v 0) (.a (.v 1) (.k 1)))) rfl hn) hnr h1, .snoc P h2 (Nat.le_refl _), by exact lin5 (.l (.a (.a (.v 0) (.v 1)) (.k 1)) (.v 2) (.l (.a (.v 2) (.v 3)) (.v 4) (.g (.a (.a (.v 0) (.a (.v 3) (.v 1))) (.k 1)) (.v 4)))) rfl hb hB⟩, app (ws (cons (j := .nd _) hi (cons (j := .round _ _) hi hr)) ha (by exact lin2 (.l (.v 0) (.v 1) (.g (.v 0) (.a (.v 1) (.k 1)))) rfl hn) hnr), by show (p ++ [_]).length ≤ _; simp, H1⟩
  | nm hh hb => exact ⟨trivial, ⟨_, _, one (cons (j := .nd _) hi.1 (cons (j := .fin _ _ _) hi.2 hr)) ha (by exact lin2 (.l (.v 0) (.v 1) (.g (.v 0) (.a (.v 1) (.k 1)))) rfl hn) hnr hh, P, by exact lin4 (.l (.a (.v 0) (.k 1)) (.v 1) (.l (.a (.v 1) (.v 2)) (.v 3) (.g (.a (.a (.v 0) (.v 2)) (.k 1)) (.v 3)))) rfl hb hB⟩, hp1, Nat.le_succ _, H1⟩
  | round hh hb =>
    refine ⟨trivial, ?_⟩
    rename_i x b0 b
    have e1 : (adv s (.round x b0) r a n p { h with steps := h.steps + 1 }) = (if a = b0 then none else some ⟨.nd (.arbno x) :: r, a, n⟩, p, { h with steps := h.steps + 1 }) := rfl
    rw [e1]
    by_cases q : a = b0
    · rw [if_pos q]
      exact ⟨⟨0, _, (fun w e => by cases e), P, by exact lin4 (.l (.a (.v 0) (.k 1)) (.v 1) (.l (.a (.v 1) (.v 2)) (.v 3) (.g (.a (.a (.k 0) (.v 2)) (.k 1)) (.v 3)))) rfl hb hB⟩, hp1, Nat.le_succ _, H1⟩
    · rw [if_neg q]
      exact ⟨⟨_, _, one (cons (j := .nd (.arbno x)) hi hr) ha (by exact lin2 (.l (.v 0) (.v 1) (.g (.v 0) (.a (.v 1) (.k 1)))) rfl hn) hnr (hh q), P, by exact lin4 (.l (.a (.v 0) (.k 1)) (.v 1) (.l (.a (.v 1) (.v 2)) (.v 3) (.g (.a (.a (.v 0) (.v 2)) (.k 1)) (.v 3)))) rfl hb hB⟩, hp1, Nat.le_succ _, H1⟩
  | fin hh hb =>
    rename_i now k b0 b
    cases now with
    | true =>
      refine ⟨hi.1, ⟨_, _, one hr ha (by exact lin2 (.l (.v 0) (.v 1) (.g (.v 0) (.a (.v 1) (.k 1)))) rfl hn) hnr hh, P, by exact lin4 (.l (.a (.v 0) (.k 1)) (.v 1) (.l (.a (.v 1) (.v 2)) (.v 3) (.g (.a (.a (.v 0) (.v 2)) (.k 1)) (.v 3)))) rfl hb hB⟩, hp1, Nat.le_succ _, H1.setStr hi.2 ?_ log1⟩
      exact Nat.le_trans (Txt.slice_le ..) hs
    | false =>
      refine ⟨trivial, ⟨_, _, one hr ha (by simp; exact lin2 (.l (.v 0) (.v 1) (.g (.v 0) (.v 1))) rfl hn) ?_ hh, P, by exact lin4 (.l (.a (.v 0) (.k 1)) (.v 1) (.l (.a (.v 1) (.v 2)) (.v 3) (.g (.a (.a (.v 0) (.v 2)) (.k 1)) (.v 3)))) rfl hb hB⟩, hp1, Nat.le_succ _, H1⟩
      intro q hq
      rcases List.mem_append.mp hq with hq | hq
      · exact hnr q hq
      · rw [List.mem_singleton] at hq; subst hq; exact hi.1
set_option tactic.hygienic false
noncomputable def It.sh (L : Nat) : It → It
  | .nd n => .nd n
  | .round a b => .round a (b + L)
  | .fin now r b => .fin now r (b + L)
noncomputable def TWay.sh (L : Nat) (w : TWay) : TWay := ⟨w.chain.map (It.sh L), w.at_ + L, w.named⟩
theorem adv_sh {q s : Str} {refs : List Ref} {i : It} {r : List It} {a : Nat} {n : Named} {p : List TWay} {h : HS} (hs : s.length ≤ 1000) (ha : a ≤ s.length) (hi : i.st false refs) :
    adv (q ++ s) (i.sh q.length) (r.map (It.sh q.length)) (a + q.length) n (p.map (TWay.sh q.length)) h = ((adv s i r a n p h).1.map (TWay.sh q.length), (adv s i r a n p h).2.1.map (TWay.sh q.length), (adv s i r a n p h).2.2) := by
  have hl := len_shift q s
  cases i with
  | round x b0 =>
    show (if a + q.length = b0 + q.length then none else some (⟨.nd (.arbno x) :: r.map (It.sh q.length), a + q.length, n⟩ : TWay), _, _) = ((if a = b0 then none else some (⟨.nd (.arbno x) :: r, a, n⟩ : TWay)).map _, _, _)
    by_cases e : a = b0
    · rw [if_pos e, if_pos (by exact Nat.le_antisymm (lin3 (.e (.v 0) (.v 1) (.g (.a (.v 0) (.v 2)) (.a (.v 1) (.v 2)))) rfl e) (lin3 (.f (.v 0) (.v 1) (.g (.a (.v 1) (.v 2)) (.a (.v 0) (.v 2)))) rfl e))]; rfl
    · rw [if_neg e, if_neg (by lia -abstractProof)]; rfl
  | fin now k b0 =>
    have e := slice_shift q s b0 a
    cases now with
    | true =>
      show (_, _, h.set k.2 (.str (Txt.slice (q ++ s) (some ((b0 + q.length : Nat) : Int)) (some ((a + q.length : Nat) : Int))))) = (_, _, h.set k.2 (.str (Txt.slice s (some (b0 : Int)) (some (a : Int)))))
      rw [e]; rfl
    | false =>
      show (some (⟨_, _, n ++ [(k, Txt.slice (q ++ s) (some ((b0 + q.length : Nat) : Int)) (some ((a + q.length : Nat) : Int)))]⟩ : TWay), _, _) = (some (TWay.sh _ ⟨_, _, n ++ [(k, Txt.slice s (some (b0 : Int)) (some (a : Int)))]⟩), _, _)
      rw [e]; rfl
  | nd m =>
    cases m with
    | cursor k => exact absurd hi.1 (by decide)
    | cat x y => rfl
    | alt x y => show (_, _ ++ [_], _) = (_, (_ ++ [_]).map _, _); rw [List.map_append]; rfl
    | arbno x => show (_, _ ++ [_], _) = (_, (_ ++ [_]).map _, _); rw [List.map_append]; rfl
    | nm b x k => rfl
    | delay k => rfl
    | rem =>
      show (some (⟨_, (q ++ s).length, n⟩ : TWay), _, _) = (some (⟨_, s.length + q.length, n⟩ : TWay), _, _)
      rw [hl]; rfl
    | arb =>
      show (_, (if a + q.length < (q ++ s).length then _ ++ [_] else _), _) = (_, (if a < s.length then _ ++ [_] else _).map _, _)
      by_cases e : a < s.length
      · rw [if_pos e, if_pos (by exact lin4 (.t (.v 0) (.v 1) (.f (.v 2) (.a (.v 1) (.v 3)) (.b (.a (.v 0) (.v 3)) (.v 2)))) rfl e hl), List.map_append]
        have : a + q.length + 1 = a + 1 + q.length := by exact Nat.le_antisymm (lin2 (.g (.a (.a (.v 0) (.v 1)) (.k 1)) (.a (.a (.v 0) (.k 1)) (.v 1))) rfl) (lin2 (.g (.a (.a (.v 0) (.k 1)) (.v 1)) (.a (.a (.v 0) (.v 1)) (.k 1))) rfl)
        rw [this]; rfl
      · rw [if_neg e, if_neg (by exact (fun z0 => lin4 (.e (.v 0) (.a (.v 1) (.v 2)) (.l (.v 1) (.v 3) (.t (.a (.v 3) (.v 2)) (.v 0) (.z)))) rfl hl (Nat.le_of_not_lt e) z0))]; rfl
    | pl p =>
      have hf : p.free = true := by rcases hi.2 with h | h; exact absurd h (by decide); exact h
      show (match p.ends (q ++ s) (a + q.length) with | some e => some (⟨_, e.toNat, n⟩ : TWay) | none => none, _, _) = ((match p.ends s a with | some e => some (⟨r, e.toNat, n⟩ : TWay) | none => none).map _, _, _)
      rw [ends_shift q s a hf]
      cases he : p.ends s a with
      | none => rfl
      | some e =>
        have := ends_range hi.1 ha he
        have e2 : (e + (q.length : Int)).toNat = e.toNat + q.length := by lia -abstractProof
        show (some (⟨_, (e + (q.length : Int)).toNat, n⟩ : TWay), _, _) = _
        rw [e2]; rfl
theorem ok_sh {L : Nat} {refs : List Ref} {h : HS} : ∀ {i : It}, i.ok refs h → (i.sh L).ok refs h
  | .nd _, h => h
  | .round _ _, h => h
  | .fin true _ _, h => h
  | .fin false _ _, h => h
inductive TEnd (s : Str) (tp : Bool) (refs : List Ref) (N B : Nat) (wo : Option TWay) (p : List TWay) (h : HS) : Prop
  | mk (k : Nat) (R : Option (Nat × Named) × HS) (N' : Nat) (t : TR s refs 99999 k wo p h R) (h1 : HI N' R.2) (h2 : N' ≤ N + B) (h3 : ∀ x, R.1 = some x → x.2.length ≤ 99999 ∧ (∀ q ∈ x.2, q.1 ∈ refs) ∧ x.1 ≤ s.length)
    (h5 : tp = false → ∀ q : Str, TR (q ++ s) refs 99999 k (wo.map (TWay.sh q.length)) (p.map (TWay.sh q.length)) h (R.1.map (fun x => (x.1 + q.length, x.2)), R.2))
theorem t_run {s : Str} {tp : Bool} {refs : List Ref} (hs : s.length ≤ 1000) : ∀ (K : Nat) (wo : Option TWay) (p : List TWay) (h : HS) (N B bw bp : Nat), WOk s tp refs N wo bw → (wo = none → bw = 0) → PB s p bp → bw + bp ≤ B → (∀ w ∈ p, WS s tp refs N w) → p.length ≤ N → HI N h → N + B ≤ 99999 → 2 * B + (if wo.isSome then 0 else 1) ≤ K →
    TEnd s tp refs N B wo p h := by
  intro K
  induction K with
  | zero =>
    intro wo p h N B bw bp W W0 P hB hp hl H hN hK
    cases wo with
    | none => simp at hK
    | some w =>
      obtain ⟨Ww, Tw⟩ := W w rfl
      obtain ⟨c, a, n⟩ := w
      have hn := Ww.nm
      dsimp only at hn Tw
      cases Tw with
      | nil => exact ⟨0, _, N, .met (by exact lin3 (.l (.a (.v 0) (.v 1)) (.k 99999) (.l (.v 2) (.v 0) (.g (.v 2) (.k 100000)))) rfl hN hn), H, by exact lin2 (.g (.v 0) (.a (.v 0) (.v 1))) rfl, (fun x e => by cases e; exact ⟨by show n.length ≤ 99999; exact lin3 (.l (.a (.v 0) (.v 1)) (.k 99999) (.l (.v 2) (.v 0) (.g (.v 2) (.k 99999)))) rfl hN hn, Ww.nr, Ww.at_⟩), fun _ q => (by show TR _ _ _ _ (some ⟨[], a + q.length, n⟩) _ _ (some (a + q.length, n), h); exact .met (by exact lin3 (.l (.a (.v 0) (.v 1)) (.k 99999) (.l (.v 2) (.v 0) (.g (.v 2) (.k 100000)))) rfl hN hn))⟩
      | _ => simp at hK; exact False.elim (lin4 (.e (.m 2 (.v 0)) (.k 0) (.l (.a (.v 1) (.k 1)) (.v 2) (.l (.a (.v 2) (.v 3)) (.v 0) (.z)))) rfl hK (by assumption) hB)
  | succ K ih =>
    intro wo p h N B bw bp W W0 P hB hp hl H hN hK
    cases wo with
    | none =>
      have hb0 := W0 rfl
      cases P with
      | nil => exact ⟨0, _, N, .out, H, by exact lin2 (.g (.v 0) (.a (.v 0) (.v 1))) rfl, (fun x e => by cases e), fun _ q => .out⟩
      | @snoc p w b1 b2 _ P' hw hb =>
        simp only [List.length_append, List.length_cons, List.length_nil] at hl
        obtain ⟨k, R, N', t, h1, h2, h3, h5⟩ := ih (some w) p h N B b2 b1 (fun w' e => by cases e; exact ⟨hp w (by simp), hw⟩) (fun e => by cases e) P' (by exact lin5 (.l (.a (.v 0) (.v 1)) (.v 2) (.l (.a (.v 3) (.v 2)) (.v 4) (.g (.a (.v 1) (.v 0)) (.v 4)))) rfl hb hB) (fun x hx => hp x (by simp [hx])) (by exact lin2 (.l (.a (.v 0) (.a (.k 0) (.k 1))) (.v 1) (.g (.v 0) (.v 1))) rfl hl) H hN (by simp at hK ⊢; exact lin2 (.l (.m 2 (.v 0)) (.v 1) (.g (.m 2 (.v 0)) (.v 1))) rfl hK)
        exact ⟨k + 1, R, N', .pop (by exact lin3 (.l (.a (.v 0) (.a (.k 0) (.k 1))) (.v 1) (.l (.a (.v 1) (.v 2)) (.k 99999) (.g (.v 0) (.k 100000)))) rfl hl hN) t (by exact lin1 (.b (.v 0) (.a (.v 0) (.k 1))) rfl), h1, h2, h3, fun e q => by rw [List.map_append]; exact .pop (by rw [List.length_map]; exact lin3 (.l (.a (.v 0) (.a (.k 0) (.k 1))) (.v 1) (.l (.a (.v 1) (.v 2)) (.k 99999) (.g (.v 0) (.k 100000)))) rfl hl hN) (h5 e q) (by exact lin1 (.b (.v 0) (.a (.v 0) (.k 1))) rfl)⟩
    | some w =>
      obtain ⟨Ww, Tw⟩ := W w rfl
      obtain ⟨c, a, n⟩ := w
      have hn := Ww.nm
      dsimp only at hn Tw
      cases c with
      | nil => exact ⟨0, _, N, .met (by exact lin3 (.l (.a (.v 0) (.v 1)) (.k 99999) (.l (.v 2) (.v 0) (.g (.v 2) (.k 100000)))) rfl hN hn), H, by exact lin2 (.g (.v 0) (.a (.v 0) (.v 1))) rfl, (fun x e => by cases e; exact ⟨by show n.length ≤ 99999; exact lin3 (.l (.a (.v 0) (.v 1)) (.k 99999) (.l (.v 2) (.v 0) (.g (.v 2) (.k 99999)))) rfl hN hn, Ww.nr, Ww.at_⟩), fun _ q => (by show TR _ _ _ _ (some ⟨[], a + q.length, n⟩) _ _ (some (a + q.length, n), h); exact .met (by exact lin3 (.l (.a (.v 0) (.v 1)) (.k 99999) (.l (.v 2) (.v 0) (.g (.v 2) (.k 100000)))) rfl hN hn))⟩
      | cons i r =>
        obtain ⟨o1, o2⟩ := adv_out hs Ww Tw P hB hp H
        have hv : h.vals.length ≤ 1000 := by obtain ⟨x, v, e, _⟩ := H.vals; rw [e]; simp [pq]
        have hlog := H.log
        obtain ⟨b1, b2, w1, w2, w3⟩ := o2.way
        have hB1 : 1 ≤ B := by exact lin3 (.l (.a (.a (.v 0) (.v 1)) (.k 1)) (.v 2) (.g (.k 1) (.v 2))) rfl w3
        have hlen := o2.len
        have hpile := o2.pile
        have hhi := o2.hi
        clear o2
        generalize hA : adv s i r a n p { h with steps := h.steps + 1 } = A at *
        obtain ⟨wo', p', h'⟩ := A
        dsimp only at w1 w2 hlen hpile hhi
        have fin : ∀ b, WOk s tp refs (N + 1) wo' b → (wo' = none → b = 0) → b + b2 + 1 ≤ B → TEnd s tp refs N B (some ⟨i :: r, a, n⟩) p h := fun b w1 wz w3 => by
          obtain ⟨k, R, N', t, h1, h2, h3, h5⟩ := ih wo' p' h' (N + 1) (B - 1) b b2 w1 wz w2 (by lia -abstractProof) hpile (by exact lin3 (.l (.v 0) (.a (.v 1) (.k 1)) (.l (.v 1) (.v 2) (.g (.v 0) (.a (.v 2) (.k 1))))) rfl hlen hl) hhi (by lia -abstractProof) (by simp at hK; split <;> lia -abstractProof)
          refine ⟨k + 1, R, N', .step o1 hv (by exact lin3 (.l (.a (.v 0) (.v 1)) (.k 99999) (.l (.v 2) (.v 0) (.g (.v 2) (.k 1000000)))) rfl hN hlog) (by exact lin3 (.l (.a (.v 0) (.v 1)) (.k 99999) (.l (.v 2) (.v 0) (.g (.v 2) (.k 1000000)))) rfl hN hl) (by exact lin3 (.l (.a (.v 0) (.v 1)) (.k 99999) (.l (.v 2) (.v 0) (.g (.v 2) (.k 100000)))) rfl hN hn) (by rw [H.steps]; lia -abstractProof) (by rw [hA]; exact t) (by exact lin1 (.b (.v 0) (.a (.v 0) (.k 1))) rfl), h1, by lia -abstractProof, h3, fun e q => ?_⟩
          subst e
          refine .step (ok_sh o1) hv (by exact lin3 (.l (.a (.v 0) (.v 1)) (.k 99999) (.l (.v 2) (.v 0) (.g (.v 2) (.k 1000000)))) rfl hN hlog) (by rw [List.length_map]; exact lin3 (.l (.a (.v 0) (.v 1)) (.k 99999) (.l (.v 2) (.v 0) (.g (.v 2) (.k 1000000)))) rfl hN hl) (by show n.length ≤ 100000; exact lin3 (.l (.a (.v 0) (.v 1)) (.k 99999) (.l (.v 2) (.v 0) (.g (.v 2) (.k 100000)))) rfl hN hn) (by rw [H.steps]; lia -abstractProof) (m := k) ?_ (by exact lin1 (.b (.v 0) (.a (.v 0) (.k 1))) rfl)
          rw [adv_sh hs Ww.at_ (Ww.it i (by simp)), hA]
          exact h5 rfl q
        cases wo' with
        | none => exact fin 0 (fun w e => by cases e) (fun _ => rfl) (by exact lin3 (.l (.a (.a (.v 0) (.v 1)) (.k 1)) (.v 2) (.g (.a (.a (.k 0) (.v 1)) (.k 1)) (.v 2))) rfl w3)
        | some w' => exact fin b1 w1 (fun e => by cases e) w3
end
section
open PySem PySem.W PyProof.Rows PySem.Calls
theorem t_node {s : Str} {tp : Bool} {refs : List Ref} {n : Nd} {b N : Nat} {h : HS} (hs : s.length ≤ 1000) (hn : NodeOk tp 2 n) (hr : ∀ r ∈ n.refs, r ∈ refs) (hb : b ≤ s.length) (h4 : s.length - b ≤ 4) (h2 : hasR n = true → s.length - b ≤ 2) (H : HI N h) (hN : N + 10000 ≤ 99999) : EX3 fun k R N' => AN5 (TR s refs 99999 k (some ⟨[.nd n], b, []⟩) [] h R) (HI N' R.2) (N' ≤ N + 10000) (∀ x, R.1 = some x → x.2.length ≤ 99999 ∧ (∀ q ∈ x.2, q.1 ∈ refs) ∧ x.1 ≤ s.length) (tp = false → ∀ q : Str, TR (q ++ s) refs 99999 k (some ⟨[.nd n], b + q.length, []⟩) [] h (R.1.map (fun x => (x.1 + q.length, x.2)), R.2)) := by
  have st := node_st hn hr
  have tc := tc_of (s := s) n st [] b (fun _ => 1) hb fun a' _ _ => .nil
  have few := cB_few hn h4 h2
  obtain ⟨k, R, N', e1, e2, e3, e4, e5⟩ := t_run (tp := tp) hs (2 * 10000) (some ⟨[.nd n], b, []⟩) [] h N 10000 _ 0 (fun w e => by cases e; exact ⟨⟨fun i hi => by rw [List.mem_singleton] at hi; subst hi; exact st, hb, Nat.zero_le _, fun p hp => by cases hp⟩, tc⟩) (fun e => by cases e) .nil (by omega) (fun w hw => by cases hw) (Nat.zero_le _) H hN (by simp)
  exact ⟨k, R, N', e1, e2, e3, e4, e5⟩
theorem t_places {s : Str} {tp : Bool} {refs : List Ref} {n : Nd} (hs : s.length ≤ 4) (hn : NodeOk tp 2 n) (hr : ∀ r ∈ n.refs, r ∈ refs) (h2 : hasR n = true → s.length ≤ 2) : ∀ (m b N : Nat) (h : HS), b + m = s.length + 1 → HI N h → N + m * 10000 ≤ 99999 → ∃ R N', MP s refs 99999 n b m h R ∧ HI N' R.2 ∧ N' ≤ N + m * 10000 ∧ (∀ x, R.1 = some x → x.2.2.length ≤ 99999 ∧ (∀ q ∈ x.2.2, q.1 ∈ refs)) := by
  intro m
  induction m with
  | zero => intro b N h _ H _; exact ⟨_, N, .done, H, by exact lin1 (.g (.v 0) (.a (.v 0) (.m 0 (.k 10000)))) rfl, fun x e => by cases e⟩
  | succ m ih =>
    intro b N h hb H hN
    obtain ⟨k, ⟨R1, R2⟩, N', t, h1, h3, h4, _⟩ := t_node (s := s) (b := b) (by exact lin1 (.l (.v 0) (.k 4) (.g (.v 0) (.k 1000))) rfl hs) hn hr (by exact lin3 (.e (.a (.v 0) (.a (.v 1) (.k 1))) (.a (.v 2) (.k 1)) (.g (.v 0) (.v 2))) rfl hb) (by lia -abstractProof) (fun z => by have := h2 z; lia -abstractProof) H (by exact lin2 (.l (.a (.v 0) (.w (.a (.v 1) (.k 1)) 10000)) (.k 99999) (.g (.a (.v 0) (.k 10000)) (.k 99999))) rfl hN)
    cases R1 with
    | some x => exact ⟨_, N', .hit t, h1, by exact lin3 (.l (.v 0) (.a (.v 1) (.k 10000)) (.g (.v 0) (.a (.v 1) (.w (.a (.v 2) (.k 1)) 10000)))) rfl h3, fun y e => by cases e; exact ⟨(h4 x rfl).1, (h4 x rfl).2.1⟩⟩
    | none =>
      obtain ⟨R, N2, r, h5, h6, h7⟩ := ih (b + 1) N' R2 (by exact Nat.le_antisymm (lin3 (.e (.a (.v 0) (.a (.v 1) (.k 1))) (.a (.v 2) (.k 1)) (.g (.a (.a (.v 0) (.k 1)) (.v 1)) (.a (.v 2) (.k 1)))) rfl hb) (lin3 (.f (.a (.v 0) (.a (.v 1) (.k 1))) (.a (.v 2) (.k 1)) (.g (.a (.v 2) (.k 1)) (.a (.a (.v 0) (.k 1)) (.v 1)))) rfl hb)) h1 (by exact lin3 (.l (.a (.v 0) (.w (.a (.v 1) (.k 1)) 10000)) (.k 99999) (.l (.v 2) (.a (.v 0) (.k 10000)) (.g (.a (.v 2) (.w (.v 1) 10000)) (.k 99999)))) rfl hN h3)
      exact ⟨R, N2, .miss t r, h5, by exact lin4 (.l (.v 0) (.a (.v 1) (.w (.v 2) 10000)) (.l (.v 1) (.a (.v 3) (.k 10000)) (.g (.v 0) (.a (.v 3) (.w (.a (.v 2) (.k 1)) 10000))))) rfl h6 h3, h7⟩
end
section
open PySem PySem.W PyProof.Rows PySem.Calls
inductive MC (code : List Ord) (s : Str) : Nat → List Nat → Nat → Nat → Prop
  | done {pc mk a b'} (h : code[pc]? = some .done) (hb : 1 ≤ b') : MC code s pc mk a b'
  | one {p pc mk a b b'} (h : code[pc]? = some (.one p)) (hn : ∀ e, p.ends s a = some e → MC code s (pc + 1) mk e.toNat b) (hb : b + 1 ≤ b') : MC code s pc mk a b'
  | rem {pc mk a b b'} (h : code[pc]? = some .rem) (hn : MC code s (pc + 1) mk s.length b) (hb : b + 1 ≤ b') : MC code s pc mk a b'
  | ways {pc mk a b'} (f : Nat → Nat) (h : code[pc]? = some .ways) (hn : ∀ e, a ≤ e → e ≤ s.length → MC code s (pc + 1) mk e (f e)) (hb : ((arbL s a).map f).sum + 1 ≤ b') : MC code s pc mk a b'
  | split {g pc mk a b1 b2 b'} (h : code[pc]? = some (.split g)) (h1 : MC code s (pc + 1) mk a b1) (h2 : MC code s g mk a b2) (hb : b1 + b2 + 1 ≤ b') : MC code s pc mk a b'
  | jump {g pc mk a b b'} (h : code[pc]? = some (.jump g)) (hn : MC code s g mk a b) (hb : b + 1 ≤ b') : MC code s pc mk a b'
  | mark {pc mk a b b'} (h : code[pc]? = some .mark) (hn : MC code s (pc + 1) (a :: mk) a b) (hb : b + 1 ≤ b') : MC code s pc mk a b'
  | nm {now r pc m0 mk a b b'} (h : code[pc]? = some (.nm now r)) (hn : MC code s (pc + 1) mk a b) (hb : b + 1 ≤ b') : MC code s pc (m0 :: mk) a b'
  | gain {pc m0 mk a b b'} (h : code[pc]? = some .gain) (hn : m0 < a → MC code s (pc + 1) mk a b) (hb : b + 1 ≤ b') : MC code s pc (m0 :: mk) a b'
  | place {r pc mk a b b'} (h : code[pc]? = some (.place r)) (hn : MC code s (pc + 1) mk a b) (hb : b + 1 ≤ b') : MC code s pc mk a b'
  | ask {k pc mk a b b'} (h : code[pc]? = some (.ask k)) (hn : ∀ e, a ≤ e → e ≤ s.length → MC code s (pc + 1) mk e b) (hb : b + 3 ≤ b') : MC code s pc mk a b'
theorem MC.up {code : List Ord} {s : Str} {pc : Nat} {mk : List Nat} {a b c : Nat} (h : MC code s pc mk a b) (hc : b ≤ c) : MC code s pc mk a c := by
  cases h with
  | done h hb => exact .done h (by exact lin2 (.l (.k 1) (.v 0) (.l (.v 0) (.v 1) (.g (.k 1) (.v 1)))) rfl hb hc)
  | one h hn hb => exact .one h hn (by exact lin3 (.l (.a (.v 0) (.k 1)) (.v 1) (.l (.v 1) (.v 2) (.g (.a (.v 0) (.k 1)) (.v 2)))) rfl hb hc)
  | rem h hn hb => exact .rem h hn (by exact lin3 (.l (.a (.v 0) (.k 1)) (.v 1) (.l (.v 1) (.v 2) (.g (.a (.v 0) (.k 1)) (.v 2)))) rfl hb hc)
  | ways f h hn hb => exact .ways f h hn (by exact lin3 (.l (.a (.v 0) (.k 1)) (.v 1) (.l (.v 1) (.v 2) (.g (.a (.v 0) (.k 1)) (.v 2)))) rfl hb hc)
  | split h h1 h2 hb => exact .split h h1 h2 (by exact lin4 (.l (.a (.a (.v 0) (.v 1)) (.k 1)) (.v 2) (.l (.v 2) (.v 3) (.g (.a (.a (.v 0) (.v 1)) (.k 1)) (.v 3)))) rfl hb hc)
  | jump h hn hb => exact .jump h hn (by exact lin3 (.l (.a (.v 0) (.k 1)) (.v 1) (.l (.v 1) (.v 2) (.g (.a (.v 0) (.k 1)) (.v 2)))) rfl hb hc)
  | mark h hn hb => exact .mark h hn (by exact lin3 (.l (.a (.v 0) (.k 1)) (.v 1) (.l (.v 1) (.v 2) (.g (.a (.v 0) (.k 1)) (.v 2)))) rfl hb hc)
  | nm h hn hb => exact .nm h hn (by exact lin3 (.l (.a (.v 0) (.k 1)) (.v 1) (.l (.v 1) (.v 2) (.g (.a (.v 0) (.k 1)) (.v 2)))) rfl hb hc)
  | gain h hn hb => exact .gain h hn (by exact lin3 (.l (.a (.v 0) (.k 1)) (.v 1) (.l (.v 1) (.v 2) (.g (.a (.v 0) (.k 1)) (.v 2)))) rfl hb hc)
  | place h hn hb => exact .place h hn (by exact lin3 (.l (.a (.v 0) (.k 1)) (.v 1) (.l (.v 1) (.v 2) (.g (.a (.v 0) (.k 1)) (.v 2)))) rfl hb hc)
  | ask h hn hb => exact .ask h hn (by exact lin3 (.l (.a (.v 0) (.k 3)) (.v 1) (.l (.v 1) (.v 2) (.g (.a (.v 0) (.k 3)) (.v 2)))) rfl hb hc)
theorem MC.there {code : List Ord} {s : Str} {pc : Nat} {mk : List Nat} {a b : Nat} (h : MC code s pc mk a b) : ∃ o, code[pc]? = some o := by cases h <;> exact ⟨_, by assumption⟩
theorem MC.resolves {code : List Ord} {s : Str} : ∀ (b : Nat) {pc : Nat} {mk : List Nat} {a : Nat}, MC code s pc mk a b → Resolves code pc := by
  intro b
  induction b using Nat.strongRecOn with
  | _ b ih =>
    intro pc mk a h
    obtain ⟨o, ho⟩ := h.there
    by_cases hj : ∃ g, o = .jump g
    · obtain ⟨g, rfl⟩ := hj
      cases h with
      | @jump g' _ _ _ b1 _ h' hn hb =>
        obtain ⟨f, o2, h1, h2⟩ := ih b1 (by exact lin2 (.l (.a (.v 0) (.k 1)) (.v 1) (.b (.v 0) (.v 1))) rfl hb) hn
        refine ⟨f + 1, o2, ?_, h2⟩
        have e : resolve code (f + 1) pc = resolve code f g' := by show (match code[pc]? with | some (.jump g') => resolve code f g' | _ => pc) = _; rw [h']
        rw [e]; exact h1
      | _ => simp_all
    · refine ⟨0, o, ho, ?_⟩
      cases o <;> first | rfl | exact absurd ⟨_, rfl⟩ hj
theorem MC.along {code : List Ord} {s : Str} : ∀ (f : Nat) {pc : Nat} {mk : List Nat} {a b : Nat}, MC code s pc mk a b → MC code s (resolve code f pc) mk a b
  | 0, _, _, _, _, h => h
  | f + 1, pc, mk, a, b, h => by
    show MC code s (match code[pc]? with | some (.jump g') => resolve code f g' | _ => pc) mk a b
    obtain ⟨o, ho⟩ := h.there
    rw [ho]
    cases o with
    | jump g =>
      cases h with
      | @jump g' _ _ _ b1 _ h' hn hb =>
        rw [ho] at h'; cases h'
        exact (MC.along f hn).up (by exact lin2 (.l (.a (.v 0) (.k 1)) (.v 1) (.g (.v 0) (.v 1))) rfl hb)
      | _ => simp_all
    | _ => exact h
theorem MC.final {code : List Ord} {s : Str} {pc : Nat} {mk : List Nat} {a b : Nat} (h : MC code s pc mk a b) : MC code s (finalOf code pc) mk a b := by
  obtain ⟨f, o, e, _, _⟩ := finalOf_eq (h.resolves b)
  rw [e]; exact h.along f
theorem le_sum {x : Nat} : ∀ {l : List Nat}, x ∈ l → x ≤ l.sum
  | y :: l, h => by
    rw [List.sum_cons]
    rcases List.mem_cons.mp h with rfl | h
    · exact lin2 (.g (.v 0) (.a (.v 0) (.v 1))) rfl
    · have := le_sum h; exact lin3 (.l (.v 0) (.v 1) (.g (.v 0) (.a (.v 2) (.v 1)))) rfl this
theorem get_straight {raw : List Ord} {pc : Nat} {o : Ord} (h : raw[pc]? = some o) : (raw.map (straightO raw))[pc]? = some (straightO raw o) := by rw [List.getElem?_map, h]; rfl
theorem MC.straight {raw : List Ord} {s : Str} : ∀ (b : Nat) {pc : Nat} {mk : List Nat} {a : Nat}, MC raw s pc mk a b → MC (raw.map (straightO raw)) s pc mk a b := by
  intro b
  induction b using Nat.strongRecOn with
  | _ b ih =>
    intro pc mk a h
    cases h with
    | done h hb => exact .done (get_straight h) hb
    | one h hn hb => exact .one (get_straight h) (fun e he => ih _ (by exact lin2 (.l (.a (.v 0) (.k 1)) (.v 1) (.b (.v 0) (.v 1))) rfl hb) (hn e he)) hb
    | rem h hn hb => exact .rem (get_straight h) (ih _ (by exact lin2 (.l (.a (.v 0) (.k 1)) (.v 1) (.b (.v 0) (.v 1))) rfl hb) hn) hb
    | ways f h hn hb =>
      refine .ways f (get_straight h) (fun e l1 l2 => ih _ ?_ (hn e l1 l2)) hb
      have hm : e ∈ arbL s a := by unfold arbL; rw [List.mem_range'_1]; lia
      have : f e ≤ ((arbL s a).map f).sum := le_sum (List.mem_map_of_mem hm)
      exact lin3 (.l (.a (.v 0) (.k 1)) (.v 1) (.l (.v 2) (.v 0) (.b (.v 2) (.v 1)))) rfl hb this
    | split h h1 h2 hb => exact .split (get_straight h) (ih _ (by exact lin3 (.l (.a (.a (.v 0) (.v 1)) (.k 1)) (.v 2) (.b (.v 0) (.v 2))) rfl hb) h1) (ih _ (by exact lin3 (.l (.a (.a (.v 0) (.v 1)) (.k 1)) (.v 2) (.b (.v 1) (.v 2))) rfl hb) h2.final) hb
    | jump h hn hb => exact .jump (get_straight h) (ih _ (by exact lin2 (.l (.a (.v 0) (.k 1)) (.v 1) (.b (.v 0) (.v 1))) rfl hb) hn.final) hb
    | mark h hn hb => exact .mark (get_straight h) (ih _ (by exact lin2 (.l (.a (.v 0) (.k 1)) (.v 1) (.b (.v 0) (.v 1))) rfl hb) hn) hb
    | nm h hn hb => exact .nm (get_straight h) (ih _ (by exact lin2 (.l (.a (.v 0) (.k 1)) (.v 1) (.b (.v 0) (.v 1))) rfl hb) hn) hb
    | gain h hn hb => exact .gain (get_straight h) (fun z => ih _ (by exact lin2 (.l (.a (.v 0) (.k 1)) (.v 1) (.b (.v 0) (.v 1))) rfl hb) (hn z)) hb
    | place h hn hb => exact .place (get_straight h) (ih _ (by exact lin2 (.l (.a (.v 0) (.k 1)) (.v 1) (.b (.v 0) (.v 1))) rfl hb) hn) hb
    | ask h hn hb => exact .ask (get_straight h) (fun e l1 l2 => ih _ (by exact lin2 (.l (.a (.v 0) (.k 3)) (.v 1) (.b (.v 0) (.v 1))) rfl hb) (hn e l1 l2)) hb
end
section
open PySem PySem.W PyProof.Rows PySem.Calls
def Seg (raw : List Ord) (b : Nat) (c : List Ord) : Prop := ∀ i o, c[i]? = some o → raw[b + i]? = some o
theorem Seg.left {raw : List Ord} {b : Nat} {c d : List Ord} (h : Seg raw b (c ++ d)) : Seg raw b c := fun i o e => h i o (by rw [List.getElem?_append_left (List.getElem?_eq_some_iff.mp e).1]; exact e)
theorem Seg.right {raw : List Ord} {b : Nat} {c d : List Ord} (h : Seg raw b (c ++ d)) : Seg raw (b + c.length) d := fun i o e => by
  have := h (c.length + i) o (by rw [List.getElem?_append_right (by exact lin2 (.g (.v 0) (.a (.v 0) (.v 1))) rfl)]; simpa using e)
  rw [Nat.add_assoc]; exact this
theorem Seg.head {raw : List Ord} {b : Nat} {o : Ord} {c : List Ord} (h : Seg raw b (o :: c)) : raw[b]? = some o := h 0 o rfl
theorem Seg.tail {raw : List Ord} {b : Nat} {o : Ord} {c : List Ord} (h : Seg raw b (o :: c)) : Seg raw (b + 1) c := fun i p e => by
  have := h (i + 1) p (by simpa using e)
  rw [Nat.add_assoc, Nat.add_comm 1 i]; exact this
noncomputable def seqB : List Nd → Nat → (Nat → Nat) → Nat
  | [], m, K => K m
  | p :: ps, m, K => cB p m (fun x => seqB ps x K)
noncomputable def altB : List Nd → Nat → (Nat → Nat) → Nat
  | [], _, _ => 0
  | [p], m, K => cB p m K
  | p :: q :: ps, m, K => 1 + cB p m (fun x => 1 + K x) + altB (q :: ps) m K
theorem seqB_mono : ∀ ps : List Nd, MonoF (seqB ps)
  | [], m, k, k', h => h m (Nat.le_refl _)
  | p :: ps, m, k, k', h => cB_mono p m _ _ fun x hx => seqB_mono ps x k k' fun y hy => h y (by exact lin3 (.l (.v 0) (.v 1) (.l (.v 1) (.v 2) (.g (.v 0) (.v 2)))) rfl hy hx)
set_option tactic.hygienic true
theorem seqB_append (K : Nat → Nat) : ∀ (l m : List Nd) (x : Nat), seqB (l ++ m) x K = seqB l x (fun y => seqB m y K)
  | [], _, _ => rfl
  | p :: l, m, x => by
    show cB p x _ = cB p x _
    congr 1
    funext y
    exact seqB_append K l m y
set_option tactic.hygienic false
theorem seq_row : ∀ (n : Nd) (m : Nat) (K : Nat → Nat), seqB (rowCat n) m K ≤ cB n m K := by
  intro n
  induction n with
  | cat a b iha ihb =>
    intro m K
    show seqB (rowCat a ++ rowCat b) m K ≤ 1 + cB a m (fun x => cB b x K)
    rw [seqB_append]
    have h1 := seqB_mono (rowCat a) m (fun y => seqB (rowCat b) y K) (fun y => cB b y K) fun y _ => ihb y K
    have h2 := iha m (fun y => cB b y K)
    exact lin3 (.l (.v 0) (.v 1) (.l (.v 2) (.v 0) (.g (.v 2) (.a (.k 1) (.v 1))))) rfl h2 h1
  | _ => intro m K; exact Nat.le_refl _
theorem alt_row : ∀ (n : Nd) (ps : List Nd) (m : Nat) (K : Nat → Nat), (ps = [] → altB (rowAlt n) m K ≤ cB n m K) ∧ (ps ≠ [] → altB (rowAlt n ++ ps) m K ≤ 1 + cB n m (fun x => 1 + K x) + altB ps m K) := by
  intro n
  induction n with
  | alt a b iha ihb =>
    intro ps m K
    have hb : rowAlt b ≠ [] := by have := two_alt b; intro z; rw [z] at this; simp at this
    refine ⟨fun _ => ?_, fun h => ?_⟩
    · show altB (rowAlt a ++ rowAlt b) m K ≤ 1 + cB a m (fun x => 1 + K x) + cB b m K
      have h1 := (iha (rowAlt b) m K).2 hb
      have h2 := (ihb [] m K).1 rfl
      exact lin4 (.l (.v 0) (.a (.a (.k 1) (.v 1)) (.v 2)) (.l (.v 2) (.v 3) (.g (.v 0) (.a (.a (.k 1) (.v 1)) (.v 3))))) rfl h1 h2
    · show altB ((rowAlt a ++ rowAlt b) ++ ps) m K ≤ 1 + (1 + cB a m (fun x => 1 + (1 + K x)) + cB b m (fun x => 1 + K x)) + altB ps m K
      rw [List.append_assoc]
      have h1 := (iha (rowAlt b ++ ps) m K).2 (by simp [hb])
      have h2 := (ihb ps m K).2 h
      have h3 := cB_mono a m (fun x => 1 + K x) (fun x => 1 + (1 + K x)) fun x _ => by exact lin1 (.g (.a (.k 1) (.v 0)) (.a (.k 1) (.a (.k 1) (.v 0)))) rfl
      exact lin6 (.l (.v 0) (.a (.a (.k 1) (.v 1)) (.v 2)) (.l (.v 3) (.a (.a (.k 1) (.v 4)) (.v 0)) (.l (.v 4) (.v 5) (.g (.v 3) (.a (.a (.k 1) (.a (.a (.k 1) (.v 5)) (.v 1))) (.v 2)))))) rfl h2 h1 h3
  | _ =>
    intro ps m K
    refine ⟨fun _ => Nat.le_refl _, fun h => ?_⟩
    cases ps with
    | nil => exact absurd rfl h
    | cons q ps => exact Nat.le_refl _
set_option tactic.hygienic true
theorem textB {p : Nd} {t : Str} (h : textOf p = some t) (m : Nat) (K : Nat → Nat) : cB p m K = leafB m K := by
  rcases textOf_case p with ⟨_, h2⟩ | ⟨u, rfl⟩
  · rw [h] at h2; cases h2
  · rfl
set_option tactic.hygienic false
theorem leafB_up (m : Nat) (K : Nat → Nat) : K m ≤ leafB m K := by
  have := le_sumTo (f := fun x => 2 + K x) (Nat.le_refl m)
  unfold leafB; exact lin2 (.l (.a (.k 2) (.v 0)) (.v 1) (.g (.v 0) (.a (.v 1) (.k 4)))) rfl this
set_option tactic.hygienic true
theorem seq_join (K : Nat → Nat) (f : List Nd) (p : Nd) (ps : List Nd) (m : Nat) : seqB (joinStep f p ++ ps) m K ≤ seqB (f ++ p :: ps) m K := by
  unfold joinStep
  split
  · rw [List.append_assoc]; exact Nat.le_refl _
  · rename_i t ht
    split
    · rw [seqB_append, seqB_append]
      refine seqB_mono f m _ _ fun y _ => ?_
      show _ ≤ cB p y _
      rw [textB ht]
      exact leafB_up y fun x => seqB ps x K
    · rcases List.eq_nil_or_concat f with rfl | ⟨f, u, rfl⟩
      · exact Nat.le_refl _
      · rw [List.concat_eq_append]
        simp only [List.getLast?_append, List.getLast?_singleton, Option.some_or]
        split
        · rw [List.append_assoc]; exact Nat.le_refl _
        · rename_i v hv
          rw [List.dropLast_concat, List.append_assoc, List.append_assoc, seqB_append, seqB_append]
          refine seqB_mono f m _ _ fun y _ => ?_
          show leafB y (fun x => seqB ps x K) ≤ cB u y (fun x => cB p x (fun z => seqB ps z K))
          rw [textB hv]
          refine leafB_mono y _ _ fun x _ => ?_
          rw [textB ht]
          exact leafB_up x fun z => seqB ps z K
set_option tactic.hygienic false
theorem seq_joined (K : Nat → Nat) : ∀ (ps f : List Nd) (m : Nat), seqB (ps.foldl joinStep f) m K ≤ seqB (f ++ ps) m K
  | [], f, m => by simp
  | p :: ps, f, m => by
    rw [List.foldl_cons]
    have h1 := seq_joined K ps (joinStep f p) m
    have h2 := seq_join K f p ps m
    exact lin3 (.l (.v 0) (.v 1) (.l (.v 2) (.v 0) (.g (.v 2) (.v 1)))) rfl h2 h1
set_option tactic.hygienic true
theorem joined_st {tp : Bool} {refs : List Ref} (ps : List Nd) (h : ∀ p ∈ ps, p.st tp refs) (ht : tx ps ≤ 1000) : ∀ p ∈ joined ps, p.st tp refs := by
  have step : ∀ (f : List Nd) (p : Nd), (∀ q ∈ f, q.st tp refs) → p.st tp refs → tx f + p.text ≤ 1000 → ∀ q ∈ joinStep f p, q.st tp refs := by
    intro f p hf hp ht q hq
    have app : ∀ q ∈ f ++ [p], q.st tp refs := fun q hq => by
      rcases List.mem_append.mp hq with hq | hq
      · exact hf q hq
      · rw [List.mem_singleton] at hq; subst hq; exact hp
    unfold joinStep at hq
    split at hq
    · exact app q hq
    · rename_i t htt
      split at hq
      · exact hf q hq
      · rcases List.eq_nil_or_concat f with rfl | ⟨f, u, rfl⟩
        · exact app q hq
        · rw [List.concat_eq_append] at *
          simp only [List.getLast?_append, List.getLast?_singleton, Option.some_or] at hq
          split at hq
          · exact app q hq
          · rename_i v hv
            rw [List.dropLast_concat] at hq
            rcases List.mem_append.mp hq with hq | hq
            · exact hf q (by simp [hq])
            · rw [List.mem_singleton] at hq
              subst hq
              have e1 := textOf_text htt
              have e2 := textOf_text hv
              rw [tx_append, tx_cons] at ht
              refine ⟨?_, .inr rfl⟩
              show (v ++ t).length ≤ 1000
              rw [Str.len_append]; exact lin5 (.l (.a (.a (.v 0) (.a (.v 1) (.k 0))) (.v 2)) (.k 1000) (.f (.v 1) (.v 3) (.f (.v 2) (.v 4) (.g (.a (.v 3) (.v 4)) (.k 1000))))) rfl ht e2 e1
  have key : ∀ (ps f : List Nd), (∀ q ∈ f, q.st tp refs) → (∀ p ∈ ps, p.st tp refs) → tx f + tx ps ≤ 1000 → ∀ q ∈ ps.foldl joinStep f, q.st tp refs := by
    intro ps
    induction ps with
    | nil => intro f hf _ _; exact hf
    | cons p ps ih =>
      intro f hf hp ht
      rw [tx_cons] at ht
      have := tx_joinStep f p
      exact ih _ (step f p hf (hp p (by simp)) (by exact lin3 (.l (.a (.v 0) (.a (.v 1) (.v 2))) (.k 1000) (.g (.a (.v 0) (.v 1)) (.k 1000))) rfl ht)) (fun q hq => hp q (by simp [hq])) (by exact lin4 (.l (.a (.v 0) (.a (.v 1) (.v 2))) (.k 1000) (.l (.v 3) (.a (.v 0) (.v 1)) (.g (.a (.v 3) (.v 2)) (.k 1000)))) rfl ht this)
  exact key ps [] (fun _ h => nomatch h) h (by simp [tx] at ht ⊢; exact ht)
set_option tactic.hygienic false
theorem row_st {tp : Bool} {refs : List Ref} : ∀ n : Nd, n.st tp refs → (∀ p ∈ rowCat n, p.st tp refs) ∧ (∀ p ∈ rowAlt n, p.st tp refs) := by
  intro n
  induction n with
  | cat a b iha ihb =>
    intro h
    refine ⟨fun p hp => ?_, fun p hp => ?_⟩
    · rcases List.mem_append.mp hp with hp | hp
      · exact (iha h.1).1 p hp
      · exact (ihb h.2).1 p hp
    · rw [show rowAlt (.cat a b) = [.cat a b] from rfl, List.mem_singleton] at hp; subst hp; exact h
  | alt a b iha ihb =>
    intro h
    refine ⟨fun p hp => ?_, fun p hp => ?_⟩
    · rw [show rowCat (.alt a b) = [.alt a b] from rfl, List.mem_singleton] at hp; subst hp; exact h
    · rcases List.mem_append.mp hp with hp | hp
      · exact (iha h.1).2 p hp
      · exact (ihb h.2).2 p hp
  | _ =>
    intro h
    refine ⟨fun p hp => ?_, fun p hp => ?_⟩ <;> (simp only [rowCat, rowAlt, List.mem_singleton] at hp; subst hp; exact h)
theorem arb_sum {s : Str} (K : Nat → Nat) : ∀ (m a : Nat), a + m = s.length → ((arbL s a).map fun e => K (s.length - e)).sum ≤ sumTo (fun x => 2 + K x) m
  | 0, a, e => by
    have : arbL s a = [a] := by unfold arbL; have : s.length + 1 - a = 1 := by lia -abstractProof
                                rw [this]; rfl
    rw [this]
    have e2 : s.length - a = 0 := by lia -abstractProof
    simp [e2, sumTo]
  | m + 1, a, e => by
    have h1 : arbL s a = a :: arbL s (a + 1) := by
      unfold arbL
      have : s.length + 1 - a = (s.length + 1 - (a + 1)) + 1 := by lia -abstractProof
      rw [this, List.range'_succ]
    have ih := arb_sum (s := s) K m (a + 1) (by exact Nat.le_antisymm (lin3 (.e (.a (.v 0) (.a (.v 1) (.k 1))) (.v 2) (.g (.a (.a (.v 0) (.k 1)) (.v 1)) (.v 2))) rfl e) (lin3 (.f (.a (.v 0) (.a (.v 1) (.k 1))) (.v 2) (.g (.v 2) (.a (.a (.v 0) (.k 1)) (.v 1)))) rfl e))
    rw [h1, List.map_cons, List.sum_cons]
    have e2 : s.length - a = m + 1 := by lia -abstractProof
    rw [e2]
    show _ ≤ (2 + K (m + 1)) + sumTo _ m
    exact lin3 (.l (.v 0) (.v 1) (.g (.a (.v 2) (.v 0)) (.a (.a (.k 2) (.v 2)) (.v 1)))) rfl ih
end
section
open PySem PySem.W PyProof.Rows PySem.Calls
structure Laid2 (raw : List Ord) (s : Str) (f : Nd → Nat → List Ord) (n : Nd) : Prop where
  cost : ∀ b, Seg raw b (f n b) → ∀ (mk : List Nat) (a : Nat) (K : Nat → Nat), a ≤ s.length → (∀ a', a ≤ a' → a' ≤ s.length → MC raw s (b + (f n b).length) mk a' (K (s.length - a'))) → MC raw s b mk a (cB n (s.length - a) K)
  goals : ∀ b, Seg raw b (f n b) → ∀ (mk : List Nat) (K : Nat → Nat), (∀ a', a' ≤ s.length → MC raw s (b + (f n b).length) mk a' (K (s.length - a'))) → ∀ o ∈ f n b, ∀ g, o.goal = some g → ∃ mk a c, MC raw s g mk a c
theorem lay_seq {raw : List Ord} {s : Str} {f : Nd → Nat → List Ord} : ∀ (ps : List Nd), (∀ p ∈ ps, Laid2 raw s f p) →
    (∀ b, Seg raw b (seqAt f ps b) → ∀ (mk : List Nat) (a : Nat) (K : Nat → Nat), a ≤ s.length → (∀ a', a ≤ a' → a' ≤ s.length → MC raw s (b + (seqAt f ps b).length) mk a' (K (s.length - a'))) → MC raw s b mk a (seqB ps (s.length - a) K)) ∧
    (∀ b, Seg raw b (seqAt f ps b) → ∀ (mk : List Nat) (K : Nat → Nat), (∀ a', a' ≤ s.length → MC raw s (b + (seqAt f ps b).length) mk a' (K (s.length - a'))) → ∀ o ∈ seqAt f ps b, ∀ g, o.goal = some g → ∃ mk a c, MC raw s g mk a c)
  | [], _ => ⟨fun b _ mk a K ha h => h a (Nat.le_refl _) ha, fun b _ mk K _ o ho => nomatch ho⟩
  | p :: ps, hp => by
    obtain ⟨i1, i2⟩ := lay_seq ps fun q hq => hp q (by simp [hq])
    have l1 := hp p (by simp)
    have len : ∀ b, b + (seqAt f (p :: ps) b).length = b + (f p b).length + (seqAt f ps (b + (f p b).length)).length := fun b => by show b + (f p b ++ seqAt f ps (b + (f p b).length)).length = _; rw [List.length_append]; exact Nat.le_antisymm (lin3 (.g (.a (.v 0) (.a (.v 1) (.v 2))) (.a (.a (.v 0) (.v 1)) (.v 2))) rfl) (lin3 (.g (.a (.a (.v 0) (.v 1)) (.v 2)) (.a (.v 0) (.a (.v 1) (.v 2)))) rfl)
    refine ⟨fun b hs mk a K ha h => ?_, fun b hs mk K h o ho g hg => ?_⟩
    · rw [len] at h
      exact l1.cost b hs.left mk a (fun x => seqB ps x K) ha fun a' h1 h2 => i1 _ hs.right mk a' K h2 fun a2 h3 h4 => h a2 (by exact lin3 (.l (.v 0) (.v 1) (.l (.v 2) (.v 0) (.g (.v 2) (.v 1)))) rfl h3 h1) h4
    · rw [len] at h
      rcases List.mem_append.mp ho with ho | ho
      · exact l1.goals b hs.left mk (fun x => seqB ps x K) (fun a' h2 => i1 _ hs.right mk a' K h2 fun a2 h3 h4 => h a2 h4) o ho g hg
      · exact i2 _ hs.right mk K h o ho g hg
theorem altAt_cons (f : Nd → Nat → List Ord) (p q : Nd) (ps : List Nd) (b : Nat) : altAt f (p :: q :: ps) b = .split (b + (f p (b + 1)).length + 2) :: (f p (b + 1) ++ .jump (b + (f p (b + 1)).length + 2 + (altAt f (q :: ps) (b + (f p (b + 1)).length + 2)).length) :: altAt f (q :: ps) (b + (f p (b + 1)).length + 2)) := rfl
theorem lay_alt {raw : List Ord} {s : Str} {f : Nd → Nat → List Ord} : ∀ (ps : List Nd), ps ≠ [] → (∀ p ∈ ps, Laid2 raw s f p) →
    (∀ b, Seg raw b (altAt f ps b) → ∀ (mk : List Nat) (a : Nat) (K : Nat → Nat), a ≤ s.length → (∀ a', a ≤ a' → a' ≤ s.length → MC raw s (b + (altAt f ps b).length) mk a' (K (s.length - a'))) → MC raw s b mk a (altB ps (s.length - a) K)) ∧
    (∀ b, Seg raw b (altAt f ps b) → ∀ (mk : List Nat) (K : Nat → Nat), (∀ a', a' ≤ s.length → MC raw s (b + (altAt f ps b).length) mk a' (K (s.length - a'))) → ∀ o ∈ altAt f ps b, ∀ g, o.goal = some g → ∃ mk a c, MC raw s g mk a c)
  | [], h, _ => absurd rfl h
  | [p], _, hp => ⟨(hp p (by simp)).cost, (hp p (by simp)).goals⟩
  | p :: q :: ps, _, hp => by
    obtain ⟨i1, i2⟩ := lay_alt (q :: ps) (by simp) fun r hr => hp r (by simp at hr ⊢; exact .inr hr)
    have l1 := hp p (by simp)
    have parts : ∀ b, Seg raw b (altAt f (p :: q :: ps) b) → raw[b]? = some (.split (b + (f p (b + 1)).length + 2)) ∧ Seg raw (b + 1) (f p (b + 1)) ∧ raw[b + 1 + (f p (b + 1)).length]? = some (.jump (b + (f p (b + 1)).length + 2 + (altAt f (q :: ps) (b + (f p (b + 1)).length + 2)).length)) ∧ Seg raw (b + (f p (b + 1)).length + 2) (altAt f (q :: ps) (b + (f p (b + 1)).length + 2)) := fun b hs => by
      rw [altAt_cons] at hs
      refine ⟨hs.head, hs.tail.left, hs.tail.right.head, ?_⟩
      have := hs.tail.right.tail
      have e : b + 1 + (f p (b + 1)).length + 1 = b + (f p (b + 1)).length + 2 := by exact Nat.le_antisymm (lin2 (.g (.a (.a (.a (.v 0) (.k 1)) (.v 1)) (.k 1)) (.a (.a (.v 0) (.v 1)) (.k 2))) rfl) (lin2 (.g (.a (.a (.v 0) (.v 1)) (.k 2)) (.a (.a (.a (.v 0) (.k 1)) (.v 1)) (.k 1))) rfl)
      rw [e] at this; exact this
    have len : ∀ b, b + (altAt f (p :: q :: ps) b).length = b + (f p (b + 1)).length + 2 + (altAt f (q :: ps) (b + (f p (b + 1)).length + 2)).length := fun b => by rw [altAt_cons]; simp; exact Nat.le_antisymm (lin3 (.g (.a (.v 0) (.a (.a (.v 1) (.a (.v 2) (.k 1))) (.k 1))) (.a (.a (.a (.v 0) (.v 1)) (.k 2)) (.v 2))) rfl) (lin3 (.g (.a (.a (.a (.v 0) (.v 1)) (.k 2)) (.v 2)) (.a (.v 0) (.a (.a (.v 1) (.a (.v 2) (.k 1))) (.k 1)))) rfl)
    have jmp : ∀ {b mk a' c}, Seg raw b (altAt f (p :: q :: ps) b) → MC raw s (b + (altAt f (p :: q :: ps) b).length) mk a' c → MC raw s (b + 1 + (f p (b + 1)).length) mk a' (1 + c) := fun {b mk a' c} hs h => by
      obtain ⟨_, _, p3, _⟩ := parts b hs
      rw [len] at h
      exact .jump p3 h (by exact lin1 (.g (.a (.v 0) (.k 1)) (.a (.k 1) (.v 0))) rfl)
    refine ⟨fun b hs mk a K ha h => ?_, fun b hs mk K h o ho g hg => ?_⟩
    · obtain ⟨p1, p2, p3, p4⟩ := parts b hs
      have h' := h
      rw [len] at h'
      refine .split p1 (l1.cost (b + 1) p2 mk a (fun x => 1 + K x) ha fun a' h1 h2 => jmp hs (h a' h1 h2)) (i1 _ p4 mk a K ha fun a' h1 h2 => h' a' h1 h2) ?_
      show _ ≤ 1 + _ + _
      exact lin2 (.g (.a (.a (.v 0) (.v 1)) (.k 1)) (.a (.a (.k 1) (.v 0)) (.v 1))) rfl
    · obtain ⟨p1, p2, p3, p4⟩ := parts b hs
      have h' := h
      rw [len] at h'
      rw [altAt_cons] at ho
      rcases List.mem_cons.mp ho with rfl | ho
      · cases hg
        exact ⟨mk, s.length, _, i1 _ p4 mk s.length K (Nat.le_refl _) fun a' h1 h2 => h' a' h2⟩
      · rcases List.mem_append.mp ho with ho | ho
        · exact l1.goals (b + 1) p2 mk (fun x => 1 + K x) (fun a' h2 => jmp hs (h a' h2)) o ho g hg
        · rcases List.mem_cons.mp ho with rfl | ho
          · cases hg
            exact ⟨mk, s.length, _, h' s.length (Nat.le_refl _)⟩
          · exact i2 _ p4 mk K h' o ho g hg
theorem lay {raw : List Ord} {s : Str} {tp : Bool} {refs : List Ref} : ∀ (k : Nat) (n : Nd), n.size ≤ k → n.st tp refs → n.text ≤ 1000 → Laid2 raw s (codeAt k) n
  | 0, n, h, _, _ => by have := n.size_pos; exact False.elim (lin1 (.t (.k 0) (.v 0) (.l (.v 0) (.k 0) (.z))) rfl this h)
  | k + 1, n, h, st, tx => by
    have ih := fun (m : Nd) (h1 : m.size ≤ k) (h2 : m.st tp refs) (h3 : m.text ≤ 1000) => lay (raw := raw) (s := s) k m h1 h2 h3
    have nog : ∀ {o : Ord} {b : Nat}, o.goal = none → codeAt (k + 1) n b = [o] → ∀ p ∈ codeAt (k + 1) n b, ∀ g, p.goal = some g → ∃ mk a c, MC raw s g mk a c := fun {o b} h0 e p hp g hg => by
      rw [e, List.mem_singleton] at hp; subst hp; rw [h0] at hg; cases hg
    cases n with
    | pl p =>
      refine ⟨fun b hs mk a K ha h => ?_, fun b hs mk K h => nog rfl rfl⟩
      refine .one (b := sumTo (fun x => 2 + K x) (s.length - a)) hs.head (fun e he => ?_) (by show _ ≤ leafB _ _; unfold leafB; exact lin1 (.g (.a (.v 0) (.k 1)) (.a (.v 0) (.k 4))) rfl)
      have hr := ends_range st.1 ha he
      have h2 := le_sumTo (f := fun x => 2 + K x) (m := s.length - a) (x := s.length - e.toNat) (by lia -abstractProof)
      exact (h e.toNat (by lia -abstractProof) (by lia -abstractProof)).up (by exact lin2 (.l (.a (.k 2) (.v 0)) (.v 1) (.g (.v 0) (.v 1))) rfl h2)
    | rem =>
      refine ⟨fun b hs mk a K ha h => ?_, fun b hs mk K h => nog rfl rfl⟩
      have h1 := h s.length ha (Nat.le_refl _)
      rw [Nat.sub_self] at h1
      exact .rem hs.head h1 (by have := tc_leaf (k := K) (m := s.length - a) (x := 0) (by exact lin1 (.g (.k 0) (.v 0)) rfl); show _ ≤ leafB _ _; exact lin2 (.l (.a (.v 0) (.k 2)) (.v 1) (.g (.a (.v 0) (.k 1)) (.v 1))) rfl this)
    | arb =>
      refine ⟨fun b hs mk a K ha h => ?_, fun b hs mk K h => nog rfl rfl⟩
      have := arb_sum (s := s) K (s.length - a) a (by lia -abstractProof)
      exact .ways (fun e => K (s.length - e)) hs.head (fun e h1 h2 => h e h1 h2) (by show _ ≤ leafB _ _; unfold leafB; exact lin2 (.l (.v 0) (.v 1) (.g (.a (.v 0) (.k 1)) (.a (.v 1) (.k 4)))) rfl this)
    | delay x =>
      refine ⟨fun b hs mk a K ha h => ?_, fun b hs mk K h => nog rfl rfl⟩
      refine .ask (b := sumTo (fun x => 2 + K x) (s.length - a)) hs.head (fun e h1 h2 => ?_) (by show _ ≤ leafB _ _; unfold leafB; exact lin1 (.g (.a (.v 0) (.k 3)) (.a (.v 0) (.k 4))) rfl)
      have h3 := le_sumTo (f := fun x => 2 + K x) (m := s.length - a) (x := s.length - e) (by lia -abstractProof)
      exact (h e h1 h2).up (by exact lin2 (.l (.a (.k 2) (.v 0)) (.v 1) (.g (.v 0) (.v 1))) rfl h3)
    | cursor r =>
      refine ⟨fun b hs mk a K ha h => ?_, fun b hs mk K h => nog rfl rfl⟩
      exact .place hs.head (h a (Nat.le_refl _) ha) (by have := tc_leaf (k := K) (m := s.length - a) (x := s.length - a) (by exact lin1 (.g (.v 0) (.v 0)) rfl); show _ ≤ leafB _ _; exact lin2 (.l (.a (.v 0) (.k 2)) (.v 1) (.g (.a (.v 0) (.k 1)) (.v 1))) rfl this)
    | cat x y =>
      have h1 := sz_row_cat (.cat x y)
      have h2 := sz_joined (rowCat (.cat x y))
      have h3 := two_cat x
      have h4 := two_cat y
      have h5 : (rowCat (.cat x y)).length = (rowCat x).length + (rowCat y).length := by show (rowCat x ++ rowCat y).length = _; rw [List.length_append]
      have h6 := tx_joined (rowCat (.cat x y))
      rw [tx_row_cat] at h6
      have h7 := joined_st (rowCat (.cat x y)) (row_st _ st).1 (by rw [tx_row_cat]; exact tx)
      obtain ⟨l1, l2⟩ := lay_seq (raw := raw) (s := s) (f := codeAt k) (joined (rowCat (.cat x y))) fun p hp => ih p (by have := mem_sz hp; lia -abstractProof) (h7 p hp) (by have := mem_tx hp; exact lin3 (.l (.v 0) (.k 1000) (.l (.v 1) (.v 2) (.l (.v 2) (.v 0) (.g (.v 1) (.k 1000))))) rfl tx this h6)
      refine ⟨fun b hs mk a K ha h => ?_, l2⟩
      have h8 := seq_joined K (rowCat (.cat x y)) [] (s.length - a)
      have h9 := seq_row (.cat x y) (s.length - a) K
      exact (l1 b hs mk a K ha h).up (Nat.le_trans h8 h9)
    | alt x y =>
      have h1 := sz_row_alt (.alt x y)
      have h3 := two_alt x
      have h4 := two_alt y
      have h5 : (rowAlt (.alt x y)).length = (rowAlt x).length + (rowAlt y).length := by show (rowAlt x ++ rowAlt y).length = _; rw [List.length_append]
      have h6 := tx_row_alt (.alt x y)
      obtain ⟨l1, l2⟩ := lay_alt (raw := raw) (s := s) (f := codeAt k) (rowAlt (.alt x y)) (by intro z; rw [z] at h5; simp at h5; exact lin2 (.t (.k 0) (.v 0) (.f (.k 0) (.a (.v 0) (.v 1)) (.z))) rfl h3 h5) fun p hp => ih p (by have := mem_sz hp; exact lin7 (.e (.a (.v 0) (.v 1)) (.a (.v 2) (.k 1)) (.t (.k 0) (.v 3) (.t (.k 0) (.v 4) (.f (.v 1) (.a (.v 4) (.v 3)) (.l (.v 2) (.a (.v 5) (.k 1)) (.l (.v 6) (.v 0) (.g (.v 6) (.v 5)))))))) rfl h1 h4 h3 h5 h this) ((row_st _ st).2 p hp) (by have := mem_tx hp; exact lin3 (.e (.v 0) (.v 1) (.l (.v 1) (.k 1000) (.l (.v 2) (.v 0) (.g (.v 2) (.k 1000))))) rfl h6 tx this)
      refine ⟨fun b hs mk a K ha h => ?_, l2⟩
      exact (l1 b hs mk a K ha h).up ((alt_row (.alt x y) [] (s.length - a) K).1 rfl)
    | nm now x r =>
      have hsz : (Nd.nm now x r).size = x.size + 1 := rfl
      have l1 := ih x (by exact lin3 (.f (.v 0) (.a (.v 1) (.k 1)) (.l (.v 0) (.a (.v 2) (.k 1)) (.g (.v 1) (.v 2)))) rfl hsz h) st.1 tx
      have code : ∀ b, codeAt (k + 1) (.nm now x r) b = .mark :: (codeAt k x (b + 1) ++ [.nm now r]) := fun b => rfl
      have len : ∀ b, b + (codeAt (k + 1) (.nm now x r) b).length = b + 1 + (codeAt k x (b + 1)).length + 1 := fun b => by rw [code]; simp; exact Nat.le_antisymm (lin2 (.g (.a (.v 0) (.a (.a (.v 1) (.k 1)) (.k 1))) (.a (.a (.a (.v 0) (.k 1)) (.v 1)) (.k 1))) rfl) (lin2 (.g (.a (.a (.a (.v 0) (.k 1)) (.v 1)) (.k 1)) (.a (.v 0) (.a (.a (.v 1) (.k 1)) (.k 1)))) rfl)
      have fin : ∀ {b mk m0 a' c}, Seg raw b (codeAt (k + 1) (.nm now x r) b) → MC raw s (b + (codeAt (k + 1) (.nm now x r) b).length) mk a' c → MC raw s (b + 1 + (codeAt k x (b + 1)).length) (m0 :: mk) a' (1 + c) := fun {b mk m0 a' c} hs h => by
        rw [len] at h; rw [code] at hs
        exact .nm hs.tail.right.head h (by exact lin1 (.g (.a (.v 0) (.k 1)) (.a (.k 1) (.v 0))) rfl)
      refine ⟨fun b hs mk a K ha h => ?_, fun b hs mk K h o ho g hg => ?_⟩
      · have hs' := hs
        rw [code] at hs'
        exact .mark hs'.head (l1.cost (b + 1) hs'.tail.left (a :: mk) a (fun x => 1 + K x) ha fun a' h1 h2 => fin hs (h a' h1 h2)) (by show _ ≤ 1 + _; exact lin1 (.g (.a (.v 0) (.k 1)) (.a (.k 1) (.v 0))) rfl)
      · have hs' := hs
        rw [code] at hs' ho
        rcases List.mem_cons.mp ho with rfl | ho
        · cases hg
        · rcases List.mem_append.mp ho with ho | ho
          · exact l1.goals (b + 1) hs'.tail.left (0 :: mk) (fun x => 1 + K x) (fun a' h2 => fin hs (h a' h2)) o ho g hg
          · rw [List.mem_singleton] at ho; subst ho; cases hg
    | arbno x =>
      have hsz : (Nd.arbno x).size = x.size + 1 := rfl
      have l1 := ih x (by exact lin3 (.f (.v 0) (.a (.v 1) (.k 1)) (.l (.v 0) (.a (.v 2) (.k 1)) (.g (.v 1) (.v 2)))) rfl hsz h) st tx
      have code : ∀ b, codeAt (k + 1) (.arbno x) b = .split (b + 2) :: .jump (b + 3 + (codeAt k x (b + 3)).length + 2) :: .mark :: (codeAt k x (b + 3) ++ [.gain, .jump b]) := fun b => rfl
      have len : ∀ b, b + (codeAt (k + 1) (.arbno x) b).length = b + 3 + (codeAt k x (b + 3)).length + 2 := fun b => by rw [code]; simp; exact Nat.le_antisymm (lin2 (.g (.a (.v 0) (.a (.a (.a (.a (.v 1) (.k 2)) (.k 1)) (.k 1)) (.k 1))) (.a (.a (.a (.v 0) (.k 3)) (.v 1)) (.k 2))) rfl) (lin2 (.g (.a (.a (.a (.v 0) (.k 3)) (.v 1)) (.k 2)) (.a (.v 0) (.a (.a (.a (.a (.v 1) (.k 2)) (.k 1)) (.k 1)) (.k 1)))) rfl)
      have key : ∀ b, Seg raw b (codeAt (k + 1) (.arbno x) b) → ∀ (mk : List Nat) (K : Nat → Nat) (f a : Nat), a ≤ s.length → s.length - a < f → (∀ a', a ≤ a' → a' ≤ s.length → MC raw s (b + (codeAt (k + 1) (.arbno x) b).length) mk a' (K (s.length - a'))) → MC raw s b mk a (arF (cB x) K f (s.length - a)) := by
        intro b hs mk K f
        rw [len]
        rw [code] at hs
        induction f with
        | zero => intro a ha hf; exact (fun z0 => False.elim (lin1 (.t (.v 0) (.k 0) (.z)) rfl hf))
        | succ f ihf =>
          intro a ha hf h
          have g1 := hs.tail.tail.tail.right
          have e1 : b + 1 + 1 + 1 = b + 3 := rfl
          rw [e1] at g1
          refine .split hs.head (.jump hs.tail.head (h a (Nat.le_refl _) ha) (Nat.le_refl _)) (.mark hs.tail.tail.head (l1.cost (b + 3) hs.tail.tail.tail.left (a :: mk) a (fun z => 2 + (if z < s.length - a then arF (cB x) K f z else 0)) ha fun a' h1 h2 => ?_) (Nat.le_refl _)) (by show _ ≤ 4 + _ + _; exact lin2 (.g (.a (.a (.a (.v 0) (.k 1)) (.a (.v 1) (.k 1))) (.k 1)) (.a (.a (.k 4) (.v 0)) (.v 1))) rfl)
          by_cases q : a' = a
          · exact .gain (b := 0) g1.head (fun z => by exact False.elim (lin2 (.t (.v 0) (.v 1) (.e (.v 1) (.v 0) (.z))) rfl z q)) (by exact lin1 (.g (.a (.k 0) (.k 1)) (.a (.k 2) (.v 0))) rfl)
          · have hlt : s.length - a' < s.length - a := by lia -abstractProof
            refine .gain g1.head (fun _ => .jump g1.tail.head (ihf a' h2 (by exact lin3 (.t (.v 0) (.v 1) (.t (.v 1) (.a (.v 2) (.k 1)) (.b (.v 0) (.v 2)))) rfl hlt hf) fun a2 h3 h4 => h a2 (by exact lin3 (.l (.v 0) (.v 1) (.l (.v 2) (.v 0) (.g (.v 2) (.v 1)))) rfl h3 h1) h4) (Nat.le_refl _)) ?_
            rw [if_pos hlt]; exact lin1 (.g (.a (.a (.v 0) (.k 1)) (.k 1)) (.a (.k 2) (.v 0))) rfl
      refine ⟨fun b hs mk a K ha h => key b hs mk K _ a ha (Nat.lt_succ_self _) h, fun b hs mk K h o ho g hg => ?_⟩
      have top : ∀ a, a ≤ s.length → MC raw s b mk a (arF (cB x) K (s.length + 1) (s.length - a)) := fun a ha => key b hs mk K (s.length + 1) a ha (by lia -abstractProof) fun a' _ h2 => h a' h2
      have hs' := hs
      rw [code] at hs' ho
      have g1 := hs'.tail.tail.tail.right
      have e1 : b + 1 + 1 + 1 = b + 3 := rfl
      rw [e1] at g1
      have inner : ∀ a', a' ≤ s.length → MC raw s (b + 3 + (codeAt k x (b + 3)).length) (0 :: mk) a' (2 + arF (cB x) K (s.length + 1) (s.length - a')) := fun a' h2 =>
        .gain g1.head (fun _ => .jump g1.tail.head (top a' h2) (Nat.le_refl _)) (by exact lin1 (.g (.a (.a (.v 0) (.k 1)) (.k 1)) (.a (.k 2) (.v 0))) rfl)
      rcases List.mem_cons.mp ho with rfl | ho
      · cases hg
        exact ⟨mk, 0, _, .mark hs'.tail.tail.head (l1.cost (b + 3) hs'.tail.tail.tail.left (0 :: mk) 0 (fun z => 2 + arF (cB x) K (s.length + 1) z) (by exact lin1 (.g (.k 0) (.v 0)) rfl) fun a' h1 h2 => inner a' h2) (Nat.le_refl _)⟩
      · rcases List.mem_cons.mp ho with rfl | ho
        · cases hg
          have := h s.length (Nat.le_refl _)
          rw [len] at this
          exact ⟨mk, s.length, _, this⟩
        · rcases List.mem_cons.mp ho with rfl | ho
          · cases hg
          · rcases List.mem_append.mp ho with ho | ho
            · exact l1.goals (b + 3) hs'.tail.tail.tail.left (0 :: mk) (fun z => 2 + arF (cB x) K (s.length + 1) z) inner o ho g hg
            · simp at ho
              rcases ho with rfl | rfl
              · cases hg
              · cases hg
                exact ⟨mk, s.length, _, top s.length (Nat.le_refl _)⟩
theorem code_ok {s : Str} {tp : Bool} {refs : List Ref} {n : Nd} (st : n.st tp refs) (tx : n.text ≤ 1000) : (∀ o ∈ rawOf n, ∀ g, o.goal = some g → Resolves (rawOf n) g) ∧ (∀ a, a ≤ s.length → MC (codeOf n) s 0 [] a (cB n (s.length - a) (fun _ => 1))) := by
  have l := lay (raw := rawOf n) (s := s) n.size n (Nat.le_refl _) st tx
  have seg : Seg (rawOf n) 0 (codeAt n.size n 0) := fun i o e => by
    rw [Nat.zero_add]; unfold rawOf; rw [List.getElem?_append_left (List.getElem?_eq_some_iff.mp e).1]; exact e
  have last : ∀ mk a', MC (rawOf n) s (0 + (codeAt n.size n 0).length) mk a' 1 := fun mk a' => .done (by unfold rawOf; rw [Nat.zero_add]; simp) (Nat.le_refl _)
  refine ⟨fun o ho g hg => ?_, fun a ha => (l.cost 0 seg [] a (fun _ => 1) ha fun a' _ _ => last [] a').straight⟩
  unfold rawOf at ho
  rcases List.mem_append.mp ho with ho | ho
  · obtain ⟨mk, a, c, h⟩ := l.goals 0 seg [] (fun _ => 1) (fun a' _ => last [] a') o ho g hg
    exact h.resolves c
  · rw [List.mem_singleton] at ho; subst ho; cases hg
end
section
open PySem PySem.W PyProof.Rows PySem.Calls
noncomputable def Ord.st (tp : Bool) (refs : List Ref) : Ord → Prop
  | .one p => p.good ∧ (tp = true ∨ p.free = true)
  | .nm _ r => r ∈ refs ∧ keyOk r.2
  | .place r => tp = true ∧ r.2 = "Q" ∧ r ∈ refs
  | .ask k => k = "P"
  | _ => True
theorem st_seq {tp : Bool} {refs : List Ref} {f : Nd → Nat → List Ord} : ∀ (ps : List Nd), (∀ p ∈ ps, ∀ b, ∀ o ∈ f p b, o.st tp refs) → ∀ b, ∀ o ∈ seqAt f ps b, o.st tp refs
  | [], _, _, _, h => nomatch h
  | p :: ps, hp, b, o, h => by
    rcases List.mem_append.mp h with h | h
    · exact hp p (by simp) b o h
    · exact st_seq ps (fun q hq => hp q (by simp [hq])) _ o h
theorem st_alt {tp : Bool} {refs : List Ref} {f : Nd → Nat → List Ord} : ∀ (ps : List Nd), (∀ p ∈ ps, ∀ b, ∀ o ∈ f p b, o.st tp refs) → ∀ b, ∀ o ∈ altAt f ps b, o.st tp refs
  | [], _, _, _, h => nomatch h
  | [p], hp, b, o, h => hp p (by simp) b o h
  | p :: q :: ps, hp, b, o, h => by
    rw [altAt_cons] at h
    rcases List.mem_cons.mp h with rfl | h
    · trivial
    · rcases List.mem_append.mp h with h | h
      · exact hp p (by simp) _ o h
      · rcases List.mem_cons.mp h with rfl | h
        · trivial
        · exact st_alt (q :: ps) (fun r hr => hp r (by simp at hr ⊢; exact .inr hr)) _ o h
theorem code_st {tp : Bool} {refs : List Ref} : ∀ (k : Nat) (n : Nd), n.st tp refs → n.text ≤ 1000 → ∀ b, ∀ o ∈ codeAt k n b, o.st tp refs
  | 0, _, _, _, _, _, h => nomatch h
  | k + 1, n, st, tx, b, o, h => by
    have ih := fun m h1 h2 => code_st (tp := tp) (refs := refs) k m h1 h2
    cases n with
    | pl p => rw [show codeAt (k + 1) (.pl p) b = [.one p] from rfl, List.mem_singleton] at h; subst h; exact st
    | rem => rw [show codeAt (k + 1) .rem b = [.rem] from rfl, List.mem_singleton] at h; subst h; trivial
    | arb => rw [show codeAt (k + 1) .arb b = [.ways] from rfl, List.mem_singleton] at h; subst h; trivial
    | delay x => rw [show codeAt (k + 1) (.delay x) b = [.ask x] from rfl, List.mem_singleton] at h; subst h; exact st
    | cursor r => rw [show codeAt (k + 1) (.cursor r) b = [.place r] from rfl, List.mem_singleton] at h; subst h; exact st
    | cat x y =>
      have h6 := tx_joined (rowCat (.cat x y))
      rw [tx_row_cat] at h6
      have h7 := joined_st (rowCat (.cat x y)) (row_st _ st).1 (by rw [tx_row_cat]; exact tx)
      exact st_seq (joined (rowCat (.cat x y))) (fun p hp => ih p (h7 p hp) (by have := mem_tx hp; exact lin3 (.l (.v 0) (.k 1000) (.l (.v 1) (.v 2) (.l (.v 2) (.v 0) (.g (.v 1) (.k 1000))))) rfl tx this h6)) b o h
    | alt x y =>
      have h6 := tx_row_alt (.alt x y)
      exact st_alt (rowAlt (.alt x y)) (fun p hp => ih p ((row_st _ st).2 p hp) (by have := mem_tx hp; exact lin3 (.e (.v 0) (.v 1) (.l (.v 1) (.k 1000) (.l (.v 2) (.v 0) (.g (.v 2) (.k 1000))))) rfl h6 tx this)) b o h
    | nm now x r =>
      have h : o ∈ Ord.mark :: (codeAt k x (b + 1) ++ [.nm now r]) := h
      rcases List.mem_cons.mp h with rfl | h
      · trivial
      · rcases List.mem_append.mp h with h | h
        · exact ih x st.1 tx _ o h
        · rw [List.mem_singleton] at h; subst h; exact st.2
    | arbno x =>
      have h : o ∈ Ord.split (b + 2) :: .jump (b + 3 + (codeAt k x (b + 3)).length + 2) :: .mark :: (codeAt k x (b + 3) ++ [.gain, .jump b]) := h
      rcases List.mem_cons.mp h with rfl | h
      · trivial
      · rcases List.mem_cons.mp h with rfl | h
        · trivial
        · rcases List.mem_cons.mp h with rfl | h
          · trivial
          · rcases List.mem_append.mp h with h | h
            · exact ih x st tx _ o h
            · simp at h; rcases h with rfl | rfl <;> trivial
theorem codeOf_st {tp : Bool} {refs : List Ref} {n : Nd} (st : n.st tp refs) (tx : n.text ≤ 1000) : ∀ o ∈ codeOf n, o.st tp refs := by
  intro o ho
  unfold codeOf at ho
  obtain ⟨p, hp, rfl⟩ := List.mem_map.mp ho
  have : p.st tp refs := by
    unfold rawOf at hp
    rcases List.mem_append.mp hp with hp | hp
    · exact code_st _ n st tx 0 p hp
    · rw [List.mem_singleton] at hp; subst hp; trivial
  cases p <;> exact this
theorem MC.pos {code : List Ord} {s : Str} {pc : Nat} {mk : List Nat} {a b : Nat} (h : MC code s pc mk a b) : 1 ≤ b := by cases h <;> first | exact lin1 (.l (.k 1) (.v 0) (.g (.k 1) (.v 0))) rfl (by assumption) | exact lin2 (.l (.a (.v 0) (.k 1)) (.v 1) (.g (.k 1) (.v 1))) rfl (by assumption) | exact lin3 (.l (.a (.a (.v 0) (.v 1)) (.k 1)) (.v 2) (.g (.k 1) (.v 2))) rfl (by assumption) | exact lin2 (.l (.a (.v 0) (.k 3)) (.v 1) (.g (.k 1) (.v 1))) rfl (by assumption)
noncomputable def WB (code : List Ord) (s : Str) (w : MWay) (b : Nat) : Prop := match w.call with
  | none => MC code s w.pc w.marks w.at_ b
  | some (t, ret) => t.length ≤ 1000 ∧ ∃ b0, (∀ e, w.at_ ≤ e → e ≤ s.length → MC code s ret w.marks e b0) ∧ ((w.pc = 0 ∧ b0 + 2 ≤ b) ∨ (w.pc = 1 ∧ b0 + 1 ≤ b))
structure MS (s : Str) (refs : List Ref) (N : Nat) (w : MWay) : Prop where
  at_ : w.at_ ≤ s.length
  nm : w.named.length ≤ N
  nr : ∀ p ∈ w.named, p.1 ∈ refs
theorem MS.up {s : Str} {refs : List Ref} {N M : Nat} {w : MWay} (h : MS s refs N w) (hm : N ≤ M) : MS s refs M w := ⟨h.at_, Nat.le_trans h.nm hm, h.nr⟩
inductive HB (code : List Ord) (s : Str) : List MWay → Nat → Prop
  | nil {b} : HB code s [] b
  | snoc {p w b1 b2 b} (h : HB code s p b1) (hc : w.call = none) (hw : MC code s w.pc w.marks w.at_ b2) (hb : b1 + b2 ≤ b) : HB code s (p ++ [w]) b
theorem HB.len {code : List Ord} {s : Str} {p : List MWay} {b : Nat} (h : HB code s p b) : p.length ≤ b := by
  induction h with
  | nil => exact Nat.zero_le _
  | snoc h hc hw hb ih => have := hw.pos; rw [List.length_append, List.length_singleton]; exact lin4 (.l (.a (.v 0) (.v 1)) (.v 2) (.l (.k 1) (.v 1) (.l (.v 3) (.v 0) (.g (.a (.v 3) (.k 1)) (.v 2))))) rfl hb this ih
theorem HB.app {code : List Ord} {s : Str} {w : MWay} (hc : w.call = none) {f : Nat → Nat} : ∀ (es : List Nat) {p : List MWay} {b1 : Nat}, HB code s p b1 → (∀ e ∈ es, MC code s (w.pc + 1) w.marks e (f e)) → HB code s (p ++ es.map fun e => { w with pc := w.pc + 1, at_ := e }) (b1 + (es.map f).sum)
  | [], p, b1, h, _ => by simpa using h
  | e :: es, p, b1, h, he => by
    have h1 : HB code s (p ++ [{ w with pc := w.pc + 1, at_ := e }]) (b1 + f e) := .snoc h hc (he e (by simp)) (Nat.le_refl _)
    have := HB.app hc (f := f) es h1 fun x hx => he x (by simp [hx])
    rw [List.map_cons, List.map_cons, List.sum_cons, ← Nat.add_assoc]
    rw [List.append_assoc] at this
    exact this
noncomputable def MWay.sh (L : Nat) (w : MWay) : MWay := ⟨w.pc, w.at_ + L, w.named, w.marks.map (· + L), w.call⟩
theorem arbL_sh (q s : Str) (a : Nat) : arbL (q ++ s) (a + q.length) = (arbL s a).map (· + q.length) := by
  unfold arbL
  have e : (q ++ s).length + 1 - (a + q.length) = s.length + 1 - a := by rw [len_shift]; lia -abstractProof
  rw [e]
  apply List.ext_getElem
  · simp
  · intro i h1 h2
    simp; exact Nat.le_antisymm (lin3 (.g (.a (.a (.v 0) (.v 1)) (.v 2)) (.a (.a (.v 0) (.v 2)) (.v 1))) rfl) (lin3 (.g (.a (.a (.v 0) (.v 1)) (.v 2)) (.a (.a (.v 0) (.v 2)) (.v 1))) rfl)
theorem mstep_sh {q s : Str} {refs : List Ref} {o : Ord} {w : MWay} {hist : List MWay} {h : HS} (ha : w.at_ ≤ s.length) (ho : o.st false refs) (hok : o.ok refs s w h) :
    mstep (q ++ s) o (w.sh q.length) (hist.map (MWay.sh q.length)) h = ((mstep s o w hist h).1.map (MWay.sh q.length), (mstep s o w hist h).2.1.map (MWay.sh q.length), (mstep s o w hist h).2.2) := by
  have hl := len_shift q s
  cases o with
  | one p =>
    have hf : p.free = true := by rcases ho.2 with h | h; exact absurd h (by decide); exact h
    show (match p.ends (q ++ s) (w.at_ + q.length) with | some e => some { w.sh q.length with at_ := e.toNat, pc := w.pc + 1 } | none => none, _, _) = ((match p.ends s w.at_ with | some e => some { w with at_ := e.toNat, pc := w.pc + 1 } | none => none).map _, _, _)
    rw [ends_shift q s w.at_ hf]
    cases he : p.ends s w.at_ with
    | none => rfl
    | some e =>
      have := ends_range ho.1 ha he
      have e2 : (e + (q.length : Int)).toNat = e.toNat + q.length := by lia -abstractProof
      show (some { w.sh q.length with at_ := (e + (q.length : Int)).toNat, pc := w.pc + 1 }, _, _) = _
      rw [e2]; rfl
  | rem =>
    show (some { w.sh q.length with at_ := (q ++ s).length, pc := w.pc + 1 }, _, _) = _
    rw [hl]; rfl
  | ways =>
    show (some _, _ ++ (arbL (q ++ s) (w.at_ + q.length + 1)).reverse.map _, _) = (_, (_ ++ (arbL s (w.at_ + 1)).reverse.map _).map _, _)
    have e : w.at_ + q.length + 1 = w.at_ + 1 + q.length := by exact Nat.le_antisymm (lin2 (.g (.a (.a (.v 0) (.v 1)) (.k 1)) (.a (.a (.v 0) (.k 1)) (.v 1))) rfl) (lin2 (.g (.a (.a (.v 0) (.k 1)) (.v 1)) (.a (.a (.v 0) (.v 1)) (.k 1))) rfl)
    rw [e, arbL_sh, List.map_append, ← List.map_reverse, List.map_map, List.map_map]
    rfl
  | split g =>
    show (_, _ ++ [_], _) = (_, (_ ++ [_]).map _, _)
    rw [List.map_append]; rfl
  | jump g => rfl
  | mark => rfl
  | nm b r =>
    obtain ⟨pc, at_, named, marks, call⟩ := w
    cases b with
    | true =>
      have hm : marks ≠ [] := hok.2.1
      cases marks with
      | nil => exact absurd rfl hm
      | cons m0 ms =>
        have e := slice_shift q s m0 at_
        show (_, _, h.set r.2 (.str (Txt.slice (q ++ s) (some ((m0 + q.length : Nat) : Int)) (some ((at_ + q.length : Nat) : Int))))) = (_, _, h.set r.2 (.str (Txt.slice s (some (m0 : Int)) (some (at_ : Int)))))
        rw [e]; rfl
    | false =>
      have hm : marks ≠ [] := hok.1
      cases marks with
      | nil => exact absurd rfl hm
      | cons m0 ms =>
        have e := slice_shift q s m0 at_
        show (some (⟨pc + 1, at_ + q.length, (r, Txt.slice (q ++ s) (some ((m0 + q.length : Nat) : Int)) (some ((at_ + q.length : Nat) : Int))) :: named, ms.map (· + q.length), call⟩ : MWay), _, _) = _
        rw [e]; rfl
  | gain =>
    obtain ⟨pc, at_, named, marks, call⟩ := w
    have hm : marks ≠ [] := hok.1
    cases marks with
    | nil => exact absurd rfl hm
    | cons m0 ms =>
      show (if m0 + q.length < at_ + q.length then some (⟨pc + 1, at_ + q.length, named, ms.map (· + q.length), call⟩ : MWay) else none, _, _) = ((if m0 < at_ then some (⟨pc + 1, at_, named, ms, call⟩ : MWay) else none).map _, _, _)
      by_cases z : m0 < at_
      · rw [if_pos z, if_pos (by exact lin3 (.t (.v 0) (.v 1) (.b (.a (.v 0) (.v 2)) (.a (.v 1) (.v 2)))) rfl z)]; rfl
      · rw [if_neg z, if_neg (by exact (fun z0 => lin3 (.l (.v 0) (.v 1) (.t (.a (.v 1) (.v 2)) (.a (.v 0) (.v 2)) (.z))) rfl (Nat.le_of_not_lt z) z0))]; rfl
  | place r => exact absurd ho.1 (by decide)
  | ask k => rfl
  | done =>
    obtain ⟨pc, at_, named, marks, call⟩ := w
    cases call with
    | none => exact absurd rfl hok
    | some p => rfl
theorem ok_msh {q s : Str} {refs : List Ref} {w : MWay} {h : HS} : ∀ {o : Ord}, o.ok refs s w h → o.ok refs (q ++ s) (w.sh q.length) h
  | .one _, h => h
  | .rem, _ => trivial
  | .ways, h => ⟨by have := h.1; have := len_shift q s; show w.at_ + q.length ≤ _; exact lin4 (.f (.v 0) (.a (.v 1) (.v 2)) (.l (.v 3) (.v 1) (.g (.a (.v 3) (.v 2)) (.v 0)))) rfl this (by assumption), h.2⟩
  | .split _, h => h
  | .jump _, _ => trivial
  | .mark, h => h
  | .nm true _, h => ⟨h.1, by have := h.2.1; show w.marks.map _ ≠ []; simpa using this, h.2.2⟩
  | .nm false _, h => ⟨by have := h.1; show w.marks.map _ ≠ []; simpa using this, h.2⟩
  | .gain, h => ⟨by have := h.1; show w.marks.map _ ≠ []; simpa using this, h.2⟩
  | .place _, h => h
  | .ask _, h => h
  | .done, h => h
end
section
open PySem PySem.W PyProof.Rows PySem.Calls
structure StepOut (code : List Ord) (s : Str) (refs : List Ref) (N B : Nat) (hist : List MWay) (r : Option MWay × List MWay × HS) : Prop where
  go : ∀ w, r.1 = some w → MS s refs N w ∧ ∃ b1 b2, WB code s w b1 ∧ HB code s r.2.1 b2 ∧ b1 + b2 + 1 ≤ B
  back : r.1 = none → 1 ≤ B
  ways : ∀ w ∈ r.2.1, MS s refs N w
  hi : HI N r.2.2
inductive SRes (code : List Ord) (s : Str) (refs : List Ref) (N B bw : Nat) (w : MWay) (hist : List MWay) (h : HS) (o : Ord) : Prop
  | inl (x : o = .done ∧ w.call = none ∧ 1 ≤ bw)
  | inr (x : o.ok refs s w { h with steps := h.steps + 1 } ∧ StepOut code s refs (N + 1) B hist (mstep s o w hist { h with steps := h.steps + 1 }))
inductive SOut (code : List Ord) (s : Str) (tp : Bool) (refs : List Ref) (N B bw : Nat) (w : MWay) (hist : List MWay) (h : HS) : Prop
  | mk (o : Ord) (ho : w.order code = some o) (ost : o.st tp refs) (r : SRes code s refs N B bw w hist h o)
theorem step_out {code : List Ord} {s : Str} {tp : Bool} {refs : List Ref} {N B bw bp : Nat} {w : MWay} {hist : List MWay} {h : HS} (hs : s.length ≤ 1000) (hcode : ∀ o ∈ code, o.st tp refs) (M : MS s refs N w) (W : WB code s w bw) (P : HB code s hist bp) (hB : bw + bp ≤ B) (hw : ∀ x ∈ hist, MS s refs N x) (H : HI N h) :
    SOut code s tp refs N B bw w hist h := by
  have H1 := H.step
  have hw1 : ∀ x ∈ hist, MS s refs (N + 1) x := fun x hx => (hw x hx).up (by exact lin1 (.g (.v 0) (.a (.v 0) (.k 1))) rfl)
  have log1 : { h with steps := h.steps + 1 }.log.length + 1 ≤ N + 1 := by have := H.log; show h.log.length + 1 ≤ _; exact lin2 (.l (.v 0) (.v 1) (.g (.a (.v 0) (.k 1)) (.a (.v 1) (.k 1)))) rfl this
  obtain ⟨pc, at_, named, marks, call⟩ := w
  have ha : at_ ≤ s.length := M.at_
  have hn : named.length ≤ N := M.nm
  have hnr : ∀ p ∈ named, p.1 ∈ refs := M.nr
  cases call with
  | some p =>
    obtain ⟨t, ret⟩ := p
    obtain ⟨ht, b0, hb0, hpc⟩ := W
    rcases hpc with ⟨rfl, hpc⟩ | ⟨rfl, hpc⟩
    · refine ⟨.one (.chars t), rfl, ⟨ht, .inr rfl⟩, .inr ⟨ht, ?_⟩⟩
      have e1 : mstep s (.one (.chars t)) ⟨0, at_, named, marks, some (t, ret)⟩ hist { h with steps := h.steps + 1 } = (match (Pl.chars t).ends s at_ with | some e => some ⟨1, e.toNat, named, marks, some (t, ret)⟩ | none => none, hist, { h with steps := h.steps + 1 }) := rfl
      rw [e1]
      cases he : (Pl.chars t).ends s at_ with
      | none => exact ⟨(fun w e => by cases e), (fun _ => by exact lin4 (.l (.a (.v 0) (.k 2)) (.v 1) (.l (.a (.v 1) (.v 2)) (.v 3) (.g (.k 1) (.v 3)))) rfl hpc hB), hw1, H1⟩
      | some e =>
        have hr := ends_range (p := .chars t) ht ha he
        refine ⟨(fun w e => ?_), (fun z => by cases z), hw1, H1⟩
        cases e
        exact ⟨⟨by show e.toNat ≤ _; lia, by show named.length ≤ _; exact lin2 (.l (.v 0) (.v 1) (.g (.v 0) (.a (.v 1) (.k 1)))) rfl hn, hnr⟩, b0 + 1, bp, ⟨ht, b0, fun x h1 h2 => hb0 x (by have h1 : e.toNat ≤ x := h1; show at_ ≤ x; lia) h2, .inr ⟨rfl, Nat.le_refl _⟩⟩, P, by exact lin4 (.l (.a (.v 0) (.k 2)) (.v 1) (.l (.a (.v 1) (.v 2)) (.v 3) (.g (.a (.a (.a (.v 0) (.k 1)) (.v 2)) (.k 1)) (.v 3)))) rfl hpc hB⟩
    · refine ⟨.done, rfl, trivial, .inr ⟨(fun z => by cases z), ?_⟩⟩
      refine ⟨(fun w e => ?_), (fun z => by cases z), hw1, H1⟩
      cases e
      exact ⟨⟨ha, by show named.length ≤ _; exact lin2 (.l (.v 0) (.v 1) (.g (.v 0) (.a (.v 1) (.k 1)))) rfl hn, hnr⟩, b0, bp, hb0 at_ (Nat.le_refl _) ha, P, by exact lin4 (.l (.a (.v 0) (.k 1)) (.v 1) (.l (.a (.v 1) (.v 2)) (.v 3) (.g (.a (.a (.v 0) (.v 2)) (.k 1)) (.v 3)))) rfl hpc hB⟩
  | none =>
    have W : MC code s pc marks at_ bw := W
    have st : ∀ {o}, code[pc]? = some o → o.st tp refs := fun e => hcode _ (List.mem_of_getElem? e)
    have one : ∀ {pc' a' n' mk' b}, a' ≤ s.length → n'.length ≤ N + 1 → (∀ p ∈ n', p.1 ∈ refs) → MC code s pc' mk' a' b → b + bp + 1 ≤ B → ∀ w, some (⟨pc', a', n', mk', none⟩ : MWay) = some w → MS s refs (N + 1) w ∧ ∃ b1 b2, WB code s w b1 ∧ HB code s hist b2 ∧ b1 + b2 + 1 ≤ B := fun h1 h2 h3 h4 h5 w e => by
      cases e
      exact ⟨⟨h1, h2, h3⟩, _, bp, h4, P, h5⟩
    cases W with
    | done ho hb => exact ⟨.done, ho, trivial, .inl ⟨rfl, rfl, hb⟩⟩
    | @one p _ _ _ b _ ho hn2 hb =>
      have hst := st ho
      refine ⟨_, ho, hst, .inr ⟨hst.1.fits, ?_⟩⟩
      have e1 : mstep s (.one p) ⟨pc, at_, named, marks, none⟩ hist { h with steps := h.steps + 1 } = (match p.ends s at_ with | some e => some ⟨pc + 1, e.toNat, named, marks, none⟩ | none => none, hist, { h with steps := h.steps + 1 }) := rfl
      rw [e1]
      cases he : p.ends s at_ with
      | none => exact ⟨(fun w e => by cases e), (fun _ => by exact lin4 (.l (.a (.v 0) (.k 1)) (.v 1) (.l (.a (.v 1) (.v 2)) (.v 3) (.g (.k 1) (.v 3)))) rfl hb hB), hw1, H1⟩
      | some e =>
        have hr := ends_range hst.1 ha he
        exact ⟨one (by lia) (by show named.length ≤ _; exact lin2 (.l (.v 0) (.v 1) (.g (.v 0) (.a (.v 1) (.k 1)))) rfl hn) hnr (hn2 e he) (by exact lin4 (.l (.a (.v 0) (.k 1)) (.v 1) (.l (.a (.v 1) (.v 2)) (.v 3) (.g (.a (.a (.v 0) (.v 2)) (.k 1)) (.v 3)))) rfl hb hB), (fun z => by cases z), hw1, H1⟩
    | rem ho hn2 hb => exact ⟨_, ho, trivial, .inr ⟨trivial, one (Nat.le_refl _) (by show named.length ≤ _; exact lin2 (.l (.v 0) (.v 1) (.g (.v 0) (.a (.v 1) (.k 1)))) rfl hn) hnr hn2 (by exact lin4 (.l (.a (.v 0) (.k 1)) (.v 1) (.l (.a (.v 1) (.v 2)) (.v 3) (.g (.a (.a (.v 0) (.v 2)) (.k 1)) (.v 3)))) rfl hb hB), (fun z => by cases z), hw1, H1⟩⟩
    | ways f ho hn2 hb =>
      refine ⟨_, ho, trivial, .inr ⟨⟨ha, rfl⟩, ?_⟩⟩
      have el : arbL s at_ = at_ :: arbL s (at_ + 1) := by
        unfold arbL
        have : s.length + 1 - at_ = (s.length + 1 - (at_ + 1)) + 1 := by lia
        rw [this, List.range'_succ]
      rw [el, List.map_cons, List.sum_cons] at hb
      have mem : ∀ e ∈ (arbL s (at_ + 1)).reverse, at_ ≤ e ∧ e ≤ s.length := fun e he => by
        rw [List.mem_reverse] at he; unfold arbL at he; rw [List.mem_range'_1] at he; lia
      have happ := HB.app (w := ⟨pc, at_, named, marks, none⟩) rfl (f := f) (arbL s (at_ + 1)).reverse P fun e he => hn2 e (mem e he).1 (mem e he).2
      have hsum : ((arbL s (at_ + 1)).reverse.map f).sum = ((arbL s (at_ + 1)).map f).sum := by rw [List.map_reverse, List.sum_reverse]
      rw [hsum] at happ
      refine ⟨(fun w e => ?_), (fun z => by cases z), ?_, H1⟩
      · cases e
        exact ⟨⟨ha, by show named.length ≤ _; exact lin2 (.l (.v 0) (.v 1) (.g (.v 0) (.a (.v 1) (.k 1)))) rfl hn, hnr⟩, f at_, _, hn2 at_ (Nat.le_refl _) ha, happ, by exact lin5 (.l (.a (.a (.v 0) (.v 1)) (.k 1)) (.v 2) (.l (.a (.v 2) (.v 3)) (.v 4) (.g (.a (.a (.v 0) (.a (.v 3) (.v 1))) (.k 1)) (.v 4)))) rfl hb hB⟩
      · intro x hx
        rcases List.mem_append.mp hx with hx | hx
        · exact hw1 x hx
        · obtain ⟨e, he, rfl⟩ := List.mem_map.mp hx
          exact ⟨(mem e he).2, by show named.length ≤ _; exact lin2 (.l (.v 0) (.v 1) (.g (.v 0) (.a (.v 1) (.k 1)))) rfl hn, hnr⟩
    | @split g _ _ _ b1 b2 _ ho h1 h2 hb =>
      refine ⟨_, ho, trivial, .inr ⟨rfl, (fun w e => ?_), (fun z => by cases z), ?_, H1⟩⟩
      · cases e
        exact ⟨⟨ha, by show named.length ≤ _; exact lin2 (.l (.v 0) (.v 1) (.g (.v 0) (.a (.v 1) (.k 1)))) rfl hn, hnr⟩, b1, bp + b2, h1, .snoc P rfl h2 (Nat.le_refl _), by exact lin5 (.l (.a (.a (.v 0) (.v 1)) (.k 1)) (.v 2) (.l (.a (.v 2) (.v 3)) (.v 4) (.g (.a (.a (.v 0) (.a (.v 3) (.v 1))) (.k 1)) (.v 4)))) rfl hb hB⟩
      · intro x hx
        have hx : x ∈ hist ++ [_] := hx
        rcases List.mem_append.mp hx with hx | hx
        · exact hw1 x hx
        · rw [List.mem_singleton] at hx; subst hx
          exact ⟨ha, by show named.length ≤ _; exact lin2 (.l (.v 0) (.v 1) (.g (.v 0) (.a (.v 1) (.k 1)))) rfl hn, hnr⟩
    | jump ho hn2 hb => exact ⟨_, ho, trivial, .inr ⟨trivial, one ha (by show named.length ≤ _; exact lin2 (.l (.v 0) (.v 1) (.g (.v 0) (.a (.v 1) (.k 1)))) rfl hn) hnr hn2 (by exact lin4 (.l (.a (.v 0) (.k 1)) (.v 1) (.l (.a (.v 1) (.v 2)) (.v 3) (.g (.a (.a (.v 0) (.v 2)) (.k 1)) (.v 3)))) rfl hb hB), (fun z => by cases z), hw1, H1⟩⟩
    | mark ho hn2 hb => exact ⟨_, ho, trivial, .inr ⟨rfl, one ha (by show named.length ≤ _; exact lin2 (.l (.v 0) (.v 1) (.g (.v 0) (.a (.v 1) (.k 1)))) rfl hn) hnr hn2 (by exact lin4 (.l (.a (.v 0) (.k 1)) (.v 1) (.l (.a (.v 1) (.v 2)) (.v 3) (.g (.a (.a (.v 0) (.v 2)) (.k 1)) (.v 3)))) rfl hb hB), (fun z => by cases z), hw1, H1⟩⟩
    | @nm now r _ m0 mk _ b _ ho hn2 hb =>
      have hst := st ho
      cases now with
      | true =>
        refine ⟨_, ho, hst, .inr ⟨⟨hst.1, by simp, rfl⟩, one ha (by show named.length ≤ _; exact lin2 (.l (.v 0) (.v 1) (.g (.v 0) (.a (.v 1) (.k 1)))) rfl hn) hnr hn2 (by exact lin4 (.l (.a (.v 0) (.k 1)) (.v 1) (.l (.a (.v 1) (.v 2)) (.v 3) (.g (.a (.a (.v 0) (.v 2)) (.k 1)) (.v 3)))) rfl hb hB), (fun z => by cases z), hw1, H1.setStr hst.2 ?_ log1⟩⟩
        exact Nat.le_trans (Txt.slice_le ..) hs
      | false =>
        refine ⟨_, ho, hst, .inr ⟨⟨by simp, rfl⟩, one ha (by simp; exact lin2 (.l (.v 0) (.v 1) (.g (.v 0) (.v 1))) rfl hn) ?_ hn2 (by exact lin4 (.l (.a (.v 0) (.k 1)) (.v 1) (.l (.a (.v 1) (.v 2)) (.v 3) (.g (.a (.a (.v 0) (.v 2)) (.k 1)) (.v 3)))) rfl hb hB), (fun z => by cases z), hw1, H1⟩⟩
        intro q hq
        rcases List.mem_cons.mp hq with rfl | hq
        · exact hst.1
        · exact hnr q hq
    | @gain _ m0 mk _ b _ ho hn2 hb =>
      refine ⟨_, ho, trivial, .inr ⟨⟨by simp, rfl⟩, ?_⟩⟩
      have e1 : mstep s .gain ⟨pc, at_, named, m0 :: mk, none⟩ hist { h with steps := h.steps + 1 } = (if m0 < at_ then some ⟨pc + 1, at_, named, mk, none⟩ else none, hist, { h with steps := h.steps + 1 }) := rfl
      rw [e1]
      by_cases q : m0 < at_
      · rw [if_pos q]
        exact ⟨one ha (by show named.length ≤ _; exact lin2 (.l (.v 0) (.v 1) (.g (.v 0) (.a (.v 1) (.k 1)))) rfl hn) hnr (hn2 q) (by exact lin4 (.l (.a (.v 0) (.k 1)) (.v 1) (.l (.a (.v 1) (.v 2)) (.v 3) (.g (.a (.a (.v 0) (.v 2)) (.k 1)) (.v 3)))) rfl hb hB), (fun z => by cases z), hw1, H1⟩
      · rw [if_neg q]
        exact ⟨(fun w e => by cases e), (fun _ => by exact lin4 (.l (.a (.v 0) (.k 1)) (.v 1) (.l (.a (.v 1) (.v 2)) (.v 3) (.g (.k 1) (.v 3)))) rfl hb hB), hw1, H1⟩
    | @place r _ _ _ b _ ho hn2 hb =>
      have hst := st ho
      obtain ⟨ra, rk⟩ := r
      have h2 : rk = "Q" := hst.2.1
      subst h2
      exact ⟨_, ho, hst, .inr ⟨⟨hst.2.2, rfl⟩, one ha (by show named.length ≤ _; exact lin2 (.l (.v 0) (.v 1) (.g (.v 0) (.a (.v 1) (.k 1)))) rfl hn) hnr hn2 (by exact lin4 (.l (.a (.v 0) (.k 1)) (.v 1) (.l (.a (.v 1) (.v 2)) (.v 3) (.g (.a (.a (.v 0) (.v 2)) (.k 1)) (.v 3)))) rfl hb hB), (fun z => by cases z), hw1, H1.setQ log1⟩⟩
    | @ask k _ _ _ b _ ho hn2 hb =>
      have hst := st ho
      have hk : k = "P" := hst
      subst hk
      have ht := H1.text
      refine ⟨_, ho, hst, .inr ⟨⟨ht.1, ht.2, rfl⟩, (fun w e => ?_), (fun z => by cases z), hw1, H1⟩⟩
      cases e
      exact ⟨⟨ha, by show named.length ≤ _; exact lin2 (.l (.v 0) (.v 1) (.g (.v 0) (.a (.v 1) (.k 1)))) rfl hn, hnr⟩, b + 2, bp, ⟨ht.2, b, hn2, .inl ⟨rfl, Nat.le_refl _⟩⟩, P, by exact lin4 (.l (.a (.v 0) (.k 3)) (.v 1) (.l (.a (.v 1) (.v 2)) (.v 3) (.g (.a (.a (.a (.v 0) (.k 2)) (.v 2)) (.k 1)) (.v 3)))) rfl hb hB⟩
inductive MEnd (code : List Ord) (s : Str) (tp : Bool) (refs : List Ref) (N B : Nat) (w : MWay) (hist : List MWay) (h : HS) : Prop
  | mk (k : Nat) (R : Option MWay × HS) (N' : Nat) (t : MR code s refs 99999 k w hist h R) (h1 : HI N' R.2) (h2 : N' ≤ N + B) (h3 : ∀ m, R.1 = some m → m.named.length ≤ 99999 ∧ (∀ q ∈ m.named, q.1 ∈ refs) ∧ m.at_ ≤ s.length)
    (h5 : tp = false → ∀ q : Str, MR code (q ++ s) refs 99999 k (w.sh q.length) (hist.map (MWay.sh q.length)) h (R.1.map (MWay.sh q.length), R.2))
theorem m_run {code : List Ord} {s : Str} {tp : Bool} {refs : List Ref} (hs : s.length ≤ 1000) (hcode : ∀ o ∈ code, o.st tp refs) : ∀ (B : Nat) (w : MWay) (hist : List MWay) (h : HS) (N bw bp : Nat), MS s refs N w → WB code s w bw → HB code s hist bp → bw + bp ≤ B → (∀ x ∈ hist, MS s refs N x) → HI N h → N + B ≤ 99999 →
    MEnd code s tp refs N B w hist h := by
  intro B
  induction B with
  | zero =>
    intro w hist h N bw bp M W P hB hw H hN
    obtain ⟨o, ho, ost, hh⟩ := step_out hs hcode M W P hB hw H
    rcases hh with ⟨_, _, hb⟩ | ⟨_, so⟩
    · exact False.elim (lin2 (.l (.a (.v 0) (.v 1)) (.k 0) (.l (.k 1) (.v 0) (.z))) rfl hB hb)
    · cases hr : (mstep s o w hist { h with steps := h.steps + 1 }).1 with
      | none => have := so.back hr; lia
      | some w' => obtain ⟨_, b1, b2, _, _, h3⟩ := so.go w' hr; exact False.elim (lin2 (.l (.a (.a (.v 0) (.v 1)) (.k 1)) (.k 0) (.z)) rfl h3)
  | succ B ih =>
    intro w hist h N bw bp M W P hB hw H hN
    obtain ⟨o, ho, ost, hh⟩ := step_out hs hcode M W P hB hw H
    have hlim : h.steps + 1 ≤ (99999 : Int) := by rw [H.steps]; lia
    have hn := M.nm
    have horder : ∀ q : Str, (w.sh q.length).order code = w.order code := fun q => rfl
    rcases hh with ⟨rfl, hc, hb⟩ | ⟨hok, so⟩
    · exact ⟨0, _, N + 1, .met ho hc hlim, H.step, by exact lin2 (.g (.a (.v 0) (.k 1)) (.a (.v 0) (.a (.v 1) (.k 1)))) rfl, (fun m e => by cases e; exact ⟨by exact lin3 (.l (.a (.v 0) (.a (.v 1) (.k 1))) (.k 99999) (.l (.v 2) (.v 0) (.g (.v 2) (.k 99999)))) rfl hN hn, M.nr, M.at_⟩), fun _ q => .met (by rw [horder]; exact ho) hc hlim⟩
    · have hv : h.vals.length ≤ 1000 := by obtain ⟨x, v, e, _⟩ := H.vals; rw [e]; simp [pq]
      have hlog := H.log
      have hlen := P.len
      have hways := so.ways
      have hhi := so.hi
      have hgo := so.go
      have hsh := fun (e : tp = false) (q : Str) => mstep_sh (q := q) (hist := hist) M.at_ (by subst e; exact ost) hok
      clear so
      generalize hA : mstep s o w hist { h with steps := h.steps + 1 } = A at *
      obtain ⟨wo, hist', h'⟩ := A
      dsimp only at hways hhi hgo
      cases wo with
      | some w' =>
        obtain ⟨M', b1, b2, w1, w2, w3⟩ := hgo w' rfl
        obtain ⟨k, R, N', t, h1, h2, h3, h5⟩ := ih w' hist' h' (N + 1) b1 b2 M' w1 w2 (by exact lin3 (.l (.a (.a (.v 0) (.v 1)) (.k 1)) (.a (.v 2) (.k 1)) (.g (.a (.v 0) (.v 1)) (.v 2))) rfl w3) hways hhi (by exact lin2 (.l (.a (.v 0) (.a (.v 1) (.k 1))) (.k 99999) (.g (.a (.a (.v 0) (.k 1)) (.v 1)) (.k 99999))) rfl hN)
        refine ⟨k + 1, R, N', .go ho hok hv (by exact lin3 (.l (.a (.v 0) (.a (.v 1) (.k 1))) (.k 99999) (.l (.v 2) (.v 0) (.g (.v 2) (.k 1000000)))) rfl hN hlog) (by exact lin5 (.l (.a (.v 0) (.a (.v 1) (.k 1))) (.k 99999) (.l (.a (.v 2) (.v 3)) (.a (.v 1) (.k 1)) (.l (.v 4) (.v 3) (.g (.v 4) (.k 100000))))) rfl hN hB hlen) hlim hA t (by exact lin1 (.b (.v 0) (.a (.v 0) (.k 1))) rfl), h1, by exact lin3 (.l (.v 0) (.a (.a (.v 1) (.k 1)) (.v 2)) (.g (.v 0) (.a (.v 1) (.a (.v 2) (.k 1))))) rfl h2, h3, fun e q => ?_⟩
        exact .go (by rw [horder]; exact ho) (ok_msh hok) hv (by exact lin3 (.l (.a (.v 0) (.a (.v 1) (.k 1))) (.k 99999) (.l (.v 2) (.v 0) (.g (.v 2) (.k 1000000)))) rfl hN hlog) (by rw [List.length_map]; exact lin5 (.l (.a (.v 0) (.a (.v 1) (.k 1))) (.k 99999) (.l (.a (.v 2) (.v 3)) (.a (.v 1) (.k 1)) (.l (.v 4) (.v 3) (.g (.v 4) (.k 100000))))) rfl hN hB hlen) hlim (hsh e q) (h5 e q) (by exact lin1 (.b (.v 0) (.a (.v 0) (.k 1))) rfl)
      | none =>
        cases P with
        | nil => exact ⟨1, _, N + 1, .fail ho hok hv (by exact lin3 (.l (.a (.v 0) (.a (.v 1) (.k 1))) (.k 99999) (.l (.v 2) (.v 0) (.g (.v 2) (.k 1000000)))) rfl hN hlog) hlim hA, hhi, by exact lin2 (.g (.a (.v 0) (.k 1)) (.a (.v 0) (.a (.v 1) (.k 1)))) rfl, (fun m e => by cases e), fun e q => .fail (by rw [horder]; exact ho) (ok_msh hok) hv (by exact lin3 (.l (.a (.v 0) (.a (.v 1) (.k 1))) (.k 99999) (.l (.v 2) (.v 0) (.g (.v 2) (.k 1000000)))) rfl hN hlog) hlim (hsh e q)⟩
        | @snoc p x b1 b2 _ P' hc hx hb =>
          have hbw : 1 ≤ bw := by
            cases hcall : w.call with
            | none => have W := W; unfold WB at W; rw [hcall] at W; exact MC.pos W
            | some z => obtain ⟨t, r⟩ := z; have W := W; unfold WB at W; rw [hcall] at W; obtain ⟨_, b0, _, hpc⟩ := W; lia
          have wx : WB code s x b2 := by unfold WB; rw [hc]; exact hx
          obtain ⟨k, R, N', t, h1, h2, h3, h5⟩ := ih x p h' (N + 1) b2 b1 ((hw x (by simp)).up (by exact lin1 (.g (.v 0) (.a (.v 0) (.k 1))) rfl)) wx P' (by exact lin5 (.l (.a (.v 0) (.v 1)) (.a (.v 2) (.k 1)) (.l (.a (.v 3) (.v 4)) (.v 1) (.l (.k 1) (.v 0) (.g (.a (.v 4) (.v 3)) (.v 2))))) rfl hB hb hbw) (fun y hy => (hw y (by simp [hy])).up (by exact lin1 (.g (.v 0) (.a (.v 0) (.k 1))) rfl)) hhi (by exact lin2 (.l (.a (.v 0) (.a (.v 1) (.k 1))) (.k 99999) (.g (.a (.a (.v 0) (.k 1)) (.v 1)) (.k 99999))) rfl hN)
          refine ⟨k + 1, R, N', .back ho hok hv (by exact lin3 (.l (.a (.v 0) (.a (.v 1) (.k 1))) (.k 99999) (.l (.v 2) (.v 0) (.g (.v 2) (.k 1000000)))) rfl hN hlog) (by simp at hlen ⊢; exact lin5 (.l (.a (.v 0) (.a (.v 1) (.k 1))) (.k 99999) (.l (.a (.v 2) (.k 1)) (.v 3) (.l (.a (.v 4) (.v 3)) (.a (.v 1) (.k 1)) (.g (.v 2) (.k 99999))))) rfl hN hlen hB) hlim hA t (by exact lin1 (.b (.v 0) (.a (.v 0) (.k 1))) rfl), h1, by exact lin3 (.l (.v 0) (.a (.a (.v 1) (.k 1)) (.v 2)) (.g (.v 0) (.a (.v 1) (.a (.v 2) (.k 1))))) rfl h2, h3, fun e q => ?_⟩
          have e2 : (p ++ [x]).map (MWay.sh q.length) = p.map (MWay.sh q.length) ++ [x.sh q.length] := by simp
          have e3 := hsh e q
          rw [e2] at e3 ⊢
          exact .back (by rw [horder]; exact ho) (ok_msh hok) hv (by exact lin3 (.l (.a (.v 0) (.a (.v 1) (.k 1))) (.k 99999) (.l (.v 2) (.v 0) (.g (.v 2) (.k 1000000)))) rfl hN hlog) (by simp at hlen ⊢; exact lin5 (.l (.a (.v 0) (.a (.v 1) (.k 1))) (.k 99999) (.l (.a (.v 2) (.k 1)) (.v 3) (.l (.a (.v 4) (.v 3)) (.a (.v 1) (.k 1)) (.g (.v 2) (.k 99999))))) rfl hN hlen hB) hlim e3 (h5 e q) (by exact lin1 (.b (.v 0) (.a (.v 0) (.k 1))) rfl)
end
section
open PySem PySem.W PyProof.Rows PySem.Calls
theorem leaf_small {tp : Bool} {d : Nat} {n : Nd} (h : NodeOk tp d n) : n.text ≤ 2 * 2 ^ d ∧ n.size + 1 ≤ 2 * 2 ^ d := by
  induction h with
  | @leaf d n h =>
    have : 1 ≤ 2 ^ d := Nat.one_le_two_pow
    cases h with
    | chars h => simp only [Nd.text, Nd.size]; exact ⟨lin2 (.l (.k 1) (.v 0) (.l (.k 1) (.v 0) (.l (.v 1) (.k 2) (.g (.v 1) (.m 2 (.v 0)))))) rfl this this h, lin1 (.l (.k 1) (.v 0) (.l (.k 1) (.v 0) (.g (.a (.k 1) (.k 1)) (.m 2 (.v 0))))) rfl this this⟩
    | _ => simp only [Nd.text, Nd.size]; exact ⟨lin1 (.g (.k 0) (.m 2 (.v 0))) rfl, lin1 (.l (.k 1) (.v 0) (.l (.k 1) (.v 0) (.g (.a (.k 1) (.k 1)) (.m 2 (.v 0))))) rfl this this⟩
  | arbno h ih => rw [Nat.pow_succ]; simp only [Nd.text, Nd.size]; exact ⟨lin2 (.l (.v 0) (.m 2 (.v 1)) (.g (.v 0) (.m 2 (.w (.v 1) 2)))) rfl ih.1, lin2 (.l (.a (.v 0) (.k 1)) (.m 2 (.v 1)) (.l (.a (.v 0) (.k 1)) (.m 2 (.v 1)) (.g (.a (.a (.v 0) (.k 1)) (.k 1)) (.m 2 (.w (.v 1) 2))))) rfl ih.2 ih.2⟩
  | nm h hr ih => rw [Nat.pow_succ]; simp only [Nd.text, Nd.size]; exact ⟨lin2 (.l (.v 0) (.m 2 (.v 1)) (.g (.v 0) (.m 2 (.w (.v 1) 2)))) rfl ih.1, lin2 (.l (.a (.v 0) (.k 1)) (.m 2 (.v 1)) (.l (.a (.v 0) (.k 1)) (.m 2 (.v 1)) (.g (.a (.a (.v 0) (.k 1)) (.k 1)) (.m 2 (.w (.v 1) 2))))) rfl ih.2 ih.2⟩
  | cat h h' ih ih' => rw [Nat.pow_succ]; simp only [Nd.text, Nd.size]; exact ⟨lin3 (.l (.v 0) (.m 2 (.v 1)) (.l (.v 2) (.m 2 (.v 1)) (.g (.a (.v 2) (.v 0)) (.m 2 (.w (.v 1) 2))))) rfl ih'.1 ih.1, lin3 (.l (.a (.v 0) (.k 1)) (.m 2 (.v 1)) (.l (.a (.v 2) (.k 1)) (.m 2 (.v 1)) (.g (.a (.a (.a (.v 2) (.v 0)) (.k 1)) (.k 1)) (.m 2 (.w (.v 1) 2))))) rfl ih'.2 ih.2⟩
  | alt h h' ih ih' => rw [Nat.pow_succ]; simp only [Nd.text, Nd.size]; exact ⟨lin3 (.l (.v 0) (.m 2 (.v 1)) (.l (.v 2) (.m 2 (.v 1)) (.g (.a (.v 2) (.v 0)) (.m 2 (.w (.v 1) 2))))) rfl ih'.1 ih.1, lin3 (.l (.a (.v 0) (.k 1)) (.m 2 (.v 1)) (.l (.a (.v 2) (.k 1)) (.m 2 (.v 1)) (.g (.a (.a (.a (.v 2) (.v 0)) (.k 1)) (.k 1)) (.m 2 (.w (.v 1) 2))))) rfl ih'.2 ih.2⟩
theorem node_small {tp : Bool} {n : Nd} (h : NodeOk tp 2 n) : n.text ≤ 8 ∧ n.size ≤ 7 := by have := leaf_small h; exact ⟨lin1 (.l (.v 0) (.m 2 (.k 4)) (.g (.v 0) (.k 8))) rfl this.1, lin1 (.l (.a (.v 0) (.k 1)) (.m 2 (.k 4)) (.g (.v 0) (.k 7))) rfl this.2⟩
theorem m_node {s : Str} {tp : Bool} {refs : List Ref} {n : Nd} {b N : Nat} {h : HS} (hs : s.length ≤ 1000) (hn : NodeOk tp 2 n) (hr : ∀ r ∈ n.refs, r ∈ refs) (hb : b ≤ s.length) (h4 : s.length - b ≤ 4) (h2 : hasR n = true → s.length - b ≤ 2) (H : HI N h) (hN : N + 10000 ≤ 99999) : EX3 fun k R N' => AN5 (MR (codeOf n) s refs 99999 k ⟨0, b, [], [], none⟩ [] h R) (HI N' R.2) (N' ≤ N + 10000) (∀ m, R.1 = some m → m.named.length ≤ 99999 ∧ (∀ q ∈ m.named, q.1 ∈ refs) ∧ m.at_ ≤ s.length) (tp = false → ∀ q : Str, MR (codeOf n) (q ++ s) refs 99999 k ⟨0, b + q.length, [], [], none⟩ [] h (R.1.map (MWay.sh q.length), R.2)) := by
  have st := node_st hn hr
  have tx := (node_small hn).1
  have few := cB_few hn h4 h2
  have mc := (code_ok (s := s) st (by exact lin1 (.l (.v 0) (.k 8) (.g (.v 0) (.k 1000))) rfl tx)).2 b hb
  obtain ⟨k, R, N', e1, e2, e3, e4, e5⟩ := m_run (tp := tp) hs (codeOf_st st (by exact lin1 (.l (.v 0) (.k 8) (.g (.v 0) (.k 1000))) rfl tx)) 10000 ⟨0, b, [], [], none⟩ [] h N _ 0 ⟨hb, Nat.zero_le _, fun p hp => by cases hp⟩ mc .nil (by exact lin1 (.l (.v 0) (.k 10000) (.g (.a (.v 0) (.k 0)) (.k 10000))) rfl few) (fun x hx => by cases hx) H hN
  exact ⟨k, R, N', e1, e2, e3, e4, e5⟩
theorem m_places {s : Str} {tp : Bool} {refs : List Ref} {n : Nd} (hs : s.length ≤ 4) (hn : NodeOk tp 2 n) (hr : ∀ r ∈ n.refs, r ∈ refs) (h2 : hasR n = true → s.length ≤ 2) : ∀ (m b N : Nat) (h : HS), b + m = s.length + 1 → HI N h → N + m * 10000 ≤ 99999 → ∃ R N', MPo (codeOf n) s refs 99999 b m h R ∧ HI N' R.2 ∧ N' ≤ N + m * 10000 ∧ (∀ x, R.1 = some x → x.2.2.length ≤ 99999 ∧ (∀ q ∈ x.2.2, q.1 ∈ refs)) := by
  intro m
  induction m with
  | zero => intro b N h _ H _; exact ⟨_, N, .done, H, by exact lin1 (.g (.v 0) (.a (.v 0) (.m 0 (.k 10000)))) rfl, fun x e => by cases e⟩
  | succ m ih =>
    intro b N h hb H hN
    obtain ⟨k, ⟨R1, R2⟩, N', t, h1, h3, h4, _⟩ := m_node (s := s) (b := b) (by exact lin1 (.l (.v 0) (.k 4) (.g (.v 0) (.k 1000))) rfl hs) hn hr (by exact lin3 (.e (.a (.v 0) (.a (.v 1) (.k 1))) (.a (.v 2) (.k 1)) (.g (.v 0) (.v 2))) rfl hb) (by lia -abstractProof) (fun z => by have := h2 z; lia -abstractProof) H (by exact lin2 (.l (.a (.v 0) (.w (.a (.v 1) (.k 1)) 10000)) (.k 99999) (.g (.a (.v 0) (.k 10000)) (.k 99999))) rfl hN)
    cases R1 with
    | some x =>
      have := h4 x rfl
      exact ⟨_, N', .hit (by exact lin1 (.l (.v 0) (.k 99999) (.g (.v 0) (.k 100000))) rfl this.1) t, h1, by exact lin3 (.l (.v 0) (.a (.v 1) (.k 10000)) (.g (.v 0) (.a (.v 1) (.w (.a (.v 2) (.k 1)) 10000)))) rfl h3, fun y e => by cases e; exact ⟨by show x.named.reverse.length ≤ _; rw [List.length_reverse]; exact this.1, fun q hq => this.2.1 q (List.mem_reverse.mp hq)⟩⟩
    | none =>
      obtain ⟨R, N2, r, h5, h6, h7⟩ := ih (b + 1) N' R2 (by exact Nat.le_antisymm (lin3 (.e (.a (.v 0) (.a (.v 1) (.k 1))) (.a (.v 2) (.k 1)) (.g (.a (.a (.v 0) (.k 1)) (.v 1)) (.a (.v 2) (.k 1)))) rfl hb) (lin3 (.f (.a (.v 0) (.a (.v 1) (.k 1))) (.a (.v 2) (.k 1)) (.g (.a (.v 2) (.k 1)) (.a (.a (.v 0) (.k 1)) (.v 1)))) rfl hb)) h1 (by exact lin3 (.l (.a (.v 0) (.w (.a (.v 1) (.k 1)) 10000)) (.k 99999) (.l (.v 2) (.a (.v 0) (.k 10000)) (.g (.a (.v 2) (.w (.v 1) 10000)) (.k 99999)))) rfl hN h3)
      exact ⟨R, N2, .miss t r, h5, by exact lin4 (.l (.v 0) (.a (.v 1) (.w (.v 2) 10000)) (.l (.v 1) (.a (.v 3) (.k 10000)) (.g (.v 0) (.a (.v 3) (.w (.a (.v 2) (.k 1)) 10000))))) rfl h6 h3, h7⟩
theorem plain_same {σ : AH} {k : Nat} : ∀ {l : List V}, (∀ v ∈ l, Plain v) → VsSame σ (k + 1) l l
  | [], _ => .nil
  | v :: l, h => by
    obtain ⟨key, u, rfl, hu⟩ := h v (by simp)
    refine .cons (.tup (.cons (.str _) (.cons ?_ .nil))) (plain_same fun w hw => h w (by simp [hw]))
    rcases hu with ⟨x, rfl⟩ | ⟨i, rfl⟩
    · exact .str x
    · exact .int i
theorem told_plain (n : Named) : ∀ v ∈ toldL n, Plain v := fun v hv => by
  obtain ⟨p, hp, rfl⟩ := List.mem_map.mp hv
  exact ⟨_, _, rfl, .inl ⟨_, rfl⟩⟩
noncomputable def FoundTold (σ : AH) (f : Option (Int × Int × Named)) (fv : V) : Prop := match f with
  | none => fv = .none
  | some (b, a, n) => ∃ y, fv = .tup [.int b, .int a, .lst y] ∧ σ y = some (.list (toldL n))
def ToldV (σ : AH) (f : Option (Int × Int × Named)) (log : List V) (st : Int) (v : V) : Prop := ∃ al fv, v = .tup [fv, .lst al, .int st] ∧ σ al = some (.list log) ∧ FoundTold σ f fv
theorem ToldV.kept {σ σ' : AH} {f : Option (Int × Int × Named)} {log : List V} {st : Int} {v : V} (T : ToldV σ f log st v) (K : Kept σ σ' []) : ToldV σ' f log st v := by
  obtain ⟨al, fv, rfl, h1, h2⟩ := T
  refine ⟨al, fv, rfl, K _ _ h1 (by simp), ?_⟩
  cases f with
  | none => exact h2
  | some x => obtain ⟨b, a, n⟩ := x; obtain ⟨y, h3, h4⟩ := h2; exact ⟨y, h3, K _ _ h4 (by simp)⟩
theorem ToldV.same {σ : AH} {f : Option (Int × Int × Named)} {log : List V} {st : Int} {u v : V} (T : ToldV σ f log st u) (T' : ToldV σ f log st v) (hp : ∀ x ∈ log, Plain x) : ∃ l m, u = .tup l ∧ v = .tup m ∧ VSame σ 9 (.tup l) (.tup m) := by
  obtain ⟨al, fv, rfl, h1, h2⟩ := T
  obtain ⟨al', fv', rfl, h1', h2'⟩ := T'
  refine ⟨_, _, rfl, rfl, .tup (.cons ?_ (.cons (.lst h1 h1' (plain_same hp)) (.cons (.int _) .nil)))⟩
  cases f with
  | none => have h2 : fv = .none := h2; have h2' : fv' = .none := h2'; subst h2; subst h2'; exact .none
  | some x =>
    obtain ⟨b, a, n⟩ := x
    obtain ⟨y, rfl, h4⟩ := h2
    obtain ⟨y', rfl, h4'⟩ := h2'
    exact .tup (.cons (.int _) (.cons (.int _) (.cons (.lst h4 h4' (plain_same (told_plain n))) .nil)))
theorem hi0 : HI 0 h0S := ⟨rfl, ⟨"a", .str "", rfl, by decide⟩, Nat.le_refl _, fun v hv => by cases hv⟩
end
section
open PySem PySem.W PyProof.Rows PySem.Calls
noncomputable def lessF (L : Nat) (f : Option (Nat × Nat × Named)) : Option (Int × Int × Named) := f.map fun p => ((p.1 : Int) - L, (p.2.1 : Int) - L, p.2.2)
section
variable {σ : AH} {Q : V → AH → Prop}
theorem w_told {σ0 : AH} {d av ar al : Addr} {refs : List Ref} {lim : Int} {h : HS} (H : Hst σ d av ar al refs lim h) {L : Nat} {f : Option (Nat × Nat × Named)} {v : V} (hf : foundB σ0 f v σ) (hn : ∀ x, f = some x → x.2.2.length ≤ 99999 ∧ (∀ q ∈ x.2.2, q.1 ∈ refs)) (q : ∀ v' σ', ToldV σ' (lessF L f) h.log h.steps v' → Kept σ σ' [] → Q v' σ') :
    Con 1 (.ref 675) [v, .lst al, .int h.steps, .int L] σ Q := by
  cases f with
  | none =>
    have hf : v = .none := hf
    subst hf
    exact w_told_none (q _ σ ⟨al, .none, rfl, H.host.l, rfl⟩ (Kept.refl _ _))
  | some p =>
    obtain ⟨b, a, n⟩ := p
    obtain ⟨x, rfl, e1, e2⟩ := hf
    obtain ⟨h1, h2⟩ := hn _ rfl
    have h1 : n.length ≤ 99999 := h1
    refine w_told_some e1 (by exact lin1 (.l (.v 0) (.k 99999) (.g (.v 0) (.k 100000))) rfl (by assumption)) (fun p hp => H.rf p.1 (h2 p hp)) fun y σ' hy sy K => ?_
    exact q _ σ' ⟨al, _, rfl, K _ _ H.host.l (by exact nn), ⟨y, rfl, sy⟩⟩ K
theorem w_from_trial {n : Nd} {s : Str} {begin L k : Nat} {R : Option (Nat × Named) × HS} (hr : RefsAt σ n.refs) (hs : s.length ≤ 1000) (T : TR s n.refs 99999 k (some ⟨[.nd n], begin, []⟩) [] h0S R) (hn : ∀ x, R.1 = some x → x.2.length ≤ 99999 ∧ (∀ q ∈ x.2, q.1 ∈ n.refs))
    (q : ∀ v σ', ToldV σ' (lessF L (R.1.map fun p => (begin, p.1, p.2))) R.2.log R.2.steps v → Kept σ σ' [] → Q v σ') : Con 9 (.ref 689) [n.v, .str s, .int begin, .bool true, .int L] σ Q := by
  have co := (C_PlainHost).1
  refine con_fn (F_law_from) rfl fun Lc => ?_
  wtm_at "w_in"
  (refine ss_cons (st_asn ?_ rfl rfl))
  refine call_g ?_
  wtm_at "wp"
  refine Con.call ((w_law_host hr fun d av ar al σ1 hd hav har hal H K1 => ?_).less (by decide))
  wtm_at "wp"
  refine test_value ?_
  wtm_at "wp"
  refine call_g ?_
  refine exs_cons ?_ rfl
  refine call_g ?_
  wtm_at "wp"
  refine Con.call (Con.mono (w_match_at H hs T) ?_)
  rintro v σ2 ⟨hf, H2, K2⟩
  wtm_at "wp"
  refine op_attr co (L_PlainHost_log) H2.host.h (v := .lst al) rfl (vk_lst _) ?_
  wtm_at "wp"
  refine op_attr co (L_PlainHost_steps) H2.host.h (v := .int R.2.steps) rfl (vk_int _) ?_
  wtm_at "wp"
  have K12 : Kept σ σ2 [] := fun x o e nx => K2 x o (K1 x o e nx) (by
    (refine nin3.mpr ?_)
    exact ⟨(by exact ne_sn e hd), (by exact ne_sn e hav), (by exact ne_sn e hal)⟩)
  refine Con.call ((w_told H2 hf ?_ fun v' σ' T K => ?_).less (by decide))
  · intro x hx
    obtain ⟨R1, R2⟩ := R
    cases R1 with
    | none => cases hx
    | some p => cases hx; exact hn p rfl
  · exact q v' σ' T (K12.trans K)
noncomputable def foundM (begin : Nat) (R : Option MWay) : Option (Nat × Nat × Named) := R.map fun m => (begin, m.at_, m.named.reverse)
theorem w_from_orders {n : Nd} {s : Str} {begin L k : Nat} {R : Option MWay × HS} (hr : RefsAt σ n.refs) (hs : s.length ≤ 1000) (hz : n.size ≤ 1000) (ht : n.text ≤ 1000) (hres : ∀ o ∈ rawOf n, ∀ g, o.goal = some g → Resolves (rawOf n) g) (hcl : (codeOf n).length ≤ 100000)
    (T : MR (codeOf n) s n.refs 99999 k ⟨0, begin, [], [], none⟩ [] h0S R) (hn : ∀ m, R.1 = some m → m.named.length ≤ 99999 ∧ (∀ q ∈ m.named, q.1 ∈ n.refs))
    (q : ∀ v σ', ToldV σ' (lessF L (foundM begin R.1)) R.2.log R.2.steps v → Kept σ σ' [] → Q v σ') : Con 12 (.ref 689) [n.v, .str s, .int begin, .bool false, .int L] σ Q := by
  have co := (C_PlainHost).1
  have cm := C_Match
  have cw := (C_Way).1
  refine con_fn (F_law_from) rfl fun Lc => ?_
  wtm_at "w_in"
  (refine ss_cons (st_asn ?_ rfl rfl))
  refine call_g ?_
  wtm_at "wp"
  refine Con.call ((w_law_host hr fun d av ar al σ1 hd hav har hal H K1 => ?_).less (by decide))
  wtm_at "wp"
  refine test_value ?_
  wtm_at "wp"
  (refine st_assign ?_)
  refine ex_meth ?_
  refine call_c cm.2.2.1 ?_
  wtm_at "wp"
  refine Con.call ((con_match fun dm ha hdm hha nd => ?_).less (by decide))
  have ne : ∀ {x : Addr} {o}, σ1 x = some o → dm ≠ x ∧ ha ≠ x := fun {x o} e => ⟨(by exact (ne_sn e hdm).symm), (by exact (ne_sn e hha).symm)⟩
  have hm2 : ((σ1.put ha (.list [])).put dm (.dict (matchD s d ha))) dm = some (.dict (matchD s d ha)) := AH.put_self _ _ _
  have hh2 : ((σ1.put ha (.list [])).put dm (.dict (matchD s d ha))) ha = some (.list []) := by rw [AH.put_ne _ _ nd.symm]; exact AH.put_self _ _ _
  have K2 : Kept σ1 ((σ1.put ha (.list [])).put dm (.dict (matchD s d ha))) [] := (Kept.new hha).put0 hdm
  refine ⟨_, gm_inst cm.1 (L_Match_run) (M_Match_run).1 hm2 rfl, (M_Match_run).2, ?_⟩
  refine exs_cons ?_ rfl
  refine call_g ?_
  wtm_at "wp"
  refine Con.call ((w_compile hz ht hres fun oa σ3 hoa soa K3 => ?_).less (by decide))
  wtm_at "wp"
  have H3 : Hst σ3 d av ar al n.refs 99999 h0S := H.kept (K2.trans K3)
  have hm3 := K3 _ _ hm2 (by exact nn)
  have hh3 := K3 _ _ hh2 (by exact nn)
  have n5 : oa ≠ al := fun z => by have := K2 _ _ H.host.l (by exact nn); rw [z, this] at hoa; cases hoa
  have n6 : oa ≠ ha := fun z => by rw [z, hh2] at hoa; cases hoa
  refine Con.call ((Con.mono (w_run_new H3 hm3 hh3 soa (ne H.host.h).1 (ne H.host.v).1 (ne H.host.r).2 (ne H.host.l).2 n5 n6 hs hcl T) ?_).less (by decide))
  rintro v σ4 ⟨hv, H4, K4⟩
  have K14 : Kept σ σ4 [] := fun x o e nx => by
    have e1 := K1 x o e nx
    refine K4 x o (K3 x o (K2 x o e1 nx) nx) ?_
    (refine nin4.mpr ?_)
    exact ⟨(by exact ne_sn e hd), (by exact ne_sn e hav), (by exact ne_sn e hal), (ne e1).2.symm⟩
  obtain ⟨R1, R2⟩ := R
  cases R1 with
  | none =>
    have hv : v = .tup [.int 1, .none] := hv
    subst hv
    wtm_at "wp"
    refine call_g ?_
    wtm_at "wp"
    refine is_none ?_
    wtm_at "wp"
    refine op_attr co (L_PlainHost_log) H4.host.h (v := .lst al) rfl (vk_lst _) ?_
    wtm_at "wp"
    refine op_attr co (L_PlainHost_steps) H4.host.h (v := .int R2.steps) rfl (vk_int _) ?_
    wtm_at "wp"
    exact Con.call ((w_told (σ0 := σ4) (f := none) H4 rfl (fun x e => by cases e) fun v' σ' T K => q v' σ' T (K14.trans K)).less (by decide))
  | some m =>
    obtain ⟨dw, rfl, e1, e2⟩ := hv
    obtain ⟨hn1, hn2⟩ := hn m rfl
    wtm_at "wp"
    refine call_g ?_
    wtm_at "wp"
    refine is_none ?_
    wtm_at "wp"
    refine op_attr cw (L_Way_at) e1 (v := .int m.at_) rfl (vk_int _) ?_
    wtm_at "wp"
    refine call_g ?_
    wtm_at "wp"
    refine op_attr cw (L_Way_named) e1 (v := nmV m.named) rfl (by intro _ h; cases hx : m.named <;> rw [hx] at h <;> cases h) ?_
    wtm_at "wp"
    refine Con.call ((w_named_rows (by exact lin1 (.l (.v 0) (.k 99999) (.g (.v 0) (.k 100000))) rfl hn1) fun a σ5 ha5 sa K5 => ?_).less (by decide))
    have H5 := H4.kept K5
    wtm_at "wp"
    refine op_attr co (L_PlainHost_log) H5.host.h (v := .lst al) rfl (vk_lst _) ?_
    wtm_at "wp"
    refine op_attr co (L_PlainHost_steps) H5.host.h (v := .int R2.steps) rfl (vk_int _) ?_
    wtm_at "wp"
    refine Con.call ((w_told (σ0 := σ4) (f := some (begin, m.at_, m.named.reverse)) H5 ⟨a, rfl, sa, ha5⟩ (fun x e => ?_) fun v' σ' T K => q v' σ' T ((K14.trans K5).trans K)).less (by decide))
    cases e
    exact ⟨by show m.named.reverse.length ≤ _; rw [List.length_reverse]; exact hn1, fun q hq => hn2 q (List.mem_reverse.mp hq)⟩
end
end
section
open PySem PySem.W PyProof.Rows PySem.Calls
theorem Hst.apartK {σ σ' : AH} {d av ar al d2 av2 ar2 al2 : Addr} {refs : List Ref} {lim lim2 : Int} {h h2 : HS} (H : Hst σ d av ar al refs lim h) (H2 : Hst σ d2 av2 ar2 al2 refs lim2 h2) (n1 : d ∉ [d2, av2, al2]) (n2 : av ∉ [d2, av2, al2]) (n3 : ar ∉ [d2, av2, al2]) (n4 : al ∉ [d2, av2, al2]) (K : Kept σ σ' [d2, av2, al2]) : Hst σ' d av ar al refs lim h :=
  ⟨⟨K _ _ H.host.h n1, K _ _ H.host.v n2, K _ _ H.host.r n3, K _ _ H.host.l n4⟩, fun r hr => K _ _ (H.rf r hr) (by
    have := H2.away r hr
    (replace this := nin4.mp this); (refine nin3.mpr ?_)
    exact ⟨this.1, this.2.1, this.2.2.2⟩), H.apart, H.away⟩
theorem foundB.kept {σ0 σ σ' : AH} {f : Option (Nat × Nat × Named)} {v : V} {D : List Addr} (h : foundB σ0 f v σ) (K : Kept σ σ' D) (hD : ∀ x, σ0 x = none → x ∉ D) : foundB σ0 f v σ' := by
  cases f with
  | none => exact h
  | some p => obtain ⟨b, a, n⟩ := p; obtain ⟨x, e, h1, h2⟩ := h; exact ⟨x, e, K _ _ h1 (hD x h2), h2⟩
section
variable {σ : AH} {Q : V → AH → Prop}
theorem w_first_trial {n : Nd} {s : Str} {R : Option (Nat × Nat × Named) × HS} (hr : RefsAt σ n.refs) (hs : s.length ≤ 1000) (T : MP s n.refs 99999 n 0 (s.length + 1) h0S R) (hp : ∀ v ∈ R.2.log, Plain v) (hn : ∀ x, R.1 = some x → x.2.2.length ≤ 99999 ∧ (∀ q ∈ x.2.2, q.1 ∈ n.refs))
    (q : ∀ σ', Kept σ σ' [] → Q (.bool true) σ') : Con 14 (.ref 696) [n.v, .str s, .bool true] σ Q := by
  have co := (C_PlainHost).1
  refine con_fn (F_law_is_first) rfl fun Lc => ?_
  wtm_at "w_in"
  refine ss_cons (st_swap (names := ["host", "other", "found"]) ?_ rfl)
  refine ex_tuple ?_
  refine exs_cons ?_ rfl
  refine call_g ?_
  wtm_at "wp"
  refine Con.call ((w_law_host hr fun d av ar al σ1 hd hav har hal H1 K1 => ?_).less (by decide))
  refine exs_cons ?_ rfl
  refine call_g ?_
  wtm_at "wp"
  have hr1 : RefsAt σ1 n.refs := fun r h => K1 _ _ (hr r h) (by exact nn)
  refine Con.call ((w_law_host hr1 fun d2 av2 ar2 al2 σ2 hd2 hav2 har2 hal2 H2 K2 => ?_).less (by decide))
  wtm_at "wp"
  refine ⟨_, rfl, rfl, ?_⟩
  refine sto_local rfl ?_
  refine sto_local rfl ?_
  refine sto_local rfl ?_
  show Stms _ _ _ _ _ _
  have off : ∀ {x o}, σ1 x = some o → x ∉ [d2, av2, al2] := fun {x o} e => by
    (refine nin3.mpr ?_)
    exact ⟨(by exact ne_sn e hd2), (by exact ne_sn e hav2), (by exact ne_sn e hal2)⟩
  have off1 : ∀ {x o}, σ x = some o → x ∉ [d, av, al] := fun {x o} e => by
    (refine nin3.mpr ?_)
    exact ⟨(by exact ne_sn e hd), (by exact ne_sn e hav), (by exact ne_sn e hal)⟩
  have H12 := H1.kept K2
  have offD : ∀ {x o}, σ2 x = some o → x ∉ [d, av, al] → True := fun _ _ => trivial
  have h2off : ∀ {x o}, σ1 x = none → σ2 x = some o → x ∉ [d, av, al] := fun {x o} e _ => by
    (refine nin3.mpr ?_)
    exact ⟨(by exact ne_ns e H1.host.h), (by exact ne_ns e H1.host.v), (by exact ne_ns e H1.host.l)⟩
  wtm_at "wp"
  refine test_value ?_
  wtm_at "wp"
  (refine st_asn ?_ rfl rfl)
  refine call_g ?_
  wtm_at "wp"
  refine Con.call ((Con.mono (w_match_plain H12 hs T) ?_).less (by decide))
  rintro v1 σ3 ⟨hf, H3, K3⟩
  have H23 : Hst σ3 d2 av2 ar2 al2 n.refs 99999 h0S := H2.apartK H12 (h2off hd2 H2.host.h) (h2off hav2 H2.host.v) (h2off har2 H2.host.r) (h2off hal2 H2.host.l) K3
  have K03 : Kept σ σ3 [] := fun x o e nx => K3 x o (K2 x o (K1 x o e nx) nx) (off1 e)
  wtm_at "wp"
  refine st_for ?_
  refine call_t ?_
  wtm_at "wp"
  refine call_b ?_
  wtm_at "wp"
  refine call_len_str (by exact lin1 (.l (.v 0) (.k 1000) (.g (.v 0) (.k 1000000))) rfl hs) ?_
  wtm_at "wp"
  refine call_range1 ?_
  refine ⟨_, _, iter_rng (by lia) (by lia) (by lia) (by lia), ?_⟩
  refine forj_rng (fun b m ρ σ' => EX2 fun h fv => AN10 ((fv = .none ∧ MP s n.refs 99999 n b m h R) ∨ (AN5 (fv ≠ .none) (foundB σ3 R.1 fv σ') (R.1.isSome = true) (h = R.2) (∃ l, fv = .tup l))) (Hst σ' d2 av2 ar2 al2 n.refs 99999 h) (Kept σ3 σ' [d2, av2, al2]) (at_ ρ "node" = some n.v) (at_ ρ "subject" = some (.str s)) (at_ ρ "is_trial" = some (.bool true)) (at_ ρ "host" = some (.inst 519 d)) (at_ ρ "other" = some (.inst 519 d2)) (at_ ρ "whole" = some v1) (at_ ρ "found" = some fv)) ?_ ?_ s.length ?_
  · rintro b m ρ σ4 ⟨h4, fv, cases_, H4, K4, l1, l2, l3, l4, l5, l6, l7⟩
    · rcases cases_ with ⟨rfl, M⟩ | ⟨hne, hff, hsome, rfl, l, rfl⟩
      · wtm_at "wp"
        refine is_none ?_
        wtm_at "wp"
        refine test_value ?_
        wtm_at "wp"
        (refine st_asn ?_ rfl rfl)
        refine call_g ?_
        wtm_at "wp"
        rcases M.inv with ⟨k, a, nm, h', t, eR⟩ | ⟨k, h', t, r⟩
        · refine Con.call ((Con.mono (w_match_at H4 hs t) ?_).less (by decide))
          rintro v5 σ5 ⟨⟨x, rfl, ex1, ex2⟩, H5, K5⟩
          wtm_at "wp"
          exact ⟨h', _, .inr ⟨(by intro z; cases z), by rw [eR]; exact ⟨x, rfl, ex1, K4.gone ex2 (H4.not ex2)⟩, by rw [eR]; rfl, by rw [eR], _, rfl⟩, H5, K4.trans K5, by wtm_at "lk1", by wtm_at "lk1", by wtm_at "lk1", by wtm_at "lk1", by wtm_at "lk1", by wtm_at "lk1", by wtm_at "lk1"⟩
        · refine Con.call ((Con.mono (w_match_at H4 hs t) ?_).less (by decide))
          rintro v5 σ5 ⟨e5, H5, K5⟩
          have e5 : v5 = .none := e5
          subst e5
          wtm_at "wp"
          exact ⟨h', _, .inl ⟨rfl, r⟩, H5, K4.trans K5, by wtm_at "lk1", by wtm_at "lk1", by wtm_at "lk1", by wtm_at "lk1", by wtm_at "lk1", by wtm_at "lk1", by wtm_at "lk1"⟩
      · wtm_at "wp"
        refine is_none ?_
        wtm_at "wp"
        refine is_none ?_
        wtm_at "wp"
        exact ⟨R.2, _, .inr ⟨(by intro z; cases z), hff, hsome, rfl, l, rfl⟩, H4, K4, by wtm_at "lk1", by wtm_at "lk1", by wtm_at "lk1", by wtm_at "lk1", by wtm_at "lk1", by wtm_at "lk1", by wtm_at "lk1"⟩
  · rintro b ρ σ4 ⟨h4, fv, cases_, H4, K4, l1, l2, l3, l4, l5, l6, l7⟩
    have H34 : Hst σ4 d av ar al n.refs 99999 R.2 := H3.apartK H23 (off H1.host.h) (off H1.host.v) (off H1.host.r) (off H1.host.l) K4
    have off3 : ∀ x, σ2 x = none → x ∉ [d2, av2, al2] := fun x e => by
      (refine nin3.mpr ?_)
      exact ⟨(by exact ne_ns e H2.host.h), (by exact ne_ns e H2.host.v), (by exact ne_ns e H2.host.l)⟩
    have hf4 := hf.kept K4 off3
    have K04 : Kept σ σ4 [] := fun x o e nx => K4 x o (K03 x o e nx) (off (K1 x o e nx))
    have fin : ∃ fv', at_ ρ "found" = some fv' ∧ foundB σ3 R.1 fv' σ4 ∧ h4 = R.2 := by
      rcases cases_ with ⟨rfl, M⟩ | ⟨hne, hff, hsome, rfl, l, rfl⟩
      · exact ⟨_, l7, by rw [M.inv0]; rfl, by rw [M.inv0]⟩
      · exact ⟨_, l7, hff, rfl⟩
    obtain ⟨fv', l7', hff, rfl⟩ := fin
    wtm_at "wp"
    refine call_g ?_
    wtm_at "wp"
    refine op_attr co (L_PlainHost_log) H34.host.h (v := .lst al) rfl (vk_lst _) ?_
    wtm_at "wp"
    refine op_attr co (L_PlainHost_steps) H34.host.h (v := .int R.2.steps) rfl (vk_int _) ?_
    wtm_at "wp"
    refine Con.call ((w_told (L := 0) H34 hf4 hn fun u σ5 T5 K5 => ?_).less (by decide))
    refine call_g ?_
    wtm_at "wp"
    have H45 := H4.kept K5
    refine op_attr co (L_PlainHost_log) H45.host.h (v := .lst al2) rfl (vk_lst _) ?_
    wtm_at "wp"
    refine op_attr co (L_PlainHost_steps) H45.host.h (v := .int R.2.steps) rfl (vk_int _) ?_
    wtm_at "wp"
    refine Con.call ((w_told (L := 0) H45 (hff.kept K5.to (D := []) (by simp)) hn fun u2 σ6 T6 K6 => ?_).less (by decide))
    obtain ⟨lu, lv, rfl, rfl, sm⟩ := (T5.kept K6).same T6 hp
    refine cmp_eq_same sm ?_
    exact q σ6 ((K04.trans K5).trans K6)
  · exact ⟨h0S, .none, .inl ⟨rfl, T⟩, H23, Kept.refl _ _, by wtm_at "lk1", by wtm_at "lk1", by wtm_at "lk1", by wtm_at "lk1", by wtm_at "lk1", by wtm_at "lk1", by wtm_at "lk1"⟩
end
end
section
open PySem PySem.W PyProof.Rows PySem.Calls
section
variable {σ : AH} {Q : V → AH → Prop}
theorem w_first_orders {n : Nd} {s : Str} {R : Option (Nat × Nat × Named) × HS} (hr : RefsAt σ n.refs) (hs : s.length ≤ 1000) (hz : n.size ≤ 1000) (ht : n.text ≤ 1000) (hres : ∀ o ∈ rawOf n, ∀ g, o.goal = some g → Resolves (rawOf n) g) (hcl : (codeOf n).length ≤ 100000) (T : MPo (codeOf n) s n.refs 99999 0 (s.length + 1) h0S R) (hp : ∀ v ∈ R.2.log, Plain v) (hn : ∀ x, R.1 = some x → x.2.2.length ≤ 99999 ∧ (∀ q ∈ x.2.2, q.1 ∈ n.refs))
    (q : ∀ σ', Kept σ σ' [] → Q (.bool true) σ') : Con 14 (.ref 696) [n.v, .str s, .bool false] σ Q := by
  have co := (C_PlainHost).1
  have cm := C_Match
  have cw := (C_Way).1
  refine con_fn (F_law_is_first) rfl fun Lc => ?_
  wtm_at "w_in"
  refine ss_cons (st_swap (names := ["host", "other", "found"]) ?_ rfl)
  refine ex_tuple ?_
  refine exs_cons ?_ rfl
  refine call_g ?_
  wtm_at "wp"
  refine Con.call ((w_law_host hr fun d av ar al σ1 hd hav har hal H1 K1 => ?_).less (by decide))
  refine exs_cons ?_ rfl
  refine call_g ?_
  wtm_at "wp"
  have hr1 : RefsAt σ1 n.refs := fun r h => K1 _ _ (hr r h) (by exact nn)
  refine Con.call ((w_law_host hr1 fun d2 av2 ar2 al2 σ2 hd2 hav2 har2 hal2 H2 K2 => ?_).less (by decide))
  wtm_at "wp"
  refine ⟨_, rfl, rfl, ?_⟩
  refine sto_local rfl ?_
  refine sto_local rfl ?_
  refine sto_local rfl ?_
  show Stms _ _ _ _ _ _
  have off : ∀ {x o}, σ1 x = some o → x ∉ [d2, av2, al2] := fun {x o} e => by
    (refine nin3.mpr ?_)
    exact ⟨(by exact ne_sn e hd2), (by exact ne_sn e hav2), (by exact ne_sn e hal2)⟩
  have off1 : ∀ {x o}, σ x = some o → x ∉ [d, av, al] := fun {x o} e => by
    (refine nin3.mpr ?_)
    exact ⟨(by exact ne_sn e hd), (by exact ne_sn e hav), (by exact ne_sn e hal)⟩
  have H12 := H1.kept K2
  have offD : ∀ {x o}, σ2 x = some o → x ∉ [d, av, al] → True := fun _ _ => trivial
  have h2off : ∀ {x o}, σ1 x = none → σ2 x = some o → x ∉ [d, av, al] := fun {x o} e _ => by
    (refine nin3.mpr ?_)
    exact ⟨(by exact ne_ns e H1.host.h), (by exact ne_ns e H1.host.v), (by exact ne_ns e H1.host.l)⟩
  wtm_at "wp"
  refine test_value ?_
  wtm_at "wp"
  (refine st_asn ?_ rfl rfl)
  refine call_g ?_
  refine exs_cons ?_ rfl
  refine call_g ?_
  wtm_at "wp"
  refine Con.call ((w_compile hz ht hres fun oa σc hoa soa Kc => ?_).less (by decide))
  wtm_at "wp"
  have n5 : oa ≠ al := fun z => by rw [z, H12.host.l] at hoa; cases hoa
  refine Con.call ((Con.mono (w_match_orders (H12.kept Kc) soa n5 hs hcl T) ?_).less (by decide))
  rintro v1 σ3 ⟨hf', H3, K3'⟩
  have hf : foundB σ2 R.1 v1 σ3 := by
    obtain ⟨Ra, Rb⟩ := R
    cases Ra with
    | none => exact hf'
    | some p => obtain ⟨pb, pa, pn⟩ := p; obtain ⟨x, e, e1, e2⟩ := hf'; exact ⟨x, e, e1, by
        cases z : σ2 x with
        | none => rfl
        | some o => rw [Kc _ _ z (by exact nn)] at e2; cases e2⟩
  have K3 : Kept σ2 σ3 [d, av, al] := Kc.to.trans K3'
  have H23 : Hst σ3 d2 av2 ar2 al2 n.refs 99999 h0S := H2.apartK H12 (h2off hd2 H2.host.h) (h2off hav2 H2.host.v) (h2off har2 H2.host.r) (h2off hal2 H2.host.l) K3
  have K03 : Kept σ σ3 [] := fun x o e nx => K3 x o (K2 x o (K1 x o e nx) nx) (off1 e)
  wtm_at "wp"
  refine st_for ?_
  refine call_t ?_
  wtm_at "wp"
  refine call_b ?_
  wtm_at "wp"
  refine call_len_str (by exact lin1 (.l (.v 0) (.k 1000) (.g (.v 0) (.k 1000000))) rfl hs) ?_
  wtm_at "wp"
  refine call_range1 ?_
  refine ⟨_, _, iter_rng (by lia) (by lia) (by lia) (by lia), ?_⟩
  refine forj_rng (fun b m ρ σ' => EX2 fun h fv => AN10 ((fv = .none ∧ MPo (codeOf n) s n.refs 99999 b m h R) ∨ (AN5 (fv ≠ .none) (foundB σ3 R.1 fv σ') (R.1.isSome = true) (h = R.2) (∃ l, fv = .tup l))) (Hst σ' d2 av2 ar2 al2 n.refs 99999 h) (Kept σ3 σ' [d2, av2, al2]) (at_ ρ "node" = some n.v) (at_ ρ "subject" = some (.str s)) (at_ ρ "is_trial" = some (.bool false)) (at_ ρ "host" = some (.inst 519 d)) (at_ ρ "other" = some (.inst 519 d2)) (at_ ρ "whole" = some v1) (at_ ρ "found" = some fv)) ?_ ?_ s.length ?_
  · rintro b m ρ σ4 ⟨h4, fv, cases_, H4, K4, l1, l2, l3, l4, l5, l6, l7⟩
    · rcases cases_ with ⟨rfl, M⟩ | ⟨hne, hff, hsome, rfl, l, rfl⟩
      · wtm_at "wp"
        refine is_none ?_
        wtm_at "wp"
        refine test_value ?_
        wtm_at "wp"
        refine is_none ?_
        wtm_at "wp"
        (refine st_asn ?_ rfl rfl)
        refine ex_sub ?_
        refine ex_meth ?_
        refine call_c cm.2.2.1 ?_
        wtm_at "wp"
        refine Con.call ((con_match fun dm ha hdm hha nd => ?_).less (by decide))
        have ne : ∀ {x : Addr} {o}, σ4 x = some o → dm ≠ x ∧ ha ≠ x := fun {x o} e => ⟨(by exact (ne_sn e hdm).symm), (by exact (ne_sn e hha).symm)⟩
        have hm2 : ((σ4.put ha (.list [])).put dm (.dict (matchD s d2 ha))) dm = some (.dict (matchD s d2 ha)) := AH.put_self _ _ _
        have hh2 : ((σ4.put ha (.list [])).put dm (.dict (matchD s d2 ha))) ha = some (.list []) := by rw [AH.put_ne _ _ nd.symm]; exact AH.put_self _ _ _
        have Km : Kept σ4 ((σ4.put ha (.list [])).put dm (.dict (matchD s d2 ha))) [] := (Kept.new hha).put0 hdm
        refine ⟨_, gm_inst cm.1 (L_Match_run) (M_Match_run).1 hm2 rfl, (M_Match_run).2, ?_⟩
        refine exs_cons ?_ rfl
        refine call_g ?_
        wtm_at "wp"
        refine Con.call ((w_compile hz ht hres fun ob σd hob sob Kd => ?_).less (by decide))
        wtm_at "wp"
        have Hd := H4.kept (Km.trans Kd)
        have m5 : ob ≠ al2 := fun z => by have := Km _ _ H4.host.l (by exact nn); rw [z, this] at hob; cases hob
        have m6 : ob ≠ ha := fun z => by rw [z, hh2] at hob; cases hob
        rcases M.inv with ⟨k, mw, h2, T1, hmn, eR⟩ | ⟨k, h2, T1, r⟩
        · refine Con.call ((Con.mono (w_run_new Hd (Kd _ _ hm2 (by exact nn)) (Kd _ _ hh2 (by exact nn)) sob (ne H4.host.h).1 (ne H4.host.v).1 (ne H4.host.r).2 (ne H4.host.l).2 m5 m6 hs hcl T1) ?_).less (by decide))
          rintro v5 σ5 ⟨hv5, H5, K5'⟩
          have K5 : Kept σ4 σ5 [d2, av2, al2] := fun x o e nx => K5' x o (Kd x o (Km x o e (by exact nn)) (by exact nn)) (by
            (replace nx := nin3.mp nx); (refine nin4.mpr ?_)
            exact ⟨nx.1, nx.2.1, nx.2.2, (ne e).2.symm⟩)
          obtain ⟨dw, rfl, e1, e2⟩ := hv5
          wtm_at "wp"
          (refine st_asn ?_ rfl rfl)
          wtm_at "wp"
          refine is_none ?_
          wtm_at "wp"
          refine op_attr cw (L_Way_at) e1 (v := .int mw.at_) rfl (vk_int _) ?_
          wtm_at "wp"
          refine call_g ?_
          wtm_at "wp"
          refine op_attr cw (L_Way_named) e1 (v := nmV mw.named) rfl (by intro _ h; cases hx : mw.named <;> rw [hx] at h <;> cases h) ?_
          wtm_at "wp"
          refine Con.call ((w_named_rows hmn fun xa σ6 hxa sxa K6 => ?_).less (by decide))
          wtm_at "wp"
          have hx3 : σ3 xa = none := (K4.trans K5).gone hxa (H5.not hxa)
          exact ⟨h2, _, .inr ⟨(by intro z; cases z), by rw [eR]; exact ⟨xa, rfl, sxa, hx3⟩, by rw [eR]; rfl, by rw [eR], _, rfl⟩, H5.kept K6, (K4.trans K5).trans K6.to, by wtm_at "lk1", by wtm_at "lk1", by wtm_at "lk1", by wtm_at "lk1", by wtm_at "lk1", by wtm_at "lk1", by wtm_at "lk1"⟩
        · refine Con.call ((Con.mono (w_run_new Hd (Kd _ _ hm2 (by exact nn)) (Kd _ _ hh2 (by exact nn)) sob (ne H4.host.h).1 (ne H4.host.v).1 (ne H4.host.r).2 (ne H4.host.l).2 m5 m6 hs hcl T1) ?_).less (by decide))
          rintro v5 σ5 ⟨hv5, H5, K5'⟩
          have K5 : Kept σ4 σ5 [d2, av2, al2] := fun x o e nx => K5' x o (Kd x o (Km x o e (by exact nn)) (by exact nn)) (by
            (replace nx := nin3.mp nx); (refine nin4.mpr ?_)
            exact ⟨nx.1, nx.2.1, nx.2.2, (ne e).2.symm⟩)
          have hv5 : v5 = .tup [.int 1, .none] := hv5
          subst hv5
          wtm_at "wp"
          (refine st_asn ?_ rfl rfl)
          wtm_at "wp"
          refine is_none ?_
          wtm_at "wp"
          exact ⟨h2, _, .inl ⟨rfl, r⟩, H5, K4.trans K5, by wtm_at "lk1", by wtm_at "lk1", by wtm_at "lk1", by wtm_at "lk1", by wtm_at "lk1", by wtm_at "lk1", by wtm_at "lk1"⟩
      · wtm_at "wp"
        refine is_none ?_
        wtm_at "wp"
        refine is_none ?_
        wtm_at "wp"
        exact ⟨R.2, _, .inr ⟨(by intro z; cases z), hff, hsome, rfl, l, rfl⟩, H4, K4, by wtm_at "lk1", by wtm_at "lk1", by wtm_at "lk1", by wtm_at "lk1", by wtm_at "lk1", by wtm_at "lk1", by wtm_at "lk1"⟩
  · rintro b ρ σ4 ⟨h4, fv, cases_, H4, K4, l1, l2, l3, l4, l5, l6, l7⟩
    have H34 : Hst σ4 d av ar al n.refs 99999 R.2 := H3.apartK H23 (off H1.host.h) (off H1.host.v) (off H1.host.r) (off H1.host.l) K4
    have off3 : ∀ x, σ2 x = none → x ∉ [d2, av2, al2] := fun x e => by
      (refine nin3.mpr ?_)
      exact ⟨(by exact ne_ns e H2.host.h), (by exact ne_ns e H2.host.v), (by exact ne_ns e H2.host.l)⟩
    have hf4 := hf.kept K4 off3
    have K04 : Kept σ σ4 [] := fun x o e nx => K4 x o (K03 x o e nx) (off (K1 x o e nx))
    have fin : ∃ fv', at_ ρ "found" = some fv' ∧ foundB σ3 R.1 fv' σ4 ∧ h4 = R.2 := by
      rcases cases_ with ⟨rfl, M⟩ | ⟨hne, hff, hsome, rfl, l, rfl⟩
      · exact ⟨_, l7, by rw [M.inv0]; rfl, by rw [M.inv0]⟩
      · exact ⟨_, l7, hff, rfl⟩
    obtain ⟨fv', l7', hff, rfl⟩ := fin
    wtm_at "wp"
    refine call_g ?_
    wtm_at "wp"
    refine op_attr co (L_PlainHost_log) H34.host.h (v := .lst al) rfl (vk_lst _) ?_
    wtm_at "wp"
    refine op_attr co (L_PlainHost_steps) H34.host.h (v := .int R.2.steps) rfl (vk_int _) ?_
    wtm_at "wp"
    refine Con.call ((w_told (L := 0) H34 hf4 hn fun u σ5 T5 K5 => ?_).less (by decide))
    refine call_g ?_
    wtm_at "wp"
    have H45 := H4.kept K5
    refine op_attr co (L_PlainHost_log) H45.host.h (v := .lst al2) rfl (vk_lst _) ?_
    wtm_at "wp"
    refine op_attr co (L_PlainHost_steps) H45.host.h (v := .int R.2.steps) rfl (vk_int _) ?_
    wtm_at "wp"
    refine Con.call ((w_told (L := 0) H45 (hff.kept K5.to (D := []) (by simp)) hn fun u2 σ6 T6 K6 => ?_).less (by decide))
    obtain ⟨lu, lv, rfl, rfl, sm⟩ := (T5.kept K6).same T6 hp
    refine cmp_eq_same sm ?_
    exact q σ6 ((K04.trans K5).trans K6)
  · exact ⟨h0S, .none, .inl ⟨rfl, T⟩, H23, Kept.refl _ _, by wtm_at "lk1", by wtm_at "lk1", by wtm_at "lk1", by wtm_at "lk1", by wtm_at "lk1", by wtm_at "lk1", by wtm_at "lk1"⟩
end
end
section
open PySem PySem.W PyProof.Rows PySem.Calls
section
variable {σ : AH} {n : Nat} {ρ : Loc}
noncomputable def lawScope : Scope := sScope (stm 101)
noncomputable def lawEnv (L a : Addr) (cd : Value) : Env := envOfC "law" lawScope L a cd
theorem law_cells (L a : Addr) (cd : Value) : (lawEnv L a cd).cells = [(("feed" : Str), L + 1)] := by with_unfolding_all rfl
theorem law_kind (L a : Addr) (cd : Value) : (lawEnv L a cd).kindOf "feed" = some .cell := by with_unfolding_all rfl
theorem sl_given {Q : V → Loc → AH → Prop} {env : Env} {value slice : Expr} {a : Addr} {items : Array Value} {xs : List Int} {k : Nat} (ha : c.h0.IsList a items) (hi : ∀ h : Heap, VsRep h items.toList (xs.map V.int)) (hz : xs.length ≤ 1000000)
    (q : ∀ b, σ b = none → Q (.lst b) ρ (σ.put b (.list ((xs.take k).map V.int))))
    (hs : ∀ o i, ∃ ops, subscripted slice false o i = operate ops (getItem o i) := by intro o i; exact ⟨_, by with_unfolding_all rfl⟩) : SlJ n env value slice (.glob (.ref a)) none (some (k : Int)) none ρ σ Q := fun A s w sl vl vu vk hA S F r hsl pl pu pk => by
  cases r
  obtain ⟨ops, ho⟩ := hs (.ref a) (.ref sl)
  have hob : s.heap.IsList a items := ha.at fun o e => S.keep0 _ _ e
  have el : items.size = xs.length := by have := (hi s.heap).length; simpa using this
  refine tail_any hob.typeIs slot_list_getitem.lookup (wpAny_getItem_list_slice (lo := none) (hi := some (k : Int)) (st := none) hob hsl pl pu pk (by decide) ?_ (by rw [el, sizeLine_eq]; exact lin1 (.l (.v 0) (.k 1000000) (.g (.v 0) (.k 16777216))) rfl hz)) ho
  refine Post.new (a := s.heap.objs.size) S F (push_keeps _) (push_size _) (Nat.le_refl _) (.list (IsL.new _ _) ?_) (.lst _) (q _ ?_)
  · rw [slicePick_upto', List.map_take]; exact (hi _).take k
  · cases z : σ s.heap.objs.size with
    | none => rfl
    | some ao => obtain ⟨ob, e1, _⟩ := (S.objs _ _ z).at; exact absurd (Heap.lt_size e1) (Nat.lt_irrefl _)
theorem four_at {S : Str} (hS : S.length = 4) {r : Nat} (hr : r < 4) : ∃ d, S.cps.toList[r]? = some d := by
  have : S.cps.toList.length = 4 := by rw [Array.length_toList]; exact hS
  exact ⟨_, List.getElem?_eq_getElem (by exact lin2 (.t (.v 0) (.k 4) (.f (.v 1) (.k 4) (.b (.v 0) (.v 1)))) rfl hr this)⟩
noncomputable def signScope : Scope := { kind := ScopeKind.function, names := [(Str.ofString ".0", NameKind.local), (Str.ofString "turn", NameKind.local), (Str.ofString "_law_next", NameKind.globalImplicit), (Str.ofString "feed", NameKind.free)], isGenerator := false, isCoroutine := false }
set_option tactic.hygienic true
theorem ex_signs {Q : V → Loc → AH → Prop} {L a : Addr} {cd : Value} {S : Str} (hS : S.length = 4) {fa : Addr} {t : Nat} (ht : t ≤ 900) {iter : Expr} {p1 p2 p3 p4 p5 p6 p7 p8 : Pos}
    (h : Ex (n + 1) (lawEnv L a cd) iter ρ σ (fun v ρ1 σ1 => ∃ m : Nat, v = .rng 0 m ∧ m ≤ 4 ∧ Feed σ1 fa t ∧ at_ ρ1 "feed" = some (.lst fa) ∧ ∀ (ss : List Str) σ' D, ss.length = m → (∀ x ∈ ss, x.length = 1) → Feed σ' fa (t + m) → Kept σ1 σ' [fa] → σ' D = none → Q (.lst D) ρ1 (σ'.put D (.list (ss.map V.str))))) (hs : ∀ x, foldedSetIterable iter (lawEnv L a cd) x = Pure.pure x := by intro _; rfl) :
    Ex (n + 1) (lawEnv L a cd) (.ListComp (.Subscript (.Constant (.str S) 0 p1) (.Call (.Name "_law_next" p2) [.Name "feed" p3, .Constant (.int 4) 0 p4] [] p5) p6) [⟨.Name "turn" p7, iter, [], 0⟩] signScope p8) ρ σ Q := by
  refine ex_listcomp (cl := [("feed", L + 1)]) (by with_unfolding_all rfl) (by decide) rfl (by decide) (fun p hp => ?_) (by simp) (fun p hp hq => ?_) ?_ (hs := hs)
  · rw [List.mem_singleton] at hp; subst hp
    rw [law_cells, law_kind]
    exact ⟨by simp, by simp, by with_unfolding_all rfl, .inl rfl⟩
  · rw [law_cells] at hp; exact hp
  refine Tr.mono h ?_
  rintro v ρ1 σ1 ⟨m, rfl, hm, F1, hf, q⟩
  refine ⟨_, _, [("feed", .lst fa)], iter_rng (by lia -abstractProof) (by lia -abstractProof) (by lia -abstractProof) (by lia -abstractProof), ?_, fun C => ?_⟩
  · intro x v e
    rw [List.lookup_cons] at e
    by_cases z : (x == ("feed" : Str)) = true
    · have := eq_of_beq z; subst this; rw [z] at e; exact ⟨by rw [show List.lookup ("feed" : Str) ρ1 = _ from hf]; exact e, by simp⟩
    · simp only [Bool.not_eq_true] at z; rw [z] at e; cases e
  have e0 : rangeVs 0 (m : Int) = (List.range' 0 m).map fun i => .int (i : Nat) := rangeVs_nat m
  rw [e0]
  refine compj_inv (fun vs acc ρ' σ' => ∃ b k, ∃ ss : List Str, vs = (List.range' b k).map (fun i => .int (i : Nat)) ∧ acc = ss.map V.str ∧ ss.length + k = m ∧ (∀ x ∈ ss, x.length = 1) ∧ Feed σ' fa (t + ss.length) ∧ Kept σ1 σ' [fa] ∧ at_ ρ' "feed" = some (.lst fa)) (fun _ _ _ _ _ => trivial) ?_ ?_ _ _ _ _ ?_
  · rintro v vs acc ρ' σ' ⟨b, k, ss, ev, ea, hk, h1, F, K, lf⟩
    cases k with
    | zero => cases ev
    | succ k =>
      rw [List.range'_succ, List.map_cons, List.cons.injEq] at ev
      obtain ⟨rfl, rfl⟩ := ev
      wtm_at "wp"
      refine call_g ?_
      wtm_at "wp"
      refine Con.call ((w_law_next (m := 4) F (by exact lin4 (.e (.a (.v 0) (.a (.v 1) (.k 1))) (.v 2) (.l (.v 2) (.k 4) (.l (.v 3) (.k 900) (.g (.a (.v 3) (.v 0)) (.k 1000))))) rfl hk hm ht) (by lia -abstractProof) fun r σ2 hr F2 K2 => ?_).less (by exact lin1 (.g (.k 1) (.a (.v 0) (.k 1))) rfl))
      obtain ⟨d, hd⟩ := four_at hS hr
      refine sub_str (j := r) rfl hd (by exact lin1 (.t (.v 0) (.k 4) (.b (.v 0) (.k 4611686018427387904))) rfl hr) ?_
      refine ⟨by rw [ea, List.length_map]; exact lin3 (.e (.a (.v 0) (.a (.v 1) (.k 1))) (.v 2) (.l (.v 2) (.k 4) (.g (.v 0) (.k 1000000)))) rfl hk hm, ?_, b + 1, k, ss ++ [⟨#[d]⟩], rfl, by rw [ea]; simp, by simp; exact Nat.le_antisymm (lin3 (.e (.a (.v 0) (.a (.v 1) (.k 1))) (.v 2) (.g (.a (.a (.v 0) (.k 1)) (.v 1)) (.v 2))) rfl hk) (lin3 (.f (.a (.v 0) (.a (.v 1) (.k 1))) (.v 2) (.g (.v 2) (.a (.a (.v 0) (.k 1)) (.v 1)))) rfl hk), ?_, ?_, K.trans K2, ?_⟩
      · intro p hp v e
        rw [List.mem_singleton] at hp; subst hp
        rw [show List.lookup ("feed" : Str) ρ1 = _ from hf] at e; cases e
        wtm_at "lk1"
      · intro x hx
        rcases List.mem_append.mp hx with z | z
        · exact h1 x z
        · rw [List.mem_singleton] at z; subst z; rfl
      · refine F2.less ?_; simp; exact lin2 (.g (.a (.a (.v 0) (.v 1)) (.k 1)) (.a (.v 0) (.a (.v 1) (.k 1)))) rfl
      · wtm_at "lk1"
  · rintro acc ρ' σ' ⟨b, k, ss, ev, ea, hk, h1, F, K, lf⟩ D hD
    have k0 : k = 0 := by cases k with | zero => rfl | succ k => rw [List.range'_succ, List.map_cons] at ev; cases ev
    subst k0
    subst ea
    rw [Nat.add_zero] at hk
    exact q ss σ' D hk h1 (by rw [← hk]; exact F) K hD
  · exact ⟨0, m, [], rfl, rfl, by simp, (fun _ h => nomatch h), F1, Kept.refl _ _, by wtm_at "lk1"⟩
end
end
section
open PySem PySem.W PyProof.Rows PySem.Calls
set_option tactic.hygienic false
theorem node_code {tp : Bool} {n : Nd} (h : NodeOk tp 2 n) : (codeOf n).length ≤ 100000 := by
  have gl := (grows n.size n [] (Nat.le_refl _)).2
  rw [putN_eq n.size n [] (Nat.le_refl _)] at gl
  have sm := (node_small h).2
  unfold codeOf rawOf
  simp at gl ⊢
  exact lin2 (.l (.v 0) (.m 5 (.v 1)) (.l (.v 1) (.k 7) (.l (.v 1) (.k 7) (.l (.v 1) (.k 7) (.l (.v 1) (.k 7) (.l (.v 1) (.k 7) (.g (.v 0) (.k 99999)))))))) rfl gl sm sm sm sm sm
section

theorem w_from_both {nd : Nd} {s : Str} (hn : NodeOk false 2 nd) (hs : s.length ≤ 4) (h2 : hasR nd = true → s.length ≤ 2) (b : Bool) :
    ∃ (f : Option (Int × Int × Named)) (log : List V) (st : Int), (∀ x ∈ log, Plain x) ∧
      (∀ {σ : AH} {Q : V → AH → Prop}, RefsAt σ nd.refs → (∀ v σ', ToldV σ' f log st v → Kept σ σ' [] → Q v σ') → Con 12 (.ref 689) [nd.v, .str s, .int 0, .bool b, .int 0] σ Q) ∧
      (∀ (q : Str) {σ : AH} {Q : V → AH → Prop}, q.length ≤ 100 → RefsAt σ nd.refs → (∀ v σ', ToldV σ' f log st v → Kept σ σ' [] → Q v σ') → Con 12 (.ref 689) [nd.v, .str (q ++ s), .int q.length, .bool b, .int q.length] σ Q) := by
  have ql : ∀ q : Str, (q ++ s).length = s.length + q.length := fun q => len_shift q s
  cases b with
  | true =>
    obtain ⟨k, R, N', T, H, _, hx, sh⟩ := t_node (s := s) (refs := nd.refs) (b := 0) (N := 0) (h := h0S) (by exact lin1 (.l (.v 0) (.k 4) (.g (.v 0) (.k 1000))) rfl hs) hn (fun _ h => h) (Nat.zero_le _) (by lia) (fun z => by have := h2 z; lia) hi0 (by lia)
    refine ⟨lessF 0 (R.1.map fun p => (0, p.1, p.2)), R.2.log, R.2.steps, H.plain, fun {σ Q} hr q => ?_, fun q {σ Q} hq hr qq => ?_⟩
    · exact (w_from_trial (L := 0) (begin := 0) hr (by exact lin1 (.l (.v 0) (.k 4) (.g (.v 0) (.k 1000))) rfl hs) T (fun x e => ⟨(hx x e).1, (hx x e).2.1⟩) q).less (by decide)
    · have T2 := sh rfl q
      rw [Nat.zero_add] at T2
      refine (w_from_trial (L := q.length) (begin := q.length) hr (by rw [ql]; exact lin2 (.l (.v 0) (.k 100) (.l (.v 1) (.k 4) (.g (.a (.v 1) (.v 0)) (.k 1000)))) rfl hq hs) T2 (fun x e => ?_) fun v σ' tv K => qq v σ' ?_ K).less (by decide)
      · obtain ⟨y, hy, rfl⟩ := Option.map_eq_some_iff.mp e
        exact ⟨(hx y hy).1, (hx y hy).2.1⟩
      · have e : lessF q.length ((R.1.map fun x => (x.1 + q.length, x.2)).map fun p => (q.length, p.1, p.2)) = lessF 0 (R.1.map fun p => (0, p.1, p.2)) := by
          cases R.1 with
          | none => rfl
          | some x => unfold lessF; simp only [Option.map_some]; congr 2 <;> simp
        rw [← e]; exact tv
  | false =>
    obtain ⟨k, R, N', T, H, _, hx, sh⟩ := m_node (s := s) (refs := nd.refs) (b := 0) (N := 0) (h := h0S) (by exact lin1 (.l (.v 0) (.k 4) (.g (.v 0) (.k 1000))) rfl hs) hn (fun _ h => h) (Nat.zero_le _) (by lia) (fun z => by have := h2 z; lia) hi0 (by lia)
    have hres := (code_ok (s := s) (node_st hn (fun _ h => h)) (by have := (node_small hn).1; exact lin1 (.l (.v 0) (.k 8) (.g (.v 0) (.k 1000))) rfl this)).1
    refine ⟨lessF 0 (foundM 0 R.1), R.2.log, R.2.steps, H.plain, fun {σ Q} hr q => ?_, fun q {σ Q} hq hr qq => ?_⟩
    · exact w_from_orders (L := 0) (begin := 0) hr (by exact lin1 (.l (.v 0) (.k 4) (.g (.v 0) (.k 1000))) rfl hs) (by have := (node_small hn).2; exact lin1 (.l (.v 0) (.k 7) (.g (.v 0) (.k 1000))) rfl this) (by have := (node_small hn).1; exact lin1 (.l (.v 0) (.k 8) (.g (.v 0) (.k 1000))) rfl this) hres (node_code hn) T (fun x e => ⟨(hx x e).1, (hx x e).2.1⟩) q
    · have T2 := sh rfl q
      rw [Nat.zero_add] at T2
      refine w_from_orders (L := q.length) (begin := q.length) hr (by rw [ql]; exact lin2 (.l (.v 0) (.k 100) (.l (.v 1) (.k 4) (.g (.a (.v 1) (.v 0)) (.k 1000)))) rfl hq hs) (by have := (node_small hn).2; exact lin1 (.l (.v 0) (.k 7) (.g (.v 0) (.k 1000))) rfl this) (by have := (node_small hn).1; exact lin1 (.l (.v 0) (.k 8) (.g (.v 0) (.k 1000))) rfl this) hres (node_code hn) T2 (fun x e => ?_) fun v σ' tv K => qq v σ' ?_ K
      · obtain ⟨y, hy, rfl⟩ := Option.map_eq_some_iff.mp e
        exact ⟨(hx y hy).1, (hx y hy).2.1⟩
      · have e : lessF q.length (foundM q.length (R.1.map (MWay.sh q.length))) = lessF 0 (foundM 0 R.1) := by
          cases R.1 with
          | none => rfl
          | some x => unfold lessF foundM MWay.sh; simp only [Option.map_some]; congr 2 <;> simp
        rw [← e]; exact tv
theorem w_first_both {nd : Nd} {s : Str} (hn : NodeOk true 2 nd) (hs : s.length ≤ 4) (h2 : hasR nd = true → s.length ≤ 2) (b : Bool) {σ : AH} {Q : V → AH → Prop} (hr : RefsAt σ nd.refs) (q : ∀ σ', Kept σ σ' [] → Q (.bool true) σ') :
    Con 14 (.ref 696) [nd.v, .str s, .bool b] σ Q := by
  cases b with
  | true =>
    obtain ⟨R, N', M, H, _, hx⟩ := t_places (refs := nd.refs) hs hn (fun _ h => h) h2 (s.length + 1) 0 0 h0S (by exact Nat.le_antisymm (lin1 (.g (.a (.k 0) (.a (.v 0) (.k 1))) (.a (.v 0) (.k 1))) rfl) (lin1 (.g (.a (.v 0) (.k 1)) (.a (.k 0) (.a (.v 0) (.k 1)))) rfl)) hi0 (by lia)
    exact w_first_trial hr (by exact lin1 (.l (.v 0) (.k 4) (.g (.v 0) (.k 1000))) rfl hs) M H.plain hx q
  | false =>
    obtain ⟨R, N', M, H, _, hx⟩ := m_places (refs := nd.refs) hs hn (fun _ h => h) h2 (s.length + 1) 0 0 h0S (by exact Nat.le_antisymm (lin1 (.g (.a (.k 0) (.a (.v 0) (.k 1))) (.a (.v 0) (.k 1))) rfl) (lin1 (.g (.a (.v 0) (.k 1)) (.a (.k 0) (.a (.v 0) (.k 1)))) rfl)) hi0 (by lia)
    exact w_first_orders hr (by exact lin1 (.l (.v 0) (.k 4) (.g (.v 0) (.k 1000))) rfl hs) (by have := (node_small hn).2; exact lin1 (.l (.v 0) (.k 7) (.g (.v 0) (.k 1000))) rfl this) (by have := (node_small hn).1; exact lin1 (.l (.v 0) (.k 8) (.g (.v 0) (.k 1000))) rfl this) (code_ok (s := s) (node_st hn (fun _ h => h)) (by have := (node_small hn).1; exact lin1 (.l (.v 0) (.k 8) (.g (.v 0) (.k 1000))) rfl this)).1 (node_code hn) M H.plain hx q
end
end
section
open PySem PySem.W PyProof.Rows PySem.Calls
theorem ones_sum : ∀ l : List Str, (∀ x ∈ l, x.length = 1) → (l.map (·.length)).sum = l.length
  | [], _ => rfl
  | x :: l, h => by
    have := ones_sum l fun y hy => h y (List.mem_cons_of_mem _ hy)
    have h1 := h x (List.mem_cons_self ..)
    rw [List.map_cons, List.sum_cons, List.length_cons]; exact Nat.le_antisymm (lin3 (.e (.v 0) (.k 1) (.e (.v 1) (.v 2) (.g (.a (.v 0) (.v 1)) (.a (.v 2) (.k 1))))) rfl h1 this) (lin3 (.f (.v 0) (.k 1) (.f (.v 1) (.v 2) (.g (.a (.v 2) (.k 1)) (.a (.v 0) (.v 1))))) rfl h1 this)
theorem join_ones (l : List Str) (h : ∀ x ∈ l, x.length = 1) : (Txt.join "" l).length = l.length := by
  cases l with
  | nil => rfl
  | cons a r =>
    show (Builtin.Str.glued "" (a :: r)).length = _
    rw [StrLaws.glued_eq_join, len_join_cons, ones_sum _ h]
    rfl
section

set_option tactic.hygienic true
theorem w_law2 {L a fa : Addr} {cd : Value} {u : V} {tp : Bool} {nd : Nd} {σ : AH} {r : Nat} (hn : NodeOk tp 2 nd) (hR : RefsAt σ nd.refs) (hr : r ≤ 4) (h2 : hasR nd = true → r ≤ 2) (F : Feed σ fa 21) :
    Stms 15 (lawEnv L a cd) ((sBody (stm 101)).drop 4) [("size", .int r), ("node", nd.v), ("tells_places", .bool tp), ("feed", .lst fa), ("script", u)] σ (fun fl _ _ => fl = .ret (.bool true)) := by
  wtm_at "w_in"
  (refine ss_cons (st_asn ?_ rfl rfl))
  refine ex_meth ?_
  wtm_at "wp"
  refine ⟨_, gm_str PySem.F.slot_str_join PySem.F.type_str_join, keeps_builtin, ?_⟩
  refine exs_one ?_
  refine ex_signs rfl (n := 14) (t := 21) (by lia) (fa := fa) ?_
  refine call_t ?_
  wtm_at "wp"
  refine call_range1 ?_
  refine ⟨r, rfl, hr, F, by wtm_at "lk1", fun ss σ1 D hs h1 F1 K1 hD => ?_⟩
  have F1' : Feed (σ1.put D (.list (ss.map V.str))) fa (21 + r) := F1.new hD
  refine call_join (l := ss) (AH.put_self _ _ _) ?_ ?_
  · rw [ones_sum _ h1, hs]; show r + r * 0 ≤ _; exact lin1 (.l (.v 0) (.k 4) (.g (.a (.v 0) (.w (.v 0) 0)) (.k 16777216))) rfl hr
  have hR1 : RefsAt (σ1.put D (.list (ss.map V.str))) nd.refs := hR.kept F (K1.trans (Kept.new hD))
  have hsl := join_ones ss h1
  rw [hs] at hsl
  revert hsl F1' hR1
  generalize (σ1.put D (.list (ss.map V.str))) = σ2
  generalize (Txt.join "" ss) = s
  intro F2 hR2 hsl
  wtm_at "wp"
  (refine st_asn ?_ rfl rfl)
  refine ex_meth ?_
  wtm_at "wp"
  refine ⟨_, gm_str PySem.F.slot_str_join PySem.F.type_str_join, keeps_builtin, ?_⟩
  refine exs_one ?_
  refine ex_signs rfl (n := 14) (t := 30) (by lia) (fa := fa) ?_
  refine call_t ?_
  wtm_at "wp"
  refine call_g ?_
  wtm_at "wp"
  refine Con.call ((w_law_next (m := 3) F2 (by exact lin1 (.l (.v 0) (.k 4) (.g (.a (.k 21) (.v 0)) (.k 1000))) rfl hr) (by lia) fun k σ3 hk F3 K3 => ?_).less (by decide))
  wtm_at "wp"
  refine call_range1 ?_
  refine ⟨1 + k, by simp, by exact lin1 (.t (.v 0) (.k 3) (.g (.a (.k 1) (.v 0)) (.k 4))) rfl hk, F3.less (by exact lin1 (.l (.v 0) (.k 4) (.g (.a (.a (.k 21) (.v 0)) (.k 1)) (.k 30))) rfl hr), by wtm_at "lk1", fun ss2 σ4 D hs2 h12 F4 K4 hD => ?_⟩
  refine call_join (l := ss2) (AH.put_self _ _ _) ?_ ?_
  · rw [ones_sum _ h12, hs2]; show 1 + k + (1 + k) * 0 ≤ _; exact lin1 (.t (.v 0) (.k 3) (.g (.a (.a (.k 1) (.v 0)) (.w (.a (.k 1) (.v 0)) 0)) (.k 16777216))) rfl hk
  have hR4 : RefsAt (σ4.put D (.list (ss2.map V.str))) nd.refs := (hR2.kept F2 (K3.trans (K4.trans (Kept.new hD))))
  have hal := join_ones ss2 h12
  rw [hs2] at hal
  revert hal hR4
  generalize (σ4.put D (.list (ss2.map V.str))) = σ5
  generalize (Txt.join "" ss2) = ah
  intro hR5 hal
  wtm_at "wp"
  refine st_for ?_
  wtm_at "wp"
  refine ⟨_, _, iter_tup, ?_⟩
  refine forj_inv (fun vs ρ σ' => AN6 (∃ bs : List Bool, vs = bs.map V.bool) (RefsAt σ' nd.refs) (at_ ρ "node" = some nd.v) (at_ ρ "subject" = some (.str s)) (at_ ρ "ahead" = some (.str ah)) (at_ ρ "tells_places" = some (.bool tp))) (fun _ _ _ _ => trivial) ?_ ?_ _ _ _ ?_
  · rintro v vs ρ σ6 ⟨⟨bs, eb⟩, hR6, l1, l2, l3, l4⟩
    cases bs with
    | nil => cases eb
    | cons b bs =>
      rw [List.map_cons, List.cons.injEq] at eb
      obtain ⟨rfl, rfl⟩ := eb
      have h4 : s.length ≤ 4 := by exact lin2 (.e (.v 0) (.v 1) (.l (.v 1) (.k 4) (.g (.v 0) (.k 4)))) rfl hsl hr
      have h22 : hasR nd = true → s.length ≤ 2 := fun z => by have := h2 z; lia
      cases tp with
      | true =>
        wtm_at "wp"
        refine test_value ?_
        wtm_at "wp"
        refine test_value ?_
        refine call_g ?_
        wtm_at "wp"
        refine Con.call ((w_first_both hn h4 h22 b hR6 fun σ7 K7 => ?_).less (by decide))
        wtm_at "wp"
        refine test_value ?_
        wtm_at "wp"
        exact ⟨⟨bs, rfl⟩, fun r h => K7 _ _ (hR6 r h) (by exact nn), by wtm_at "lk1", by wtm_at "lk1", by wtm_at "lk1", by wtm_at "lk1"⟩
      | false =>
        obtain ⟨f, log, st, hp, c1, c2⟩ := w_from_both hn h4 h22 b
        wtm_at "wp"
        refine test_value ?_
        wtm_at "wp"
        refine test_value ?_
        wtm_at "wp"
        (refine st_asn ?_ rfl rfl)
        refine call_g ?_
        wtm_at "wp"
        refine Con.call ((c1 hR6 fun v σ7 T7 K7 => ?_).less (by decide))
        have hR7 : RefsAt σ7 nd.refs := fun r h => K7 _ _ (hR6 r h) (by exact nn)
        wtm_at "wp"
        refine call_g ?_
        wtm_at "wp"
        refine op_add_str (by rw [len_shift, sizeLine_eq]; exact lin4 (.t (.v 0) (.k 3) (.e (.v 1) (.a (.k 1) (.v 0)) (.e (.v 2) (.v 3) (.l (.v 3) (.k 4) (.g (.a (.v 2) (.v 1)) (.k 16777216)))))) rfl hk hal hsl hr) ?_
        wtm_at "wp"
        refine call_b ?_
        wtm_at "wp"
        refine call_len_str (by exact lin2 (.t (.v 0) (.k 3) (.e (.v 1) (.a (.k 1) (.v 0)) (.g (.v 1) (.k 1000000)))) rfl hk hal) ?_
        wtm_at "wp"
        refine call_b ?_
        wtm_at "wp"
        refine call_len_str (by exact lin2 (.t (.v 0) (.k 3) (.e (.v 1) (.a (.k 1) (.v 0)) (.g (.v 1) (.k 1000000)))) rfl hk hal) ?_
        wtm_at "wp"
        refine Con.call ((c2 ah (by exact lin2 (.t (.v 0) (.k 3) (.e (.v 1) (.a (.k 1) (.v 0)) (.g (.v 1) (.k 100)))) rfl hk hal) hR7 fun v2 σ8 T8 K8 => ?_).less (by decide))
        obtain ⟨lu, lv, rfl, rfl, sm⟩ := T8.same (T7.kept K8) hp
        wtm_at "wp"
        refine cmp_ne_same sm ?_
        wtm_at "wp"
        exact ⟨⟨bs, rfl⟩, fun r h => K8 _ _ (hR7 r h) (by exact nn), by wtm_at "lk1", by wtm_at "lk1", by wtm_at "lk1", by wtm_at "lk1"⟩
  · rintro ρ σ6 ⟨⟨bs, eb⟩, hR6, l1, l2, l3, l4⟩
    wtm_at "wp"
    rfl
  · exact ⟨⟨[true, false], rfl⟩, hR5, by wtm_at "lk1", by wtm_at "lk1", by wtm_at "lk1", by wtm_at "lk1"⟩
theorem w_law {L a x : Addr} {cd : Value} {items : Array Value} {xs : List Int} (ha : c.h0.IsList x items) (hi : ∀ h : Heap, VsRep h items.toList (xs.map V.int)) (hz : xs.length ≤ 63) {σ : AH} :
    Stms 15 (lawEnv L a cd) (sBody (stm 101)) [("script", .glob (.ref x))] σ (fun fl _ _ => fl = .ret (.bool true)) := by
  wtm_at "w_in"
  (refine ss_cons (st_assign ?_))
  refine ex_list ?_
  wtm_at "wp"
  refine sl_given (k := 40) ha hi (by exact lin1 (.l (.v 0) (.k 63) (.g (.v 0) (.k 1000000))) rfl hz) ?_
  intro la hla
  wtm_at "wp"
  intro fa hfa
  have nfl : fa ≠ la := fun z => by rw [z, AH.put_self] at hfa; cases hfa
  refine asg_name (sto_cell rfl rfl ?_)
  have F0 : Feed ((σ.put la (.list ((xs.take 40).map V.int))).put fa (.list [.lst la, .int 0])) fa 0 := by
    refine ⟨la, 0, xs.take 40, AH.put_self _ _ _, ?_, nfl, ?_, Nat.le_refl _⟩
    · rw [AH.put_ne _ _ nfl.symm]; exact AH.put_self _ _ _
    · rw [List.length_take]; lia
  revert F0
  generalize ((σ.put la (.list ((xs.take 40).map V.int))).put fa (.list [.lst la, .int 0])) = σ0
  intro F0
  clear hla hfa nfl ha hi hz
  wtm_at "wp"
  (refine st_asn ?_ rfl rfl)
  wtm_at "wp"
  refine call_g ?_
  wtm_at "wp"
  refine Con.call ((w_law_next (m := 2) F0 (by lia) (by lia) fun r σ1 hr F1 K1 => ?_).less (by decide))
  wtm_at "wp"
  generalize (((r : Int) == 1) : Bool) = tp
  (refine st_asn ?_ rfl rfl)
  refine call_g ?_
  wtm_at "wp"
  refine Con.call ((w_law_node 2 F1 (by lia) (by lia) fun nd σ2 hn R2 F2 K2 => ?_).less (by decide))
  wtm_at "wp"
  (refine st_asn ?_ rfl rfl)
  refine call_g ?_
  wtm_at "wp"
  refine test_value ?_
  refine call_g ?_
  wtm_at "wp"
  refine Con.call ((w_has_rounds 7 nd (node_small hn).2 ?_).less (by decide))
  have hmany : ∀ k : Nat, 0 < k → (hasR nd = true → k = 3) → k ≤ 5 → ∀ (Q : V → AH → Prop), (∀ (r : Nat) σ', r ≤ 4 → (hasR nd = true → r ≤ 2) → Feed σ' fa 21 → Kept σ2 σ' [fa] → Q (.int r) σ') → Con 1 (.ref 649) [.lst fa, .int k] σ2 Q := fun k hk he h5 Q q =>
    w_law_next (m := k) (F2.less (t' := 20) (by lia)) (by lia) hk fun r σ' hr F K => q r σ' (by exact lin2 (.t (.v 0) (.v 1) (.l (.v 1) (.k 5) (.g (.v 0) (.k 4)))) rfl hr h5) (fun z => by have := he z; lia) F K
  cases hb : hasR nd with
  | true =>
    wtm_at "wp"
    refine Con.call ((hmany 3 (by lia) (fun _ => rfl) (by lia) _ fun r σ3 hr h2 F3 K3 => ?_).less (by decide))
    try refine asg_local rfl ?_
    show Stms _ _ _ _ _ _
    exact w_law2 hn (R2.kept F2 K3) hr h2 F3
  | false =>
    wtm_at "wp"
    refine Con.call ((hmany 5 (by lia) (fun z => by rw [hb] at z; cases z) (by lia) _ fun r σ3 hr h2 F3 K3 => ?_).less (by decide))
    try refine asg_local rfl ?_
    show Stms _ _ _ _ _ _
    exact w_law2 hn (R2.kept F2 K3) hr h2 F3
end
end
section
open PySem PySem.W PyProof.Rows PySem.Calls
set_option tactic.hygienic false
theorem law_name : lawD.1.name = ("law" : Str) := by kernel_rfl
theorem law_body : lawD.1.body = sBody (stm 101) := by kernel_rfl
theorem law_scope : lawD.1.scope = lawScope := by kernel_rfl
theorem law_kw : lawD.2 = [] := by kernel_rfl
theorem law_nodef : lawD.1.params.defaults = [] := by kernel_rfl
theorem law_binds (name : Str) (body : List Stmt) (scope : Scope) (v pm cd doc : Value) : bindArgs (docDef name lawD.1.params body scope pm cd doc) ⟨[v], []⟩ = pure [(("script" : Str), v)] := by kernel_rfl
theorem law_script : lawScope.names.lookup ("script" : Str) = some .local := by kernel_rfl
theorem law_co : lawScope.isCoroutine = false := by kernel_rfl
theorem law_gen : lawScope.isGenerator = false := by kernel_rfl
theorem law_fn : lawScope.kind = .function := by kernel_rfl
theorem law_cells0 (n : Nat) : cellsFrom n lawScope.names [] = [(("feed" : Str), n)] := by with_unfolding_all rfl
theorem most_le {R : WRecords} (L : List WData) (h : WTm.holds R (.and (.not (.lt (.lit (.int 63)) (.len (.arg 0)))) (.lit (.bool true))) { args := [.list L] } = true) : L.length ≤ 63 := by
  have e1 : WTm.value R (.lt (.lit (.int 63)) (.len (.arg 0))) { args := [.list L] } = (less? (.int 63) (.int L.length)).map .bool := rfl
  have e2 : less? (.int 63) (.int L.length) = some (decide ((63:Int) < L.length)) := rfl
  have e3 : WTm.value R (.not (.lt (.lit (.int 63)) (.len (.arg 0)))) { args := [.list L] } = some (.bool (!decide ((63:Int) < L.length))) := by
    rw [WTm.value, e1, e2]; rfl
  unfold WTm.holds at h
  rw [WTm.value, e3] at h
  by_cases q : (63 : Int) < L.length
  · rw [decide_eq_true q] at h; cases h
  · omega
theorem ints_rep {R : WRecords} {cl : Str → Option Addr} {h : Heap} : ∀ {vs : List Value} {ns : List Int} {as : List Addr}, ReadsAllW R cl h vs (ns.map WData.int) as → ∀ h' : Heap, VsRep h' vs (ns.map V.int)
  | _, [], _, r, h' => by cases r; exact .nil
  | _, n :: ns, _, r, h' => by
    cases r with
    | cons r1 r2 =>
      cases r1
      exact .cons (.int _ _) (ints_rep r2 h')
theorem fl_true {h : Heap} {f : Flow} {fl : Fl} (r : FRep h f fl) (e : fl = .ret (.bool true)) : f = .ret (.bool true) := by
  subst e
  cases r with | ret r => cases r; rfl
theorem law_step {s₀ s₁ : Shared} {mg mb : Str → Option Value} (hcx : c = ⟨lawRow.toRowW.prog, w, KO w, qv, looseW qv looseN, mg, mb, s₁.heap⟩) : LawAt (w, s₀, s₁, mg, mb) := by
  show bodyOf _ _
  unfold bodyOf
  dsimp only
  intro G hY a o pm cd doc dV kV ho hd hcd hdf hmg hgens args vals as hpre hlay hrd hwl hlow
  have e1 := hdf.none law_nodef
  have e2 : kV = .none := by
    have := hdf
    rw [law_kw] at this
    exact this.noKw
  subst e1; subst e2
  have hd' := fd_plain hd
  obtain ⟨hsh, hpr⟩ := pre_splitW hpre
  obtain ⟨d, r, rfl, h1, h2⟩ := hasAllW_cons (e := .list .int) (es := []) hsh
  have hr : r = [] := by cases r with
    | nil => rfl
    | cons x r => exact absurd h2 (by simp [WShape.hasAll])
  subst hr
  obtain ⟨xs, rfl, h3⟩ := hasW_list h1
  obtain ⟨ns, rfl⟩ := items_int h3
  have hlen : ns.length ≤ 63 := by
    have := most_le _ hpr
    simpa using this
  obtain ⟨v, vs, rfl, hv, hvs⟩ : ∃ v vs, vals = v :: vs ∧ (∃ as, ReadsW lawRow.toRowW.records (classAt s₀.heap) s₁.heap v (.list (ns.map .int)) as) ∧ vs = [] := by
    cases hrd with
    | cons r1 r2 => cases r2; exact ⟨_, _, rfl, ⟨_, r1⟩, rfl⟩
  subst hvs
  obtain ⟨as', hv⟩ := hv
  obtain ⟨x, ob, its, n, ai, rfl, hx, hc, hda, hits, -⟩ := readsW_list_open hv
  have hL : s₁.heap.IsList x its := ⟨ob, hx, hc, n, hda⟩
  have hnum := ints_rep hits
  have T := topRead_of G.T
  have ok : COk := ⟨by rw [hcx]; exact hY, by rw [hcx]; exact T, by rw [hcx]; exact T.nolimit⟩
  have h0 : c.h0 = s₁.heap := by rw [hcx]
  refine wpAny_call ?_
  rw [law_scope, law_name, law_body] at hd'
  rw [law_name] at hcd
  refine call_cells_ret (by decide +kernel) ho hd' T.nolimit hcd (law_binds _ _ _ _ _ _ _) (fun y hy => ?_) (fun h₁ tk F C => ?_) law_co law_gen law_fn
  · rw [List.mem_singleton] at hy; subst hy; exact .inl law_script
  have nL : ∀ b, s₁.heap.objs.size ≤ b → c.h0.get? b = none := fun b hb => by rw [h0]; exact get_none_of_size hb
  have fa : frameAddrs (lawEnv s₁.heap.objs.size a cd) = [s₁.heap.objs.size, s₁.heap.objs.size + 1] := by
    unfold frameAddrs; rw [law_cells]; rfl
  have S : St h₁ (fun _ => none) := ⟨fun b o e => F.keep b o (h0 ▸ e), (fun _ _ e => nomatch e), (fun _ _ e => nomatch e), (fun _ _ e => nomatch e), by
    obtain ⟨mc, ⟨o, _, _, e, _⟩, _⟩ := T.nolimit; exact ⟨o, h0 ▸ e⟩, ok⟩
  have cellF : h₁.IsCell (s₁.heap.objs.size + 1) _ := C.cell ("feed" : Str) (s₁.heap.objs.size + 1) (by rw [law_cells0]; rfl)
  have Fr0 : Frm (lawEnv s₁.heap.objs.size a cd) h₁ (fun _ => none) [("script", .glob (.ref x))] := by
    refine ⟨fun y v e => ?_, ⟨_, F.ns⟩, fun b hb => ?_, by rw [fa]; simp, fun q hq => ?_, law_fn, ⟨rfl, rfl⟩⟩
    · rw [List.lookup_cons] at e
      by_cases z : (y == ("script" : Str)) = true
      · have := eq_of_beq z; subst this; rw [z] at e; cases e
        exact ⟨.ref x, .inl ⟨by with_unfolding_all rfl, _, F.ns, by with_unfolding_all rfl⟩, .glob _⟩
      · simp only [Bool.not_eq_true] at z; rw [z] at e; cases e
    · rw [fa] at hb
      rcases List.mem_cons.mp hb with rfl | hb
      · obtain ⟨oL, es, ep, hoL, hdL, _⟩ := F.ns
        exact ⟨rfl, nL _ (Nat.le_refl _), oL, hoL, loose_dict hdL⟩
      · rw [List.mem_singleton] at hb; subst hb
        obtain ⟨o, e1, e2⟩ := cellF
        exact ⟨rfl, nL _ (Nat.le_succ _), o, e1, loose_cell e2⟩
    · rw [law_cells, List.mem_singleton] at hq; subst hq; exact ⟨_, cellF⟩
  have W := w_law (L := s₁.heap.objs.size) (a := a) (cd := cd) (h0 ▸ hL) hnum hlen (σ := fun _ => none)
  have room : Room (callerA.deeper (envOfC ("law" : Str) lawScope s₁.heap.objs.size a cd)) 15 := ⟨(by show (1 + claimMargin + 1) + 15 < recursionLimit; decide +kernel), (by simp [Around.deeper]; decide +kernel), rfl⟩
  have key := W _ { s₁ with heap := h₁, toks := tk } room S Fr0 trivial
  refine wpAny_mono key (fun f s' p => ?_) fun _ _ x => x.elim
  obtain ⟨h2, tk2, fl, ρ', σ', rfl, S', F', M, rr, q⟩ := p
  have := fl_true rr q
  subst this
  refine ⟨.inl ⟨_, .bool true, [], rfl, fun _ => rfl, .bool _, by kernel_rfl, fun _ => ⟨.nil, (fun _ h => nomatch h)⟩⟩, .of_keep fun b o e => ?_, rfl, AllBare.of_eq hgens⟩
  refine M.keep b o (F.keep b o e) rfl ?_
  rw [fa]
  intro hb
  have lt : b < s₁.heap.objs.size := Heap.lt_size e
  rcases List.mem_cons.mp hb with rfl | hb
  · exact absurd lt (Nat.lt_irrefl _)
  · rw [List.mem_singleton] at hb; subst hb; exact absurd lt (Nat.not_lt.mpr (Nat.le_succ _))
theorem law_walk : WalkO qv looseN (XL qv []) myHook.says lawRow.toRowW lawD.1 lawD.2 fun f vs => PySem.call f vs := fun w₁ s₀ s₁ mg mb => (eps_all state_ne (law_step rfl : LawAt x0) (w₁, s₀, s₁, mg, mb) : LawAt (w₁, s₀, s₁, mg, mb))
theorem law_holds : PySem.Challenge.rw_sa0604_01.Holds := reduce law_walk
end
end Mine
theorem PySem.Challenge.cw_sa0604_01_holds : PySem.Challenge.rw_sa0604_01.Holds :=
  Mine.law_holds
