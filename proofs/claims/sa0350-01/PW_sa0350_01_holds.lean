import PyProof.Rows.All
import Open.Line
import Open.Boot
import Open.Tree
import Wide.FinOn
import OpenK.AllK
import Wide.All
import Lean
import PySem.Challenge.RW_sa0350_01

set_option Elab.async false
set_option maxRecDepth 100000
set_option genSizeOf false
set_option genInjectivity false
set_option linter.unusedVariables false
set_option linter.unusedSimpArgs false
open PySem PySem.W PyProof.Rows PySem.Calls

namespace Mine
noncomputable abbrev D := PyData
inductive V where
 | unb | d (x : D) | cell (n : Nat) | fn (k : Nat)
noncomputable abbrev Hp := List (List D)
noncomputable abbrev Rho := List V
inductive R (α : Type) where
 | ok (a : α) (H : Hp) | exc (H : Hp) | stuck
noncomputable def R.bind {α β : Type} (r : R α) (f : α → Hp → R β) : R β :=
 match r with
 | .ok a H => f a H
 | .exc H => .exc H
 | .stuck => .stuck
noncomputable def R.noexc {α : Type} : R α → R α
 | .ok a H => .ok a H
 | _ => .stuck
@[simp] theorem R.noexc_ok {α : Type} (a : α) (H : Hp) : (R.ok a H).noexc = .ok a H := rfl
@[simp] theorem R.noexc_exc {α : Type} (H : Hp) : (R.exc H : R α).noexc = .stuck := rfl
@[simp] theorem R.noexc_stuck {α : Type} : (R.stuck : R α).noexc = .stuck := rfl
@[simp] theorem R.bind_ok {α β : Type} (a : α) (H : Hp) (f : α → Hp → R β) : (R.ok a H).bind f = f a H := rfl
@[simp] theorem R.bind_exc {α β : Type} (H : Hp) (f : α → Hp → R β) : (R.exc H : R α).bind f = .exc H := rfl
@[simp] theorem R.bind_stuck {α β : Type} (f : α → Hp → R β) : (R.stuck : R α).bind f = .stuck := rfl
noncomputable def gt : Rho → Nat → V
 | [], _ => .unb
 | a :: _, 0 => a
 | _ :: r, n + 1 => gt r n
noncomputable def st : Rho → Nat → V → Rho
 | [], _, _ => []
 | _ :: r, 0, b => b :: r
 | a :: r, n + 1, b => a :: st r n b
inductive BOp where
 | add | sub | mul | div | mod | and | or | shl | shr | pow
inductive COp where
 | eq | ne | lt | le | gt | ge
noncomputable def binI : BOp → Int → Int → Option Int
 | .add, a, b => some (a + b)
 | .sub, a, b => some (a - b)
 | .mul, a, b => if a.natAbs < 2 ^ 62 ∨ b.natAbs < 2 ^ 62 then some (a * b) else none
 | .div, a, b => if b ≠ 0 ∧ b.natAbs < 1073741824 then some (a.fdiv b) else none
 | .mod, a, b => if b = 0 then none else some (a.fmod b)
 | .and, a, b => some (Builtin.bitAnd a b)
 | .or, a, b => some (Builtin.bitOr a b)
 | .shl, a, b => if 0 ≤ b ∧ b ≤ 1000 ∧ a.natAbs < 2 ^ 64 then some (a * 2 ^ b.toNat) else none
 | .shr, a, b => if 0 ≤ b then some (a.fdiv (2 ^ b.toNat)) else none
 | .pow, a, b => if 0 ≤ b ∧ b ≤ 1000 ∧ a.natAbs < 2 ^ 64 then some (a ^ b.toNat) else none
noncomputable def small (n : Nat) : Bool := decide (n ≤ 4194304)
noncomputable def intD : D → Option Int
 | .int i => some i
 | _ => none
noncomputable def binD (op : BOp) (x y : D) : Option D := (intD x).bind fun a => (intD y).bind fun b => (binI op a b).map .int
noncomputable def cmpI : COp → Int → Int → Bool
 | .eq, a, b => a == b
 | .ne, a, b => a != b
 | .lt, a, b => decide (a < b)
 | .le, a, b => decide (a ≤ b)
 | .gt, a, b => decide (b < a)
 | .ge, a, b => decide (b ≤ a)
noncomputable def cmpQ : COp → Bool → Option Bool
 | .eq, b => some b
 | .ne, b => some !b
 | _, _ => none
noncomputable def cmpS (op : COp) (x y : D) : Option Bool := if SeqAt.shaped x && SeqAt.shaped y then cmpQ op (PyData.eqv x y) else none
noncomputable def cmpD (op : COp) : D → D → Option Bool
 | .int a, .int b => some (cmpI op a b)
 | .bool a, .bool b => cmpQ op (a == b)
 | .list a, .list b => cmpS op (.list a) (.list b)
 | .tuple a, .tuple b => cmpS op (.tuple a) (.tuple b)
 | _, _ => none
noncomputable def Qhr (H : Hp) : V → Option (List D)
 | .d (.list xs) => some xs
 | .d (.tuple xs) => some xs
 | .cell n => H[n]?
 | _ => none
noncomputable def Qbk (H : Hp) : V → Option (List D)
 | .d (.list xs) => some xs
 | .cell n => H[n]?
 | _ => none
noncomputable def idxD (xs : List D) (i : Int) : Option D :=
 if 0 ≤ i then xs[i.toNat]? else if i = -1 then xs[xs.length - 1]? else none
noncomputable def QeX : List D → Option (List Int)
 | [] => some []
 | .int i :: r => (QeX r).map (i :: ·)
 | _ => none
noncomputable def Qcs : List D → Option (List Bool)
 | [] => some []
 | .bool i :: r => (Qcs r).map (i :: ·)
 | _ => none
inductive Tgt where
 | one (k : Nat) | two (k l : Nat)
noncomputable def Tgt.bd : Tgt → D → Rho → Option Rho
 | .one k, x, ρ => some (st ρ k (.d x))
 | .two k l, .tuple [x, y], ρ => some (st (st ρ k (.d x)) l (.d y))
 | _, _, _ => none
mutual
inductive PE where
 | loc (k : Nat)
 | kd (x : D)
 | glob (b : Bool)
 | fn (k : Nat)
 | bin (op : BOp) (a b : PE)
 | cmp (op : COp) (a b : PE)
 | cmp2 (o1 o2 : COp) (a b c : PE)
 | notNone (a : PE)
 | and (a b : PE)
 | or (a b : PE)
 | not (a : PE)
 | neg (a : PE)
 | ite (c a b : PE)
 | call (k : Nat) (as : PEs)
 | callv (k : Nat) (as : PEs)
 | len (a : PE)
 | abs (a : PE)
 | sum (a : PE)
 | any (a : PE)
 | min (a b : PE)
 | powm (a b c : PE)
 | toInt (a : PE)
 | bitlen (a : PE)
 | idx (a i : PE)
 | tup (as : PEs)
 | mk (cell : Bool) (f : PF)
 | dead
inductive PEs where
 | nil
 | cons (e : PE) (r : PEs)
inductive PF where
 | list (as : PEs)
 | cat (a b : PE)
 | rep (a n : PE)
 | slc (a : PE)
 | slcU (a u : PE)
 | slcL (a l : PE)
 | slcLU (a l u : PE)
 | comp (e : PE) (t : Tgt) (i : PI)
 | compIf (e : PE) (t : Tgt) (i : PI) (c : PE)
 | comp2 (e : PE) (t : Tgt) (i : PI) (t2 : Tgt) (i2 : PI)
 | compC (e : PE) (t : Tgt) (k : Nat)
inductive PI where
 | seq (e : PE)
 | range1 (a : PE)
 | range2 (a b : PE)
 | rangeD (a : PE)
 | enum (a : PE)
 | rev (a : PE)
end
noncomputable def Qp {α : Type} (o : Option α) (H : Hp) : R α :=
 match o with
 | some a => .ok a H
 | none => .stuck
@[simp] theorem QmA {α : Type} (a : α) (H : Hp) : Qp (some a) H = .ok a H := rfl
@[simp] theorem QrW {α : Type} (H : Hp) : Qp (none : Option α) H = .stuck := rfl
noncomputable def QaC : V → Option Int
 | .d (.int i) => some i
 | _ => none
noncomputable def Qaq : V → Option Bool
 | .d (.bool i) => some i
 | _ => none
noncomputable def asD : V → Option D
 | .d x => some x
 | _ => none
noncomputable def allD : List V → Option (List D)
 | [] => some []
 | .d x :: r => (allD r).map (x :: ·)
 | _ => none
noncomputable def Qbc (lo : Int) : Nat → List D
 | 0 => []
 | n + 1 => .int lo :: Qbc (lo + 1) n
noncomputable def QcN (hi : Int) : Nat → List D
 | 0 => []
 | n + 1 => .int hi :: QcN (hi - 1) n
noncomputable def Qcc (i : Int) : List D → List D
 | [] => []
 | x :: r => .tuple [.int i, x] :: Qcc (i + 1) r
noncomputable def QcQ : V → V
 | .cell _ => .unb
 | v => v
noncomputable def QaE : Rho → Hp → R Bool := fun _ H => .ok true H
noncomputable def QU (bd : D → Rho → Option Rho) (el : Rho → Hp → R V) (co : Rho → Hp → R Bool) : List D → Rho → Hp → R (List D)
 | [], _, H => .ok [] H
 | x :: r, ρ, H => match bd x ρ with
  | none => .stuck
  | some ρ' => (co ρ' H).noexc.bind fun b H =>
   match b with
   | true => (el ρ' H).noexc.bind fun y H => (Qp (asD y) H).bind fun y H => (QU bd el co r ρ' H).bind fun ys H => .ok (y :: ys) H
   | false => QU bd el co r ρ' H
noncomputable def QbB (bd : D → Rho → Option Rho) (it2 : Rho → Hp → R (List D)) (bd2 : D → Rho → Option Rho) (el : Rho → Hp → R V) : List D → Rho → Hp → R (List D)
 | [], _, H => .ok [] H
 | x :: r, ρ, H => match bd x ρ with
  | none => .stuck
  | some ρ' => (it2 ρ' H).noexc.bind fun zs H => (QU bd2 el QaE zs ρ' H).bind fun ys H => (QbB bd it2 bd2 el r ρ' H).bind fun ws H => .ok (ys ++ ws) H
noncomputable def Qdg : Bool → D
 | false => .tuple [.bool false, .list []]
 | true => .tuple [.bool false, .list [.int 1]]
noncomputable abbrev Qh := Nat → List V → Hp → R D
mutual
noncomputable def evE (cl : Qh) : PE → Rho → Hp → R V
 | .loc k, ρ, H => match gt ρ k with
  | .unb => .stuck
  | a => .ok a H
 | .kd x, _, H => .ok (.d x) H
 | .glob b, _, H => .ok (.d (Qdg b)) H
 | .fn k, _, H => .ok (.fn k) H
 | .bin op a b, ρ, H => (evE cl a ρ H).bind fun x H => (evE cl b ρ H).bind fun y H => (Qp (asD x) H).bind fun x H => (Qp (asD y) H).bind fun y H => (Qp (binD op x y) H).bind fun z H => .ok (.d z) H
 | .cmp op a b, ρ, H => (evE cl a ρ H).bind fun x H => (evE cl b ρ H).bind fun y H => (Qp (asD x) H).bind fun x H => (Qp (asD y) H).bind fun y H => (Qp (cmpD op x y) H).bind fun z H => .ok (.d (.bool z)) H
 | .cmp2 o1 o2 a b c, ρ, H => (evE cl a ρ H).bind fun x H => (evE cl b ρ H).bind fun y H => (Qp (asD x) H).bind fun x H => (Qp (asD y) H).bind fun y H => (Qp (cmpD o1 x y) H).bind fun z H =>
  match z with
  | false => .ok (.d (.bool false)) H
  | true => (evE cl c ρ H).bind fun w H => (Qp (asD w) H).bind fun w H => (Qp (cmpD o2 y w) H).bind fun z H => .ok (.d (.bool z)) H
 | .notNone a, ρ, H => (evE cl a ρ H).bind fun x H => match x with
  | .d .none => .ok (.d (.bool false)) H
  | .d _ => .ok (.d (.bool true)) H
  | _ => .stuck
 | .and a b, ρ, H => (evE cl a ρ H).bind fun x H => (Qp (Qaq x) H).bind fun x H => match x with
  | true => (evE cl b ρ H).bind fun y H => (Qp (Qaq y) H).bind fun y H => .ok (.d (.bool y)) H
  | false => .ok (.d (.bool false)) H
 | .or a b, ρ, H => (evE cl a ρ H).bind fun x H => (Qp (Qaq x) H).bind fun x H => match x with
  | false => (evE cl b ρ H).bind fun y H => (Qp (Qaq y) H).bind fun y H => .ok (.d (.bool y)) H
  | true => .ok (.d (.bool true)) H
 | .not a, ρ, H => (evE cl a ρ H).bind fun x H => (Qp (Qaq x) H).bind fun x H => .ok (.d (.bool !x)) H
 | .neg a, ρ, H => (evE cl a ρ H).bind fun x H => (Qp (QaC x) H).bind fun x H => .ok (.d (.int (-x))) H
 | .ite c a b, ρ, H => (evE cl c ρ H).bind fun x H => (Qp (Qaq x) H).bind fun x H => match x with
  | true => evE cl a ρ H
  | false => evE cl b ρ H
 | .call k as, ρ, H => (evEs cl as ρ H).bind fun vs H => (cl k vs H).bind fun x H => .ok (.d x) H
 | .callv k as, ρ, H => match gt ρ k with
  | .fn f => (evEs cl as ρ H).bind fun vs H => (cl f vs H).bind fun x H => .ok (.d x) H
  | _ => .stuck
 | .len a, ρ, H => (evE cl a ρ H).bind fun x H => (Qp (Qhr H x) H).bind fun xs H => .ok (.d (.int xs.length)) H
 | .abs a, ρ, H => (evE cl a ρ H).bind fun x H => (Qp (QaC x) H).bind fun x H => .ok (.d (.int x.natAbs)) H
 | .sum a, ρ, H => (evE cl a ρ H).bind fun x H => (Qp ((Qbk H x).bind QeX) H).bind fun xs H => .ok (.d (.int xs.sum)) H
 | .any a, ρ, H => (evE cl a ρ H).bind fun x H => (Qp ((Qbk H x).bind Qcs) H).bind fun xs H => .ok (.d (.bool (xs.any id))) H
 | .min a b, ρ, H => (evE cl a ρ H).bind fun x H => (evE cl b ρ H).bind fun y H => (Qp (QaC x) H).bind fun x H => (Qp (QaC y) H).bind fun y H => .ok (.d (.int (if y < x then y else x))) H
 | .powm a b c, ρ, H => (evE cl a ρ H).bind fun x H => (evE cl b ρ H).bind fun y H => (evE cl c ρ H).bind fun z H => (Qp (QaC x) H).bind fun x H => (Qp (QaC y) H).bind fun y H => (Qp (QaC z) H).bind fun z H =>
   if 0 ≤ y ∧ 1 < z then .ok (.d (.int (Builtin.powMod (x % z).toNat y.natAbs z.natAbs))) H else .stuck
 | .toInt a, ρ, H => (evE cl a ρ H).bind fun x H => (Qp (QaC x) H).bind fun x H => .ok (.d (.int x)) H
 | .bitlen a, ρ, H => (evE cl a ρ H).bind fun x H => (Qp (QaC x) H).bind fun x H => .ok (.d (.int (Builtin.Int.intBits x))) H
 | .idx a i, ρ, H => (evE cl a ρ H).bind fun x H => (evE cl i ρ H).bind fun y H => (Qp (Qhr H x) H).bind fun xs H => (Qp (QaC y) H).bind fun y H => (Qp (idxD xs y) H).bind fun z H => .ok (.d z) H
 | .tup as, ρ, H => (evEs cl as ρ H).bind fun vs H => (Qp (allD vs) H).bind fun xs H => if small xs.length then .ok (.d (.tuple xs)) H else .stuck
 | .mk c f, ρ, H => (evF cl f ρ H).bind fun xs H => match c with
  | false => .ok (.d (.list xs)) H
  | true => .ok (.cell H.length) (H ++ [xs])
 | .dead, _, _ => .stuck
noncomputable def evEs (cl : Qh) : PEs → Rho → Hp → R (List V)
 | .nil, _, H => .ok [] H
 | .cons e r, ρ, H => (evE cl e ρ H).bind fun v H => (evEs cl r ρ H).bind fun vs H => .ok (v :: vs) H
noncomputable def evF (cl : Qh) : PF → Rho → Hp → R (List D)
 | .list as, ρ, H => (evEs cl as ρ H).bind fun vs H => (Qp (allD vs) H).bind fun xs H => if small xs.length then .ok xs H else .stuck
 | .cat a b, ρ, H => (evE cl a ρ H).bind fun x H => (evE cl b ρ H).bind fun y H => (Qp (Qbk H x) H).bind fun x H => (Qp (Qbk H y) H).bind fun y H => if small (x.length + y.length) then .ok (x ++ y) H else .stuck
 | .rep a n, ρ, H => (evE cl a ρ H).bind fun x H => (evE cl n ρ H).bind fun n H => (Qp (Qbk H x) H).bind fun x H => (Qp (QaC n) H).bind fun n H =>
   match x with
   | [x] => if -4194304 ≤ n ∧ n ≤ 4194304 then .ok (List.replicate n.toNat x) H else .stuck
   | _ => .stuck
 | .slc a, ρ, H => (evE cl a ρ H).bind fun x H => (Qp (Qbk H x) H).bind fun x H => .ok x H
 | .slcU a u, ρ, H => (evE cl a ρ H).bind fun x H => (evE cl u ρ H).bind fun u H => (Qp (Qbk H x) H).bind fun x H => (Qp (QaC u) H).bind fun u H => if 0 ≤ u ∧ u < 4611686018427387904 then .ok (x.take u.toNat) H else .stuck
 | .slcL a l, ρ, H => (evE cl a ρ H).bind fun x H => (evE cl l ρ H).bind fun l H => (Qp (Qbk H x) H).bind fun x H => (Qp (QaC l) H).bind fun l H => if 0 ≤ l ∧ l < 4611686018427387904 then .ok (x.drop l.toNat) H else .stuck
 | .slcLU a l u, ρ, H => (evE cl a ρ H).bind fun x H => (evE cl l ρ H).bind fun l H => (evE cl u ρ H).bind fun u H => (Qp (Qbk H x) H).bind fun x H => (Qp (QaC l) H).bind fun l H => (Qp (QaC u) H).bind fun u H =>
   if 0 ≤ l ∧ l < 4611686018427387904 ∧ 0 ≤ u ∧ u < 4611686018427387904 then .ok ((x.take u.toNat).drop l.toNat) H else .stuck
 | .comp e t i, ρ, H => (evI cl i ρ H).bind fun xs H => QU t.bd (evE cl e) QaE xs ρ H
 | .compIf e t i c, ρ, H => (evI cl i ρ H).bind fun xs H => QU t.bd (evE cl e) (fun ρ H => (evE cl c ρ H).bind fun v H => Qp (Qaq v) H) xs ρ H
 | .comp2 e t i t2 i2, ρ, H => (evI cl i ρ H).bind fun xs H => (QbB t.bd (evI cl i2) t2.bd (evE cl e) xs ρ H).bind fun ys H => if small ys.length then .ok ys H else .stuck
 | .compC e t k, ρ, H => (Qp (match gt ρ k with | .cell n => H[n]? | _ => none) H).bind fun xs H =>
   match QU t.bd (evE cl e) QaE xs (ρ.map QcQ) [] with
   | .ok ys _ => .ok ys H
   | _ => .stuck
noncomputable def evI (cl : Qh) : PI → Rho → Hp → R (List D)
 | .seq e, ρ, H => (evE cl e ρ H).bind fun x H => match x with
  | .d (.list xs) => .ok xs H
  | .d (.tuple xs) => .ok xs H
  | _ => .stuck
 | .range1 a, ρ, H => (evE cl a ρ H).bind fun x H => (Qp (QaC x) H).bind fun x H => if x < 4194304 ∧ -4194304 < x then .ok (Qbc 0 x.toNat) H else .stuck
 | .range2 a b, ρ, H => (evE cl a ρ H).bind fun x H => (evE cl b ρ H).bind fun y H => (Qp (QaC x) H).bind fun x H => (Qp (QaC y) H).bind fun y H => if x < 2097152 ∧ -2097152 < x ∧ y < 2097152 ∧ -2097152 < y then .ok (Qbc x (y - x).toNat) H else .stuck
 | .rangeD a, ρ, H => (evE cl a ρ H).bind fun x H => (Qp (QaC x) H).bind fun x H => if x < 4194304 ∧ -4194304 < x then .ok (QcN x (x + 1).toNat) H else .stuck
 | .enum a, ρ, H => (evE cl a ρ H).bind fun x H => match x with
  | .d (.list xs) => .ok (Qcc 0 xs) H
  | _ => .stuck
 | .rev a, ρ, H => (evE cl a ρ H).bind fun x H => match x with
  | .d (.list xs) => .ok xs.reverse H
  | _ => .stuck
end
mutual
inductive PS where
 | asg (k : Nat) (e : PE)
 | par (ks : List Nat) (es : PEs)
 | unp (ks : List Nat) (e : PE)
 | setI (k : Nat) (i e : PE)
 | set2 (k : Nat) (i j a b : PE)
 | aug (k : Nat) (op : BOp) (e : PE)
 | app (k : Nat) (e : PE)
 | expr (e : PE)
 | ite (c : PE) (a b : PB)
 | whl (c : PE) (b : PB)
 | forr (t : Tgt) (i : PI) (b : PB)
 | ret (e : PE)
 | rett (es : PEs)
 | raise
 | tryInc (k : Nat) (e : PE)
 | dead
inductive PB where
 | nil
 | cons (s : PS) (r : PB)
end
inductive O where
 | next (ρ : Rho) (H : Hp) | ret (x : D) (H : Hp) | exc (ρ : Rho) (H : Hp) | stuck
noncomputable def O.bind (o : O) (f : Rho → Hp → O) : O :=
 match o with
 | .next ρ H => f ρ H
 | .ret x H => .ret x H
 | .exc ρ H => .exc ρ H
 | .stuck => .stuck
@[simp] theorem O.bind_next (ρ : Rho) (H : Hp) (f : Rho → Hp → O) : (O.next ρ H).bind f = f ρ H := rfl
@[simp] theorem O.bind_ret (x : D) (H : Hp) (f : Rho → Hp → O) : (O.ret x H).bind f = .ret x H := rfl
@[simp] theorem O.bind_exc (ρ : Rho) (H : Hp) (f : Rho → Hp → O) : (O.exc ρ H).bind f = .exc ρ H := rfl
@[simp] theorem O.bind_stuck (f : Rho → Hp → O) : O.stuck.bind f = .stuck := rfl
noncomputable def R.go {α : Type} (r : R α) (ρ : Rho) (f : α → Hp → O) : O :=
 match r with
 | .ok a H => f a H
 | .exc H => .exc ρ H
 | .stuck => .stuck
@[simp] theorem R.go_ok {α : Type} (a : α) (ρ : Rho) (H : Hp) (f : α → Hp → O) : (R.ok a H).go ρ f = f a H := rfl
@[simp] theorem R.go_exc {α : Type} (ρ : Rho) (H : Hp) (f : α → Hp → O) : (R.exc H : R α).go ρ f = .exc ρ H := rfl
@[simp] theorem R.go_stuck {α : Type} (ρ : Rho) (f : α → Hp → O) : (R.stuck : R α).go ρ f = .stuck := rfl
noncomputable def Qav (test : Rho → Hp → R V) (body : Rho → Hp → O) : Nat → Rho → Hp → O
 | 0, _, _ => .stuck
 | n + 1, ρ, H => match test ρ H with
  | .ok (.d (.bool true)) H => (match body ρ H with
   | .next ρ H => Qav test body n ρ H
   | .ret x H => .ret x H
   | _ => .stuck)
  | .ok (.d (.bool false)) H => .next ρ H
  | _ => .stuck
noncomputable def Qaf (bd : D → Rho → Option Rho) (body : Rho → Hp → O) : List D → Rho → Hp → O
 | [], ρ, H => .next ρ H
 | x :: r, ρ, H => match bd x ρ with
  | none => .stuck
  | some ρ => (body ρ H).bind fun ρ H => Qaf bd body r ρ H
noncomputable def sts : Rho → List Nat → List V → Rho
 | ρ, k :: ks, v :: vs => sts (st ρ k v) ks vs
 | ρ, _, _ => ρ
noncomputable def toD (base : Nat) (H : Hp) : V → Option D
 | .d x => some x
 | .cell n => if base ≤ n then (H[n]?).map .list else none
 | _ => none
noncomputable def toDs (base : Nat) (H : Hp) : List V → Option (List D)
 | [] => some []
 | v :: r => match toD base H v, toDs base H r with
  | some x, some xs => some (x :: xs)
  | _, _ => none
noncomputable def QdZ (H : Hp) (n : Nat) (i : Int) (x : D) : Option Hp :=
 match H[n]? with
 | some xs => if 0 ≤ i ∧ i < xs.length then some (H.set n (xs.set i.toNat x)) else none
 | none => none
noncomputable def QeW (H : Hp) (n : Nat) (x : D) : Option Hp :=
 match H[n]? with
 | some xs => if small (xs.length + 1) then some (H.set n (xs ++ [x])) else none
 | none => none
noncomputable def QH : Nat := 4096
mutual
noncomputable def exS (cl : Qh) (base : Nat) : PS → Rho → Hp → O
 | .asg k e, ρ, H => (evE cl e ρ H).go ρ fun v H => .next (st ρ k v) H
 | .par ks es, ρ, H => (evEs cl es ρ H).go ρ fun vs H => if vs.length = ks.length then .next (sts ρ ks vs) H else .stuck
 | .unp ks e, ρ, H => (evE cl e ρ H).go ρ fun v H => match v with
  | .d (.tuple xs) => if xs.length = ks.length then .next (sts ρ ks (xs.map V.d)) H else .stuck
  | _ => .stuck
 | .setI k i e, ρ, H => (evE cl e ρ H).go ρ fun v H => (Qp (asD v) H).go ρ fun x H => match gt ρ k with
  | .cell m => (evE cl i ρ H).go ρ fun i H => (Qp (QaC i) H).go ρ fun i H => (Qp (QdZ H m i x) H).go ρ fun H' _ => .next ρ H'
  | _ => .stuck
 | .set2 k i j a b, ρ, H => (evE cl a ρ H).go ρ fun va H => (evE cl b ρ H).go ρ fun vb H => (Qp (asD va) H).go ρ fun xa H => (Qp (asD vb) H).go ρ fun xb H => match gt ρ k with
  | .cell m => (evE cl i ρ H).go ρ fun i H => (Qp (QaC i) H).go ρ fun i H => (Qp (QdZ H m i xa) H).go ρ fun H _ =>
   (evE cl j ρ H).go ρ fun j H => (Qp (QaC j) H).go ρ fun j H => (Qp (QdZ H m j xb) H).go ρ fun H _ => .next ρ H
  | _ => .stuck
 | .aug k op e, ρ, H => match gt ρ k with
  | .d x => (evE cl e ρ H).go ρ fun y H => (Qp (asD y) H).go ρ fun y H => (Qp (binD op x y) H).go ρ fun z H => .next (st ρ k (.d z)) H
  | _ => .stuck
 | .app k e, ρ, H => match gt ρ k with
  | .cell m => (evE cl e ρ H).go ρ fun v H => (Qp (asD v) H).go ρ fun x H => (Qp (QeW H m x) H).go ρ fun H _ => .next ρ H
  | _ => .stuck
 | .expr e, ρ, H => (evE cl e ρ H).go ρ fun _ H => .next ρ H
 | .ite c a b, ρ, H => (evE cl c ρ H).go ρ fun v H => match v with
  | .d (.bool true) => exB cl base a ρ H
  | .d (.bool false) => exB cl base b ρ H
  | _ => .stuck
 | .whl c b, ρ, H => Qav (evE cl c) (exB cl base b) QH ρ H
 | .forr t i b, ρ, H => (evI cl i ρ H).go ρ fun xs H => Qaf t.bd (exB cl base b) xs ρ H
 | .ret e, ρ, H => (evE cl e ρ H).go ρ fun v H => match toD base H v with
  | some x => .ret x H
  | none => .stuck
 | .rett es, ρ, H => (evEs cl es ρ H).go ρ fun vs H => match toDs base H vs with
  | some xs => if small xs.length then .ret (.tuple xs) H else .stuck
  | none => .stuck
 | .raise, ρ, H => .exc ρ H
 | .tryInc k e, ρ, H => match evE cl e ρ H with
  | .ok _ H => .next ρ H
  | .exc H => (match gt ρ k with
   | .d (.int i) => .next (st ρ k (.d (.int (i + 1)))) H
   | _ => .stuck)
  | .stuck => .stuck
 | .dead, _, _ => .stuck
noncomputable def exB (cl : Qh) (base : Nat) : PB → Rho → Hp → O
 | .nil, ρ, H => .next ρ H
 | .cons s r, ρ, H => (exS cl base s ρ H).bind fun ρ H => exB cl base r ρ H
end
structure Fn where
 np : Nat
 ns : Nat
 nx : Nat
 vis : List (Str × Nat)
 body : PB
noncomputable def fin (H₀ : Hp) : O → R D
 | .next _ H => .ok .none (H.take H₀.length)
 | .ret x H => .ok x (H.take H₀.length)
 | .exc _ H => .exc (H.take H₀.length)
 | .stuck => .stuck
noncomputable def Qc (tb : Nat → Option Fn) : Nat → Qh
 | 0, _, _, _ => .stuck
 | n + 1, k, vs, H => match tb k with
  | none => .stuck
  | some f => if vs.length = f.np then fin H (exB (Qc tb n) H.length f.body (vs ++ List.replicate (f.ns + f.nx) .unb) H) else .stuck
noncomputable abbrev Fz := Addr → Option Obj
noncomputable def Qdz (T : String) (o : Obj) (vs : List Value) : Prop := o.cls = .type T ∧ ∃ n, o.data = .seq vs.toArray n
mutual
inductive RepD (F : Fz) : Value → D → Prop
 | none : RepD F .none .none
 | bool (b : Bool) : RepD F (.bool b) (.bool b)
 | int (i : Int) (t : Tok) : RepD F (.int i t) (.int i)
 | tup {a : Addr} {o : Obj} {vs : List Value} {xs : List D} : F a = some o → Qdz "tuple" o vs → RepL F vs xs → xs.length ≤ 4194305 → RepD F (.ref a) (.tuple xs)
 | list {a : Addr} {o : Obj} {vs : List Value} {xs : List D} : F a = some o → Qdz "list" o vs → RepL F vs xs → xs.length ≤ 4194305 → RepD F (.ref a) (.list xs)
inductive RepL (F : Fz) : List Value → List D → Prop
 | nil : RepL F [] []
 | cons {v : Value} {vs : List Value} {x : D} {xs : List D} : RepD F v x → RepL F vs xs → RepL F (v :: vs) (x :: xs)
end
noncomputable def FLe (F F' : Fz) : Prop := ∀ b o, F b = some o → F' b = some o
theorem FLe.refl (F : Fz) : FLe F F := fun _ _ e => e
theorem FLe.trans {F G H : Fz} (x : FLe F G) (y : FLe G H) : FLe F H := fun b o e => y b o (x b o e)
mutual
theorem RepD.mono {F F' : Fz} (h : FLe F F') : ∀ {v : Value} {x : D}, RepD F v x → RepD F' v x
 | _, _, .none => .none
 | _, _, .bool b => .bool b
 | _, _, .int i t => .int i t
 | _, _, .tup e s r l => .tup (h _ _ e) s (RepL.mono h r) l
 | _, _, .list e s r l => .list (h _ _ e) s (RepL.mono h r) l
theorem RepL.mono {F F' : Fz} (h : FLe F F') : ∀ {vs : List Value} {xs : List D}, RepL F vs xs → RepL F' vs xs
 | _, _, .nil => .nil
 | _, _, .cons a r => .cons (RepD.mono h a) (RepL.mono h r)
end
theorem RepL.length {F : Fz} : ∀ {vs : List Value} {xs : List D}, RepL F vs xs → vs.length = xs.length
 | _, _, .nil => rfl
 | _, _, .cons _ r => by rw [List.length_cons, List.length_cons, r.length]
theorem RepL.append {F : Fz} {vs ws : List Value} {xs ys : List D} (h : RepL F vs xs) (k : RepL F ws ys) : RepL F (vs ++ ws) (xs ++ ys) := by
 induction vs generalizing xs with
 | nil => cases h; exact k
 | cons v vs ih => cases h with | cons a r => exact .cons a (ih r)
theorem RepL.get {F : Fz} : ∀ {vs : List Value} {xs : List D} {k : Nat} {x : D}, RepL F vs xs → xs[k]? = some x → ∃ v, vs[k]? = some v ∧ RepD F v x
 | _, _, 0, _, .cons a _, h => by simp at h; subst h; exact ⟨_, rfl, a⟩
 | _, _, k + 1, _, .cons _ r, h => by simp at h; obtain ⟨v, hv, hr⟩ := r.get h; exact ⟨v, by simpa using hv, hr⟩
theorem RepL.take {F : Fz} : ∀ {vs : List Value} {xs : List D} (k : Nat), RepL F vs xs → RepL F (vs.take k) (xs.take k)
 | _, _, 0, _ => by simp; exact .nil
 | _, _, _ + 1, .nil => by simp; exact .nil
 | _, _, k + 1, .cons a r => by simpa using RepL.cons a (r.take k)
theorem RepL.drop {F : Fz} : ∀ {vs : List Value} {xs : List D} (k : Nat), RepL F vs xs → RepL F (vs.drop k) (xs.drop k)
 | _, _, 0, h => by simpa using h
 | _, _, _ + 1, .nil => by simp; exact .nil
 | _, _, k + 1, .cons _ r => by simpa using r.drop k
theorem RepL.set {F : Fz} : ∀ {vs : List Value} {xs : List D} {k : Nat} {v : Value} {x : D}, RepL F vs xs → RepD F v x → RepL F (vs.set k v) (xs.set k x)
 | _, _, _, _, _, .nil, _ => by simp; exact .nil
 | _, _, 0, _, _, .cons _ r, h => by simpa using RepL.cons h r
 | _, _, k + 1, _, _, .cons a r, h => by simpa using RepL.cons a (r.set h)
theorem RepL.replicate {F : Fz} {v : Value} {x : D} (h : RepD F v x) : ∀ n, RepL F (List.replicate n v) (List.replicate n x)
 | 0 => .nil
 | n + 1 => .cons h (RepL.replicate h n)
theorem RepL.reverse {F : Fz} {vs : List Value} {xs : List D} (h : RepL F vs xs) : RepL F vs.reverse xs.reverse := by
 induction vs generalizing xs with
 | nil => cases h; exact .nil
 | cons v vs ih => cases h with | cons a r => simpa using (ih r).append (.cons a .nil)
inductive RepV (fa : Nat → Addr) (F : Fz) (σ : List Addr) : Value → V → Prop
 | d {v : Value} {x : D} : RepD F v x → RepV fa F σ v (.d x)
 | cell {n : Nat} {a : Addr} : σ[n]? = some a → RepV fa F σ (.ref a) (.cell n)
 | fn (k : Nat) : RepV fa F σ (.ref (fa k)) (.fn k)
noncomputable def Pre (σ σ' : List Addr) : Prop := ∃ τ, σ' = σ ++ τ
theorem Pre.refl (σ : List Addr) : Pre σ σ := ⟨[], by simp⟩
theorem Pre.trans {a b c : List Addr} (x : Pre a b) (y : Pre b c) : Pre a c := by
 obtain ⟨t, rfl⟩ := x; obtain ⟨u, rfl⟩ := y; exact ⟨t ++ u, by simp⟩
theorem Pre.get {σ σ' : List Addr} (x : Pre σ σ') {n : Nat} {a : Addr} (h : σ[n]? = some a) : σ'[n]? = some a := by
 obtain ⟨τ, rfl⟩ := x
 rw [List.getElem?_append_left (List.getElem?_eq_some_iff.mp h).1]; exact h
theorem RepV.mono {fa : Nat → Addr} {F F' : Fz} {σ σ' : List Addr} (h : FLe F F') (p : Pre σ σ') {v : Value} {a : V} : RepV fa F σ v a → RepV fa F' σ' v a
 | .d x => .d (x.mono h)
 | .cell e => .cell (p.get e)
 | .fn k => .fn k
structure RH (fa : Nat → Addr) (h₀ : Heap) (F : Fz) (σ : List Addr) (H : Hp) (h : Heap) : Prop where
 base : ∀ b o, h₀.get? b = some o → F b = some o
 le : ∀ b o, F b = some o → h.get? b = some o
 len : σ.length = H.length
 nod : σ.Nodup
 cell : ∀ (n : Nat) (a : Addr) (xs : List D), σ[n]? = some a → H[n]? = some xs → F a = none ∧ ∃ vs : List Value, h.PlainList a vs.toArray ∧ RepL F vs xs ∧ xs.length ≤ 4194305
noncomputable def Sl (o o' : Obj) : Prop := o' = o ∨ ((∃ es ep, o.data = .dict es ep) ∧ ∃ sl, o' = { o with slots := sl })
theorem Sl.refl (o : Obj) : Sl o o := .inl rfl
theorem Sl.trans {a b c : Obj} (x : Sl a b) (y : Sl b c) : Sl a c := by
 rcases x with rfl | ⟨hd, sl, rfl⟩
 ·exact y
 ·rcases y with rfl | ⟨_, sl', rfl⟩
  ·exact .inr ⟨hd, sl, rfl⟩
  ·exact .inr ⟨hd, sl', rfl⟩
theorem Sl.same {a b : Obj} (x : Sl a b) (h : ∀ es ep, a.data ≠ .dict es ep) : b = a := by
 rcases x with rfl | ⟨⟨es, ep, hd⟩, _⟩
 ·rfl
 ·exact absurd hd (h es ep)
structure Gr (own : List Addr) (F : Fz) (σ : List Addr) (s : Shared) (F' : Fz) (σ' : List Addr) (s' : Shared) : Prop where
 live : ∀ b o, s.heap.get? b = some o → ∃ o', s'.heap.get? b = some o'
 keep : ∀ b o, b ∉ own → b ∉ σ → s.heap.get? b = some o → ∃ o', s'.heap.get? b = some o' ∧ Sl o o'
 fz : FLe F F'
 nf : ∀ b o, s.heap.get? b = some o → F b = none → F' b = none
 pre : ∃ τ, σ' = σ ++ τ ∧ ∀ a ∈ τ, s.heap.get? a = none
 gens : s'.gens = s.gens
 os : s'.os = s.os
theorem Gr.kept {own : List Addr} {F F' : Fz} {σ σ' : List Addr} {s s' : Shared} (g : Gr own F σ s F' σ' s') {b : Addr} {o : Obj} (h1 : b ∉ own) (h2 : b ∉ σ) (e : s.heap.get? b = some o) (hn : ∀ es ep, o.data ≠ .dict es ep) : s'.heap.get? b = some o := by
 obtain ⟨o', HH1⟩ := g.keep b o h1 h2 e
 haveI e' := HH1.1
 haveI x := HH1.2
 rw [x.same hn] at e'; exact e'
theorem Gr.ns {own : List Addr} {F F' : Fz} {σ σ' : List Addr} {s s' : Shared} (g : Gr own F σ s F' σ' s') {b : Addr} {m : Str → Option Value} (h1 : b ∉ own) (h2 : b ∉ σ) (hm : s.heap.Ns b m) : s'.heap.Ns b m := by
 obtain ⟨o, es, ep, e, d, r⟩ := hm
 obtain ⟨o', e', x⟩ := g.keep b o h1 h2 e
 rcases x with rfl | ⟨_, sl, rfl⟩
 ·exact ⟨_, es, ep, e', d, r⟩
 ·exact ⟨_, es, ep, e', d, r⟩
theorem Gr.dead {own : List Addr} {F F' : Fz} {σ σ' : List Addr} {s s' : Shared} (g : Gr own F σ s F' σ' s') {a : Addr} (h : s'.heap.get? a = none) : s.heap.get? a = none := by
 cases e : s.heap.get? a with
 | none => rfl
 | some o => obtain ⟨o', e'⟩ := g.live a o e; rw [h] at e'; cases e'
theorem Gr.refl (own : List Addr) (F : Fz) (σ : List Addr) (s : Shared) : Gr own F σ s F σ s :=
 ⟨fun _ o e => ⟨o, e⟩, fun _ o _ _ e => ⟨o, e, .refl o⟩, FLe.refl _, fun _ _ _ e => e, ⟨[], by simp, by simp⟩, rfl, rfl⟩
theorem Gr.toPre {own : List Addr} {F F' : Fz} {σ σ' : List Addr} {s s' : Shared} (g : Gr own F σ s F' σ' s') : Pre σ σ' := by
 obtain ⟨τ, e, _⟩ := g.pre; exact ⟨τ, e⟩
theorem Gr.trans {own : List Addr} {F F' F'' : Fz} {σ σ' σ'' : List Addr} {s s' s'' : Shared} (x : Gr own F σ s F' σ' s') (y : Gr own F' σ' s' F'' σ'' s'') : Gr own F σ s F'' σ'' s'' := by
 obtain ⟨τ, rfl, hτ⟩ := x.pre
 obtain ⟨υ, rfl, hυ⟩ := y.pre
 refine ⟨fun b o e => let ⟨o', e'⟩ := x.live b o e; y.live b o' e', fun b o h1 h2 e => let ⟨o₁, e₁, z₁⟩ := x.keep b o h1 h2 e; let ⟨o₂, e₂, z₂⟩ := y.keep b o₁ h1 (fun hm => ?_) e₁; ⟨o₂, e₂, z₁.trans z₂⟩, x.fz.trans y.fz, fun b o hb e => let ⟨o', e'⟩ := x.live b o hb; y.nf b o' e' (x.nf b o hb e), ⟨τ ++ υ, by simp, ?_⟩, y.gens.trans x.gens, y.os.trans x.os⟩
 ·rcases List.mem_append.mp hm with hm | hm
  ·exact h2 hm
  ·rw [hτ b hm] at e; cases e
 ·intro a ha
  rcases List.mem_append.mp ha with ha | ha
  ·exact hτ a ha
  ·exact x.dead (hυ a ha)
theorem Gr.own {own own' : List Addr} {F F' : Fz} {σ σ' : List Addr} {s s' : Shared} (g : Gr own F σ s F' σ' s') (h : ∀ a ∈ own, a ∈ own' ∨ s.heap.get? a = none) : Gr own' F σ s F' σ' s' :=
 ⟨g.live, fun b o h1 h2 e => g.keep b o (fun hm => (h b hm).elim h1 fun hb => by rw [hb] at e; cases e) h2 e, g.fz, g.nf, g.pre, g.gens, g.os⟩
theorem Gr.weak {own : List Addr} {F F' : Fz} {σ σ' : List Addr} {s s' : Shared} (g : Gr [] F σ s F' σ' s') : Gr own F σ s F' σ' s' := g.own (by simp)
theorem Gr.step {own : List Addr} {F : Fz} {σ : List Addr} {s s' : Shared} (h : ∀ b o, s.heap.get? b = some o → s'.heap.get? b = some o) (hg : s'.gens = s.gens) (ho : s'.os = s.os) : Gr own F σ s F σ s' :=
 ⟨fun b o e => ⟨o, h b o e⟩, fun b o _ _ e => ⟨o, h b o e, .refl o⟩, FLe.refl _, fun _ _ _ e => e, ⟨[], by simp, by simp⟩, hg, ho⟩
theorem QaR (h : Heap) : h.get? h.objs.size = none := by
 cases e : h.get? h.objs.size with
 | none => rfl
 | some o => exact absurd (Heap.lt_size e) (Nat.lt_irrefl _)
structure Lx where
 names : Str → Option NameKind
 vis : Str → Option Nat
 own : Str → Bool
 top : Nat
structure Lx.Wf (c : Lx) : Prop where
 lt : ∀ x k, c.vis x = some k → k < c.top
 inj : ∀ x y k, c.vis x = some k → c.vis y = some k → x = y
noncomputable def Has (fa : Nat → Addr) (F : Fz) (σ : List Addr) (ov : Option Value) (a : V) : Prop := a ≠ .unb → ∃ v, ov = some v ∧ RepV fa F σ v a
theorem Has.mono {fa : Nat → Addr} {F F' : Fz} {σ σ' : List Addr} (h : FLe F F') (p : Pre σ σ') {ov : Option Value} {a : V} (x : Has fa F σ ov a) : Has fa F' σ' ov a := fun hn =>
 let ⟨v, e, r⟩ := x hn; ⟨v, e, r.mono h p⟩
noncomputable def QbD (k : Option NameKind) : Bool := k == some .cell || k == some .free
structure RL (fa : Nat → Addr) (c : Lx) (env : Env) (F : Fz) (σ : List Addr) (ρ : Rho) (h : Heap) : Prop where
 fnk : env.scope.kind = .function
 glob : env.globals = mainGlobals
 bi : env.builtins = builtinsNs
 kinds : ∀ x, env.kindOf x = c.names x
 noL : F env.locals = none
 ns : ∃ m, h.Ns env.locals m ∧ ∀ x k, c.names x = some .local → c.vis x = some k → Has fa F σ (m x) (gt ρ k)
 cl : ∀ x, QbD (c.names x) = true → ∃ a ov, env.cells.lookup x = some a ∧ F a = none ∧ h.IsCell a ov ∧ ∀ k, c.vis x = some k → Has fa F σ ov (gt ρ k)
 inj : ∀ x y a, env.cells.lookup x = some a → env.cells.lookup y = some a → x = y
 hi : ∀ k, c.top ≤ k → gt ρ k = .unb
 wf : c.Wf
noncomputable def RS (l : List Env) (F : Fz) (h : Heap) : Prop := ∀ e ∈ l, e.scope.kind ≠ .module ∧ ∃ L m, e.frame = some L ∧ h.Ns L m ∧ F L = none
theorem Qao {h : Heap} {a : Addr} {xs : Array Value} {m : Str → Option Value} (x : h.IsList a xs) (y : h.Ns a m) : False := by
 obtain ⟨o, e, _, n, d⟩ := x; obtain ⟨o', es, ep, e', d', _⟩ := y
 rw [e] at e'; cases e'; rw [d] at d'; cases d'
theorem QcC {h : Heap} {a : Addr} {xs : Array Value} {v : Option Value} (x : h.IsList a xs) (y : h.IsCell a v) : False := by
 obtain ⟨o, e, _, n, d⟩ := x; obtain ⟨o', e', d'⟩ := y
 rw [e] at e'; cases e'; rw [d] at d'; cases d'
theorem Qbn {h : Heap} {a : Addr} {v : Option Value} {m : Str → Option Value} (x : h.IsCell a v) (y : h.Ns a m) : False := by
 obtain ⟨o, e, d⟩ := x; obtain ⟨o', es, ep, e', d', _⟩ := y
 rw [e] at e'; cases e'; rw [d] at d'; cases d'
theorem RH.isList {fa : Nat → Addr} {h₀ : Heap} {F : Fz} {σ : List Addr} {H : Hp} {h : Heap} (r : RH fa h₀ F σ H h) {a : Addr} (ha : a ∈ σ) : ∃ vs : List Value, h.IsList a vs.toArray := by
 obtain ⟨n, hn⟩ := List.getElem?_of_mem ha
 have hlt : n < H.length := r.len ▸ (List.getElem?_eq_some_iff.mp hn).1
 obtain ⟨_, vs, HH3⟩ := r.cell n a _ hn (List.getElem?_eq_getElem hlt)
 haveI hv := HH3.1
 exact ⟨vs, hv.isList⟩
theorem RH.lt {fa : Nat → Addr} {h₀ : Heap} {F : Fz} {σ : List Addr} {H : Hp} {h : Heap} (r : RH fa h₀ F σ H h) {a : Addr} (ha : a ∈ σ) : a < h.objs.size := by
 obtain ⟨vs, o, e, _⟩ := r.isList ha; exact Heap.lt_size e
theorem RH.fnone {fa : Nat → Addr} {h₀ : Heap} {F : Fz} {σ : List Addr} {H : Hp} {h : Heap} (r : RH fa h₀ F σ H h) {a : Addr} (ha : h.get? a = none) : F a = none := by
 cases e : F a with
 | none => rfl
 | some o => have := r.le _ _ e; rw [ha] at this; cases this
theorem RH.fnoneσ {fa : Nat → Addr} {h₀ : Heap} {F : Fz} {σ : List Addr} {H : Hp} {h : Heap} (r : RH fa h₀ F σ H h) {a : Addr} (ha : a ∈ σ) : F a = none := by
 obtain ⟨n, hn⟩ := List.getElem?_of_mem ha
 have hlt : n < H.length := r.len ▸ (List.getElem?_eq_some_iff.mp hn).1
 exact (r.cell n a _ hn (List.getElem?_eq_getElem hlt)).1
theorem RL.grow {fa : Nat → Addr} {c : Lx} {env : Env} {F F' : Fz} {σ σ' : List Addr} {ρ : Rho} {s s' : Shared} {own : List Addr} {h₀ : Heap} {H : Hp}
  (r : RH fa h₀ F σ H s.heap) (x : RL fa c env F σ ρ s.heap) (g : Gr own F σ s F' σ' s') (h1 : env.locals ∉ own) (h2 : ∀ n a, env.cells.lookup n = some a → QbD (c.names n) = true → a ∉ own) :
  RL fa c env F' σ' ρ s'.heap := by
 obtain ⟨m, HH3⟩ := x.ns
 haveI hm := HH3.1
 haveI hv := HH3.2
 haveI hL : env.locals ∉ σ := fun hm' => by obtain ⟨vs, hl⟩ := r.isList hm'; exact Qao hl hm
 refine ⟨x.fnk, x.glob, x.bi, x.kinds, (let ⟨_, _, _, e, _⟩ := hm; g.nf _ _ e x.noL), ⟨m, g.ns h1 hL hm, fun y k a b => (hv y k a b).mono g.fz g.toPre⟩, fun y hy => ?_, x.inj, x.hi, x.wf⟩
 obtain ⟨a, ov, HH8⟩ := x.cl y hy
 haveI e := HH8.1
 haveI hn := HH8.2.1
 haveI hc := HH8.2.2.1
 haveI hk := HH8.2.2.2
 haveI ha : a ∉ σ := fun hm' => by obtain ⟨vs, hl⟩ := r.isList hm'; exact QcC hl hc
 obtain ⟨o, HH14⟩ := id hc
 haveI ho := HH14.1
 haveI hd := HH14.2
 exact ⟨a, ov, e, (let ⟨_, e', _⟩ := hc; g.nf _ _ e' hn), ⟨o, g.kept (h2 y a e hy) ha ho (fun es ep q => by rw [hd] at q; cases q), hd⟩, fun k hk' => (hk k hk').mono g.fz g.toPre⟩
theorem RS.grow {fa : Nat → Addr} {l : List Env} {F F' : Fz} {σ σ' : List Addr} {s s' : Shared} {own : List Addr} {h₀ : Heap} {H : Hp}
  (r : RH fa h₀ F σ H s.heap) (x : RS l F s.heap) (g : Gr own F σ s F' σ' s') (h : ∀ e ∈ l, ∀ L, e.frame = some L → L ∉ own) : RS l F' s'.heap := by
 intro e he
 obtain ⟨hk, L, m, HH3⟩ := x e he
 haveI hf := HH3.1
 haveI hm := HH3.2.1
 haveI hn := HH3.2.2
 haveI hL : L ∉ σ := fun hm' => by obtain ⟨vs, hl⟩ := r.isList hm'; exact Qao hl hm
 exact ⟨hk, L, m, hf, g.ns (h e he L hf) hL hm, (let ⟨_, _, _, e', _⟩ := hm; g.nf _ _ e' hn)⟩
theorem QiX {cl : Qh} {ρ : Rho} {H : Hp} {k as} : evE cl (.callv k as) ρ H = (match gt ρ k with
  | .fn f => (evEs cl as ρ H).bind fun vs H => (cl f vs H).bind fun x H => .ok (.d x) H
  | _ => .stuck) := rfl
theorem QmU {cl : Qh} {b : Nat} {ρ : Rho} {H : Hp} {k e} : exS cl b (.app k e) ρ H = (match gt ρ k with
  | .cell m => (evE cl e ρ H).go ρ fun v H => (Qp (asD v) H).go ρ fun x H => (Qp (QeW H m x) H).go ρ fun H' _ => .next ρ H'
  | _ => .stuck) := rfl
theorem Qns {cl : Qh} {b : Nat} {ρ : Rho} {H : Hp} {k op e} : exS cl b (.aug k op e) ρ H = (match gt ρ k with
  | .d x => (evE cl e ρ H).go ρ fun y H => (Qp (asD y) H).go ρ fun y H => (Qp (binD op x y) H).go ρ fun z H => .next (st ρ k (.d z)) H
  | _ => .stuck) := rfl
theorem Qdi {test : Rho → Hp → R V} {body : Rho → Hp → O} {n : Nat} {ρ : Rho} {H : Hp} : Qav test body (n + 1) ρ H = (match test ρ H with
  | .ok (.d (.bool true)) H => (match body ρ H with
   | .next ρ H => Qav test body n ρ H
   | .ret x H => .ret x H
   | _ => .stuck)
  | .ok (.d (.bool false)) H => .next ρ H
  | _ => .stuck) := rfl
theorem Qgj {test : Rho → Hp → R V} {body : Rho → Hp → O} {n : Nat} {ρ : Rho} {H H1 : Hp} (ht : test ρ H = .ok (.d (.bool true)) H1) : Qav test body (n + 1) ρ H = (match body ρ H1 with
  | .next ρ H => Qav test body n ρ H
  | .ret x H => .ret x H
  | _ => .stuck) := by rw [Qdi, ht]
theorem Qdf {bd : D → Rho → Option Rho} {body : Rho → Hp → O} {x : D} {r : List D} {ρ : Rho} {H : Hp} : Qaf bd body (x :: r) ρ H = (match bd x ρ with
  | none => .stuck
  | some ρ => (body ρ H).bind fun ρ H => Qaf bd body r ρ H) := rfl
theorem QbV {bd : D → Rho → Option Rho} {el : Rho → Hp → R V} {co : Rho → Hp → R Bool} {x : D} {r : List D} {ρ : Rho} {H : Hp} : QU bd el co (x :: r) ρ H = (match bd x ρ with
  | none => .stuck
  | some ρ' => (co ρ' H).noexc.bind fun b H =>
   match b with
   | true => (el ρ' H).noexc.bind fun y H => (Qp (asD y) H).bind fun y H => (QU bd el co r ρ' H).bind fun ys H => .ok (y :: ys) H
   | false => QU bd el co r ρ' H) := rfl
theorem QY {cl : Qh} {ρ : Rho} {H : Hp} {k : Nat} {x : D} (h : gt ρ k = .d x) : evE cl (.loc k) ρ H = .ok (.d x) H := by
 show (match gt ρ k with | .unb => R.stuck | a => .ok a H) = _; rw [h]
theorem Qku {cl : Qh} {ρ : Rho} {H : Hp} {k n : Nat} (h : gt ρ k = .cell n) : evE cl (.loc k) ρ H = .ok (.cell n) H := by
 show (match gt ρ k with | .unb => R.stuck | a => .ok a H) = _; rw [h]
structure DefR where
 name : Str
 params : Arguments
 body : List Stmt
 scope : Scope
structure Kx where
 prog : Program
 w : World
 fa : Nat → Addr
 h₀ : Heap
 mg : Str → Option Value
 mb : Str → Option Value
 C : Addr
 fnm : List Str
 defs : List DefR
noncomputable def Qsr : Bool → Str
 | false => "NOUGHT"
 | true => "UNIT"
noncomputable def QbG (x : Str) : Option Value :=
 ([("len", .builtin "len"), ("abs", .builtin "abs"), ("sum", .builtin "sum"), ("any", .builtin "any"), ("min", .builtin "min"), ("pow", .builtin "pow"),
  ("range", .type "range"), ("enumerate", .type "enumerate"), ("reversed", .type "reversed"), ("int", .type "int")] : List (Str × Value)).lookup x
structure Bs (K : Kx) : Prop where
 g : K.h₀.Ns mainGlobals K.mg
 b : K.h₀.Ns builtinsNs K.mb
 nolim : K.h₀.NoLimit
 fn : ∀ (k : Nat) (x : Str), K.fnm[k]? = some x → K.mg x = some (.ref (K.fa k))
 fo : ∀ k, ∃ o fd, K.h₀.get? (K.fa k) = some o ∧ o.data = .func fd
 df : ∀ (k : Nat) (d : DefR), K.defs[k]? = some d → ∃ o pm code doc, K.h₀.get? (K.fa k) = some o ∧ o.data = .func (docDef d.name d.params d.body d.scope pm code doc) ∧ K.h₀.CodeRec code d.name
 gl : ∀ b, ∃ v, K.mg (Qsr b) = some v ∧ RepD K.h₀.get? v (Qdg b)
 bt : ∀ x v, QbG x = some v → K.mg x = none ∧ K.mb x = some v
 own : OwnCls "NoInverse" K.C [.type "Exception", .type "BaseException", .type "object"] "Exception.__new__" K.mg K.h₀
structure Ar (n : Nat) (l : List Env) (A : Around) : Prop where
 handled : A.handled = none
 depth : A.depth + n + 4 < recursionLimit
 units : A.units + 8 * n + 300 < cLine
 frames : A.frames = some l
noncomputable def frs (l : List Env) : List Addr := l.filterMap (·.frame)
inductive XE (K : Kx) (l : List Env) (F : Fz) (σ : List Addr) (H' : Hp) (s : Shared) (ev : Value) (s' : Shared) : Prop
 | mk (F' : Fz) (σ' : List Addr) (s₁ : Shared) (e t : Addr) (h0 : ev = .ref e) (h1 : Gr [] F σ s F' σ' s₁) (h2 : RH K.fa K.h₀ F' σ' H' s₁.heap) (h3 : RS l F' s₁.heap) (h4 : s'.gens = s₁.gens) (h5 : s'.os = s₁.os)
  (h6 : Heap.FlyingW (hideAll s₁.heap (frs l)) l e (.ref K.C) (.ref t) s'.heap) (h7 : s₁.heap.UpToSlots s'.heap)
theorem XE.shift {K : Kx} {l : List Env} {F F₁ : Fz} {σ σ₁ : List Addr} {H' : Hp} {s s₁ : Shared} {ev : Value} {s' : Shared} (g : Gr [] F σ s F₁ σ₁ s₁) (x : XE K l F₁ σ₁ H' s₁ ev s') : XE K l F σ H' s ev s' := by
 obtain ⟨F', σ', s₂, e, t, h1, h2, h3, h4, h5, h6, h7, h8⟩ := x
 exact ⟨F', σ', s₂, e, t, h1, g.trans h2, h3, h4, h5, h6, h7, h8⟩
noncomputable def KR {α β : Type} (K : Kx) (l : List Env) (Rep : Fz → List Addr → β → α → Prop) (r : R α) (F : Fz) (σ : List Addr) (s : Shared) (Q : β → Shared → Prop) (E : Value → Shared → Prop) : Prop :=
 match r with
 | .ok a H' => ∀ v F' σ' s', Gr [] F σ s F' σ' s' → RH K.fa K.h₀ F' σ' H' s'.heap → Rep F' σ' v a → Q v s'
 | .exc H' => ∀ ev s', XE K l F σ H' s ev s' → E ev s'
 | .stuck => False
theorem KR.shift {α β : Type} {K : Kx} {l : List Env} {Rep : Fz → List Addr → β → α → Prop} {r : R α} {F F₁ : Fz} {σ σ₁ : List Addr} {s s₁ : Shared} {Q : β → Shared → Prop} {E : Value → Shared → Prop}
  (h : KR K l Rep r F σ s Q E) (g : Gr [] F σ s F₁ σ₁ s₁) : KR K l Rep r F₁ σ₁ s₁ Q E := by
 cases r with
 | ok a H => exact fun v F' σ' s' g' => h v F' σ' s' (g.trans g')
 | exc H => exact fun ev s' x => h ev s' (x.shift g)
 | stuck => exact h
theorem KR.bind {α β γ δ : Type} {K : Kx} {l : List Env} {Rep₁ : Fz → List Addr → β → α → Prop} {Rep₂ : Fz → List Addr → δ → γ → Prop} {r : R α} {f : α → Hp → R γ} {F : Fz} {σ : List Addr} {s : Shared} {Q : δ → Shared → Prop} {Q₁ : β → Shared → Prop} {E : Value → Shared → Prop}
  (hk : KR K l Rep₂ (r.bind f) F σ s Q E)
  (h : ∀ a H₁ v F₁ σ₁ s₁, Gr [] F σ s F₁ σ₁ s₁ → RH K.fa K.h₀ F₁ σ₁ H₁ s₁.heap → Rep₁ F₁ σ₁ v a → KR K l Rep₂ (f a H₁) F₁ σ₁ s₁ Q E → Q₁ v s₁) : KR K l Rep₁ r F σ s Q₁ E := by
 cases r with
 | ok a H => exact fun v F' σ' s' g rh rep => h a H v F' σ' s' g rh rep (KR.shift (r := f a H) hk g)
 | exc H => exact hk
 | stuck => exact hk
structure Ok (K : Kx) (n : Nat) (l : List Env) (A : Around) (c : Lx) (env : Env) (F : Fz) (σ : List Addr) (ρ : Rho) (H : Hp) (s : Shared) : Prop where
 ar : Ar n l A
 rh : RH K.fa K.h₀ F σ H s.heap
 rl : RL K.fa c env F σ ρ s.heap
 rs : RS l F s.heap
theorem Ok.grow {K : Kx} {n : Nat} {l : List Env} {A : Around} {c : Lx} {env : Env} {F F' : Fz} {σ σ' : List Addr} {ρ : Rho} {H H' : Hp} {s s' : Shared}
  (o : Ok K n l A c env F σ ρ H s) (g : Gr [] F σ s F' σ' s') (rh : RH K.fa K.h₀ F' σ' H' s'.heap) : Ok K n l A c env F' σ' ρ H' s' :=
 ⟨o.ar, rh, o.rl.grow o.rh g (by simp) (by simp), o.rs.grow o.rh g (by simp)⟩
theorem Ok.keeps {K : Kx} {n : Nat} {l : List Env} {A : Around} {c : Lx} {env : Env} {F : Fz} {σ : List Addr} {ρ : Rho} {H : Hp} {s : Shared} (o : Ok K n l A c env F σ ρ H s) :
  ∀ b x, K.h₀.get? b = some x → s.heap.get? b = some x := fun b x e => o.rh.le b x (o.rh.base b x e)
theorem Gr.tok {own : List Addr} {F : Fz} {σ : List Addr} {s : Shared} (t : Nat) : Gr own F σ s F σ { s with toks := t } :=
 Gr.step (fun _ _ e => e) rfl rfl
theorem KR.done {K : Kx} {l : List Env} {F : Fz} {σ : List Addr} {H : Hp} {s : Shared} {v : Value} {a : V} {Q : Value → Shared → Prop} {E : Value → Shared → Prop} (t : Nat)
  (hk : KR K l (RepV K.fa) (.ok a H) F σ s Q E) (rh : RH K.fa K.h₀ F σ H s.heap) (rep : RepV K.fa F σ v a) : Q v { s with toks := t } :=
 hk v F σ _ (Gr.tok t) rh rep
theorem KR.done' {α β : Type} {K : Kx} {l : List Env} {Rep : Fz → List Addr → β → α → Prop} {F : Fz} {σ : List Addr} {H : Hp} {s : Shared} {v : β} {a : α} {Q : β → Shared → Prop} {E : Value → Shared → Prop}
  (hk : KR K l Rep (.ok a H) F σ s Q E) (rh : RH K.fa K.h₀ F σ H s.heap) (rep : Rep F σ v a) : Q v s :=
 hk v F σ _ (Gr.refl _ _ _ _) rh rep
inductive RepVs (fa : Nat → Addr) (F : Fz) (σ : List Addr) : List Value → List V → Prop
 | nil : RepVs fa F σ [] []
 | cons {v : Value} {vs : List Value} {a : V} {as : List V} : RepV fa F σ v a → RepVs fa F σ vs as → RepVs fa F σ (v :: vs) (a :: as)
theorem RepVs.mono {fa : Nat → Addr} {F F' : Fz} {σ σ' : List Addr} (h : FLe F F') (p : Pre σ σ') : ∀ {vs : List Value} {as : List V}, RepVs fa F σ vs as → RepVs fa F' σ' vs as
 | _, _, .nil => .nil
 | _, _, .cons a r => .cons (a.mono h p) (r.mono h p)
theorem RepVs.length {fa : Nat → Addr} {F : Fz} {σ : List Addr} : ∀ {vs : List Value} {as : List V}, RepVs fa F σ vs as → vs.length = as.length
 | _, _, .nil => rfl
 | _, _, .cons _ r => by rw [List.length_cons, List.length_cons, r.length]
noncomputable def SE (K : Kx) (n : Nat) (c : Lx) (cl : Qh) (e : PE) (x : Expr) : Prop :=
 ∀ (l : List Env) (A : Around) (env : Env) (F : Fz) (σ : List Addr) (ρ : Rho) (H : Hp) (s : Shared) (Q : Value → Shared → Prop) (E : Value → Shared → Prop),
  Ok K n l A c env F σ ρ H s → KR K l (RepV K.fa) (evE cl e ρ H) F σ s Q E → wpAny (model K.prog K.w) A (eval x env) Q E s
noncomputable def evT (cl : Qh) (e : PE) (ρ : Rho) (H : Hp) : R Bool := (evE cl e ρ H).bind fun v H => Qp (Qaq v) H
noncomputable def RepB (_ : Fz) (_ : List Addr) (b b' : Bool) : Prop := b = b'
noncomputable def ST (K : Kx) (n : Nat) (c : Lx) (cl : Qh) (e : PE) (x : Expr) : Prop :=
 ∀ (l : List Env) (A : Around) (env : Env) (F : Fz) (σ : List Addr) (ρ : Rho) (H : Hp) (s : Shared) (Q : Bool → Shared → Prop) (E : Value → Shared → Prop),
  Ok K n l A c env F σ ρ H s → KR K l RepB (evT cl e ρ H) F σ s Q E → wpAny (model K.prog K.w) A (isTrue x env (eval x env)) Q E s
section
variable {K : Kx} {n : Nat} {c : Lx} {cl : Qh}
theorem Qbm (B : Bs K) {l : List Env} {A : Around} {env : Env} {F : Fz} {σ : List Addr} {ρ : Rho} {H : Hp} {s : Shared} {Q : Value → Shared → Prop} {E : Value → Shared → Prop} {x : Str} {pos : Pos} {v : Value}
  (o : Ok K n l A c env F σ ρ H s) (hx : c.names x = some .globalImplicit) (hv : K.mg x = some v) (hd : (x == ("__debug__" : Str)) = false) (h : Q v s) :
  wpAny (model K.prog K.w) A (eval (.Name x pos) env) Q E s :=
 Name_function_global o.rl.fnk ((o.rl.kinds x).trans hx) (loadGlobal_global (by rw [o.rl.glob]; exact B.g.keeps o.keeps) hv h) hd
theorem QdD (B : Bs K) {l : List Env} {A : Around} {env : Env} {F : Fz} {σ : List Addr} {ρ : Rho} {H : Hp} {s : Shared} {Q : Value → Shared → Prop} {E : Value → Shared → Prop} {x : Str} {pos : Pos} {v : Value}
  (o : Ok K n l A c env F σ ρ H s) (hx : c.names x = some .globalImplicit) (hv : QbG x = some v) (hd : (x == ("__debug__" : Str)) = false) (h : Q v s) :
  wpAny (model K.prog K.w) A (eval (.Name x pos) env) Q E s :=
 Name_function_global o.rl.fnk ((o.rl.kinds x).trans hx) (loadGlobal_builtin (by rw [o.rl.glob]; exact B.g.keeps o.keeps) (B.bt x v hv).1 (by rw [o.rl.bi]; exact B.b.keeps o.keeps) (B.bt x v hv).2 h) hd
theorem QmJ {A' : Around} {l : List Env} {A : Around} {env : Env} {F : Fz} {σ : List Addr} {ρ : Rho} {H : Hp} {s : Shared} {Q : Value → Shared → Prop} {E : Value → Shared → Prop} {x : Str} {pos : Pos} {k : Nat} {kd : NameKind}
  (o : Ok K n l A c env F σ ρ H s) (hk : c.names x = some kd) (hkd : (kd == .local || QbD (some kd)) = true) (hv : c.vis x = some k) (hd : (x == ("__debug__" : Str)) = false) (hcd : (x == ("__classdict__" : Str)) = false)
  (hu : gt ρ k ≠ .unb) (h : ∀ v, RepV K.fa F σ v (gt ρ k) → Q v s) : wpAny (model K.prog K.w) A' (eval (.Name x pos) env) Q E s := by
 refine wpAny_Name ?_ hd
 haveI hkk := (o.rl.kinds x).trans hk
 cases kd with
 | «local» =>
  obtain ⟨m, hm, hs⟩ := o.rl.ns
  obtain ⟨v, HH8⟩ := hs x k hk hv hu
  haveI e := HH8.1
  haveI r := HH8.2
  exact wpAny_loadName_local o.rl.fnk hkk hm e (h v r)
 | cell =>
  obtain ⟨a, ov, e, _, hc, hs⟩ := o.rl.cl x (by rw [hk]; rfl)
  obtain ⟨v, rfl, r⟩ := hs k hv hu
  exact wpAny_loadName_cell o.rl.fnk hkk e hc (h v r)
 | free =>
  obtain ⟨a, ov, e, _, hc, hs⟩ := o.rl.cl x (by rw [hk]; rfl)
  obtain ⟨v, rfl, r⟩ := hs k hv hu
  exact wpAny_loadName_free o.rl.fnk hkk e hc (h v r) hcd
 | globalExplicit => cases hkd
 | globalImplicit => cases hkd
noncomputable def QgE (x : Str) : Bool := !(x == ("__debug__" : Str)) && !(x == ("__classdict__" : Str))
theorem Qlj {x : Str} (h : QgE x = true) : (x == ("__debug__" : Str)) = false := by
 simp only [QgE, Bool.and_eq_true, Bool.not_eq_true'] at h; exact h.1
theorem Qlq {x : Str} (h : QgE x = true) : (x == ("__classdict__" : Str)) = false := by
 simp only [QgE, Bool.and_eq_true, Bool.not_eq_true'] at h; exact h.2
noncomputable def QW (c : Lx) (k : Nat) (x : Str) : Bool :=
 QgE x && (c.vis x == some k) && (match c.names x with | some kd => kd == .local || QbD (some kd) | none => false)
theorem QZ {A' : Around} {k : Nat} {x : Str} (hs : QW c k x = true) {l : List Env} {A : Around} {env : Env} {F : Fz} {σ : List Addr} {ρ : Rho} {H : Hp} {s : Shared} {Q : Value → Shared → Prop} {E : Value → Shared → Prop} {pos : Pos}
  (o : Ok K n l A c env F σ ρ H s) (hu : gt ρ k ≠ .unb) (h : ∀ v, RepV K.fa F σ v (gt ρ k) → Q v s) : wpAny (model K.prog K.w) A' (eval (.Name x pos) env) Q E s := by
 simp only [QW, Bool.and_eq_true, beq_iff_eq] at hs
 obtain ⟨⟨h1, h2⟩, h3⟩ := hs
 cases hk : c.names x with
 | none => rw [hk] at h3; cases h3
 | some kd => rw [hk] at h3; exact QmJ o hk h3 h2 (Qlj h1) (Qlq h1) hu h
theorem Qrs {ρ : Rho} {H : Hp} {k : Nat} (h : gt ρ k = .unb) : evE cl (.loc k) ρ H = .stuck := by
 show (match gt ρ k with | .unb => R.stuck | a => .ok a H) = _; rw [h]
theorem Qsq {ρ : Rho} {H : Hp} {k : Nat} (h : gt ρ k ≠ .unb) : evE cl (.loc k) ρ H = .ok (gt ρ k) H := by
 show (match gt ρ k with | .unb => R.stuck | a => .ok a H) = _
 generalize gt ρ k = v at *
 cases v <;> first | rfl | exact absurd rfl h
theorem QpZ {k : Nat} {x : Str} {pos : Pos} (hs : QW c k x = true) : SE K n c cl (.loc k) (.Name x pos) := by
 intro l A env F σ ρ H s Q E o hk
 have hn : gt ρ k ≠ .unb := fun e => by rw [Qrs e] at hk; exact hk
 rw [Qsq hn] at hk
 exact QZ hs o hn fun v r => hk.done' o.rh r
inductive CRep : D → Const → Prop
 | none : CRep .none .none
 | bool (b : Bool) : CRep (.bool b) (.bool b)
 | int (i : Int) : CRep (.int i) (.int i)
theorem QrZ {x : D} {k : Const} {j : Nat} {pos : Pos} (h : CRep x k) : SE K n c cl (.kd x) (.Constant k j pos) := by
 intro l A env F σ ρ H s Q E o hk
 cases h with
 | none => exact wpAny_Constant_none (hk.done' o.rh (.d .none))
 | bool b => exact wpAny_Constant_bool (hk.done' o.rh (.d (.bool _)))
 | int i => exact wpAny_Constant_int (hk.done _ o.rh (.d (.int _ _)))
noncomputable def QF (c : Lx) (x : Str) : Bool := QgE x && c.names x == some .globalImplicit
theorem Qbj {x : Str} (h : QF c x = true) : c.names x = some .globalImplicit := by
 simp only [QF, Bool.and_eq_true, beq_iff_eq] at h; exact h.2
theorem Qbo {x : Str} (h : QF c x = true) : (x == ("__debug__" : Str)) = false := by
 simp only [QF, Bool.and_eq_true, beq_iff_eq] at h; exact Qlj h.1
theorem Qri (B : Bs K) {b : Bool} {x : Str} {pos : Pos} (h : QF c x = true) (hx : x = Qsr b) : SE K n c cl (.glob b) (.Name x pos) := by
 intro l A env F σ ρ H s Q E o hk
 subst hx
 obtain ⟨v, HH3⟩ := B.gl b
 haveI hv := HH3.1
 haveI r := HH3.2
 exact Qbm B o (Qbj h) hv (Qbo h) (hk.done' o.rh (.d (r.mono fun b o e => (‹Ok K n l A c env F σ ρ H s›).rh.base b o e)))
theorem QtU (B : Bs K) {k : Nat} {x : Str} {pos : Pos} (h : QF c x = true) (hx : K.fnm[k]? = some x) : SE K n c cl (.fn k) (.Name x pos) := by
 intro l A env F σ ρ H s Q E o hk
 exact Qbm B o (Qbj h) (B.fn k x hx) (Qbo h) (hk.done' o.rh (.fn k))
noncomputable def opOf : BOp → Operator
 | .add => .Add | .sub => .Sub | .mul => .Mult | .div => .FloorDiv | .mod => .Mod | .and => .BitAnd | .or => .BitOr | .shl => .LShift | .shr => .RShift | .pow => .Pow
theorem QbX {α : Type} {c : Prop} [Decidable c] {x z : α} (h : (if c then some x else none) = some z) : c ∧ x = z := by
 split at h
 ·exact ⟨‹_›, Option.some.inj h⟩
 ·cases h
theorem QlL {α : Type} {c : Prop} [Decidable c] {x z : α} (h : (if c then none else some x) = some z) : ¬c ∧ x = z := by
 split at h
 ·cases h
 ·exact ⟨‹_›, Option.some.inj h⟩
theorem Qsz {l : List Env} {A : Around} {F : Fz} {σ : List Addr} {H : Hp} {s : Shared} {op : BOp} {a b z : Int} {t u : Tok} {Q : Value → Shared → Prop} {E : Value → Shared → Prop} (ar : Ar n l A) (rh : RH K.fa K.h₀ F σ H s.heap)
  (hz : binI op a b = some z) (h : ∀ t' tk, Q (.int z t') { s with toks := tk }) : wpAny (model K.prog K.w) A (binaryOp (opOf op) (.int a t) (.int b u)) Q E s := by
 cases op with
 | add => cases hz; exact add_int (h _ _)
 | sub => cases hz; exact sub_int (h _ _)
 | mul =>
  obtain ⟨hm, e⟩ := QbX hz; cases e
  exact PyProof.Rows.mul_int (h _ _) (hm.elim (fun hm => .of_left (intBits_le_64 (by omega) (by omega))) fun hm => .of_right (intBits_le_64 (by omega) (by omega)))
 | div => obtain ⟨hb, e⟩ := QbX hz; cases e; exact floordiv_int hb.1 (h _ _) (.inl (PyProof.noPylong_small hb.2))
 | mod => obtain ⟨hb, e⟩ := QlL hz; cases e; exact mod_int' hb (h _ _)
 | and => cases hz; exact and_int (h _ _)
 | or => cases hz; exact or_int (h _ _)
 | shl => obtain ⟨hb, e⟩ := QbX hz; cases e; exact lshift_int_small hb.1 (by omega) hb.2.2 (h _ _)
 | shr => obtain ⟨hb, e⟩ := QbX hz; cases e; exact rshift_int hb (h _ _)
 | pow => obtain ⟨hb, e⟩ := QbX hz; cases e; exact pow_int_small hb.1 (by omega) hb.2.2 (h _ _)
theorem KR.opt {α β γ : Type} {K : Kx} {l : List Env} {Rep : Fz → List Addr → β → α → Prop} {o : Option γ} {f : γ → Hp → R α} {F : Fz} {σ : List Addr} {H : Hp} {s : Shared} {Q : β → Shared → Prop} {E : Value → Shared → Prop}
  (hk : KR K l Rep ((Qp o H).bind f) F σ s Q E) : ∃ a, o = some a ∧ KR K l Rep (f a H) F σ s Q E := by
 cases o with
 | none => exact hk.elim
 | some a => exact ⟨a, rfl, hk⟩
theorem Qal {v : V} {x : D} (h : asD v = some x) : v = .d x := by
 cases v with
 | d y => cases h; rfl
 | _ => cases h
theorem QlO {y : D} {x : Int} (h : intD y = some x) : y = .int x := by
 cases y with
 | int i => cases h; rfl
 | _ => cases h
theorem Qw {v : V} {x : Int} (h : QaC v = some x) : v = .d (.int x) := by
 cases v with
 | d y =>
  cases y with
  | int i => cases h; rfl
  | _ => cases h
 | _ => cases h
theorem Qab {v : V} {x : Bool} (h : Qaq v = some x) : v = .d (.bool x) := by
 cases v with
 | d y =>
  cases y with
  | bool i => cases h; rfl
  | _ => cases h
 | _ => cases h
theorem RepV.int_inv {fa : Nat → Addr} {F : Fz} {σ : List Addr} {v : Value} {i : Int} (h : RepV fa F σ v (.d (.int i))) : ∃ t, v = .int i t := by
 cases h with | d h => cases h; exact ⟨_, rfl⟩
theorem RepV.bool_inv {fa : Nat → Addr} {F : Fz} {σ : List Addr} {v : Value} {b : Bool} (h : RepV fa F σ v (.d (.bool b))) : v = .bool b := by
 cases h with | d h => cases h; rfl
theorem RepV.d_inv {fa : Nat → Addr} {F : Fz} {σ : List Addr} {v : Value} {x : D} (h : RepV fa F σ v (.d x)) : RepD F v x := by
 cases h with | d h => exact h
theorem Qmc {op : BOp} {x y z : D} (h : binD op x y = some z) : ∃ a b k, x = .int a ∧ y = .int b ∧ z = .int k ∧ binI op a b = some k := by
 obtain ⟨a, ha, h⟩ := Option.bind_eq_some_iff.mp h
 obtain ⟨b, hb, h⟩ := Option.bind_eq_some_iff.mp h
 obtain ⟨k, e, rfl⟩ := Option.map_eq_some_iff.mp h
 exact ⟨a, b, k, QlO ha, QlO hb, rfl, e⟩
theorem QsG {op : BOp} {a b : PE} {x y : Expr} {o : Operator} {pos : Pos} (ho : o = opOf op) (ha : SE K n c cl a x) (hb : SE K n c cl b y) : SE K n c cl (.bin op a b) (.BinOp x o y pos) := by
 intro l A env F σ ρ H s Q E ok hk
 subst ho
 refine wpAny_BinOp (ha l A env F σ ρ H s _ E ok (hk.bind fun va H₁ v₁ F₁ σ₁ s₁ g₁ rh₁ r₁ hk₁ => ?_))
 refine hb l A env F₁ σ₁ ρ H₁ s₁ _ E (ok.grow g₁ rh₁) (hk₁.bind fun vb H₂ v₂ F₂ σ₂ s₂ g₂ rh₂ r₂ hk₂ => ?_)
 obtain ⟨x', e1, hk₃⟩ := hk₂.opt
 obtain ⟨y', e2, hk₄⟩ := hk₃.opt
 obtain ⟨z, e3, hk₅⟩ := hk₄.opt
 obtain ⟨i, j, k, rfl, rfl, rfl, e⟩ := Qmc e3
 haveI := Qal e1; subst this
 haveI := Qal e2; subst this
 obtain ⟨t, rfl⟩ := r₁.int_inv
 obtain ⟨u, rfl⟩ := r₂.int_inv
 exact Qsz ok.ar rh₂ e fun t' tk => hk₅.done tk rh₂ (.d (.int _ _))
end
theorem R.bind_assoc {α β γ : Type} (r : R α) (f : α → Hp → R β) (g : β → Hp → R γ) : (r.bind f).bind g = r.bind fun a H => (f a H).bind g := by cases r <;> rfl
theorem RH.keeps {fa : Nat → Addr} {h₀ : Heap} {F : Fz} {σ : List Addr} {H : Hp} {h h' : Heap} (r : RH fa h₀ F σ H h) (k : ∀ b o, h.get? b = some o → h'.get? b = some o) : RH fa h₀ F σ H h' :=
 ⟨r.base, fun b o e => k _ _ (r.le b o e), r.len, r.nod, fun n a xs h1 h2 => let ⟨q, vs, ⟨o, e⟩, rl, hl⟩ := r.cell n a xs h1 h2; ⟨q, vs, ⟨o, k _ _ e⟩, rl, hl⟩⟩
theorem KR.keep {α β : Type} {K : Kx} {l : List Env} {Rep : Fz → List Addr → β → α → Prop} {F : Fz} {σ : List Addr} {H : Hp} {s : Shared} {v : β} {a : α} {Q : β → Shared → Prop} {E : Value → Shared → Prop} {h' : Heap} {tk : Nat}
  (hk : KR K l Rep (.ok a H) F σ s Q E) (rh : RH K.fa K.h₀ F σ H s.heap) (k : ∀ b o, s.heap.get? b = some o → h'.get? b = some o) (rep : Rep F σ v a) : Q v { s with heap := h', toks := tk } :=
 hk v F σ _ (Gr.step k rfl rfl) (rh.keeps k) rep
mutual
theorem RepD.reads {F : Fz} {h : Heap} (le : ∀ b o, F b = some o → h.get? b = some o) : ∀ {v : Value} {x : D}, RepD F v x → ∃ as, Reads h v x as
 | _, _, .none => ⟨_, .none⟩
 | _, _, .bool b => ⟨_, .bool b⟩
 | _, _, .int i t => ⟨_, .int i t⟩
 | _, _, .tup e s r _ => by
  obtain ⟨as, q⟩ := RepL.reads le r
  obtain ⟨n, hd⟩ := s.2
  exact ⟨as, reads_tuple_at (le _ _ e) s.1 hd (by simpa using q)⟩
 | _, _, .list e s r _ => by
  obtain ⟨as, q⟩ := RepL.reads le r
  obtain ⟨n, hd⟩ := s.2
  exact ⟨_, reads_list_at (le _ _ e) s.1 hd (by simpa using q)⟩
theorem RepL.reads {F : Fz} {h : Heap} (le : ∀ b o, F b = some o → h.get? b = some o) : ∀ {vs : List Value} {xs : List D}, RepL F vs xs → ∃ as, ReadsAll h vs xs as
 | _, _, .nil => ⟨_, .nil⟩
 | _, _, .cons a r => by
  obtain ⟨as, q⟩ := RepD.reads le a
  obtain ⟨bs, p⟩ := RepL.reads le r
  exact ⟨_, .cons q p⟩
end
theorem RepD.list_at {F : Fz} {v : Value} {xs : List D} (h : RepD F v (.list xs)) : ∃ a o vs, v = .ref a ∧ F a = some o ∧ Qdz "list" o vs ∧ RepL F vs xs ∧ xs.length ≤ 4194305 := by
 cases h with | list a b c d => exact ⟨_, _, _, rfl, a, b, c, d⟩
theorem RepD.tup_at {F : Fz} {v : Value} {xs : List D} (h : RepD F v (.tuple xs)) : ∃ a o vs, v = .ref a ∧ F a = some o ∧ Qdz "tuple" o vs ∧ RepL F vs xs ∧ xs.length ≤ 4194305 := by
 cases h with | tup a b c d => exact ⟨_, _, _, rfl, a, b, c, d⟩
theorem Qdz.isList {h : Heap} {a : Addr} {o : Obj} {vs : List Value} (s : Qdz "list" o vs) (e : h.get? a = some o) : h.IsList a vs.toArray := ⟨o, e, s.1, s.2⟩
theorem Qdz.isTup {h : Heap} {a : Addr} {o : Obj} {vs : List Value} (s : Qdz "tuple" o vs) (e : h.get? a = some o) : IsTup h a vs.toArray := ⟨o, e, s.1, s.2⟩
section
variable {K : Kx} {n : Nat} {c : Lx} {cl : Qh}
noncomputable def QbZ : COp → CmpOp
 | .eq => .Eq | .ne => .NotEq | .lt => .Lt | .le => .LtE | .gt => .Gt | .ge => .GtE
inductive CmpI (op : COp) (z : Bool) : D → D → Prop
 | int (a b : Int) (h : cmpI op a b = z) : CmpI op z (.int a) (.int b)
 | bool (a b : Bool) (h : cmpQ op (a == b) = some z) : CmpI op z (.bool a) (.bool b)
 | seq (x y : D) (h : cmpS op x y = some z) : CmpI op z x y
theorem Qpn {op : COp} {x y : D} {z : Bool} (h : cmpD op x y = some z) : CmpI op z x y := by
 cases x with
 | int a =>
  cases y with
  | int b => exact .int a b (Option.some.inj h)
  | _ => cases h
 | bool a =>
  cases y with
  | bool b => exact .bool a b h
  | _ => cases h
 | list a =>
  cases y with
  | list b => exact .seq _ _ h
  | _ => cases h
 | tuple a =>
  cases y with
  | tuple b => exact .seq _ _ h
  | _ => cases h
 | _ => cases h
theorem QlV {l : List Env} {A : Around} {F : Fz} {σ : List Addr} {H : Hp} {s : Shared} {op : COp} {x y : D} {z : Bool} {v u : Value} {Q : Value → Shared → Prop} {E : Value → Shared → Prop} (ar : Ar n l A) (rh : RH K.fa K.h₀ F σ H s.heap)
  (hx : RepD F v x) (hy : RepD F u y) (hz : cmpD op x y = some z) (h : Q (.bool z) s) : wpAny (model K.prog K.w) A (compareOp (QbZ op) v u) Q E s := by
 haveI hu : A.units + 64 < cLine := by have := ar.units; lia
 cases Qpn hz with
 | int a b e =>
  subst e
  cases hx; cases hy
  cases op with
  | eq => exact eq_int h
  | ne => exact ne_int h
  | lt => exact lt_int h
  | le => exact le_int h
  | gt => exact gt_int h
  | ge => exact ge_int h
 | bool a b e =>
  cases hx; cases hy
  cases op with
  | eq => cases e; exact eq_bool h
  | ne => cases e; exact ne_bool h
  | _ => cases e
 | seq _ _ e =>
  obtain ⟨as, ra⟩ := hx.reads rh.le
  obtain ⟨bs, rb⟩ := hy.reads rh.le
  unfold cmpS at e
  split at e
  ·rename_i hs
   rw [Bool.and_eq_true] at hs
   cases op with
   | eq => cases e; exact eq_dataH ra rb hs.1 hs.2 hu h
   | ne => cases e; exact ne_dataH ra rb hs.1 hs.2 hu h
   | _ => cases e
  ·cases e
theorem Qsj {op : COp} {a b : PE} {x y : Expr} {o : CmpOp} {pos : Pos} (ho : o = QbZ op) (hm : behindInMarks o y = false) (ha : SE K n c cl a x) (hb : SE K n c cl b y) : SE K n c cl (.cmp op a b) (.Compare x [o] [y] pos) := by
 intro l A env F σ ρ H s Q E ok hk
 subst ho
 refine wpAny_Compare1 (ha l A env F σ ρ H s _ E ok (hk.bind fun va H₁ v₁ F₁ σ₁ s₁ g₁ rh₁ r₁ hk₁ => ?_)) hm
 refine hb l A env F₁ σ₁ ρ H₁ s₁ _ E (ok.grow g₁ rh₁) (hk₁.bind fun vb H₂ v₂ F₂ σ₂ s₂ g₂ rh₂ r₂ hk₂ => ?_)
 obtain ⟨x', e1, hk₃⟩ := hk₂.opt
 obtain ⟨y', e2, hk₄⟩ := hk₃.opt
 obtain ⟨z, HH7⟩ := hk₄.opt
 haveI e3 := HH7.1
 haveI hk₅ := HH7.2
 haveI := Qal e1; subst this
 haveI := Qal e2; subst this
 exact QlV ok.ar rh₂ (r₁.d_inv.mono g₂.fz) r₂.d_inv e3 (hk₅.done' rh₂ (.d (.bool _)))
theorem KR.assoc {α β γ δ : Type} {l : List Env} {Rep : Fz → List Addr → δ → γ → Prop} {r : R α} {f : α → Hp → R β} {g : β → Hp → R γ} {F : Fz} {σ : List Addr} {s : Shared} {Q : δ → Shared → Prop} {E : Value → Shared → Prop}
  (hk : KR K l Rep ((r.bind f).bind g) F σ s Q E) : KR K l Rep (r.bind fun a H => (f a H).bind g) F σ s Q E := R.bind_assoc r f g ▸ hk
theorem KR.assoc2 {α β γ δ ε : Type} {l : List Env} {Rep : Fz → List Addr → ε → δ → Prop} {r : R α} {o : α → Hp → R β} {f : β → Hp → R γ} {g : γ → Hp → R δ} {F : Fz} {σ : List Addr} {s : Shared} {Q : ε → Shared → Prop} {E : Value → Shared → Prop}
  (hk : KR K l Rep ((r.bind fun a H => (o a H).bind f).bind g) F σ s Q E) : KR K l Rep (r.bind fun a H => (o a H).bind fun b H => (f b H).bind g) F σ s Q E := by
 cases r with
 | ok a H => exact KR.assoc (r := o a H) (f := f) (g := g) hk
 | exc H => exact hk
 | stuck => exact hk
theorem KR.bool {l : List Env} {F : Fz} {σ : List Addr} {H : Hp} {s : Shared} {v : V} {Q : Bool → Shared → Prop} {E : Value → Shared → Prop} (hk : KR K l RepB (Qp (Qaq v) H) F σ s Q E) :
  ∃ b, v = .d (.bool b) ∧ KR K l RepB (.ok b H) F σ s Q E := by
 cases e : Qaq v with
 | none => rw [e] at hk; exact hk.elim
 | some b => rw [e] at hk; exact ⟨b, Qab e, hk⟩
theorem Qeb {e : PE} {x : Expr} (he : ∀ env (whole : Sem Value), isTrue x env whole = (do let v ← whole; standAt x.pos; holding [v] (truthy v))) (h : SE K n c cl e x) : ST K n c cl e x := by
 intro l A env F σ ρ H s Q E ok hk
 refine wpAny_isTrue_value (h l A env F σ ρ H s _ E ok (KR.bind (f := fun v H => Qp (Qaq v) H) hk fun v H₁ v₁ F₁ σ₁ s₁ g₁ rh₁ r₁ hk₁ => ?_)) (he _ _)
 obtain ⟨b, rfl, hk₂⟩ := hk₁.bool
 rw [r₁.bool_inv]
 exact wpAny_truthy_bool (hk₂.done' rh₁ rfl)
theorem QrY {op : COp} {a b : PE} {x y : Expr} {o : CmpOp} {pos : Pos} (ho : o = QbZ op) (hm : behindInMarks o y = false) (ha : SE K n c cl a x) (hb : SE K n c cl b y) : ST K n c cl (.cmp op a b) (.Compare x [o] [y] pos) := by
 intro l A env F σ ρ H s Q E ok hk
 subst ho
 refine wpAny_isTrue_Compare1 (ha l A env F σ ρ H s _ E ok (hk.assoc.bind fun va H₁ v₁ F₁ σ₁ s₁ g₁ rh₁ r₁ hk₁ => ?_)) hm
 refine hb l A env F₁ σ₁ ρ H₁ s₁ _ E (ok.grow g₁ rh₁) (hk₁.assoc.bind fun vb H₂ v₂ F₂ σ₂ s₂ g₂ rh₂ r₂ hk₂ => ?_)
 obtain ⟨x', e1, hk₃⟩ := hk₂.assoc.opt
 obtain ⟨y', e2, hk₄⟩ := hk₃.assoc.opt
 obtain ⟨z, HH7⟩ := hk₄.assoc.opt
 haveI e3 := HH7.1
 haveI hk₅ := HH7.2
 haveI := Qal e1; subst this
 haveI := Qal e2; subst this
 exact QlV ok.ar rh₂ (r₁.d_inv.mono g₂.fz) r₂.d_inv e3 (wpAny_truthy_bool (KR.done' (a := z) hk₅ rh₂ rfl))
theorem KR.test {α β : Type} {l : List Env} {Rep : Fz → List Addr → β → α → Prop} {e : PE} {f : Bool → Hp → R α} {ρ : Rho} {H : Hp} {F : Fz} {σ : List Addr} {s : Shared} {Q : β → Shared → Prop} {Q₁ : Bool → Shared → Prop} {E : Value → Shared → Prop}
  (hk : KR K l Rep ((evE cl e ρ H).bind fun x H => (Qp (Qaq x) H).bind f) F σ s Q E)
  (h : ∀ b H₁ F₁ σ₁ s₁, Gr [] F σ s F₁ σ₁ s₁ → RH K.fa K.h₀ F₁ σ₁ H₁ s₁.heap → KR K l Rep (f b H₁) F₁ σ₁ s₁ Q E → Q₁ b s₁) : KR K l RepB (evT cl e ρ H) F σ s Q₁ E := by
 refine KR.bind (f := f) (Rep₂ := Rep) (Q := Q) ?_ fun b H₁ b' F₁ σ₁ s₁ g₁ rh₁ r₁ hk₁ => ?_
 ·unfold evT
  cases e1 : evE cl e ρ H with
  | ok v H' => rw [e1] at hk; exact hk
  | exc H' => rw [e1] at hk; exact hk
  | stuck => rw [e1] at hk; exact hk
 ·haveI : b' = b := r₁
  subst this
  exact h b' H₁ F₁ σ₁ s₁ g₁ rh₁ hk₁
theorem QsM {a : PE} {x : Expr} {pos : Pos} (ha : ST K n c cl a x) : ST K n c cl (.not a) (.UnaryOp .Not x pos) := by
 intro l A env F σ ρ H s Q E ok hk
 exact wpAny_isTrue_Not (ha l A env F σ ρ H s _ E ok (KR.test hk.assoc2 fun b H₁ F₁ σ₁ s₁ g₁ rh₁ hk₁ => KR.done' (a := !b) hk₁ rh₁ rfl))
theorem Qsf {a : PE} {x : Expr} {pos : Pos} (ha : SE K n c cl a x) : SE K n c cl (.not a) (.UnaryOp .Not x pos) := by
 intro l A env F σ ρ H s Q E ok hk
 refine wpAny_UnaryOp (ha l A env F σ ρ H s _ E ok (hk.bind fun v H₁ v₁ F₁ σ₁ s₁ g₁ rh₁ r₁ hk₁ => ?_))
 obtain ⟨b, e, hk₂⟩ := hk₁.opt
 haveI := Qab e; subst this
 rw [r₁.bool_inv]
 exact not_value (wpAny_truthy_bool (hk₂.done' rh₁ (.d (.bool _))))
theorem Qqp {a : PE} {x : Expr} {pos : Pos} (ha : SE K n c cl a x) : SE K n c cl (.neg a) (.UnaryOp .USub x pos) := by
 intro l A env F σ ρ H s Q E ok hk
 refine wpAny_UnaryOp (ha l A env F σ ρ H s _ E ok (hk.bind fun v H₁ v₁ F₁ σ₁ s₁ g₁ rh₁ r₁ hk₁ => ?_))
 obtain ⟨b, e, hk₂⟩ := hk₁.opt
 haveI := Qw e; subst this
 obtain ⟨t, rfl⟩ := r₁.int_inv
 exact PyProof.Rows.neg_int (hk₂.done _ rh₁ (.d (.int _ _)))
theorem Qsv {a b : PE} {x y : Expr} {pos : Pos} (ha : SE K n c cl a x) (hb : SE K n c cl b y) : SE K n c cl (.and a b) (.BoolOp .And [x, y] pos) := by
 intro l A env F σ ρ H s Q E ok hk
 refine wpAny_And2 (ha l A env F σ ρ H s _ E ok (hk.bind fun v H₁ v₁ F₁ σ₁ s₁ g₁ rh₁ r₁ hk₁ => ?_))
 obtain ⟨z, e, hk₂⟩ := hk₁.opt
 haveI := Qab e; subst this
 rw [r₁.bool_inv]
 refine wpAny_truthy_bool ?_
 cases z with
 | false => exact hk₂.done' rh₁ (.d (.bool _))
 | true =>
  refine hb l A env F₁ σ₁ ρ H₁ s₁ _ E (ok.grow g₁ rh₁) (KR.bind hk₂ fun v H₃ v₃ F₃ σ₃ s₃ g₃ rh₃ r₃ hk₃ => ?_)
  obtain ⟨z, e, hk₄⟩ := hk₃.opt
  haveI := Qab e; subst this
  exact hk₄.done' rh₃ r₃
theorem QtP {a b : PE} {x y : Expr} {pos : Pos} (ha : SE K n c cl a x) (hb : SE K n c cl b y) : SE K n c cl (.or a b) (.BoolOp .Or [x, y] pos) := by
 intro l A env F σ ρ H s Q E ok hk
 refine wpAny_Or2 (ha l A env F σ ρ H s _ E ok (hk.bind fun v H₁ v₁ F₁ σ₁ s₁ g₁ rh₁ r₁ hk₁ => ?_))
 obtain ⟨z, e, hk₂⟩ := hk₁.opt
 haveI := Qab e; subst this
 rw [r₁.bool_inv]
 refine wpAny_truthy_bool ?_
 cases z with
 | true => exact hk₂.done' rh₁ (.d (.bool _))
 | false =>
  refine hb l A env F₁ σ₁ ρ H₁ s₁ _ E (ok.grow g₁ rh₁) (KR.bind hk₂ fun v H₃ v₃ F₃ σ₃ s₃ g₃ rh₃ r₃ hk₃ => ?_)
  obtain ⟨z, e, hk₄⟩ := hk₃.opt
  haveI := Qab e; subst this
  exact hk₄.done' rh₃ r₃
theorem QsI {a b : PE} {x y : Expr} {pos : Pos} (ha : ST K n c cl a x) (hb : ST K n c cl b y) : ST K n c cl (.and a b) (.BoolOp .And [x, y] pos) := by
 intro l A env F σ ρ H s Q E ok hk
 refine wpAny_isTrue_BoolOp (wpAny_allTrue_And_cons (ha l A env F σ ρ H s _ E ok (KR.test hk.assoc2 fun z H₁ F₁ σ₁ s₁ g₁ rh₁ hk₁ => ?_)))
 cases z with
 | false => exact KR.done' (a := false) hk₁ rh₁ rfl
 | true =>
  refine wpAny_allTrue_And_cons (hb l A env F₁ σ₁ ρ H₁ s₁ _ E (ok.grow g₁ rh₁) (KR.test hk₁.assoc2 fun z H₂ F₂ σ₂ s₂ g₂ rh₂ hk₂ => ?_))
  haveI hq : Q z s₂ := KR.done' (a := z) hk₂ rh₂ rfl
  cases z with
  | true => exact wpAny_allTrue_And_nil hq
  | false => exact hq
theorem Qub {a b : PE} {x y : Expr} {pos : Pos} (ha : ST K n c cl a x) (hb : ST K n c cl b y) : ST K n c cl (.or a b) (.BoolOp .Or [x, y] pos) := by
 intro l A env F σ ρ H s Q E ok hk
 refine wpAny_isTrue_BoolOp (wpAny_allTrue_Or_cons (ha l A env F σ ρ H s _ E ok (KR.test hk.assoc2 fun z H₁ F₁ σ₁ s₁ g₁ rh₁ hk₁ => ?_)))
 cases z with
 | true => exact KR.done' (a := true) hk₁ rh₁ rfl
 | false =>
  refine wpAny_allTrue_Or_cons (hb l A env F₁ σ₁ ρ H₁ s₁ _ E (ok.grow g₁ rh₁) (KR.test hk₁.assoc2 fun z H₂ F₂ σ₂ s₂ g₂ rh₂ hk₂ => ?_))
  haveI hq : Q z s₂ := KR.done' (a := z) hk₂ rh₂ rfl
  cases z with
  | false => exact wpAny_allTrue_Or_nil hq
  | true => exact hq
theorem Qti {c' a b : PE} {z x y : Expr} {pos : Pos} (hc : ST K n c cl c' z) (ha : SE K n c cl a x) (hb : SE K n c cl b y) : SE K n c cl (.ite c' a b) (.IfExp z x y pos) := by
 intro l A env F σ ρ H s Q E ok hk
 refine wpAny_IfExp (hc l A env F σ ρ H s _ E ok (KR.test hk fun v H₁ F₁ σ₁ s₁ g₁ rh₁ hk₁ => ?_))
 cases v with
 | true => exact ha l A env F₁ σ₁ ρ H₁ s₁ _ E (ok.grow g₁ rh₁) hk₁
 | false => exact hb l A env F₁ σ₁ ρ H₁ s₁ _ E (ok.grow g₁ rh₁) hk₁
theorem Qmr {a : PE} {x : Expr} {j : Nat} {p pos : Pos} (ha : SE K n c cl a x) : SE K n c cl (.notNone a) (.Compare x [.IsNot] [.Constant .none j p] pos) := by
 intro l A env F σ ρ H s Q E ok hk
 refine wpAny_Compare1 (ha l A env F σ ρ H s _ E ok (hk.bind fun va H₁ v₁ F₁ σ₁ s₁ g₁ rh₁ r₁ hk₁ => ?_)) (by rfl)
 refine wpAny_Constant_none (isNot_none ?_)
 cases va with
 | d x =>
  have r := r₁.d_inv
  cases r <;> exact hk₁.done' rh₁ (.d (.bool _))
 | _ => exact hk₁.elim
theorem QmD {a : PE} {x : Expr} {j : Nat} {p pos : Pos} (ha : SE K n c cl a x) : ST K n c cl (.notNone a) (.Compare x [.IsNot] [.Constant .none j p] pos) := by
 intro l A env F σ ρ H s Q E ok hk
 refine wpAny_isTrue_Compare1 (ha l A env F σ ρ H s _ E ok (hk.assoc.bind fun va H₁ v₁ F₁ σ₁ s₁ g₁ rh₁ r₁ hk₁ => ?_)) (by rfl)
 refine wpAny_Constant_none (isNot_none ?_)
 cases va with
 | d x =>
  have r := r₁.d_inv
  cases r with
  | none => exact wpAny_truthy_bool (KR.done' (a := false) hk₁ rh₁ rfl)
  | bool b => exact wpAny_truthy_bool (KR.done' (a := true) hk₁ rh₁ rfl)
  | int i t => exact wpAny_truthy_bool (KR.done' (a := true) hk₁ rh₁ rfl)
  | tup a b c d => exact wpAny_truthy_bool (KR.done' (a := true) hk₁ rh₁ rfl)
  | list a b c d => exact wpAny_truthy_bool (KR.done' (a := true) hk₁ rh₁ rfl)
 | _ => exact hk₁.elim
end
noncomputable def Fz.put (F : Fz) (a : Addr) (o : Obj) : Fz := fun b => if b = a then some o else F b
theorem Fz.put_le {F : Fz} {a : Addr} {o : Obj} (h : F a = none) : FLe F (F.put a o) := by
 intro b o' e
 unfold Fz.put
 split
 ·rename_i q; subst q; rw [h] at e; cases e
 ·exact e
theorem Fz.put_self (F : Fz) (a : Addr) (o : Obj) : F.put a o a = some o := by simp [Fz.put]
theorem Gr.put {own : List Addr} {F F' : Fz} {σ σ' : List Addr} {s s' : Shared} {a : Addr} {o : Obj} (g : Gr own F σ s F' σ' s') (hn : F' a = none) (ha : s.heap.get? a = none) : Gr own F σ s (F'.put a o) σ' s' :=
 ⟨g.live, g.keep, g.fz.trans (Fz.put_le hn), fun b o' e q => by
  haveI hne : b ≠ a := fun x => by subst x; rw [ha] at e; cases e
  simp only [Fz.put, hne, if_false]; exact g.nf b o' e q, g.pre, g.gens, g.os⟩
theorem RH.put {fa : Nat → Addr} {h₀ : Heap} {F : Fz} {σ : List Addr} {H : Hp} {h : Heap} {a : Addr} {o : Obj} (r : RH fa h₀ F σ H h) (e : h.get? a = some o) (hn : F a = none) (hσ : a ∉ σ) : RH fa h₀ (F.put a o) σ H h :=
 ⟨fun b o' q => Fz.put_le hn b o' (r.base b o' q), fun b o' q => by
  unfold Fz.put at q
  split at q
  ·rename_i x; subst x; cases q; exact e
  ·exact r.le b o' q, r.len, r.nod, fun n b xs h1 h2 => by
  obtain ⟨q, vs, HH6⟩ := r.cell n b xs h1 h2
  haveI hl := HH6.1
  haveI rl := HH6.2.1
  haveI hle := HH6.2.2
  haveI hne : b ≠ a := fun x => by subst x; exact hσ (List.mem_of_getElem? h1)
  exact ⟨by simp only [Fz.put, hne, if_false]; exact q, vs, hl, rl.mono (Fz.put_le hn), hle⟩⟩
theorem RH.cells {fa : Nat → Addr} {h₀ : Heap} {F : Fz} {σ : List Addr} {H : Hp} {h : Heap} {a : Addr} {vs : List Value} {xs : List D} (r : RH fa h₀ F σ H h) (e : h.PlainList a vs.toArray) (hn : F a = none) (hσ : a ∉ σ) (rl : RepL F vs xs) (hl : xs.length ≤ 4194305) : RH fa h₀ F (σ ++ [a]) (H ++ [xs]) h :=
 ⟨r.base, r.le, by simp [r.len], by
  rw [List.nodup_append]; exact ⟨r.nod, by simp, fun x hx y hy q => by simp at hy; subst hy; subst q; exact hσ hx⟩, fun n b ys h1 h2 => by
  have hlen := r.len
  by_cases hlt : n < σ.length
  ·rw [List.getElem?_append_left hlt] at h1
   rw [List.getElem?_append_left (hlen ▸ hlt)] at h2
   exact r.cell n b ys h1 h2
  ·haveI h1' := (List.getElem?_eq_some_iff.mp h1).1
   simp only [List.length_append, List.length_singleton] at h1'
   haveI hn' : n = σ.length := by lia
   subst hn'
   rw [List.getElem?_append_right (Nat.le_refl _)] at h1
   rw [hlen, List.getElem?_append_right (Nat.le_refl _)] at h2
   simp at h1 h2
   subst h1; subst h2
   exact ⟨hn, vs, e, rl, hl⟩⟩
noncomputable def KF (K : Kx) (l : List Env) (r : R (List D)) (F : Fz) (σ : List Addr) (s : Shared) (Q : Value → Shared → Prop) (E : Value → Shared → Prop) : Prop :=
 match r with
 | .ok xs H' => ∀ a (vs : List Value) F' σ' s', Gr [] F σ s F' σ' s' → RH K.fa K.h₀ F' σ' H' s'.heap → s.heap.get? a = none → s'.heap.PlainList a vs.toArray → F' a = none → a ∉ σ' → RepL F' vs xs → xs.length ≤ 4194305 → Q (.ref a) s'
 | .exc H' => ∀ ev s', XE K l F σ H' s ev s' → E ev s'
 | .stuck => False
theorem KF.shift {K : Kx} {l : List Env} {r : R (List D)} {F F₁ : Fz} {σ σ₁ : List Addr} {s s₁ : Shared} {Q : Value → Shared → Prop} {E : Value → Shared → Prop}
  (h : KF K l r F σ s Q E) (g : Gr [] F σ s F₁ σ₁ s₁) : KF K l r F₁ σ₁ s₁ Q E := by
 cases r with
 | ok a H => exact fun a vs F' σ' s' g' rh hn => h a vs F' σ' s' (g.trans g') rh (g.dead hn)
 | exc H => exact fun ev s' x => h ev s' (x.shift g)
 | stuck => exact h
theorem KF.bind {α β : Type} {K : Kx} {l : List Env} {Rep₁ : Fz → List Addr → β → α → Prop} {r : R α} {f : α → Hp → R (List D)} {F : Fz} {σ : List Addr} {s : Shared} {Q : Value → Shared → Prop} {Q₁ : β → Shared → Prop} {E : Value → Shared → Prop}
  (hk : KF K l (r.bind f) F σ s Q E)
  (h : ∀ a H₁ v F₁ σ₁ s₁, Gr [] F σ s F₁ σ₁ s₁ → RH K.fa K.h₀ F₁ σ₁ H₁ s₁.heap → Rep₁ F₁ σ₁ v a → KF K l (f a H₁) F₁ σ₁ s₁ Q E → Q₁ v s₁) : KR K l Rep₁ r F σ s Q₁ E := by
 cases r with
 | ok a H => exact fun v F' σ' s' g rh rep => h a H v F' σ' s' g rh rep (KF.shift (r := f a H) hk g)
 | exc H => exact hk
 | stuck => exact hk
theorem KF.opt {γ : Type} {K : Kx} {l : List Env} {o : Option γ} {f : γ → Hp → R (List D)} {F : Fz} {σ : List Addr} {H : Hp} {s : Shared} {Q : Value → Shared → Prop} {E : Value → Shared → Prop}
  (hk : KF K l ((Qp o H).bind f) F σ s Q E) : ∃ a, o = some a ∧ KF K l (f a H) F σ s Q E := by
 cases o with
 | none => exact hk.elim
 | some a => exact ⟨a, rfl, hk⟩
theorem KF.laid {K : Kx} {l : List Env} {xs : List D} {F : Fz} {σ : List Addr} {H : Hp} {s : Shared} {Q : Value → Shared → Prop} {E : Value → Shared → Prop} {vs : List Value} {h' : Heap} {tk : Nat} {a : Addr}
  (hk : KF K l (.ok xs H) F σ s Q E) (rh : RH K.fa K.h₀ F σ H s.heap) (k : ∀ b o, s.heap.get? b = some o → h'.get? b = some o) (ha : s.heap.get? a = none) (hl : h'.PlainList a vs.toArray) (rl : RepL F vs xs) (hle : xs.length ≤ 4194305) :
  Q (.ref a) { s with heap := h', toks := tk } :=
 hk a vs F σ _ (Gr.step k rfl rfl) (rh.keeps k) ha hl (rh.fnone ha) (fun hm => by obtain ⟨vs', o, e, _⟩ := rh.isList hm; rw [ha] at e; cases e) rl hle
noncomputable def SF (K : Kx) (n : Nat) (c : Lx) (cl : Qh) (f : PF) (x : Expr) : Prop :=
 ∀ (l : List Env) (A : Around) (env : Env) (F : Fz) (σ : List Addr) (ρ : Rho) (H : Hp) (s : Shared) (Q : Value → Shared → Prop) (E : Value → Shared → Prop),
  Ok K n l A c env F σ ρ H s → KF K l (evF cl f ρ H) F σ s Q E → wpAny (model K.prog K.w) A (eval x env) Q E s
noncomputable def Qcg : Expr → Bool
 | .Starred .. => false
 | _ => true
theorem QmO {x : Expr} (h : Qcg x = true) (rest : List Expr) (env : Env) : starEach (x :: rest) env = (false, eval x env) :: starEach rest env := by
 cases x <;> first | rfl | cases h
theorem Qak {x : Expr} (h : Qcg x = true) (rest : List Expr) (env : Env) (pos : Pos) : backTo pos (starEach (x :: rest) env) = (false, eval x env) :: backTo pos (starEach rest env) := by
 rw [QmO h]; rfl
noncomputable def Qm : List Expr → Bool
 | [] => true
 | x :: r => Qcg x && Qm r
theorem Qco : ∀ {xs : List Expr}, Qm xs = true → ∀ (env : Env) (pos : Pos), (backTo pos (starEach xs env)).any (·.1) = false
 | [], _, _, _ => rfl
 | x :: r, h, env, pos => by
  simp only [Qm, Bool.and_eq_true] at h
  rw [Qak h.1, List.any_cons, Qco h.2]; rfl
noncomputable def SEs (K : Kx) (n : Nat) (c : Lx) (cl : Qh) (es : PEs) (xs : List Expr) : Prop :=
 ∀ (l : List Env) (A : Around) (env : Env) (F : Fz) (σ : List Addr) (ρ : Rho) (H : Hp) (s : Shared) (Q : List Value → Shared → Prop) (E : Value → Shared → Prop) (pos : Pos),
  Ok K n l A c env F σ ρ H s → KR K l (RepVs K.fa) (evEs cl es ρ H) F σ s Q E → wpAny (model K.prog K.w) A (spliced (backTo pos (starEach xs env))) Q E s
section
variable {K : Kx} {n : Nat} {c : Lx} {cl : Qh}
theorem Qrw : SEs K n c cl .nil [] := by
 intro l A env F σ ρ H s Q E pos ok hk
 exact Calls.spliced_nil (hk.done' ok.rh .nil)
theorem Qpo {e : PE} {es : PEs} {x : Expr} {xs : List Expr} (hn : Qcg x = true) (he : SE K n c cl e x) (hes : SEs K n c cl es xs) : SEs K n c cl (.cons e es) (x :: xs) := by
 intro l A env F σ ρ H s Q E pos ok hk
 rw [Qak hn]
 refine Calls.spliced_cons (he l A env F σ ρ H s _ E ok (hk.bind fun v H₁ v₁ F₁ σ₁ s₁ g₁ rh₁ r₁ hk₁ => ?_))
 refine hes l A env F₁ σ₁ ρ H₁ s₁ _ E pos (ok.grow g₁ rh₁) (hk₁.bind fun vs H₂ v₂ F₂ σ₂ s₂ g₂ rh₂ r₂ hk₂ => ?_)
 exact hk₂.done' rh₂ (.cons (r₁.mono g₂.fz g₂.toPre) r₂)
theorem Qgi (B : Bs K) {l : List Env} {A : Around} {env : Env} {F : Fz} {σ : List Addr} {ρ : Rho} {H : Hp} {s : Shared} {Q : Value → Shared → Prop} {E : Value → Shared → Prop} {f : Str} {id : String} {x : Expr} {xs : List Expr} {p pos : Pos}
  (ok : Ok K n l A c env F σ ρ H s) (hg : QF c f = true) (hb : QbG f = some (.builtin id)) (hs : Qm (x :: xs) = true)
  (h : wpAny (model K.prog K.w) A (spliced (backTo pos (starEach (x :: xs) env))) (fun vs s₁ => wpAny (model K.prog K.w) A (call (.builtin id) vs) Q E s₁) E s) :
  wpAny (model K.prog K.w) A (eval (.Call (.Name f p) (x :: xs) [] pos) env) Q E s := by
 refine wpAny_Call_Name_kw (QdD B ok (Qbj hg) hb (Qbo hg) ?_)
 haveI hp := Qco hs env pos
 haveI h2 : Qcg x = true := by simp only [Qm, Bool.and_eq_true] at hs; exact hs.1
 rw [Qak h2] at h hp ⊢
 exact Calls.callWith_builtin hp (Calls.evalArgs_plain h)
theorem Qhi (B : Bs K) {l : List Env} {A : Around} {env : Env} {F : Fz} {σ : List Addr} {ρ : Rho} {H : Hp} {s : Shared} {Q : Value → Shared → Prop} {E : Value → Shared → Prop} {f : Str} {id : String} {x : Expr} {xs : List Expr} {p pos : Pos}
  (ok : Ok K n l A c env F σ ρ H s) (hg : QF c f = true) (hb : QbG f = some (.type id)) (hs : Qm (x :: xs) = true)
  (h : wpAny (model K.prog K.w) A (spliced (backTo pos (starEach (x :: xs) env))) (fun vs s₁ => wpAny (model K.prog K.w) A (call (.type id) vs) Q E s₁) E s) :
  wpAny (model K.prog K.w) A (eval (.Call (.Name f p) (x :: xs) [] pos) env) Q E s := by
 refine wpAny_Call_Name_kw (QdD B ok (Qbj hg) hb (Qbo hg) ?_)
 haveI hp := Qco hs env pos
 haveI h2 : Qcg x = true := by as_aux_lemma => simp only [Qm, Bool.and_eq_true] at hs; exact hs.1
 rw [Qak h2] at h hp ⊢
 exact PyProof.Rows.callWith_type hp (Calls.evalArgs_plain h)
theorem Qhq {A : Around} {env : Env} {s : Shared} {x : Expr} {pos : Pos} {Q : List Value → Shared → Prop} {E : Value → Shared → Prop} (hs : Qm [x] = true)
  (h : wpAny (model K.prog K.w) A (eval x env) (fun v s₁ => Q [v] s₁) E s) : wpAny (model K.prog K.w) A (spliced (backTo pos (starEach [x] env))) Q E s := by
 simp only [Qm, Bool.and_eq_true] at hs
 rw [Qak hs.1]
 exact Calls.spliced_cons (wpAny_mono h (fun _ _ q => Calls.spliced_nil q) fun _ _ e => e)
theorem Qps {A : Around} {env : Env} {s : Shared} {x y : Expr} {pos : Pos} {Q : List Value → Shared → Prop} {E : Value → Shared → Prop} (hs : Qm [x, y] = true)
  (h : wpAny (model K.prog K.w) A (eval x env) (fun v s₁ => wpAny (model K.prog K.w) A (eval y env) (fun u s₂ => Q [v, u] s₂) E s₁) E s) : wpAny (model K.prog K.w) A (spliced (backTo pos (starEach [x, y] env))) Q E s := by
 haveI hs' := hs
 simp only [Qm, Bool.and_eq_true] at hs
 rw [Qak hs.1]
 exact Calls.spliced_cons (wpAny_mono h (fun v _ q => Qhq (by simp only [Qm, Bool.and_eq_true]; exact hs.2) q) fun _ _ e => e)
theorem Qtc {A : Around} {env : Env} {s : Shared} {x y z : Expr} {pos : Pos} {Q : List Value → Shared → Prop} {E : Value → Shared → Prop} (hs : Qm [x, y, z] = true)
  (h : wpAny (model K.prog K.w) A (eval x env) (fun v s₁ => wpAny (model K.prog K.w) A (eval y env) (fun u s₂ => wpAny (model K.prog K.w) A (eval z env) (fun t s₃ => Q [v, u, t] s₃) E s₂) E s₁) E s) :
  wpAny (model K.prog K.w) A (spliced (backTo pos (starEach [x, y, z] env))) Q E s := by
 simp only [Qm, Bool.and_eq_true] at hs
 rw [Qak hs.1]
 exact Calls.spliced_cons (wpAny_mono h (fun v _ q => Qps (by simp only [Qm, Bool.and_eq_true]; exact hs.2) q) fun _ _ e => e)
theorem QjG {F : Fz} {σ : List Addr} {H : Hp} {h : Heap} {v : Value} {a : V} {xs : List D} (rh : RH K.fa K.h₀ F σ H h) (r : RepV K.fa F σ v a) (e : Qhr H a = some xs) :
  ∃ ad vs, v = .ref ad ∧ (h.IsList ad vs.toArray ∨ IsTup h ad vs.toArray) ∧ RepL F vs xs ∧ xs.length ≤ 4194305 := by
 cases a with
 | d x =>
  haveI r := r.d_inv
  cases x <;> simp only [Qhr, Option.some.injEq, reduceCtorEq] at e
  ·subst e; obtain ⟨a, o, vs, rfl, e1, e2, e3, e4⟩ := r.list_at; exact ⟨a, vs, rfl, .inl (e2.isList (rh.le _ _ e1)), e3, e4⟩
  ·subst e; obtain ⟨a, o, vs, rfl, e1, e2, e3, e4⟩ := r.tup_at; exact ⟨a, vs, rfl, .inr (e2.isTup (rh.le _ _ e1)), e3, e4⟩
 | cell k =>
  cases r with
  | cell hσ =>
   obtain ⟨_, vs, HH11⟩ := rh.cell k _ xs hσ e
   haveI e2 := HH11.1
   haveI e3 := HH11.2.1
   haveI e4 := HH11.2.2
   exact ⟨_, vs, rfl, .inl e2.isList, e3, e4⟩
 | _ => simp [Qhr] at e
theorem Qas {F : Fz} {σ : List Addr} {H : Hp} {h : Heap} {v : Value} {a : V} {xs : List D} (rh : RH K.fa K.h₀ F σ H h) (r : RepV K.fa F σ v a) (e : Qbk H a = some xs) :
  ∃ ad vs, v = .ref ad ∧ h.IsList ad vs.toArray ∧ RepL F vs xs ∧ xs.length ≤ 4194305 := by
 cases a with
 | d x =>
  have r := r.d_inv
  cases x <;> simp only [Qbk, Option.some.injEq, reduceCtorEq] at e
  ·subst e; obtain ⟨a, o, vs, rfl, e1, e2, e3, e4⟩ := r.list_at; exact ⟨a, vs, rfl, e2.isList (rh.le _ _ e1), e3, e4⟩
 | cell k =>
  cases r with
  | cell hσ =>
   obtain ⟨_, vs, HH10⟩ := rh.cell k _ xs hσ e
   haveI e2 := HH10.1
   haveI e3 := HH10.2.1
   haveI e4 := HH10.2.2
   exact ⟨_, vs, rfl, e2.isList, e3, e4⟩
 | _ => simp [Qbk] at e
theorem Qtg (B : Bs K) {a : PE} {f : Str} {x : Expr} {p pos : Pos} (hg : QF c f = true) (hb : QbG f = some (.builtin "len")) (hs : Qm [x] = true) (ha : SE K n c cl a x) : SE K n c cl (.len a) (.Call (.Name f p) [x] [] pos) := by
 intro l A env F σ ρ H s Q E ok hk
 refine Qgi B ok hg hb hs (Qhq hs (ha l A env F σ ρ H s _ E ok (hk.bind fun v H₁ v₁ F₁ σ₁ s₁ g₁ rh₁ r₁ hk₁ => ?_)))
 obtain ⟨xs, HH3⟩ := hk₁.opt
 haveI e := HH3.1
 haveI hk₂ := HH3.2
 obtain ⟨ad, vs, rfl, HH6⟩ := QjG rh₁ r₁ e
 haveI hh := HH6.1
 haveI rl := HH6.2.1
 haveI hle := HH6.2.2
 have e2 : ((vs.toArray.size : Nat) : Int) = xs.length := by simp [rl.length]
 haveI fit : ((vs.toArray.size : Nat) : Int) < 2 ^ 63 := by rw [e2]; lia
 rcases hh with hh | hh
 ·refine Calls.call_len_list hh fit ?_
  rw [e2]; exact hk₂.done _ rh₁ (.d (.int _ _))
 ·refine PyProof.Rows.len_tuple hh fit ?_
  rw [e2]; exact hk₂.done _ rh₁ (.d (.int _ _))
theorem QsU (B : Bs K) {a : PE} {f : Str} {x : Expr} {p pos : Pos} (hg : QF c f = true) (hb : QbG f = some (.builtin "abs")) (hs : Qm [x] = true) (ha : SE K n c cl a x) : SE K n c cl (.abs a) (.Call (.Name f p) [x] [] pos) := by
 intro l A env F σ ρ H s Q E ok hk
 refine Qgi B ok hg hb hs (Qhq hs (ha l A env F σ ρ H s _ E ok (hk.bind fun v H₁ v₁ F₁ σ₁ s₁ g₁ rh₁ r₁ hk₁ => ?_)))
 obtain ⟨i, e, hk₂⟩ := hk₁.opt
 haveI := Qw e; subst this
 obtain ⟨t, rfl⟩ := r₁.int_inv
 refine call_abs_int fun u tk => ?_
 haveI e2 : (if i < 0 then -i else i) = (i.natAbs : Int) := by split <;> omega
 rw [e2]; exact hk₂.done _ rh₁ (.d (.int _ _))
theorem QpF (B : Bs K) {a : PE} {f : Str} {x : Expr} {p pos : Pos} (hg : QF c f = true) (hb : QbG f = some (.type "int")) (hs : Qm [x] = true) (ha : SE K n c cl a x) : SE K n c cl (.toInt a) (.Call (.Name f p) [x] [] pos) := by
 intro l A env F σ ρ H s Q E ok hk
 refine Qhi B ok hg hb hs (Qhq hs (ha l A env F σ ρ H s _ E ok (hk.bind fun v H₁ v₁ F₁ σ₁ s₁ g₁ rh₁ r₁ hk₁ => ?_)))
 obtain ⟨i, e, hk₂⟩ := hk₁.opt
 haveI := Qw e; subst this
 obtain ⟨t, rfl⟩ := r₁.int_inv
 exact call_int_int (hk₂.done' rh₁ (.d (.int _ _)))
theorem Qsh (B : Bs K) {a b : PE} {f : Str} {x y : Expr} {p pos : Pos} (hg : QF c f = true) (hb : QbG f = some (.builtin "min")) (hs : Qm [x, y] = true) (ha : SE K n c cl a x) (hb' : SE K n c cl b y) : SE K n c cl (.min a b) (.Call (.Name f p) [x, y] [] pos) := by
 intro l A env F σ ρ H s Q E ok hk
 refine Qgi B ok hg hb hs (Qps hs (ha l A env F σ ρ H s _ E ok (hk.bind fun v H₁ v₁ F₁ σ₁ s₁ g₁ rh₁ r₁ hk₁ => ?_)))
 refine hb' l A env F₁ σ₁ ρ H₁ s₁ _ E (ok.grow g₁ rh₁) (hk₁.bind fun v H₂ v₂ F₂ σ₂ s₂ g₂ rh₂ r₂ hk₂ => ?_)
 obtain ⟨i, e, hk₃⟩ := hk₂.opt
 haveI := Qw e; subst this
 obtain ⟨j, e, hk₄⟩ := hk₃.opt
 haveI := Qw e; subst this
 obtain ⟨t, rfl⟩ := r₁.int_inv
 obtain ⟨u, rfl⟩ := r₂.int_inv
 refine min_two_ints ok.ar.handled fun h' tk k => ?_
 refine hk₄.keep rh₂ k ?_
 by_cases hji : j < i
 ·rw [if_pos hji, if_pos hji]; exact .d (.int _ _)
 ·rw [if_neg hji, if_neg hji]; exact .d (.int _ _)
theorem Qjb {F : Fz} : ∀ {vs : List Value} {xs : List D} {is : List Int}, RepL F vs xs → QeX xs = some is → IntsAre vs is
 | _, _, _, .nil, h => by simp [QeX] at h; subst h; exact .nil
 | _, _, _, .cons (x := x) a r, h => by
  cases x <;> simp only [QeX, reduceCtorEq] at h
  obtain ⟨is, e, rfl⟩ := Option.map_eq_some_iff.mp h
  cases a
  exact .cons _ _ (Qjb r e)
theorem Qsm (B : Bs K) {a : PE} {f : Str} {x : Expr} {p pos : Pos} (hg : QF c f = true) (hb : QbG f = some (.builtin "sum")) (hs : Qm [x] = true) (ha : SE K n c cl a x) : SE K n c cl (.sum a) (.Call (.Name f p) [x] [] pos) := by
 intro l A env F σ ρ H s Q E ok hk
 refine Qgi B ok hg hb hs (Qhq hs (ha l A env F σ ρ H s _ E ok (hk.bind fun v H₁ v₁ F₁ σ₁ s₁ g₁ rh₁ r₁ hk₁ => ?_)))
 obtain ⟨is, HH3⟩ := hk₁.opt
 haveI e := HH3.1
 haveI hk₂ := HH3.2
 obtain ⟨xs, HH6⟩ := Option.bind_eq_some_iff.mp e
 haveI e1 := HH6.1
 haveI e2 := HH6.2
 obtain ⟨ad, vs, rfl, HH9⟩ := Qas rh₁ r₁ e1
 haveI hh := HH9.1
 haveI rl := HH9.2.1
 haveI hle := HH9.2.2
 haveI hi := Qjb rl e2
 obtain ⟨ys, hys⟩ := hi.allInts.items
 haveI hh' : s₁.heap.IsList ad (intItems ys) := hys ▸ hh
 refine sum_intListG ok.ar.handled hh' fun h' tk t' k => ?_
 haveI en : preSum (numAt ys) ys.size = is.sum := by
  rw [preSum_eq, List.take_of_length_le (by simp), ← nums_intItems, ← hys]
  show (numsOf vs.toArray.toList).sum = _
  rw [show vs.toArray.toList = vs from rfl, hi.numsOf]
 rw [en]
 exact hk₂.keep rh₁ k (.d (.int _ _))
theorem QgT {F : Fz} : ∀ {vs : List Value} {xs : List D} {is : List Bool}, RepL F vs xs → Qcs xs = some is → vs = is.map Value.bool
 | _, _, _, .nil, h => by simp [Qcs] at h; subst h; rfl
 | _, _, _, .cons (x := x) a r, h => by
  cases x <;> simp only [Qcs, reduceCtorEq] at h
  obtain ⟨is, e, rfl⟩ := Option.map_eq_some_iff.mp h
  cases a
  rw [List.map_cons, QgT r e]
theorem Qqv (B : Bs K) {a : PE} {f : Str} {x : Expr} {p pos : Pos} (hg : QF c f = true) (hb : QbG f = some (.builtin "any")) (hs : Qm [x] = true) (ha : SE K n c cl a x) : SE K n c cl (.any a) (.Call (.Name f p) [x] [] pos) := by
 intro l A env F σ ρ H s Q E ok hk
 refine Qgi B ok hg hb hs (Qhq hs (ha l A env F σ ρ H s _ E ok (hk.bind fun v H₁ v₁ F₁ σ₁ s₁ g₁ rh₁ r₁ hk₁ => ?_)))
 obtain ⟨is, HH3⟩ := hk₁.opt
 haveI e := HH3.1
 haveI hk₂ := HH3.2
 obtain ⟨xs, HH6⟩ := Option.bind_eq_some_iff.mp e
 haveI e1 := HH6.1
 haveI e2 := HH6.2
 obtain ⟨ad, vs, rfl, HH9⟩ := Qas rh₁ r₁ e1
 haveI hh := HH9.1
 haveI rl := HH9.2.1
 haveI hle := HH9.2.2
 have hi := QgT rl e2
 obtain ⟨ol, HH14⟩ := id hh
 haveI hol := HH14.1
 haveI hne : ad ≠ s₁.heap.objs.size := Nat.ne_of_lt (Heap.lt_size hol)
 refine call_any_walk (wpAny_pyIter_list hh ?_)
 refine ⟨_, _, _, _, _, _, fun i => is.getD i false, rfl, Walks.list (A := A.in1) ok.ar.handled _ ad hne vs.toArray, ⟨⟨_, Heap.get?_push_size _ rfl, rfl, rfl⟩, hh.push _⟩, ?_, fun h' tk k => ?_⟩
 ·intro i v s' Q' E' hv hq
  rw [hi] at hv
  have hv' : (is.map Value.bool)[i]? = some v := by simpa using hv
  rw [List.getElem?_map] at hv'
  obtain ⟨b, hb1, rfl⟩ := Option.map_eq_some_iff.mp hv'
  haveI : is.getD i false = b := by simp [List.getD, hb1]
  haveI hq : Q' (is.getD i false) s' := hq
  rw [this] at hq
  exact wpAny_truthy_bool hq
 ·haveI el : ((List.range vs.toArray.size).any fun i => is.getD i false) = is.any id := by
   rw [hi]
   simp only [List.size_toArray, List.length_map]
   apply Bool.eq_iff_iff.mpr
   simp only [List.any_eq_true, List.mem_range, id]
   constructor
   ·rintro ⟨i, hi', h⟩
    exact ⟨is[i], List.getElem_mem hi', by simpa [List.getD, hi'] using h⟩
   ·rintro ⟨b, hb1, h⟩
    obtain ⟨i, hi', rfl⟩ := List.getElem_of_mem hb1
    exact ⟨i, hi', by simpa [List.getD, hi'] using h⟩
  rw [el]
  exact hk₂.keep rh₁ (fun b o e => k b o (fun hm => by
   haveI := List.mem_singleton.mp hm
   exact absurd (Heap.lt_size e) (this ▸ Nat.lt_irrefl _)) (Heap.get?_push_of_some _ e)) (.d (.bool _))
end
theorem QpP : builtinKind "pow" = none := by decide +kernel
theorem Qnu : plainId "pow" = true := by decide +kernel
theorem Qnh : entryFor table "pow" = some Builtin.«pow» := entryFor_of_fast (by kernel_rfl)
theorem Qox (a b c : Value) : argsOk "pow" ⟨[a, b, c], []⟩ := by unfold argsOk; kernel_rfl
theorem QhG (a b c : Value) : argsOk "int.__pow__" ⟨[a, b, c], []⟩ := by unfold argsOk; kernel_rfl
section
variable {prog : Program} {w : World} {A : Around} {E : Value → Shared → Prop} {s : Shared}
theorem QnC {x y z : Int} {t u v : Tok} {Q : Value → Shared → Prop} (hy : 0 ≤ y) (hz : 1 < z)
  (h : ∀ t', Q (.int (Builtin.powMod (x % z).toNat y.natAbs z.natAbs) t') { s with toks := s.toks + 1 }) :
  wpAny (model prog w) A (call (.builtin "pow") [.int x t, .int y u, .int z v]) Q E s := by
 refine Calls.call_function_entry QpP Qnu Qnh (Qox _ _ _) ?_
 unfold Builtin.«pow»
 refine wpAny_bind (wpAny_of_eq (show Builtin.Builtins.bindParams "pow" ["base", "exp", "mod"] 2 ⟨[.int x t, .int y u, .int z v], []⟩ = pure [some (.int x t), some (.int y u), some (.int z v)] from rfl) ?_)
 show wpAny _ _ (rule "pow.mod" >>= _) _ _ _
 refine wpAny_bind (wpAny_rule ?_)
 refine wpAny_bind (wpAny_typeOf (typeIs_int s x t) ?_)
 show wpAny _ _ (typeLookup (.type "int") "__pow__" >>= _) _ _ _
 refine wpAny_bind (wpAny_of_eq slot_int_pow.lookup ?_)
 dsimp only
 refine wpAny_bind (wpAny_callSpecial?_slot (name := Str.ofString "__pow__") (typeIs_int s x t) slot_int_pow
  (wpAny_call_entry slot_int_pow (typeIs_int s x t) entry_int_pow ?_ (QhG _ _ _)))
 show wpAny _ _ (if (z == 0) = true then _ else _) _ _ s
 rw [if_neg (by simp; omega)]
 show wpAny _ _ (if (z.natAbs == 1) = true then _ else _) _ _ s
 rw [if_neg (by simp; omega)]
 show wpAny _ _ (if y < 0 then _ else _) _ _ s
 rw [if_neg (by omega)]
 haveI e2 : ((z.natAbs : Nat) : Int) = z := by lia
 haveI ez : decide (z < 0) = false := decide_eq_false (by omega)
 dsimp only
 rw [ez, Bool.false_and, if_neg Bool.false_ne_true]
 rw [e2]
 exact wpAny_bind (wpAny_mkInt (wpAny_pure ⟨_, rfl, wpAny_pure ⟨_, rfl, h _⟩⟩))
end
section
variable {K : Kx} {n : Nat} {c : Lx} {cl : Qh}
theorem QqM (B : Bs K) {a b d : PE} {f : Str} {x y z : Expr} {p pos : Pos} (hg : QF c f = true) (hb : QbG f = some (.builtin "pow")) (hs : Qm [x, y, z] = true) (ha : SE K n c cl a x) (hb' : SE K n c cl b y) (hd : SE K n c cl d z) :
  SE K n c cl (.powm a b d) (.Call (.Name f p) [x, y, z] [] pos) := by
 intro l A env F σ ρ H s Q E ok hk
 refine Qgi B ok hg hb hs (Qtc hs (ha l A env F σ ρ H s _ E ok (hk.bind fun v H₁ v₁ F₁ σ₁ s₁ g₁ rh₁ r₁ hk₁ => ?_)))
 refine hb' l A env F₁ σ₁ ρ H₁ s₁ _ E (ok.grow g₁ rh₁) (hk₁.bind fun v H₂ v₂ F₂ σ₂ s₂ g₂ rh₂ r₂ hk₂ => ?_)
 refine hd l A env F₂ σ₂ ρ H₂ s₂ _ E ((ok.grow g₁ rh₁).grow g₂ rh₂) (hk₂.bind fun v H₃ v₃ F₃ σ₃ s₃ g₃ rh₃ r₃ hk₃ => ?_)
 obtain ⟨i, e, hk₄⟩ := hk₃.opt
 have := Qw e; subst this
 obtain ⟨j, e, hk₅⟩ := hk₄.opt
 have := Qw e; subst this
 obtain ⟨k, e, hk₆⟩ := hk₅.opt
 have := Qw e; subst this
 obtain ⟨t, rfl⟩ := r₁.int_inv
 obtain ⟨u, rfl⟩ := r₂.int_inv
 obtain ⟨w, rfl⟩ := r₃.int_inv
 split at hk₆
 ·rename_i hc
  exact QnC hc.1 hc.2 fun t' => hk₆.done _ rh₃ (.d (.int _ _))
 ·exact hk₆.elim
noncomputable def Qiq : Expr → Bool
 | .Call .. => false
 | _ => true
theorem QkL {x : Expr} (h : Qiq x = true) (name : Str) (env : Env) (t : Sem Value) : attributeBase x name env t = t := by
 cases x <;> first | rfl | cases h
theorem Qof {a : PE} {x : Expr} {ap pos : Pos} (hc : Qiq x = true) (hline : (ap.endLine == pos.line) = true) (ha : SE K n c cl a x) : SE K n c cl (.bitlen a) (.Call (.Attribute x "bit_length" ap) [] [] pos) := by
 intro l A env F σ ρ H s Q E ok hk
 rw [arm_eval_Call, QkL hc]
 refine wpAny_bind (ha l A env F σ ρ H s _ E ok (hk.bind fun v H₁ v₁ F₁ σ₁ s₁ g₁ rh₁ r₁ hk₁ => ?_))
 obtain ⟨i, e, hk₂⟩ := hk₁.opt
 haveI := Qw e; subst this
 obtain ⟨t, rfl⟩ := r₁.int_inv
 refine wpAny_bind (wpAny_standAt ?_)
 haveI hpos : methodCallPos true x env ap pos = pure pos := by unfold methodCallPos; simp [hline]
 unfold methodCall
 show wpAny _ _ (holding [.int i t] (calleeOf true x env (.int i t) "bit_length") >>= _) _ _ _
 refine wpAny_bind (wpAny_holding (getMethod_int_bit_length ?_))
 refine wpAny_bind (wpAny_of_eq hpos (callWith_method0 (call_int_bit_length (hk₂.done _ rh₁ (.d (.int _ _))))))
noncomputable def Qhk : Expr → Bool
 | .Slice .. => false
 | _ => true
theorem Qbt {x : Expr} (h : Qhk x = true) (o i : Value) : subscripted x false o i = operate [o, i] (getItem o i) := by
 cases x <;> first | rfl | cases h
theorem Qqk {a i : PE} {x y : Expr} {pos : Pos} (hn : Qhk y = true) (ha : SE K n c cl a x) (hi : SE K n c cl i y) : SE K n c cl (.idx a i) (.Subscript x y pos) := by
 intro l A env F σ ρ H s Q E ok hk
 refine Subscript_ (ha l A env F σ ρ H s _ E ok (hk.bind fun v H₁ v₁ F₁ σ₁ s₁ g₁ rh₁ r₁ hk₁ => ?_))
 refine hi l A env F₁ σ₁ ρ H₁ s₁ _ E (ok.grow g₁ rh₁) (hk₁.bind fun v H₂ v₂ F₂ σ₂ s₂ g₂ rh₂ r₂ hk₂ => ?_)
 obtain ⟨xs, e, hk₃⟩ := hk₂.opt
 obtain ⟨j, e2, hk₄⟩ := hk₃.opt
 obtain ⟨z, e3, hk₅⟩ := hk₄.opt
 haveI := Qw e2; subst this
 obtain ⟨t, rfl⟩ := r₂.int_inv
 obtain ⟨ad, vs, rfl, hh, rl, hle⟩ := QjG rh₂ (r₁.mono g₂.fz g₂.toPre) e
 haveI hlen := rl.length
 unfold idxD at e3
 split at e3
 ·rename_i h0
  obtain ⟨w, HH14⟩ := rl.get e3
  haveI hw := HH14.1
  haveI rw' := HH14.2
  haveI hlt := (List.getElem?_eq_some_iff.mp e3).1
  haveI hq : Q w s₂ := hk₅.done' rh₂ (.d rw')
  rcases hh with hh | hh
  ·exact tail_any hh.typeIs slot_list_getitem.lookup (wpAny_getItem_list hh h0 (by omega) (by simpa using hw) hq) (Qbt hn _ _)
  ·refine tail_any hh.typeIs slot_tuple_getitem.lookup (getItem_tuple hh (by lia) (by omega) (j := j.toNat) ?_ (by simpa using hw) hq) (Qbt hn _ _)
   haveI hj : j < (vs.toArray.size : Nat) := by simp only [List.size_toArray]; omega
   simp [seqIndex?, h0]
   omega
 ·split at e3
  ·rename_i h0 h1
   obtain ⟨w, hw, rw'⟩ := rl.get e3
   haveI hlt := (List.getElem?_eq_some_iff.mp e3).1
   haveI hq : Q w s₂ := hk₅.done' rh₂ (.d rw')
   subst h1
   rcases hh with hh | hh
   ·refine tail_any hh.typeIs slot_list_getitem.lookup (wpAny_getItem_list_neg hh (by decide) (by simp; omega) (by decide) (x := w) ?_ hq) (Qbt hn _ _)
    haveI : (-1 + ((vs.toArray.size : Nat) : Int)).toNat = xs.length - 1 := by simp only [List.size_toArray]; omega
    rw [this]; simpa using hw
   ·refine tail_any hh.typeIs slot_tuple_getitem.lookup (getItem_tuple hh (by decide) (by decide) (j := xs.length - 1) ?_ (by simpa using hw) hq) (Qbt hn _ _)
    simp [seqIndex?]
    omega
  ·cases e3
theorem QcU {F : Fz} {σ : List Addr} : ∀ {vs : List Value} {as : List V} {xs : List D}, RepVs K.fa F σ vs as → allD as = some xs → RepL F vs xs
 | _, _, _, .nil, h => by simp [allD] at h; subst h; exact .nil
 | _, _, _, .cons (a := a) r rs, h => by
  cases a <;> simp only [allD, reduceCtorEq] at h
  obtain ⟨ys, e, rfl⟩ := Option.map_eq_some_iff.mp h
  exact .cons r.d_inv (QcU rs e)
theorem QaV {k : Nat} (h : small k = true) : k ≤ 4194304 := of_decide_eq_true h
theorem Qaw {k : Nat} (h : k ≤ 4194305) : k ≤ sizeLine := by rw [sizeLine_eq]; lia
theorem Qsw {es : PEs} {xs : List Expr} {j : Nat} {pos : Pos} (hes : SEs K n c cl es xs) : SE K n c cl (.tup es) (.Tuple xs j pos) := by
 intro l A env F σ ρ H s Q E ok hk
 refine wpAny_Tuple (hes l A env F σ ρ H s _ E pos ok (hk.bind fun vs H₁ ws F₁ σ₁ s₁ g₁ rh₁ r₁ hk₁ => ?_))
 obtain ⟨ds, HH3⟩ := hk₁.opt
 haveI e := HH3.1
 haveI hk₂ := HH3.2
 split at hk₂
 ·rename_i hsm
  haveI rl := QcU r₁ e
  haveI hle := QaV hsm
  refine ⟨Qaw (by rw [rl.length]; omega), ?_⟩
  haveI hn := QaR s₁.heap
  haveI hself := Heap.get?_push_size s₁.heap (o := ({ cls := .type "tuple", data := .seq ws.toArray } : Obj)) rfl
  haveI hF := rh₁.fnone hn
  haveI hσ : s₁.heap.objs.size ∉ σ₁ := fun hm => Nat.lt_irrefl _ (rh₁.lt hm)
  haveI rh₂ := (rh₁.keeps fun b o e => Heap.get?_push_of_some ({ cls := .type "tuple", data := .seq ws.toArray } : Obj) e).put hself hF hσ
  refine hk₂ _ (F₁.put s₁.heap.objs.size { cls := .type "tuple", data := .seq ws.toArray }) σ₁ _ (Gr.put (Gr.step (fun b o e => Heap.get?_push_of_some _ e) rfl rfl) hF hn) rh₂ (.d (.tup (Fz.put_self _ _ _) ⟨rfl, 0, rfl⟩ (rl.mono (Fz.put_le hF)) (by omega)))
 ·exact hk₂.elim
theorem Quw {b : Bool} {f : PF} {x : Expr} (hf : SF K n c cl f x) : SE K n c cl (.mk b f) x := by
 intro l A env F σ ρ H s Q E ok hk
 refine hf l A env F σ ρ H s Q E ok ?_
 change KR K l _ ((evF cl f ρ H).bind _) F σ s Q E at hk
 cases e : evF cl f ρ H with
 | ok xs H' =>
  rw [e] at hk
  intro a vs F' σ' s' g rh hn hl hF hσ rl hle
  cases b with
  | false =>
   obtain ⟨o, HH10⟩ := hl.isList
   haveI ho := HH10.1
   haveI hc := HH10.2.1
   haveI hd := HH10.2.2
   exact hk _ (F'.put a o) σ' s' (g.put hF hn) (rh.put ho hF hσ) (.d (.list (Fz.put_self _ _ _) ⟨hc, hd⟩ (rl.mono (Fz.put_le hF)) hle))
  | true =>
   haveI hlen := rh.len
   obtain ⟨τ, HH17⟩ := g.pre
   haveI hτ := HH17.1
   haveI hτ' := HH17.2
   refine hk _ F' (σ' ++ [a]) s' ⟨g.live, g.keep, g.fz, g.nf, ⟨τ ++ [a], by rw [hτ]; simp, ?_⟩, g.gens, g.os⟩ (rh.cells hl hF hσ rl hle) (.cell (by rw [← hlen]; simp))
   intro x hx
   rcases List.mem_append.mp hx with hx | hx
   ·exact hτ' x hx
   ·simp at hx; subst hx; exact hn
 | exc H' => rw [e] at hk; exact hk
 | stuck => rw [e] at hk; exact hk
theorem QqU {es : PEs} {xs : List Expr} {pos : Pos} (hes : SEs K n c cl es xs) : SF K n c cl (.list es) (.List xs pos) := by
 intro l A env F σ ρ H s Q E ok hk
 refine wpAny_List (hes l A env F σ ρ H s _ E pos ok (hk.bind fun vs H₁ ws F₁ σ₁ s₁ g₁ rh₁ r₁ hk₁ => ?_))
 obtain ⟨ds, HH3⟩ := hk₁.opt
 haveI e := HH3.1
 haveI hk₂ := HH3.2
 split at hk₂
 ·rename_i hsm
  haveI rl := QcU r₁ e
  haveI hle := QaV hsm
  exact ⟨Qaw (by rw [rl.length]; omega), hk₂.laid rh₁ (fun b o e => Heap.get?_push_of_some _ e) (QaR _) ⟨0, Heap.get?_push_size _ rfl⟩ rl (by omega)⟩
 ·exact hk₂.elim
theorem QsK {a b : PE} {x y : Expr} {pos : Pos} (ha : SE K n c cl a x) (hb : SE K n c cl b y) : SF K n c cl (.cat a b) (.BinOp x .Add y pos) := by
 intro l A env F σ ρ H s Q E ok hk
 refine wpAny_BinOp (ha l A env F σ ρ H s _ E ok (hk.bind fun va H₁ v₁ F₁ σ₁ s₁ g₁ rh₁ r₁ hk₁ => ?_))
 refine hb l A env F₁ σ₁ ρ H₁ s₁ _ E (ok.grow g₁ rh₁) (hk₁.bind fun vb H₂ v₂ F₂ σ₂ s₂ g₂ rh₂ r₂ hk₂ => ?_)
 obtain ⟨xs, HH4⟩ := hk₂.opt
 haveI e1 := HH4.1
 haveI hk₃ := HH4.2
 obtain ⟨ys, HH7⟩ := hk₃.opt
 haveI e2 := HH7.1
 haveI hk₄ := HH7.2
 obtain ⟨ad, vs, rfl, HH10⟩ := Qas rh₂ (r₁.mono g₂.fz g₂.toPre) e1
 haveI hl1 := HH10.1
 haveI rl1 := HH10.2.1
 haveI hle1 := HH10.2.2
 obtain ⟨bd, ws, rfl, HH14⟩ := Qas rh₂ r₂ e2
 haveI hl2 := HH14.1
 haveI rl2 := HH14.2.1
 haveI hle2 := HH14.2.2
 split at hk₄
 ·rename_i hsm
  haveI hle := QaV hsm
  haveI h1 := rl1.length
  haveI h2 := rl2.length
  obtain ⟨⟨k1, dd, data, sl⟩, ho, hc, n1, hd⟩ := id hl1
  obtain ⟨⟨k2, dd2, data2, sl2⟩, ho2, hc2, n2, hd2⟩ := id hl2
  simp only at hc hd hc2 hd2
  subst hc hd hc2 hd2
  haveI e : vs.toArray ++ ws.toArray = (vs ++ ws).toArray := by simp
  refine concat_meets ⟨_, ho, rfl⟩ ⟨_, ho2, rfl⟩ noFill_list_add seq_list_add PySem.F.slot_list_add PySem.F.entry_list_add (PySem.F.args_list_add_2 _ _) (list_addW ad bd vs.toArray ws.toArray n1 n2 dd dd2 sl sl2 (by rw [sizeLine_eq]; simp; omega)) ⟨ho, ho2, ?_⟩
  rw [e]
  exact hk₄.laid rh₂ (fun b o e => Heap.get?_push_of_some _ e) (QaR _) ⟨0, Heap.get?_push_size _ rfl⟩ (rl1.append rl2) (by simp; omega)
 ·exact hk₄.elim
theorem QtF {a b : PE} {x y : Expr} {pos : Pos} (ha : SE K n c cl a x) (hb : SE K n c cl b y) : SF K n c cl (.rep a b) (.BinOp x .Mult y pos) := by
 intro l A env F σ ρ H s Q E ok hk
 refine wpAny_BinOp (ha l A env F σ ρ H s _ E ok (hk.bind fun va H₁ v₁ F₁ σ₁ s₁ g₁ rh₁ r₁ hk₁ => ?_))
 refine hb l A env F₁ σ₁ ρ H₁ s₁ _ E (ok.grow g₁ rh₁) (hk₁.bind fun vb H₂ v₂ F₂ σ₂ s₂ g₂ rh₂ r₂ hk₂ => ?_)
 obtain ⟨xs, e1, hk₃⟩ := hk₂.opt
 obtain ⟨k, e2, hk₄⟩ := hk₃.opt
 obtain ⟨ad, vs, rfl, hl1, rl1, hle1⟩ := Qas rh₂ (r₁.mono g₂.fz g₂.toPre) e1
 haveI := Qw e2; subst this
 obtain ⟨u, rfl⟩ := r₂.int_inv
 split at hk₄
 ·rename_i x0
  split at hk₄
  ·rename_i hkk
   cases rl1 with
   | cons r0 rn =>
   cases rn
   rename_i v0
   obtain ⟨⟨k1, dd, data, sl⟩, ho, hc, n1, hd⟩ := id hl1
   simp only at hc hd
   subst hc hd
   refine wpAny_binaryOp_repeat_ref (T := "list") (U := "int") (by decide) ⟨_, ho, rfl⟩ (fun s' => typeIs_int s' k u) noFill_list_mul PySem.F.fills_int_mul PySem.F.slot_int_rmul repeat_list PySem.F.slot_int_index.lookup
    (call_meets PySem.F.slot_int_rmul (typeIs_int _ k u) PySem.F.entry_int_rmul (PySem.F.args_int_rmul_2 _ _) (lm_int_rmul_list_any k u ad _ n1 dd sl)
     ⟨ho, rfl, ⟨_, ho, rfl⟩, call_meets PySem.F.slot_list_mul ⟨_, ho, rfl⟩ PySem.F.entry_list_mul (PySem.F.args_list_mul_2 _ _)
      (lm_list_mul_any ad _ n1 dd sl k u (by simp [Builtin.List.listFitsIndex]; omega) (by simp; omega) (by simp [Builtin.List.listTooLong, sizeLine]; omega)) ⟨ho, ?_⟩⟩)
   haveI e : List.foldl (fun x1 x2 => x1 ++ x2) #[] (List.replicate (if [v0].toArray.isEmpty = true then 0 else k.toNat) [v0].toArray) = (List.replicate k.toNat v0).toArray := by
    rw [listMul_foldl_if]
    congr 1
    generalize k.toNat = j
    induction j with
    | zero => rfl
    | succ j ih => simp [List.replicate_succ] at ih ⊢
   rw [e]
   exact hk₄.laid rh₂ (fun b o e => Heap.get?_push_of_some _ e) (QaR _) ⟨0, Heap.get?_push_size _ rfl⟩ (RepL.replicate r0 _) (by simp; omega)
  ·exact hk₄.elim
 ·exact hk₄.elim
end
section
variable {K : Kx} {n : Nat} {c : Lx} {cl : Qh}
theorem QbW {l : List Env} {A : Around} {F : Fz} {σ : List Addr} {H : Hp} {s : Shared} {Q : Value → Shared → Prop} {E : Value → Shared → Prop} {value : Expr} {lower upper : Option Expr} {p : Pos} {ad : Addr} {vs ws : List Value} {ys : List D} {vl vu : Value} {lo hi : Option Int}
  (hl : s.heap.IsList ad vs.toArray) (pl : IsPart vl lo) (pu : IsPart vu hi) (hle : vs.length ≤ 4194305) (hpick : slicePick vs.toArray lo hi none = ws.toArray)
  (hk : KF K l (.ok ys H) F σ s Q E) (rh : RH K.fa K.h₀ F σ H s.heap) (rl : RepL F ws ys) (hle2 : ys.length ≤ 4194305) :
  wpAny (model K.prog K.w) A (subscriptTail value (.Slice lower upper none p) (.ref ad) (.ref s.heap.objs.size)) Q E { s with heap := s.heap.push { cls := .type "slice", data := .fields #[vl, vu, .none] } } := by
 haveI hl' := hl.push { cls := .type "slice", data := .fields #[vl, vu, .none] }
 refine tail_any (Heap.IsList.typeIs (s := { s with heap := s.heap.push { cls := .type "slice", data := .fields #[vl, vu, .none] } }) hl') list_getitem_lookup
  (wpAny_getItem_list_slice hl' (Heap.IsSliceOf.new ..) pl pu .none (by simp) ?_ (by rw [sizeLine_eq]; simp; lia)) rfl
 rw [hpick]
 haveI hsz : (s.heap.push { cls := .type "slice", data := .fields #[vl, vu, .none] }).objs.size = s.heap.objs.size + 1 := Heap.size_push ..
 refine hk.laid (h' := (s.heap.push { cls := .type "slice", data := .fields #[vl, vu, .none] }).push { cls := .type "list", data := .seq ws.toArray }) (tk := s.toks) rh (fun b o e => Heap.get?_push_of_some _ (Heap.get?_push_of_some _ e)) ?_ ⟨0, Heap.get?_push_size _ rfl⟩ rl hle2
 rw [hsz]
 cases e : s.heap.get? (s.heap.objs.size + 1) with
 | none => rfl
 | some o => exact absurd (Heap.lt_size e) (Nat.not_lt.mpr (Nat.le_succ _))
theorem Qtr {a : PE} {x : Expr} {p pos : Pos} (ha : SE K n c cl a x) : SF K n c cl (.slc a) (.Subscript x (.Slice none none none p) pos) := by
 intro l A env F σ ρ H s Q E ok hk
 refine Subscript_ (ha l A env F σ ρ H s _ E ok (hk.bind fun v H₁ v₁ F₁ σ₁ s₁ g₁ rh₁ r₁ hk₁ => ?_))
 obtain ⟨xs, HH3⟩ := hk₁.opt
 haveI e := HH3.1
 haveI hk₂ := HH3.2
 obtain ⟨ad, vs, rfl, HH6⟩ := Qas rh₁ r₁ e
 haveI hl := HH6.1
 haveI rl := HH6.2.1
 haveI hle := HH6.2.2
 refine wpAny_Slice ?_
 rw [evalPart_none]
 refine wpAny_pure (wpAny_pure (wpAny_pure ?_))
 exact QbW (ws := vs) hl .none .none (by rw [rl.length]; exact hle) (by rw [slicePick_all]) hk₂ rh₁ rl hle
theorem Qmj {α : Type} (l : List α) (k : Nat) : (l.take k).length ≤ l.length := by simp; lia
theorem QlT {α : Type} (l : List α) (k : Nat) : (l.drop k).length ≤ l.length := by simp
theorem QrG {a u : PE} {x y : Expr} {p pos : Pos} (ha : SE K n c cl a x) (hu : SE K n c cl u y) : SF K n c cl (.slcU a u) (.Subscript x (.Slice none (some y) none p) pos) := by
 intro l A env F σ ρ H s Q E ok hk
 refine Subscript_ (ha l A env F σ ρ H s _ E ok (hk.bind fun v H₁ v₁ F₁ σ₁ s₁ g₁ rh₁ r₁ hk₁ => ?_))
 refine wpAny_Slice ?_
 rw [evalPart_none, evalPart_some]
 refine wpAny_pure (hu l A env F₁ σ₁ ρ H₁ s₁ _ E (ok.grow g₁ rh₁) (hk₁.bind fun v H₂ v₂ F₂ σ₂ s₂ g₂ rh₂ r₂ hk₂ => ?_))
 refine wpAny_pure ?_
 obtain ⟨xs, e, hk₃⟩ := hk₂.opt
 obtain ⟨ad, vs, rfl, HH8⟩ := Qas rh₂ (r₁.mono g₂.fz g₂.toPre) e
 haveI hl := HH8.1
 haveI rl := HH8.2.1
 haveI hle := HH8.2.2
 obtain ⟨k, e2, hk₄⟩ := hk₃.opt
 haveI := Qw e2; subst this
 obtain ⟨t, rfl⟩ := r₂.int_inv
 split at hk₄
 ·rename_i hc
  obtain ⟨j, rfl⟩ := Int.eq_ofNat_of_zero_le hc.1
  exact QbW (ws := vs.take j) hl .none (.int _ _) (by rw [rl.length]; exact hle) (by rw [slicePick_upto']) hk₄ rh₂ (rl.take j) (Nat.le_trans (Qmj _ _) hle)
 ·exact hk₄.elim
theorem QqE {a u : PE} {x y : Expr} {p pos : Pos} (ha : SE K n c cl a x) (hu : SE K n c cl u y) : SF K n c cl (.slcL a u) (.Subscript x (.Slice (some y) none none p) pos) := by
 intro l A env F σ ρ H s Q E ok hk
 refine Subscript_ (ha l A env F σ ρ H s _ E ok (hk.bind fun v H₁ v₁ F₁ σ₁ s₁ g₁ rh₁ r₁ hk₁ => ?_))
 refine wpAny_Slice ?_
 rw [evalPart_none, evalPart_some]
 refine hu l A env F₁ σ₁ ρ H₁ s₁ _ E (ok.grow g₁ rh₁) (hk₁.bind fun v H₂ v₂ F₂ σ₂ s₂ g₂ rh₂ r₂ hk₂ => ?_)
 refine wpAny_pure (wpAny_pure ?_)
 obtain ⟨xs, e, hk₃⟩ := hk₂.opt
 obtain ⟨ad, vs, rfl, HH8⟩ := Qas rh₂ (r₁.mono g₂.fz g₂.toPre) e
 haveI hl := HH8.1
 haveI rl := HH8.2.1
 haveI hle := HH8.2.2
 obtain ⟨k, e2, hk₄⟩ := hk₃.opt
 haveI := Qw e2; subst this
 obtain ⟨t, rfl⟩ := r₂.int_inv
 split at hk₄
 ·rename_i hc
  obtain ⟨j, rfl⟩ := Int.eq_ofNat_of_zero_le hc.1
  exact QbW (ws := vs.drop j) hl (.int _ _) .none (by rw [rl.length]; exact hle) (by rw [slicePick_from']) hk₄ rh₂ (rl.drop j) (Nat.le_trans (QlT _ _) hle)
 ·exact hk₄.elim
theorem QiD (vs : List Value) (a b : Nat) : slicePick vs.toArray (some (a : Int)) (some (b : Int)) none = ((vs.take b).drop a).toArray := by
 rw [slicePick_plain]
 congr 1
 simp only [Option.elim, clipAt_nat]
 simp only [List.size_toArray]
 apply List.ext_getElem?
 intro i
 simp only [List.getElem?_take, List.getElem?_drop]
 by_cases hi : i + min a vs.length < min b vs.length
 ·rw [if_pos (by omega), if_pos (by omega)]
  congr 1; lia
 ·rw [if_neg (by omega)]
  split
  ·rw [List.getElem?_eq_none (by omega)]
  ·rfl
theorem Qpe {a u u' : PE} {x y z : Expr} {p pos : Pos} (ha : SE K n c cl a x) (hu : SE K n c cl u y) (hu' : SE K n c cl u' z) : SF K n c cl (.slcLU a u u') (.Subscript x (.Slice (some y) (some z) none p) pos) := by
 intro l A env F σ ρ H s Q E ok hk
 refine Subscript_ (ha l A env F σ ρ H s _ E ok (hk.bind fun v H₁ v₁ F₁ σ₁ s₁ g₁ rh₁ r₁ hk₁ => ?_))
 refine wpAny_Slice ?_
 rw [evalPart_some, evalPart_some, evalPart_none]
 refine hu l A env F₁ σ₁ ρ H₁ s₁ _ E (ok.grow g₁ rh₁) (hk₁.bind fun v H₂ v₂ F₂ σ₂ s₂ g₂ rh₂ r₂ hk₂ => ?_)
 refine hu' l A env F₂ σ₂ ρ H₂ s₂ _ E ((ok.grow g₁ rh₁).grow g₂ rh₂) (hk₂.bind fun v H₃ v₃ F₃ σ₃ s₃ g₃ rh₃ r₃ hk₃ => ?_)
 refine wpAny_pure ?_
 obtain ⟨xs, e, hk₄⟩ := hk₃.opt
 obtain ⟨ad, vs, rfl, HH9⟩ := Qas rh₃ (r₁.mono (g₂.fz.trans g₃.fz) (g₂.toPre.trans g₃.toPre)) e
 haveI hl := HH9.1
 haveI rl := HH9.2.1
 haveI hle := HH9.2.2
 obtain ⟨k, e2, hk₅⟩ := hk₄.opt
 have := Qw e2; subst this
 obtain ⟨k', e3, hk₆⟩ := hk₅.opt
 have := Qw e3; subst this
 obtain ⟨t, rfl⟩ := r₂.int_inv
 obtain ⟨t', rfl⟩ := r₃.int_inv
 split at hk₆
 ·rename_i hc
  obtain ⟨j, rfl⟩ := Int.eq_ofNat_of_zero_le hc.1
  obtain ⟨j', rfl⟩ := Int.eq_ofNat_of_zero_le hc.2.2.1
  exact QbW (ws := (vs.take j').drop j) hl (.int _ _) (.int _ _) (by rw [rl.length]; exact hle) (QiD vs j j') hk₆ rh₃ ((rl.take j').drop j) (Nat.le_trans (QlT _ _) (Nat.le_trans (Qmj _ _) hle))
 ·exact hk₆.elim
noncomputable def KC (K : Kx) (l : List Env) (r : R D) (F : Fz) (σ : List Addr) (s : Shared) (R' : Result → Shared → Prop) : Prop :=
 match r with
 | .ok x H' => ∀ v F' s', Gr [] F σ s F' σ s' → RH K.fa K.h₀ F' σ H' s'.heap → RepD F' v x → R' (.ok (.ret v)) s'
 | .exc H' => ∀ ev s', XE K l F σ H' s ev s' → R' (.error ev) s'
 | .stuck => False
noncomputable def SC (K : Kx) (n : Nat) (cl : Qh) : Prop :=
 ∀ (k : Nat) (l : List Env) (A : Around) (F : Fz) (σ : List Addr) (H : Hp) (s : Shared) (vs : List Value) (as : List V) (R' : Result → Shared → Prop),
  Ar n l A → RH K.fa K.h₀ F σ H s.heap → RS l F s.heap → RepVs K.fa F σ vs as → KC K l (cl k as H) F σ s R' → codeAny (model K.prog K.w) A (.call (.ref (K.fa k)) ⟨vs, []⟩) R' s
theorem Qmi (B : Bs K) (hc : SC K n cl) {k : Nat} {l : List Env} {A : Around} {env : Env} {F : Fz} {σ : List Addr} {ρ : Rho} {H : Hp} {s : Shared} {Q : Value → Shared → Prop} {E : Value → Shared → Prop} {es : PEs} {xs : List Expr} {pos : Pos}
  (ok : Ok K n l A c env F σ ρ H s) (hne : xs ≠ []) (hs : Qm xs = true) (hes : SEs K n c cl es xs)
  (hk : KR K l (RepV K.fa) ((evEs cl es ρ H).bind fun vs H => (cl k vs H).bind fun x H => .ok (.d x) H) F σ s Q E) :
  wpAny (model K.prog K.w) A (callWith pos (.ref (K.fa k)) [] (backTo pos (starEach xs env)) []) Q E s := by
 obtain ⟨o, fd, HH4⟩ := B.fo k
 haveI ho := HH4.1
 haveI hd := HH4.2
 cases xs with
 | nil => exact absurd rfl hne
 | cons x xs =>
  haveI hx : Qcg x = true := by simp only [Qm, Bool.and_eq_true] at hs; exact hs.1
  haveI h := hes l A env F σ ρ H s (fun vs s₁ => (s₁.heap.get? (K.fa k) = some o ∧ o.data = .func fd) ∧ wpAny (model K.prog K.w) A (call (.ref (K.fa k)) vs) Q E s₁) E pos ok
   (hk.bind fun vs H₁ ws F₁ σ₁ s₁ g₁ rh₁ r₁ hk₁ => ⟨⟨rh₁.le _ _ (rh₁.base _ _ ho), hd⟩, ?_⟩)
  ·rw [Qak hx] at h ⊢
   exact Calls.callWith_function (Calls.evalArgs_plain h)
  ·refine wpAny_call (hc k l A F₁ σ₁ H₁ s₁ ws vs _ ok.ar rh₁ (ok.grow g₁ rh₁).rs r₁ ?_)
   cases e : cl k vs H₁ with
   | ok x H₂ =>
    rw [e] at hk₁
    intro v F' s' g rh r
    exact hk₁ v F' σ₁ s' g rh (.d r)
   | exc H₂ => rw [e] at hk₁; exact hk₁
   | stuck => rw [e] at hk₁; exact hk₁
theorem QnL (B : Bs K) (hc : SC K n cl) {k : Nat} {es : PEs} {f : Str} {xs : List Expr} {p pos : Pos} (hg : QF c f = true) (hf : K.fnm[k]? = some f) (hne : xs ≠ []) (hs : Qm xs = true) (hes : SEs K n c cl es xs) :
  SE K n c cl (.call k es) (.Call (.Name f p) xs [] pos) := by
 intro l A env F σ ρ H s Q E ok hk
 exact wpAny_Call_Name_kw (Qbm B ok (Qbj hg) (B.fn k f hf) (Qbo hg) (Qmi B hc ok hne hs hes hk))
theorem Qpf (B : Bs K) (hc : SC K n cl) {k : Nat} {es : PEs} {f : Str} {xs : List Expr} {p pos : Pos} (hg : QW c k f = true) (hne : xs ≠ []) (hs : Qm xs = true) (hes : SEs K n c cl es xs) :
  SE K n c cl (.callv k es) (.Call (.Name f p) xs [] pos) := by
 intro l A env F σ ρ H s Q E ok hk
 rw [QiX] at hk
 cases e : gt ρ k with
 | fn j =>
  rw [e] at hk
  refine wpAny_Call_Name_kw (QZ hg ok (by rw [e]; intro q; cases q) fun v r => ?_)
  rw [e] at r
  cases r
  exact Qmi B hc ok hne hs hes hk
 | _ => rw [e] at hk; exact hk.elim
theorem QrJ {o₁ o₂ : COp} {a b d : PE} {x y z : Expr} {q₁ q₂ : CmpOp} {pos : Pos} (h1 : q₁ = QbZ o₁) (h2 : q₂ = QbZ o₂) (hm2 : behindInMarks q₂ z = false) (ha : SE K n c cl a x) (hb : SE K n c cl b y) (hd : SE K n c cl d z) :
  ST K n c cl (.cmp2 o₁ o₂ a b d) (.Compare x [q₁, q₂] [y, z] pos) := by
 intro l A env F σ ρ H s Q E ok hk
 subst h1; subst h2
 show wpAny _ A (do testChain pos (← eval x env) [QbZ o₁, QbZ o₂] (markedEach [QbZ o₁, QbZ o₂] [y, z] (evalEach [y, z] env))) Q E s
 refine wpAny_bind (ha l A env F σ ρ H s _ E ok (hk.assoc.bind fun va H₁ v₁ F₁ σ₁ s₁ g₁ rh₁ r₁ hk₁ => ?_))
 haveI em : markedEach [QbZ o₁, QbZ o₂] [y, z] (evalEach [y, z] env) = [eval y env, eval z env] := by
  show eval y env :: markedEach [QbZ o₂] [z] [eval z env] = _
  show eval y env :: [markedBehindIn (QbZ o₂) z (eval z env)] = _
  rw [markedBehindIn_of_false hm2]
 rw [em]
 show wpAny _ A (do
  let rv ← holding [v₁] (eval y env)
  standAt pos
  let c ← holding [v₁, rv] (compareOp (QbZ o₁) v₁ rv)
  release [v₁, rv] [c]
  if ← holding [c, rv] (truthy c) then testChain pos rv [QbZ o₂] [eval z env] else pure false) Q E s₁
 refine wpAny_bind (wpAny_holding (hb l A env F₁ σ₁ ρ H₁ s₁ _ E (ok.grow g₁ rh₁) (hk₁.assoc.bind fun vb H₂ v₂ F₂ σ₂ s₂ g₂ rh₂ r₂ hk₂ => ?_)))
 obtain ⟨x', e1, hk₃⟩ := hk₂.assoc.opt
 obtain ⟨y', e2, hk₄⟩ := hk₃.assoc.opt
 obtain ⟨w, e3, hk₅⟩ := hk₄.assoc.opt
 haveI := Qal e1; subst this
 haveI := Qal e2; subst this
 refine wpAny_bind (wpAny_standAt (wpAny_bind (wpAny_holding (QlV ok.ar rh₂ (r₁.d_inv.mono g₂.fz) r₂.d_inv e3 ?_))))
 refine wpAny_bind (wpAny_release' (wpAny_bind (wpAny_holding (wpAny_truthy_bool ?_))))
 cases w with
 | false =>
  exact wpAny_pure (KR.done' (a := false) hk₅ rh₂ rfl)
 | true =>
  rw [if_pos rfl]
  show wpAny _ A (do
   let rv ← holding [v₂] (eval z env)
   standAt pos
   let c ← operate [v₂, rv] (compareOp (QbZ o₂) v₂ rv)
   holding [c] (truthy c)) Q E s₂
  refine wpAny_bind (wpAny_holding (hd l A env F₂ σ₂ ρ H₂ s₂ _ E ((ok.grow g₁ rh₁).grow g₂ rh₂) (hk₅.assoc.bind fun vc H₃ v₃ F₃ σ₃ s₃ g₃ rh₃ r₃ hk₆ => ?_)))
  obtain ⟨z', e4, hk₇⟩ := hk₆.assoc.opt
  obtain ⟨w2, HH37⟩ := hk₇.assoc.opt
  haveI e5 := HH37.1
  haveI hk₈ := HH37.2
  haveI := Qal e4; subst this
  refine wpAny_bind (wpAny_standAt (wpAny_bind (wpAny_operating (QlV ok.ar rh₃ (r₂.d_inv.mono g₃.fz) r₃.d_inv e5 ?_))))
  exact wpAny_holding (wpAny_truthy_bool (KR.done' (a := w2) hk₈ rh₃ rfl))
end
theorem QaH : ∀ {ρ : Rho} {k j : Nat} {v : V}, j ≠ k → gt (st ρ k v) j = gt ρ j
 | [], _, _, _, _ => rfl
 | _ :: _, 0, 0, _, h => absurd rfl h
 | _ :: _, 0, _ + 1, _, _ => rfl
 | _ :: _, _ + 1, 0, _, _ => rfl
 | _ :: r, k + 1, j + 1, v, h => QaH (ρ := r) (k := k) (j := j) (v := v) (fun e => h (by rw [e]))
theorem QgZ : ∀ {ρ : Rho} {k : Nat} {v : V}, gt (st ρ k v) k = v ∨ gt (st ρ k v) k = .unb
 | [], _, _ => .inr rfl
 | _ :: _, 0, _ => .inl rfl
 | _ :: r, k + 1, v => QgZ (ρ := r) (k := k) (v := v)
theorem Has.self {fa : Nat → Addr} {F : Fz} {σ : List Addr} {v : Value} {a : V} {ρ : Rho} {k : Nat} (r : RepV fa F σ v a) : Has fa F σ (some v) (gt (st ρ k a) k) := by
 intro hn
 rcases QgZ (ρ := ρ) (k := k) (v := a) with e | e
 ·rw [e]; exact ⟨v, rfl, r⟩
 ·exact absurd e hn
noncomputable def Owns (c : Lx) (env : Env) (own : List Addr) : Prop :=
 ∀ x, c.own x = true → (c.names x = some .local → env.locals ∈ own) ∧ (∀ a, c.names x = some .cell → env.cells.lookup x = some a → a ∈ own)
noncomputable def QK (c : Lx) (k : Nat) (x : Str) : Bool := c.own x && c.vis x == some k && (c.names x == some .local || c.names x == some .cell)
theorem RH.but {fa : Nat → Addr} {h₀ : Heap} {F : Fz} {σ : List Addr} {H : Hp} {h h' : Heap} {a : Addr} (r : RH fa h₀ F σ H h) (e : ∀ b o, b ≠ a → h.get? b = some o → h'.get? b = some o) (hn : F a = none) (hσ : a ∉ σ) : RH fa h₀ F σ H h' :=
 ⟨r.base, fun b o q => e b o (fun x => by subst x; rw [hn] at q; cases q) (r.le b o q), r.len, r.nod, fun n b xs h1 h2 => by
  obtain ⟨q, vs, ⟨o, hl⟩, rl, hle⟩ := r.cell n b xs h1 h2
  exact ⟨q, vs, ⟨o, e b _ (fun x => by subst x; exact hσ (List.mem_of_getElem? h1)) hl⟩, rl, hle⟩⟩
section
variable {K : Kx} {n : Nat} {c : Lx} {cl : Qh}
theorem Qetσ {l : List Env} {A : Around} {env : Env} {F : Fz} {σ : List Addr} {ρ : Rho} {H : Hp} {s : Shared} (ok : Ok K n l A c env F σ ρ H s) {a : Addr} {m : Str → Option Value} (hm : s.heap.Ns a m) : a ∉ σ := fun hm' => by
 obtain ⟨vs, hl⟩ := ok.rh.isList hm'; exact Qao hl hm
theorem Qodσ {l : List Env} {A : Around} {env : Env} {F : Fz} {σ : List Addr} {ρ : Rho} {H : Hp} {s : Shared} (ok : Ok K n l A c env F σ ρ H s) {a : Addr} {v : Option Value} (hm : s.heap.IsCell a v) : a ∉ σ := fun hm' => by
 obtain ⟨vs, hl⟩ := ok.rh.isList hm'; exact QcC hl hm
theorem Qbf {A' : Around} {l : List Env} {A : Around} {env : Env} {F : Fz} {σ : List Addr} {ρ : Rho} {H : Hp} {s : Shared} {Q : Unit → Shared → Prop} {E : Value → Shared → Prop} {x : Str} {k : Nat} {v : Value} {a : V} {own : List Addr}
  (hs : QK c k x = true) (ho : Owns c env own) (ok : Ok K n l A c env F σ ρ H s) (r : RepV K.fa F σ v a)
  (h : ∀ s', Gr own F σ s F σ s' → Ok K n l A c env F σ (st ρ k a) H s' → Q () s') : wpAny (model K.prog K.w) A' (storeName env x v) Q E s := by
 simp only [QK, Bool.and_eq_true, Bool.or_eq_true, beq_iff_eq] at hs
 obtain ⟨⟨hown, hv⟩, hk⟩ := hs
 have wf := ok.rl.wf
 haveI hlt := wf.lt x k hv
 have hhi : ∀ j, c.top ≤ j → gt (st ρ k a) j = .unb := fun j hj => by rw [QaH (by lia)]; exact ok.rl.hi j hj
 rcases hk with hk | hk
 ·obtain ⟨m, hm, hs⟩ := ok.rl.ns
  have hL := (ho x hown).1 hk
  have hLσ := Qetσ ok hm
  refine wpAny_storeName_local ((ok.rl.kinds x).trans hk) hm (fun h' hn' hs' => ?_) (by rw [ok.rl.fnk]; rfl)
  have ext := hs'.extBut
  refine h _ ⟨fun b o e => ?_, fun b o h1 h2 e => ⟨o, ext b o (fun q => h1 (q ▸ hL)) e, .refl o⟩, FLe.refl _, fun _ _ _ e => e, ⟨[], by simp, by simp⟩, rfl, rfl⟩ ⟨ok.ar, ok.rh.but ext ok.rl.noL hLσ, ⟨ok.rl.fnk, ok.rl.glob, ok.rl.bi, ok.rl.kinds, ok.rl.noL, ⟨_, hn', fun y j hy hj => ?_⟩, fun y hy => ?_, ok.rl.inj, hhi, wf⟩, ?_⟩
  ·by_cases q : b = env.locals
   ·subst q; obtain ⟨o', _, _, e', _⟩ := hn'; exact ⟨o', e'⟩
   ·exact ⟨o, ext b o q e⟩
  ·by_cases q : y = x
   ·subst q
    rw [hv] at hj; cases hj
    simp only [if_true]
    exact Has.self r
   ·haveI hjk : j ≠ k := fun e => q (wf.inj y x k (e ▸ hj) hv)
    simp only [q, if_false]
    rw [QaH hjk]
    exact hs y j hy hj
  ·obtain ⟨a', ov, HH27⟩ := ok.rl.cl y hy
   haveI e := HH27.1
   haveI hn := HH27.2.1
   haveI hc := HH27.2.2.1
   haveI hkk := HH27.2.2.2
   have hne : a' ≠ env.locals := fun q => Qbn (q ▸ hc) hm
   refine ⟨a', ov, e, hn, hc.sameBut hs' hne, fun j hj => ?_⟩
   haveI hyx : y ≠ x := fun q => by subst q; rw [hk] at hy; cases hy
   haveI hjk : j ≠ k := fun e => hyx (wf.inj y x k (e ▸ hj) hv)
   rw [QaH hjk]; exact hkk j hj
  ·intro e he
   obtain ⟨hkd, L, m', HH38⟩ := ok.rs e he
   haveI hf := HH38.1
   haveI hm' := HH38.2.1
   haveI hnF := HH38.2.2
   by_cases q : L = env.locals
   ·subst q; exact ⟨hkd, _, _, hf, hn', hnF⟩
   ·exact ⟨hkd, L, m', hf, hm'.sameBut hs' q, hnF⟩
 ·obtain ⟨a0, ov, e0, hn0, hc0, hk0⟩ := ok.rl.cl x (by rw [hk]; rfl)
  have hA := (ho x hown).2 a0 hk e0
  have hAσ := Qodσ ok hc0
  obtain ⟨m, HH48⟩ := ok.rl.ns
  haveI hm := HH48.1
  haveI hs := HH48.2
  refine wpAny_storeName_cell ok.rl.fnk ((ok.rl.kinds x).trans hk) e0 hc0 fun h' hc' hs' => ?_
  have ext := hs'.extBut
  have hLne : env.locals ≠ a0 := fun q => Qbn (q ▸ hc0) hm
  refine h _ ⟨fun b o e => ?_, fun b o h1 h2 e => ⟨o, ext b o (fun q => h1 (q ▸ hA)) e, .refl o⟩, FLe.refl _, fun _ _ _ e => e, ⟨[], by simp, by simp⟩, rfl, rfl⟩ ⟨ok.ar, ok.rh.but ext hn0 hAσ, ⟨ok.rl.fnk, ok.rl.glob, ok.rl.bi, ok.rl.kinds, ok.rl.noL, ⟨_, hm.sameBut hs' hLne, fun y j hy hj => ?_⟩, fun y hy => ?_, ok.rl.inj, hhi, wf⟩, ?_⟩
  ·by_cases q : b = a0
   ·subst q; obtain ⟨o', e', _⟩ := hc'; exact ⟨o', e'⟩
   ·exact ⟨o, ext b o q e⟩
  ·have hyx : y ≠ x := fun q => by subst q; rw [hk] at hy; cases hy
   have hjk : j ≠ k := fun e => hyx (wf.inj y x k (e ▸ hj) hv)
   rw [QaH hjk]; exact hs y j hy hj
  ·by_cases q : y = x
   ·subst q
    refine ⟨a0, _, e0, hn0, hc', fun j hj => ?_⟩
    rw [hv] at hj; cases hj
    exact Has.self r
   ·obtain ⟨a', ov', HH66⟩ := ok.rl.cl y hy
    haveI e := HH66.1
    haveI hn := HH66.2.1
    haveI hc := HH66.2.2.1
    haveI hkk := HH66.2.2.2
    have hne : a' ≠ a0 := fun q' => q (ok.rl.inj y x a0 (q' ▸ e) e0)
    refine ⟨a', ov', e, hn, hc.sameBut hs' hne, fun j hj => ?_⟩
    haveI hjk : j ≠ k := fun e => q (wf.inj y x k (e ▸ hj) hv)
    rw [QaH hjk]; exact hkk j hj
  ·intro e he
   obtain ⟨hkd, L, m', HH76⟩ := ok.rs e he
   haveI hf := HH76.1
   haveI hm' := HH76.2.1
   haveI hnF := HH76.2.2
   have q : L ≠ a0 := fun q => Qbn (q ▸ hc0) hm'
   exact ⟨hkd, L, m', hf, hm'.sameBut hs' q, hnF⟩
theorem Qbh {A' : Around} {l : List Env} {A : Around} {env : Env} {F : Fz} {σ : List Addr} {ρ : Rho} {H : Hp} {s : Shared} {Q : Unit → Shared → Prop} {E : Value → Shared → Prop} {x : Str} {p : Pos} {k : Nat} {v : Value} {a : V} {own : List Addr}
  (hs : QK c k x = true) (ho : Owns c env own) (ok : Ok K n l A c env F σ ρ H s) (r : RepV K.fa F σ v a)
  (h : ∀ s', Gr own F σ s F σ s' → Ok K n l A c env F σ (st ρ k a) H s' → Q () s') : wpAny (model K.prog K.w) A' (assign (.Name x p) env v) Q E s :=
 wpAny_assign_Name (Qbf hs ho ok r h)
inductive OkTgt (c : Lx) : Tgt → Expr → Prop
 | one {k : Nat} {x : Str} {p : Pos} (h : QK c k x = true) : OkTgt c (.one k) (.Name x p)
 | two {k j m : Nat} {x y : Str} {p q pos : Pos} (h : QK c k x = true) (h2 : QK c j y = true) : OkTgt c (.two k j) (.Tuple [.Name x p, .Name y q] m pos)
inductive Bd : Tgt → D → Rho → Rho → Prop
 | one {k : Nat} {x : D} {ρ : Rho} : Bd (.one k) x ρ (st ρ k (.d x))
 | two {k l : Nat} {x y : D} {ρ : Rho} : Bd (.two k l) (.tuple [x, y]) ρ (st (st ρ k (.d x)) l (.d y))
theorem QqQ {t : Tgt} {x : D} {ρ ρ' : Rho} (h : t.bd x ρ = some ρ') : Bd t x ρ ρ' := by
 cases t with
 | one k => cases h; exact .one
 | two k l =>
  cases x with
  | tuple xs =>
   cases xs with
   | nil => cases h
   | cons a r =>
    cases r with
    | nil => cases h
    | cons b r =>
     cases r with
     | nil => cases h; exact .two
     | cons _ _ => cases h
  | _ => cases h
inductive Item2 (F : Fz) (h : Heap) (v : Value) (x : D) : Prop
 | mk (T : Addr) (a b : Value) (x' y' : D) (h0 : v = .ref T) (h1 : h.IsTuple T #[a, b]) (h2 : x = .tuple [x', y']) (h3 : RepD F a x') (h4 : RepD F b y')
noncomputable def Qdk (F : Fz) (h : Heap) (t : Tgt) (v : Value) (x : D) : Prop :=
 match t with
 | .one _ => RepD F v x
 | .two _ _ => Item2 F h v x
theorem Ok.step {l : List Env} {A : Around} {env : Env} {F : Fz} {σ : List Addr} {ρ : Rho} {H : Hp} {s s' : Shared} (ok : Ok K n l A c env F σ ρ H s) (k : ∀ b o, s.heap.get? b = some o → s'.heap.get? b = some o) (hg : s'.gens = s.gens) (ho : s'.os = s.os) : Ok K n l A c env F σ ρ H s' :=
 ok.grow (Gr.step k hg ho) (ok.rh.keeps k)
theorem Qdb {l : List Env} {A : Around} {env : Env} {F : Fz} {σ : List Addr} {ρ ρ' : Rho} {H : Hp} {s : Shared} {Q : Unit → Shared → Prop} {E : Value → Shared → Prop} {t : Tgt} {tx : Expr} {v : Value} {x : D} {own : List Addr}
  (ht : OkTgt c t tx) (ho : Owns c env own) (ok : Ok K n l A c env F σ ρ H s) (hi : Qdk F s.heap t v x) (hb : t.bd x ρ = some ρ')
  (h : ∀ s', Gr own F σ s F σ s' → Ok K n l A c env F σ ρ' H s' → Q () s') : wpAny (model K.prog K.w) A (assign tx env v) Q E s := by
 cases ht with
 | one ht =>
  cases hb
  exact Qbh ht ho ok (.d hi) h
 | two h1 h2 =>
  cases QqQ hb
  obtain ⟨T, a, b, x', y', rfl, hT, e, ra, rb⟩ := hi
  cases e
  refine wpAny_assign_Tuple ok.ar.handled hT rfl rfl fun h₁ he₁ => ?_
  haveI up : ∀ b o, s.heap.get? b = some o → h₁.get? b = some o := fun b o e => he₁ b o (Nat.ne_of_lt (Heap.lt_size e)) e
  haveI g₁ : Gr own F σ s F σ { s with heap := h₁ } := Gr.step up rfl rfl
  refine assignInOrder_cons (Qbh h1 ho (ok.step (s' := { s with heap := h₁ }) up rfl rfl) (.d ra) fun s₂ g₂ ok₂ => ?_)
  refine assignInOrder_cons (Qbh h2 ho ok₂ (.d rb) fun s₃ g₃ ok₃ => ?_)
  exact assignInOrder_nil (h s₃ ((g₁.trans g₂).trans g₃) ok₃)
end
inductive Fits : Tgt → D → Prop
 | one {k : Nat} {x : D} : Fits (.one k) x
 | two {k l : Nat} {x y : D} : Fits (.two k l) (.tuple [x, y])
theorem QjZ {t : Tgt} {x : D} {ρ ρ' : Rho} (h : t.bd x ρ = some ρ') : Fits t x := by
 cases QqQ h with
 | one => exact .one
 | two => exact .two
theorem Qdk.mono {F F' : Fz} {h : Heap} {t : Tgt} {v : Value} {x : D} (le : FLe F F') (i : Qdk F h t v x) : Qdk F' h t v x := by
 cases t with
 | one k => exact RepD.mono le i
 | two k j => obtain ⟨T, a, b, x', y', e, hT, e', ra, rb⟩ := i; exact ⟨T, a, b, x', y', e, hT, e', ra.mono le, rb.mono le⟩
structure ITs (K : Kx) (A : Around) (tx : Expr) (t : Tgt) (I : Addr) (ws kp fp : List Addr) (n : Nat) (P Md : Nat → Value → Heap → Prop) (St : Nat → Heap → Prop) (F : Fz) (xs : List D) (i : Nat) (h : Heap) : Prop where
 W : KTurns K.prog K.w A tx I fp ws n P Md St
 self : ∀ i (s : Shared) (Q : Value → Shared → Prop) (E : Value → Shared → Prop), St i s.heap → Q (.ref I) s → wpAny (model K.prog K.w) A (pyIter (.ref I)) Q E s
 len : n = i + xs.length
 item : ∀ j v h x, (∀ b o, F b = some o → h.get? b = some o) → P (i + j) v h → xs[j]? = some x → Fits t x → Qdk F h t v x
 st : St i h
 fp : ∀ b ∈ fp, b ∈ ws ∨ (∃ o, F b = some o) ∨ b ∈ kp
 objs : ∀ i h, St i h → ∀ b ∈ ws, ∃ o fs, h.get? b = some o ∧ o.data = .fields fs
noncomputable def IT (K : Kx) (A : Around) (tx : Expr) (t : Tgt) (I : Addr) (ws kp : List Addr) (F : Fz) (xs : List D) (h : Heap) : Prop :=
 ∃ fp n P Md St i, ITs K A tx t I ws kp fp n P Md St F xs i h
section
variable {K : Kx} {A : Around} {tx : Expr} {t : Tgt} {I : Addr} {ws kp : List Addr} {F : Fz} {xs : List D} {s : Shared}
theorem IT.self {Q : Value → Shared → Prop} {E : Value → Shared → Prop} (it : IT K A tx t I ws kp F xs s.heap) (h : Q (.ref I) s) : wpAny (model K.prog K.w) A (pyIter (.ref I)) Q E s := by
 obtain ⟨fp, n, P, Md, St, i, x⟩ := it; exact x.self i s Q E x.st h
theorem IT.mono {F' : Fz} {h : Heap} (it : IT K A tx t I ws kp F xs h) (le : FLe F F') : IT K A tx t I ws kp F' xs h := by
 obtain ⟨fp, n, P, Md, St, i, x⟩ := it
 exact ⟨fp, n, P, Md, St, i, x.W, x.self, x.len, fun j v h y hF hp hy hf => (x.item j v h y (fun b o e => hF b o (le b o e)) hp hy hf).mono le, x.st, fun b hb => by
  rcases x.fp b hb with h | ⟨o, h⟩ | h
  ·exact .inl h
  ·exact .inr (.inl ⟨o, le b o h⟩)
  ·exact .inr (.inr h), x.objs⟩
theorem IT.frame {h h' : Heap} (it : IT K A tx t I ws kp F xs h) (k1 : ∀ b ∈ ws, ∀ o, h.get? b = some o → h'.get? b = some o) (k2 : ∀ b o', F b = some o' → ∀ o, h.get? b = some o → h'.get? b = some o) (k3 : ∀ b ∈ kp, ∀ o, h.get? b = some o → h'.get? b = some o) :
  IT K A tx t I ws kp F xs h' := by
 obtain ⟨fp, n, P, Md, St, i, x⟩ := it
 exact ⟨fp, n, P, Md, St, i, x.W, x.self, x.len, x.item, x.W.frame i h h' x.st (fun b hb o e => by
  rcases x.fp b hb with q | ⟨o', q⟩ | q
  ·exact k1 b q o e
  ·exact k2 b o' q o e
  ·exact k3 b q o e), x.fp, x.objs⟩
theorem IT.objs {h : Heap} (it : IT K A tx t I ws kp F xs h) : ∀ b ∈ ws, ∃ o fs, h.get? b = some o ∧ o.data = .fields fs := by
 obtain ⟨fp, n, P, Md, St, i, x⟩ := it; exact x.objs i h x.st
theorem IT.take {x : D} {Qn : Shared → Prop} {Q : Value → Shared → Prop} {E E₁ : Value → Shared → Prop} (it : IT K A tx t I ws kp F (x :: xs) s.heap) (hF : ∀ b o, F b = some o → s.heap.get? b = some o ∧ b ∉ ws) (hf : Fits t x)
  (h : ∀ v h' tk, (∀ b o, b ∉ ws → s.heap.get? b = some o → h'.get? b = some o) → IT K A tx t I ws kp F xs h' → Qdk F h' t v x → Q v { s with heap := h', toks := tk }) :
  wpAny (model K.prog K.w) A (pyNext (.ref I)) (fun r s₁ => match r with
   | none => Qn s₁
   | some v => wpAny (model K.prog K.w) A (letOwnedTupleGo tx (.ref I) v) (fun _ s₂ => Q v s₂) E₁ s₁) E s := by
 obtain ⟨fp, n, P, Md, St, i, y⟩ := it
 refine y.W.item i s _ _ (by have := y.len; simp at this; omega) y.st fun v h₁ tk hMd hk => ?_
 refine y.W.go i v _ _ _ hMd fun h₂ hP hst hk₂ => ?_
 have up : ∀ b o, b ∉ ws → s.heap.get? b = some o → h₂.get? b = some o := fun b o hb e => hk₂ b o hb (hk b o hb e)
 refine h v h₂ tk up ⟨fp, n, P, Md, St, i + 1, y.W, y.self, by have := y.len; simp at this; lia, fun j v h z hF hp hz hf => ?_, hst, y.fp, y.objs⟩ (y.item 0 v h₂ x (fun b o e => up b o (hF b o e).2 (hF b o e).1) hP rfl hf)
 refine y.item (j + 1) v h z hF ?_ (by simpa using hz) hf
 haveI : i + (j + 1) = i + 1 + j := by lia
 rw [this]; exact hp
theorem IT.done {Q : Option Value → Shared → Prop} {E : Value → Shared → Prop} (it : IT K A tx t I ws kp F [] s.heap)
  (h : ∀ h' tk, (∀ b o, b ∉ ws → s.heap.get? b = some o → h'.get? b = some o) → Q none { s with heap := h', toks := tk }) : wpAny (model K.prog K.w) A (pyNext (.ref I)) Q E s := by
 obtain ⟨fp, n, P, Md, St, i, y⟩ := it
 haveI := y.len
 simp at this
 exact y.W.done s Q E (this ▸ y.st) h
theorem Qfi {vs : List Value} (hl : RepL F vs xs) {j : Nat} {v : Value} {x : D} (hv : vs.toArray[j]? = some v) (hx : xs[j]? = some x) {h : Heap} (hF : ∀ b o, F b = some o → h.get? b = some o) (hf : Fits t x) : Qdk F h t v x := by
 obtain ⟨v', hv', r⟩ := hl.get hx
 haveI : v = v' := by
  haveI hv2 : vs[j]? = some v := by simpa using hv
  rw [hv2] at hv'; exact Option.some.inj hv'
 subst this
 cases hf with
 | one => exact r
 | two =>
  obtain ⟨T, o, ws, rfl, hT, so, rl, _⟩ := r.tup_at
  cases rl with
  | cons ra rl =>
   cases rl with
   | cons rb rl =>
    cases rl
    exact ⟨T, _, _, _, _, rfl, ⟨o, hF _ _ hT, so.1, so.2⟩, rfl, ra, rb⟩
theorem QoR {ad : Addr} {vs : List Value} (hh : A.handled = none) (hl : s.heap.IsList ad vs.toArray) (rl : RepL F vs xs) (hfk : (∃ o, F ad = some o) ∨ ad ∈ kp) :
  IT K A tx t s.heap.objs.size [s.heap.objs.size] kp F xs (s.heap.push { cls := .type "list_iterator", data := .fields #[.ref ad, .int 0 0] }) := by
 have hne : ad ≠ s.heap.objs.size := Nat.ne_of_lt (by obtain ⟨o, e, _⟩ := hl; exact Heap.lt_size e)
 refine ⟨_, _, _, _, _, 0, ⟨KTurns.ofWalks (Walks.list hh s.heap.objs.size ad hne vs.toArray) fun i v s Q E st q => letGo_listiter st.1 q, fun i s Q E st q => wpAny_pyIter_listiter st.1 q, by simp [rl.length], fun j v h x hF hp hx hf => ?_, ⟨⟨_, Heap.get?_push_size _ rfl, rfl, rfl⟩, hl.push _⟩, fun b hb => ?_, fun i h st b hb => ?_⟩⟩
 ·rw [Nat.zero_add] at hp; exact Qfi rl hp hx hF hf
 ·simp only [List.mem_cons, List.not_mem_nil, or_false] at hb
  rcases hb with rfl | rfl
  ·exact .inl (by simp)
  ·exact .inr hfk
 ·obtain ⟨⟨o, e, _, d⟩, _⟩ := st
  rw [List.mem_singleton.mp hb]; exact ⟨o, _, e, d⟩
theorem Qpy {ad : Addr} {vs : List Value} (hh : A.handled = none) (hl : s.heap.IsTuple ad vs.toArray) (rl : RepL F vs xs) (hfk : ∃ o, F ad = some o) :
  IT K A tx t s.heap.objs.size [s.heap.objs.size] kp F xs (s.heap.push { cls := .type "tuple_iterator", data := .fields #[.ref ad, .int 0 0] }) := by
 have hne : ad ≠ s.heap.objs.size := Nat.ne_of_lt (by obtain ⟨o, e, _⟩ := hl; exact Heap.lt_size e)
 refine ⟨_, _, _, _, _, 0, ⟨KTurns.ofWalks (Walks.tuple hh s.heap.objs.size ad hne vs.toArray) fun i v s Q E st q => letGo_tupleiter st.1 q, fun i s Q E st q => wpAny_pyIter_tupleiter st.1 q, by simp [rl.length], fun j v h x hF hp hx hf => ?_, ⟨⟨_, Heap.get?_push_size _ rfl, rfl, rfl⟩, hl.at fun o e => Heap.get?_push_of_some _ e⟩, fun b hb => ?_, fun i h st b hb => ?_⟩⟩
 ·rw [Nat.zero_add] at hp; exact Qfi rl hp hx hF hf
 ·simp only [List.mem_cons, List.not_mem_nil, or_false] at hb
  rcases hb with rfl | rfl
  ·exact .inl (by simp)
  ·exact .inr (.inl hfk)
 ·obtain ⟨⟨o, e, _, d⟩, _⟩ := st
  rw [List.mem_singleton.mp hb]; exact ⟨o, _, e, d⟩
theorem QsX {ad : Addr} {vs : List Value} {h : Heap} {I : Addr} {k : Nat} (hh : A.handled = none) (hit : h.IsRevIter I ad ((vs.length : Int) - 1)) (hl : h.IsList ad vs.toArray) (hne : ad ≠ I) (rl : RepL F vs xs) (hfk : ∃ o, F ad = some o) {x : Str} {p : Pos} :
  IT K A (.Name x p) (.one k) I [I] kp F xs.reverse h := by
 refine ⟨_, _, _, _, _, 0, ⟨KTurns.ofWalks (Walks.listRev hh I ad hne vs.toArray) fun i v s Q E st q => wpAny_pure q, fun i s Q E st q => wpAny_pyIter_revIter st.2.1 q, by simp [rl.length], fun j v h x hF hp hx hf => ?_, ⟨Nat.zero_le _, by simpa using hit, hl⟩, fun b hb => ?_, fun i h st b hb => ?_⟩⟩
 ·rw [Nat.zero_add] at hp
  haveI hlen := rl.length
  haveI hj : j < xs.length := by have := (List.getElem?_eq_some_iff.mp hx).1; simpa using this
  rw [List.getElem?_reverse hj] at hx
  haveI hs : vs.toArray.size - 1 - j = xs.length - 1 - j := by simp [hlen]
  rw [hs] at hp
  exact Qfi rl hp hx hF hf
 ·simp only [List.mem_cons, List.not_mem_nil, or_false] at hb
  rcases hb with rfl | rfl
  ·exact .inl (by simp)
  ·exact .inr (.inl hfk)
 ·obtain ⟨_, ⟨o, e, _, d⟩, _⟩ := st
  rw [List.mem_singleton.mp hb]; exact ⟨o, _, e, d⟩
theorem QpS {h : Heap} {I : Addr} {a c : Int} {n : Nat} {k : Nat} (hh : A.handled = none) (hit : IsRangeIter h I a (n : Int) c) {x : Str} {p : Pos} (hlen : xs.length = n) (hxs : ∀ (j : Nat) (y : D), xs[j]? = some y → y = .int (a + (j : Int) * c)) :
  IT K A (.Name x p) (.one k) I [I] kp F xs h := by
 refine ⟨_, _, _, _, _, 0, ⟨KTurns.ofWalks (Walks.range hh I a c n) fun i v s Q E st q => wpAny_pure q, fun i s Q E st q => wpAny_pyIter_rangeiter st q, by simp [hlen], fun j v h x hF hp hx hf => ?_, ?_, fun b hb => .inl hb, fun i h st b hb => ?_⟩⟩
 ·rw [Nat.zero_add] at hp
  obtain ⟨t, rfl⟩ := hp
  rw [hxs j x hx]; exact .int _ _
 ·haveI e1 : a + ((0 : Nat) : Int) * c = a := by simp
  haveI e2 : (n : Int) - ((0 : Nat) : Int) = n := by simp
  show IsRangeIter h I (a + ((0 : Nat) : Int) * c) ((n : Int) - ((0 : Nat) : Int)) c
  rw [e1, e2]; exact hit
 ·rw [List.mem_singleton.mp hb]; exact ⟨_, _, st, rfl⟩
theorem Qfp : ∀ (xs : List D) (i : Int) (j : Nat) (y : D), (Qcc i xs)[j]? = some y → ∃ x, xs[j]? = some x ∧ y = .tuple [.int (i + j), x]
 | [], _, _, _, h => by simp [Qcc] at h
 | x :: r, i, 0, y, h => by simp [Qcc] at h; exact ⟨x, rfl, by simp [h]⟩
 | x :: r, i, j + 1, y, h => by
  simp only [Qcc, List.getElem?_cons_succ] at h
  obtain ⟨x', HH5⟩ := Qfp r (i + 1) j y h
  haveI h1 := HH5.1
  haveI h2 := HH5.2
  exact ⟨x', by simpa using h1, by rw [h2, show i + 1 + (j : Int) = i + ((j + 1 : Nat) : Int) from by lia]⟩
theorem QaX : ∀ (xs : List D) (i : Int), (Qcc i xs).length = xs.length
 | [], _ => rfl
 | _ :: r, i => by simp [Qcc, QaX r]
theorem QqF {ad : Addr} {vs : List Value} {h : Heap} {e it : Addr} {k j : Nat} (hh : A.handled = none) (he : IsEnum h e it 0 .none) (hit : h.IsListIter it ad 0) (hl : h.IsList ad vs.toArray) (h1 : e ≠ it) (h2 : ad ≠ e) (h3 : ad ≠ it) (rl : RepL F vs xs) (hfk : ∃ o, F ad = some o) {elts : List Expr} {q : Nat} {p : Pos} :
  IT K A (.Tuple elts q p) (.two k j) e [e, it] kp F (Qcc 0 xs) h := by
 refine ⟨_, _, _, _, _, 0, ⟨KTurns.ofWalksU (WalksT.enumerate hh e it ad h1 h2 h3 vs.toArray).toU, fun i s Q E st q => wpAny_pyIter_enum st.1.choose_spec q, by simp [rl.length, QaX], fun j v h x hF hp hx hf => ?_, ⟨⟨_, he⟩, hit, hl⟩, fun b hb => ?_, fun i h st b hb => ?_⟩⟩
 ·rw [Nat.zero_add] at hp
  obtain ⟨T, vals, rfl, ⟨tk, v, hv, rfl⟩, hT⟩ := hp
  obtain ⟨y, hy, rfl⟩ := Qfp xs 0 j x hx
  obtain ⟨v', HH6⟩ := rl.get hy
  haveI hv' := HH6.1
  haveI r := HH6.2
  haveI : v = v' := by as_aux_lemma =>
   haveI hv2 : vs[j]? = some v := by simpa using hv
   rw [hv2] at hv'; exact Option.some.inj hv'
  subst this
  refine ⟨T, _, _, _, _, rfl, hT, rfl, ?_, r⟩
  rw [Int.zero_add]; exact .int _ _
 ·simp only [List.mem_cons, List.not_mem_nil, or_false] at hb
  rcases hb with rfl | rfl | rfl
  ·exact .inl (by simp)
  ·exact .inl (by simp)
  ·exact .inr (.inl hfk)
 ·obtain ⟨⟨old, he⟩, ⟨o, eo, _, d⟩, _⟩ := st
  simp only [List.mem_cons, List.not_mem_nil, or_false] at hb
  rcases hb with rfl | rfl
  ·exact ⟨_, _, he, rfl⟩
  ·exact ⟨o, _, eo, d⟩
end
noncomputable def KI (K : Kx) (l : List Env) (A : Around) (tx : Expr) (t : Tgt) (r : R (List D)) (F : Fz) (σ : List Addr) (s : Shared) (Q : Value → Shared → Prop) (E : Value → Shared → Prop) : Prop :=
 match r with
 | .ok xs H' => ∀ I ws F' σ' s', Gr [] F σ s F' σ' s' → RH K.fa K.h₀ F' σ' H' s'.heap → IT K A tx t I ws [] F' xs s'.heap → (∀ b ∈ ws, s.heap.get? b = none ∧ F' b = none ∧ b ∉ σ') → xs.length ≤ 4194305 → Q (.ref I) s'
 | .exc H' => ∀ ev s', XE K l F σ H' s ev s' → E ev s'
 | .stuck => False
theorem KI.shift {K : Kx} {l : List Env} {A : Around} {tx : Expr} {t : Tgt} {r : R (List D)} {F F₁ : Fz} {σ σ₁ : List Addr} {s s₁ : Shared} {Q : Value → Shared → Prop} {E : Value → Shared → Prop}
  (h : KI K l A tx t r F σ s Q E) (g : Gr [] F σ s F₁ σ₁ s₁) : KI K l A tx t r F₁ σ₁ s₁ Q E := by
 cases r with
 | ok a H => exact fun I ws F' σ' s' g' rh it hw => h I ws F' σ' s' (g.trans g') rh it fun b hb => ⟨g.dead (hw b hb).1, (hw b hb).2⟩
 | exc H => exact fun ev s' x => h ev s' (x.shift g)
 | stuck => exact h
theorem KI.bind {α β : Type} {K : Kx} {l : List Env} {A : Around} {tx : Expr} {t : Tgt} {Rep₁ : Fz → List Addr → β → α → Prop} {r : R α} {f : α → Hp → R (List D)} {F : Fz} {σ : List Addr} {s : Shared} {Q : Value → Shared → Prop} {Q₁ : β → Shared → Prop} {E : Value → Shared → Prop}
  (hk : KI K l A tx t (r.bind f) F σ s Q E)
  (h : ∀ a H₁ v F₁ σ₁ s₁, Gr [] F σ s F₁ σ₁ s₁ → RH K.fa K.h₀ F₁ σ₁ H₁ s₁.heap → Rep₁ F₁ σ₁ v a → KI K l A tx t (f a H₁) F₁ σ₁ s₁ Q E → Q₁ v s₁) : KR K l Rep₁ r F σ s Q₁ E := by
 cases r with
 | ok a H => exact fun v F' σ' s' g rh rep => h a H v F' σ' s' g rh rep (KI.shift (r := f a H) hk g)
 | exc H => exact hk
 | stuck => exact hk
theorem KI.opt {γ : Type} {K : Kx} {l : List Env} {A : Around} {tx : Expr} {t : Tgt} {o : Option γ} {f : γ → Hp → R (List D)} {F : Fz} {σ : List Addr} {H : Hp} {s : Shared} {Q : Value → Shared → Prop} {E : Value → Shared → Prop}
  (hk : KI K l A tx t ((Qp o H).bind f) F σ s Q E) : ∃ a, o = some a ∧ KI K l A tx t (f a H) F σ s Q E := by
 cases o with
 | none => exact hk.elim
 | some a => exact ⟨a, rfl, hk⟩
noncomputable def SI (K : Kx) (n : Nat) (c : Lx) (cl : Qh) (i : PI) (x : Expr) (tx : Expr) (t : Tgt) : Prop :=
 ∀ (l : List Env) (A : Around) (env : Env) (F : Fz) (σ : List Addr) (ρ : Rho) (H : Hp) (s : Shared) (Q : Value → Shared → Prop) (E : Value → Shared → Prop),
  Ok K n l A c env F σ ρ H s → KI K l A tx t (evI cl i ρ H) F σ s Q E → wpAny (model K.prog K.w) A (eval x env) (fun v s₁ => wpAny (model K.prog K.w) A (pyIter v) Q E s₁) E s
theorem RH.nσ {fa : Nat → Addr} {h₀ : Heap} {F : Fz} {σ : List Addr} {H : Hp} {h : Heap} (r : RH fa h₀ F σ H h) {a : Addr} (ha : h.get? a = none) : a ∉ σ := fun hm => by
 obtain ⟨vs', o, e, _⟩ := r.isList hm; rw [ha] at e; cases e
theorem KI.laid {K : Kx} {l : List Env} {A : Around} {tx : Expr} {t : Tgt} {xs : List D} {F : Fz} {σ : List Addr} {H : Hp} {s : Shared} {Q : Value → Shared → Prop} {E : Value → Shared → Prop} {h' : Heap} {tk : Nat} {I : Addr} {ws : List Addr}
  (hk : KI K l A tx t (.ok xs H) F σ s Q E) (rh : RH K.fa K.h₀ F σ H s.heap) (k : ∀ b o, s.heap.get? b = some o → h'.get? b = some o) (it : IT K A tx t I ws [] F xs h') (hw : ∀ b ∈ ws, s.heap.get? b = none) (hle : xs.length ≤ 4194305) :
  Q (.ref I) { s with heap := h', toks := tk } :=
 hk I ws F σ _ (Gr.step k rfl rfl) (rh.keeps k) it (fun b hb => ⟨hw b hb, rh.fnone (hw b hb), rh.nσ (hw b hb)⟩) hle
theorem QbK {h : Heap} {k : Nat} (hk : h.objs.size ≤ k) : h.get? k = none := by
 cases e : h.get? k with
 | none => rfl
 | some o => exact absurd (Heap.lt_size e) (Nat.not_lt.mpr hk)
section
variable {K : Kx} {n : Nat} {c : Lx} {cl : Qh} {tx : Expr} {t : Tgt}
theorem Qta {a : PE} {x : Expr} (ha : SE K n c cl a x) : SI K n c cl (.seq a) x tx t := by
 intro l A env F σ ρ H s Q E ok hk
 refine ha l A env F σ ρ H s _ E ok (hk.bind fun v H₁ v₁ F₁ σ₁ s₁ g₁ rh₁ r₁ hk₁ => ?_)
 haveI hs := QaR s₁.heap
 cases v with
 | d x =>
  haveI r := r₁.d_inv
  cases x with
  | list xs =>
   obtain ⟨a, o, vs, rfl, e1, e2, e3, e4⟩ := r.list_at
   haveI hl := e2.isList (rh₁.le _ _ e1)
   refine wpAny_pyIter_list hl ?_
   exact KI.laid (tk := s₁.toks) hk₁ rh₁ (fun b o e => Heap.get?_push_of_some _ e) (QoR ok.ar.handled hl e3 (.inl ⟨o, e1⟩)) (fun b hb => by rw [List.mem_singleton.mp hb]; exact hs) e4
  | tuple xs =>
   obtain ⟨a, o, vs, rfl, e1, e2, e3, e4⟩ := r.tup_at
   haveI hl : s₁.heap.IsTuple a vs.toArray := e2.isTup (rh₁.le _ _ e1)
   refine wpAny_pyIter_tuple hl ?_
   exact KI.laid (tk := s₁.toks) hk₁ rh₁ (fun b o e => Heap.get?_push_of_some _ e) (Qpy ok.ar.handled hl e3 ⟨o, e1⟩) (fun b hb => by rw [List.mem_singleton.mp hb]; exact hs) e4
  | _ => exact hk₁.elim
 | _ => exact hk₁.elim
theorem QX : ∀ (m : Nat) (lo : Int), (Qbc lo m).length = m
 | 0, _ => rfl
 | m + 1, lo => by simp [Qbc, QX m]
theorem QaT : ∀ (m : Nat) (lo : Int), (QcN lo m).length = m
 | 0, _ => rfl
 | m + 1, lo => by simp [QcN, QaT m]
theorem QcK : ∀ (m : Nat) (lo : Int) (j : Nat) (y : D), (Qbc lo m)[j]? = some y → y = .int (lo + (j : Int) * 1)
 | 0, _, _, _, h => by simp [Qbc] at h
 | m + 1, lo, 0, y, h => by simp [Qbc] at h; simp [h]
 | m + 1, lo, j + 1, y, h => by
  simp only [Qbc, List.getElem?_cons_succ] at h
  rw [QcK m (lo + 1) j y h, show lo + 1 + (j : Int) * 1 = lo + ((j + 1 : Nat) : Int) * 1 from by lia]
theorem QeL : ∀ (m : Nat) (lo : Int) (j : Nat) (y : D), (QcN lo m)[j]? = some y → y = .int (lo + (j : Int) * (-1))
 | 0, _, _, _, h => by simp [QcN] at h
 | m + 1, lo, 0, y, h => by simp [QcN] at h; simp [h]
 | m + 1, lo, j + 1, y, h => by
  simp only [QcN, List.getElem?_cons_succ] at h
  rw [QeL m (lo - 1) j y h, show lo - 1 + (j : Int) * (-1) = lo + ((j + 1 : Nat) : Int) * (-1) from by lia]
theorem QcZ {l : List Env} {A : Around} {F : Fz} {σ : List Addr} {H : Hp} {s : Shared} {Q : Value → Shared → Prop} {E : Value → Shared → Prop} {a b d : Int} {ta tb td : Tok} {tk : Nat} {m : Nat} {xs : List D} {x : Str} {p : Pos} {k : Nat}
  (ar : Ar n l A) (rh : RH K.fa K.h₀ F σ H s.heap) (hsm : Builtin.Range.small a b d = true) (hn : Builtin.Range.rangeSize a b d = (m : Int)) (hlen : xs.length = m) (hm : m ≤ 4194305) (hxs : ∀ (j : Nat) (y : D), xs[j]? = some y → y = .int (a + (j : Int) * d))
  (hk : KI K l A (.Name x p) (.one k) (.ok xs H) F σ s Q E) :
  wpAny (model K.prog K.w) A (pyIter (.ref s.heap.objs.size)) Q E { s with heap := s.heap.push { cls := .type "range", data := .fields #[.int a ta, .int b tb, .int d td] }, toks := tk } := by
 refine wpAny_pyIter_range (IsRange.new ..) hsm ?_
 rw [hn]
 haveI hsz : (s.heap.push { cls := .type "range", data := .fields #[.int a ta, .int b tb, .int d td] }).objs.size = s.heap.objs.size + 1 := Heap.size_push ..
 refine KI.laid (s := s) hk rh (fun b o e => Heap.get?_push_of_some _ (Heap.get?_push_of_some _ e)) (QpS ar.handled (n := m) (a := a) (c := d) (Heap.get?_push_size _ rfl) hlen hxs) (fun z hz => ?_) (by lia)
 rw [List.mem_singleton.mp hz]
 refine QbK ?_
 show s.heap.objs.size ≤ (s.heap.push { cls := .type "range", data := .fields #[.int a ta, .int b tb, .int d td] }).objs.size
 lia
theorem QnB (B : Bs K) {a : PE} {f : Str} {x : Expr} {p pos : Pos} {y : Str} {q : Pos} {k : Nat} (hg : QF c f = true) (hb : QbG f = some (.type "range")) (hs : Qm [x] = true) (ha : SE K n c cl a x) :
  SI K n c cl (.range1 a) (.Call (.Name f p) [x] [] pos) (.Name y q) (.one k) := by
 intro l A env F σ ρ H s Q E ok hk
 refine Qhi B ok hg hb hs (Qhq hs (ha l A env F σ ρ H s _ E ok (hk.bind fun v H₁ v₁ F₁ σ₁ s₁ g₁ rh₁ r₁ hk₁ => ?_)))
 obtain ⟨i, e, hk₂⟩ := hk₁.opt
 haveI := Qw e; subst this
 obtain ⟨u, rfl⟩ := r₁.int_inv
 split at hk₂
 ·rename_i hc
  refine call_range_1 ?_
  refine QcZ ok.ar rh₁ (small_one (by lia) (by lia) (by omega) (by omega)) (m := i.toNat) ?_ (QX _ _) (by omega) (QcK _ _) hk₂
  rw [rangeSize_one]; split <;> lia
 ·exact hk₂.elim
theorem Qoc (B : Bs K) {a b : PE} {f : Str} {x z : Expr} {p pos : Pos} {y : Str} {q : Pos} {k : Nat} (hg : QF c f = true) (hb : QbG f = some (.type "range")) (hs : Qm [x, z] = true) (ha : SE K n c cl a x) (hb' : SE K n c cl b z) :
  SI K n c cl (.range2 a b) (.Call (.Name f p) [x, z] [] pos) (.Name y q) (.one k) := by
 intro l A env F σ ρ H s Q E ok hk
 refine Qhi B ok hg hb hs (Qps hs (ha l A env F σ ρ H s _ E ok (hk.bind fun v H₁ v₁ F₁ σ₁ s₁ g₁ rh₁ r₁ hk₁ => ?_)))
 refine hb' l A env F₁ σ₁ ρ H₁ s₁ _ E (ok.grow g₁ rh₁) (hk₁.bind fun v H₂ v₂ F₂ σ₂ s₂ g₂ rh₂ r₂ hk₂ => ?_)
 obtain ⟨i, e, hk₃⟩ := hk₂.opt
 haveI := Qw e; subst this
 obtain ⟨j, e, hk₄⟩ := hk₃.opt
 haveI := Qw e; subst this
 obtain ⟨u, rfl⟩ := r₁.int_inv
 obtain ⟨u', rfl⟩ := r₂.int_inv
 split at hk₄
 ·rename_i hc
  refine call_range_2 ?_
  refine QcZ ok.ar rh₂ (small_one (by omega) (by omega) (by omega) (by omega)) (m := (j - i).toNat) ?_ (QX _ _) (by omega) (QcK _ _) hk₄
  rw [rangeSize_one]; split <;> lia
 ·exact hk₄.elim
inductive IsM1 : Expr → Prop
 | mk (j : Nat) (p pos : Pos) : IsM1 (.UnaryOp .USub (.Constant (.int 1) j p) pos)
theorem QpT {i : Int} (h : i < 4194304) (h' : -4194304 < i) : Builtin.Range.small i (-1) (-1) = true := by
 unfold Builtin.Range.small
 rw [rangeSize_downNat]
 simp only [Builtin.Range.rangeFitsLong, Bool.and_eq_true, Bool.or_eq_true, decide_eq_true_eq, beq_iff_eq, show ¬ ((-1 : Int) > 0) by decide, if_false]
 lia
theorem Qno (B : Bs K) {a : PE} {f : Str} {x z₁ z₂ : Expr} {p pos : Pos} {y : Str} {q : Pos} {k : Nat} (hg : QF c f = true) (hb : QbG f = some (.type "range")) (hs : Qm [x, z₁, z₂] = true) (hz₁ : IsM1 z₁) (hz₂ : IsM1 z₂) (ha : SE K n c cl a x) :
  SI K n c cl (.rangeD a) (.Call (.Name f p) [x, z₁, z₂] [] pos) (.Name y q) (.one k) := by
 intro l A env F σ ρ H s Q E ok hk
 refine Qhi B ok hg hb hs (Qtc hs (ha l A env F σ ρ H s _ E ok (hk.bind fun v H₁ v₁ F₁ σ₁ s₁ g₁ rh₁ r₁ hk₁ => ?_)))
 obtain ⟨j1, p1, q1⟩ := hz₁
 obtain ⟨j2, p2, q2⟩ := hz₂
 obtain ⟨i, e, hk₂⟩ := hk₁.opt
 haveI := Qw e; subst this
 obtain ⟨u, rfl⟩ := r₁.int_inv
 haveI hM : ∀ {pp pq : Pos} {jj : Nat}, SE K n c cl (.neg (.kd (.int 1))) (.UnaryOp .USub (.Constant (.int 1) jj pp) pq) := fun {_ _ _} => Qqp (QrZ (.int 1))
 haveI ok₁ := ok.grow g₁ rh₁
 refine hM l A env F₁ σ₁ ρ H₁ s₁ _ E ok₁ ?_
 change KR _ _ _ (R.ok (V.d (PyData.int (-1))) _) _ _ _ _ _
 intro v₂ F₂ σ₂ s₂ g₂ rh₂ r₂
 refine hM l A env F₂ σ₂ ρ H₁ s₂ _ E (ok₁.grow g₂ rh₂) ?_
 change KR _ _ _ (R.ok (V.d (PyData.int (-1))) _) _ _ _ _ _
 intro v₃ F₃ σ₃ s₃ g₃ rh₃ r₃
 obtain ⟨u2, rfl⟩ := r₂.int_inv
 obtain ⟨u3, rfl⟩ := r₃.int_inv
 haveI hk₄ := hk₂.shift (g₂.trans g₃)
 split at hk₄
 ·rename_i hc
  refine call_range_3 (by decide) ?_ (.inl (PyProof.noPylong_small (by decide)))
  refine QcZ ok.ar rh₃ (QpT hc.1 hc.2) (m := (i + 1).toNat) ?_ (QaT _ _) (by omega) (QeL _ _) hk₄
  rw [rangeSize_downNat]; lia
 ·exact hk₄.elim
theorem QrU (B : Bs K) {a : PE} {f : Str} {x : Expr} {p pos : Pos} {elts : List Expr} {j k1 k2 : Nat} {q : Pos} (hg : QF c f = true) (hb : QbG f = some (.type "enumerate")) (hs : Qm [x] = true) (ha : SE K n c cl a x) :
  SI K n c cl (.enum a) (.Call (.Name f p) [x] [] pos) (.Tuple elts j q) (.two k1 k2) := by
 intro l A env F σ ρ H s Q E ok hk
 refine Qhi B ok hg hb hs (Qhq hs (ha l A env F σ ρ H s _ E ok (hk.bind fun v H₁ v₁ F₁ σ₁ s₁ g₁ rh₁ r₁ hk₁ => ?_)))
 cases v with
 | d x =>
  haveI r := r₁.d_inv
  cases x with
  | list xs =>
   obtain ⟨a, o, vs, rfl, HH9⟩ := r.list_at
   haveI e1 := HH9.1
   haveI e2 := HH9.2.1
   haveI e3 := HH9.2.2.1
   haveI e4 := HH9.2.2.2
   haveI hl := e2.isList (rh₁.le _ _ e1)
   haveI hlt : a < s₁.heap.objs.size := Heap.lt_size (rh₁.le _ _ e1)
   refine call_enumerate_list hl fun h' hE hI hsz hkp => ?_
   refine wpAny_pyIter_enum hE ?_
   refine KI.laid (tk := s₁.toks) hk₁ rh₁ hkp (QqF ok.ar.handled hE hI (hl.at fun o e => hkp _ o e) (Nat.succ_ne_self _) (Nat.ne_of_lt (Nat.lt_succ_of_lt hlt)) (Nat.ne_of_lt hlt) e3 ⟨o, e1⟩) (fun b hb => ?_) (by rw [QaX]; exact e4)
   simp only [List.mem_cons, List.not_mem_nil, or_false] at hb
   rcases hb with rfl | rfl
   ·exact QbK (Nat.le_succ _)
   ·exact QbK (Nat.le_refl _)
  | _ => exact hk₁.elim
 | _ => exact hk₁.elim
theorem Qtm (B : Bs K) {a : PE} {f : Str} {x : Expr} {p pos : Pos} {y : Str} {q : Pos} {k : Nat} (hg : QF c f = true) (hb : QbG f = some (.type "reversed")) (hs : Qm [x] = true) (ha : SE K n c cl a x) :
  SI K n c cl (.rev a) (.Call (.Name f p) [x] [] pos) (.Name y q) (.one k) := by
 intro l A env F σ ρ H s Q E ok hk
 refine Qhi B ok hg hb hs (Qhq hs (ha l A env F σ ρ H s _ E ok (hk.bind fun v H₁ v₁ F₁ σ₁ s₁ g₁ rh₁ r₁ hk₁ => ?_)))
 cases v with
 | d x =>
  haveI r := r₁.d_inv
  cases x with
  | list xs =>
   obtain ⟨a, o, vs, rfl, HH9⟩ := r.list_at
   haveI e1 := HH9.1
   haveI e2 := HH9.2.1
   haveI e3 := HH9.2.2.1
   haveI e4 := HH9.2.2.2
   haveI hl := e2.isList (rh₁.le _ _ e1)
   haveI hlt : a < s₁.heap.objs.size := Heap.lt_size (rh₁.le _ _ e1)
   refine call_reversed_list hl ?_
   haveI hit : (s₁.heap.push (revObj a ((vs.toArray.size : Int) - 1))).IsRevIter s₁.heap.objs.size a ((vs.length : Int) - 1) := ⟨_, Heap.get?_push_size _ rfl, rfl, by simp [revObj]⟩
   refine wpAny_pyIter_revIter hit ?_
   refine KI.laid (tk := s₁.toks) hk₁ rh₁ (fun b o e => Heap.get?_push_of_some _ e) (QsX ok.ar.handled hit (hl.push _) (Nat.ne_of_lt hlt) e3 ⟨o, e1⟩) (fun b hb => ?_) (by simpa using e4)
   rw [List.mem_singleton.mp hb]; exact QaR _
  | _ => exact hk₁.elim
 | _ => exact hk₁.elim
end
noncomputable def Qeh (o : Obj) : Prop := (∃ fs, o.data = .fields fs) ∨ ∃ xs n, o.data = .seq xs n
theorem Gr.off {own X : List Addr} {F₀ F : Fz} {σ₀ σ : List Addr} {s₀ s s' : Shared} (g : Gr own F₀ σ₀ s₀ F σ s) (hX : ∀ b ∈ X, b ∈ own ∧ (s₀.heap.get? b = none ∨ ∃ o, s'.heap.get? b = some o))
  (ext : ∀ b o, b ∉ X → s.heap.get? b = some o → s'.heap.get? b = some o) (hg : s'.gens = s.gens) (ho : s'.os = s.os) : Gr own F₀ σ₀ s₀ F σ s' :=
 ⟨fun b o e => by
  by_cases hb : b ∈ X
  ·rcases (hX b hb).2 with h | h
   ·rw [h] at e; cases e
   ·exact h
  ·obtain ⟨o', e'⟩ := g.live b o e; exact ⟨o', ext b o' hb e'⟩,
  fun b o h1 h2 e => let ⟨o', e', z⟩ := g.keep b o h1 h2 e; ⟨o', ext b o' (fun hb => h1 (hX b hb).1) e', z⟩, g.fz, g.nf, g.pre, hg.trans g.gens, ho.trans g.os⟩
noncomputable def Tgt.slots : Tgt → List Nat
 | .one j => [j]
 | .two i j => [i, j]
theorem Tgt.bd_off {t : Tgt} {x : D} {ρ ρ' : Rho} (h : t.bd x ρ = some ρ') : ∀ k, k ∉ t.slots → gt ρ' k = gt ρ k := fun k hk => by
 cases QqQ h with
 | one => exact QaH fun e => hk (List.mem_singleton.mpr e)
 | two => exact (QaH fun e => hk (List.mem_cons_of_mem _ (List.mem_singleton.mpr e))).trans (QaH fun e => hk (e ▸ List.mem_cons_self))
theorem RL.forget {fa : Nat → Addr} {c : Lx} {env : Env} {F : Fz} {σ : List Addr} {ρ ρ' : Rho} {h : Heap} (x : RL fa c env F σ ρ h) (e : ∀ k, gt ρ' k = gt ρ k ∨ gt ρ' k = .unb) : RL fa c env F σ ρ' h := by
 have hh : ∀ {ov k}, Has fa F σ ov (gt ρ k) → Has fa F σ ov (gt ρ' k) := fun {ov k} hs => by
  rcases e k with q | q
  ·rw [q]; exact hs
  ·intro hn; exact absurd q hn
 obtain ⟨m, HH5⟩ := x.ns
 haveI hm := HH5.1
 haveI hv := HH5.2
 refine ⟨x.fnk, x.glob, x.bi, x.kinds, x.noL, ⟨m, hm, fun y k a b => hh (hv y k a b)⟩, fun y hy => ?_, x.inj, fun k hk => ?_, x.wf⟩
 ·obtain ⟨a, ov, HH9⟩ := x.cl y hy
  haveI h1 := HH9.1
  haveI h2 := HH9.2.1
  haveI h3 := HH9.2.2.1
  haveI h4 := HH9.2.2.2
  exact ⟨a, ov, h1, h2, h3, fun k hk => hh (h4 k hk)⟩
 ·rcases e k with q | q
  ·rw [q]; exact x.hi k hk
  ·exact q
section
variable {K : Kx} {n : Nat} {c : Lx} {cl : Qh}
theorem Ok.off {l : List Env} {A : Around} {env : Env} {F : Fz} {σ : List Addr} {ρ : Rho} {H : Hp} {s s' : Shared} {X : List Addr} (ok : Ok K n l A c env F σ ρ H s)
  (hX : ∀ b ∈ X, F b = none ∧ b ∉ σ ∧ ∃ o, s.heap.get? b = some o ∧ Qeh o) (ext : ∀ b o, b ∉ X → s.heap.get? b = some o → s'.heap.get? b = some o) : Ok K n l A c env F σ ρ H s' := by
 have dict : ∀ {a m}, s.heap.Ns a m → a ∉ X := fun {a m} hm hb => by
  obtain ⟨_, _, o, e, p⟩ := hX a hb
  obtain ⟨o', es, ep, HH4⟩ := hm
  haveI e' := HH4.1
  haveI d := HH4.2.1
  rw [e] at e'; cases e'
  rcases p with ⟨fs, p⟩ | ⟨xs, m, p⟩ <;> · rw [d] at p; cases p
 have cel : ∀ {a v}, s.heap.IsCell a v → a ∉ X := fun {a v} hm hb => by
  obtain ⟨_, _, o, e, p⟩ := hX a hb
  obtain ⟨o', e', d⟩ := hm
  rw [e] at e'; cases e'
  rcases p with ⟨fs, p⟩ | ⟨xs, m, p⟩ <;> · rw [d] at p; cases p
 refine ⟨ok.ar, ⟨ok.rh.base, fun b o q => ext b o (fun hb => by rw [(hX b hb).1] at q; cases q) (ok.rh.le b o q), ok.rh.len, ok.rh.nod, fun m b xs h1 h2 => ?_⟩, ?_, ?_⟩
 ·obtain ⟨q, vs, ⟨o, hl⟩, rl, hle⟩ := ok.rh.cell m b xs h1 h2
  exact ⟨q, vs, ⟨o, ext b _ (fun hb => (hX b hb).2.1 (List.mem_of_getElem? h1)) hl⟩, rl, hle⟩
 ·obtain ⟨m, HH17⟩ := ok.rl.ns
  haveI hm := HH17.1
  haveI hv := HH17.2
  refine ⟨ok.rl.fnk, ok.rl.glob, ok.rl.bi, ok.rl.kinds, ok.rl.noL, ⟨m, hm.at' fun o e => ext _ o (dict hm) e, hv⟩, fun y hy => ?_, ok.rl.inj, ok.rl.hi, ok.rl.wf⟩
  obtain ⟨a, ov, HH21⟩ := ok.rl.cl y hy
  haveI e := HH21.1
  haveI hn := HH21.2.1
  haveI hc := HH21.2.2.1
  haveI hk := HH21.2.2.2
  obtain ⟨o, HH26⟩ := id hc
  haveI ho := HH26.1
  haveI hd := HH26.2
  exact ⟨a, ov, e, hn, ⟨o, ext _ o (cel hc) ho, hd⟩, hk⟩
 ·intro e he
  obtain ⟨hk, L, m, HH31⟩ := ok.rs e he
  haveI hf := HH31.1
  haveI hm := HH31.2.1
  haveI hn := HH31.2.2
  exact ⟨hk, L, m, hf, hm.at' fun o e' => ext _ o (dict hm) e', hn⟩
structure LS (K : Kx) (n : Nat) (l : List Env) (A : Around) (c : Lx) (env : Env) (F₀ : Fz) (σ₀ : List Addr) (s₀ : Shared) (own ws kp : List Addr) (Da I : Addr) (tx : Expr) (t : Tgt) (F : Fz) (σ : List Addr) (ρ : Rho) (H : Hp) (s : Shared) (xs ys : List D) : Prop where
 ok : Ok K n l A c env F σ ρ H s
 g : Gr own F₀ σ₀ s₀ F σ s
 it : IT K A tx t I ws kp F xs s.heap
 wn : ∀ b ∈ ws, F b = none ∧ b ∉ σ
 acc : ∃ vs : List Value, s.heap.PlainList Da vs.toArray ∧ RepL F vs ys
 dn : F Da = none ∧ Da ∉ σ
structure LF (c : Lx) (env : Env) (σ₀ : List Addr) (s₀ : Shared) (own own' ws kp : List Addr) (D : Addr) : Prop where
 owns : Owns c env own'
 sub : ∀ b ∈ own', b ∈ own
 wsub : ∀ b ∈ ws, b ∈ own ∧ s₀.heap.get? b = none ∧ b ∉ own' ∧ b ≠ D
 dsub : D ∈ own ∧ D ∉ own'
 kp : ∀ b ∈ kp, b ∉ σ₀ ∧ (∃ o, s₀.heap.get? b = some o ∧ ∀ es ep, o.data ≠ .dict es ep) ∧ b ∉ own
theorem LS.kpσ {l : List Env} {A : Around} {env : Env} {F₀ F : Fz} {σ₀ σ : List Addr} {s₀ s : Shared} {own own' ws kp : List Addr} {Da I : Addr} {tx : Expr} {t : Tgt} {ρ : Rho} {H : Hp} {xs ys : List D}
  (L : LS K n l A c env F₀ σ₀ s₀ own ws kp Da I tx t F σ ρ H s xs ys) (f : LF c env σ₀ s₀ own own' ws kp Da) : ∀ b ∈ kp, b ∉ σ := fun b hb hm => by
 obtain ⟨h1, ⟨o, h2, _⟩, h3⟩ := f.kp b hb
 obtain ⟨τ, e, hτ⟩ := L.g.pre
 rw [e] at hm
 rcases List.mem_append.mp hm with hm | hm
 ·exact h1 hm
 ·rw [hτ b hm] at h2; cases h2
theorem LS.grow {l : List Env} {A : Around} {env : Env} {F₀ F F' : Fz} {σ₀ σ σ' : List Addr} {s₀ s s' : Shared} {own own' ws kp : List Addr} {Da I : Addr} {tx : Expr} {t : Tgt} {ρ ρ' : Rho} {H H' : Hp} {xs ys : List D} {own₁ : List Addr}
  (L : LS K n l A c env F₀ σ₀ s₀ own ws kp Da I tx t F σ ρ H s xs ys) (f : LF c env σ₀ s₀ own own' ws kp Da) (g : Gr own₁ F σ s F' σ' s') (hs : ∀ b ∈ own₁, b ∈ own') (ok : Ok K n l A c env F' σ' ρ' H' s') : LS K n l A c env F₀ σ₀ s₀ own ws kp Da I tx t F' σ' ρ' H' s' xs ys := by
 haveI wk : ∀ b ∈ ws, ∀ o, s.heap.get? b = some o → s'.heap.get? b = some o := fun b hb o e => g.kept (fun h => (f.wsub b hb).2.2.1 (hs b h)) (L.wn b hb).2 e (fun es ep q => by obtain ⟨o', fs, e', d⟩ := L.it.objs b hb; rw [e] at e'; cases e'; rw [d] at q; cases q)
 have nσ : ∀ b o, b ∉ σ → s.heap.get? b = some o → b ∉ σ' := fun b o h e hm => by
  obtain ⟨τ, e', hτ⟩ := g.pre
  rw [e'] at hm
  rcases List.mem_append.mp hm with hm | hm
  ·exact h hm
  ·rw [hτ b hm] at e; cases e
 obtain ⟨vs, ⟨na, hl⟩, rl⟩ := L.acc
 refine ⟨ok, L.g.trans (g.own fun a ha => .inl (f.sub a (hs a ha))), (L.it.frame wk (fun b o' q o e => ?_) fun b hb o e => ?_).mono g.fz, fun b hb => ?_, ⟨vs, ⟨na, g.kept (fun h => f.dsub.2 (hs _ h)) L.dn.2 hl (fun es ep q => by cases q)⟩, rl.mono g.fz⟩, g.nf _ _ hl L.dn.1, nσ _ _ L.dn.2 hl⟩
 ·have h1 := L.ok.rh.le b o' q
  rw [h1] at e; cases e
  exact ok.rh.le b o' (g.fz b o' q)
 ·obtain ⟨h1, ⟨o₀, h2, h4⟩, h3⟩ := f.kp b hb
  have h5 := L.g.kept h3 h1 h2 h4
  rw [e] at h5; cases h5
  exact g.kept (fun h => h3 (f.sub b (hs b h))) (L.kpσ f b hb) e h4
 ·obtain ⟨o, fs, HH18⟩ := L.it.objs b hb
  haveI e := HH18.1
  exact ⟨g.nf b o e (L.wn b hb).1, nσ b o (L.wn b hb).2 e⟩
noncomputable def LK (K : Kx) (n : Nat) (l : List Env) (A : Around) (c : Lx) (env : Env) (F₀ : Fz) (σ₀ : List Addr) (s₀ : Shared) (own : List Addr) (Da : Addr) (t : Tgt) (ρ : Rho) (r : R (List D)) (ys : List D) (Rf : Shared → Prop) : Prop :=
 match r with
 | .ok zs H' => ys.length + zs.length ≤ 4194305 ∧ ∀ F' σ' s' ρf, Gr own F₀ σ₀ s₀ F' σ' s' → Ok K n l A c env F' σ' ρf H' s' → (∀ k, k ∉ t.slots → gt ρf k = gt ρ k) →
   (∃ vs : List Value, s'.heap.PlainList Da vs.toArray ∧ RepL F' vs (ys ++ zs)) → F' Da = none ∧ Da ∉ σ' → Rf s'
 | _ => False
noncomputable def STs (K : Kx) (n : Nat) (c : Lx) (co : Rho → Hp → R Bool) (ifs : List Expr) : Prop :=
 ∀ (l : List Env) (A : Around) (env : Env) (F : Fz) (σ : List Addr) (ρ : Rho) (H : Hp) (s : Shared) (Q : Bool → Shared → Prop) (E : Value → Shared → Prop),
  Ok K n l A c env F σ ρ H s → KR K l RepB (co ρ H) F σ s Q E →
   wpAny (model K.prog K.w) A (forIn ifs true fun c r => if r = true then do let ok ← isTrue c env (eval c env); pure (ForInStep.yield ok) else pure (ForInStep.yield r)) Q E s
theorem Qkw : STs K n c QaE [] := by
 intro l A env F σ ρ H s Q E ok hk
 exact wpAny_tests_nil (KR.done' (a := true) hk ok.rh rfl)
theorem Qrv {e : PE} {x : Expr} (he : ST K n c cl e x) : STs K n c (fun ρ H => (evE cl e ρ H).bind fun v H => Qp (Qaq v) H) [x] := by
 intro l A env F σ ρ H s Q E ok hk
 exact wpAny_tests_one (he l A env F σ ρ H s Q E ok hk)
noncomputable def QpR (elt tx iter : Expr) (ifs : List Expr) (e : Expr) (d : Nat) : Prop := ∀ it acc env,
  compTurn e d it acc env = (do
   standAt iter.pos
   match ← pyNext it with
   | none => pure (.done .next)
   | some v =>
    letOwnedTupleGo tx it v
    assign tx env v
    let mut ok := true
    for c in ifs do
     if ok then ok ← isTrue c env (eval c env)
    if ok then
     (do let _ ← call (.builtin "list.append") [acc, ← eval elt env])
    again (.compLoop e d it acc env))
theorem IT.bind {α : Type} {A : Around} {F : Fz} {s : Shared} {tx : Expr} {t : Tgt} {I : Addr} {ws kp : List Addr} {x : D} {xs : List D} {k : Option Value → Sem α} {k' : Value → Sem α} {Q : α → Shared → Prop} {E : Value → Shared → Prop} (it : IT K A tx t I ws kp F (x :: xs) s.heap)
  (hF : ∀ b o, F b = some o → s.heap.get? b = some o ∧ b ∉ ws) (hf : Fits t x) (hk : ∀ v, k (some v) = letOwnedTupleGo tx (.ref I) v >>= fun _ => k' v)
  (h : ∀ v h' tk, (∀ b o, b ∉ ws → s.heap.get? b = some o → h'.get? b = some o) → IT K A tx t I ws kp F xs h' → Qdk F h' t v x → wpAny (model K.prog K.w) A (k' v) Q E { s with heap := h', toks := tk }) :
  wpAny (model K.prog K.w) A (pyNext (.ref I) >>= k) Q E s := by
 refine wpAny_bind (wpAny_mono (it.take (E := E) (E₁ := E) (Qn := fun _ => False) (Q := fun v s' => wpAny (model K.prog K.w) A (k' v) Q E s') hF hf h) (fun r s₁ h₁ => ?_) fun _ _ e => e)
 cases r with
 | none => exact h₁.elim
 | some v =>
  show wpAny _ A (k (some v)) Q E s₁
  rw [hk]; exact wpAny_bind h₁
theorem Qfh {l : List Env} {A : Around} {env : Env} {F₀ : Fz} {σ₀ : List Addr} {s₀ : Shared} {own own' ws kp : List Addr} {Da I : Addr} {tx elt iter : Expr} {ifs : List Expr} {t : Tgt} {e : PE} {co : Rho → Hp → R Bool} {x : Expr} {d : Nat} {R' : Result → Shared → Prop}
  (hT : QpR elt tx iter ifs x d) (hu : A.under (.compLoop x d (.ref I) (.ref Da) env) = A) (hq : (Code.compLoop x d (.ref I) (.ref Da) env).quiet = true)
  (hden : denote table (.compLoop x d (.ref I) (.ref Da) env) = (compTurn x d (.ref I) (.ref Da) env).onRaise (fun x => do noteFrame x env; theTreesLotGoes x))
  (ht : OkTgt c t tx) (he : SE K n c cl e elt) (hco : STs K n c co ifs) (f : LF c env σ₀ s₀ own own' ws kp Da) :
  ∀ (xs ys : List D) (F : Fz) (σ : List Addr) (ρ : Rho) (H : Hp) (s : Shared), LS K n l A c env F₀ σ₀ s₀ own ws kp Da I tx t F σ ρ H s xs ys →
   LK K n l A c env F₀ σ₀ s₀ own Da t ρ (QU t.bd (evE cl e) co xs ρ H) ys (R' (.ok .next)) → codeAny (model K.prog K.w) A (.compLoop x d (.ref I) (.ref Da) env) R' s := by
 intro xs
 induction xs with
 | nil =>
  intro ys F σ ρ H s L hk
  refine codeAny_of_tree ?_
  rw [hu]
  show wpAny (model K.prog K.w) A (denote table (.compLoop x d (.ref I) (.ref Da) env)) _ _ s
  rw [hden]
  refine wpAny_noted ?_
  rw [hT]
  refine wpAny_bind (wpAny_standAt (wpAny_bind (L.it.done fun h' tk ext => wpAny_pure ?_)))
  simp only [QU] at hk
  obtain ⟨vs, ⟨na, hl⟩, rl⟩ := L.acc
  haveI hDw : Da ∉ ws := fun h => (f.wsub Da h).2.2.2 rfl
  refine hk.2 F σ _ ρ (L.g.off (X := ws) (fun b hb => ⟨(f.wsub b hb).1, .inl (f.wsub b hb).2.1⟩) ext rfl rfl) (L.ok.off (X := ws) (fun b hb => ⟨(L.wn b hb).1, (L.wn b hb).2, (by obtain ⟨o, fs, e1, e2⟩ := L.it.objs b hb; exact ⟨o, e1, .inl ⟨fs, e2⟩⟩)⟩) ext) (fun _ _ => rfl) ⟨vs, ⟨na, ext _ _ hDw hl⟩, by simpa using rl⟩ L.dn
 | cons y r ih =>
  intro ys F σ ρ H s L hk
  refine codeAny_of_tree ?_
  rw [hu]
  show wpAny (model K.prog K.w) A (denote table (.compLoop x d (.ref I) (.ref Da) env)) _ _ s
  rw [hden]
  refine wpAny_noted ?_
  rw [hT]
  simp only [QU] at hk
  cases hb : t.bd y ρ with
  | none => rw [hb] at hk; exact hk.elim
  | some ρ₁ =>
  rw [hb] at hk
  simp only at hk
  refine wpAny_bind (wpAny_standAt (L.it.bind (fun b o q => ⟨L.ok.rh.le b o q, fun hm => by rw [(L.wn b hm).1] at q; cases q⟩) (QjZ hb) (fun v => rfl) fun v h' tk ext it' item => ?_))
  have hDw : Da ∉ ws := fun h => (f.wsub Da h).2.2.2 rfl
  have L₁ : LS K n l A c env F₀ σ₀ s₀ own ws kp Da I tx t F σ ρ H { s with heap := h', toks := tk } r ys := by
   obtain ⟨vs, ⟨na, hl⟩, rl⟩ := L.acc
   exact ⟨L.ok.off (X := ws) (fun b hb => ⟨(L.wn b hb).1, (L.wn b hb).2, (by obtain ⟨o, fs, e1, e2⟩ := L.it.objs b hb; exact ⟨o, e1, .inl ⟨fs, e2⟩⟩)⟩) ext,
    L.g.off (X := ws) (fun b hb => ⟨(f.wsub b hb).1, .inl (f.wsub b hb).2.1⟩) ext rfl rfl, it', L.wn, ⟨vs, ⟨na, ext _ _ hDw hl⟩, rl⟩, L.dn⟩
  refine wpAny_bind (Qdb ht f.owns L₁.ok item hb fun s₂ g₂ ok₂ => ?_)
  have L₂ := L₁.grow f g₂ (fun _ h => h) ok₂
  cases hcr : co ρ₁ H with
  | exc H' => rw [hcr] at hk; exact hk.elim
  | stuck => rw [hcr] at hk; exact hk.elim
  | ok b H₂ =>
  rw [hcr] at hk
  simp only [R.noexc_ok, R.bind_ok] at hk
  refine wpAny_bind (hco l A env F σ ρ₁ H s₂ _ _ L₂.ok ?_)
  rw [hcr]
  intro b' F₃ σ₃ s₃ g₃ rh₃ hb'
  haveI : b' = b := hb'
  subst this
  have L₃ := L₂.grow f g₃ (by simp) (L₂.ok.grow g₃ rh₃)
  have slots : ∀ {ρf : Rho}, (∀ k, k ∉ t.slots → gt ρf k = gt ρ₁ k) → ∀ k, k ∉ t.slots → gt ρf k = gt ρ k := fun h k hkk => (h k hkk).trans (Tgt.bd_off hb k hkk)
  cases b' with
  | false =>
   simp only at hk
   rw [if_neg Bool.false_ne_true]
   refine wpAny_pure ⟨hq, ih ys F₃ σ₃ ρ₁ H₂ s₃ L₃ ?_⟩
   revert hk
   cases QU t.bd (evE cl e) co r ρ₁ H₂ with
   | ok zs H' => exact fun hk => ⟨hk.1, fun F' σ' s' ρf g ok hf => hk.2 F' σ' s' ρf g ok (slots hf)⟩
   | exc H' => exact fun hk => hk
   | stuck => exact fun hk => hk
  | true =>
   simp only at hk
   rw [if_pos rfl]
   cases her : evE cl e ρ₁ H₂ with
   | exc H' => rw [her] at hk; exact hk.elim
   | stuck => rw [her] at hk; exact hk.elim
   | ok w H₃ =>
   rw [her] at hk
   simp only [R.noexc_ok, R.bind_ok] at hk
   refine wpAny_bind (wpAny_bind (he l A env F₃ σ₃ ρ₁ H₂ s₃ _ _ L₃.ok ?_))
   rw [her]
   intro v₄ F₄ σ₄ s₄ g₄ rh₄ rep
   have L₄ := L₃.grow f g₄ (by simp) (L₃.ok.grow g₄ rh₄)
   cases w with
   | d y₁ =>
    simp only [asD, QmA, R.bind_ok] at hk
    cases hrest : QU t.bd (evE cl e) co r ρ₁ H₃ with
    | exc H' => rw [hrest] at hk; exact hk.elim
    | stuck => rw [hrest] at hk; exact hk.elim
    | ok zs H' =>
    rw [hrest] at hk
    simp only [R.bind_ok] at hk
    obtain ⟨hlen, hk⟩ := hk
    obtain ⟨vs, HH89⟩ := L₄.acc
    haveI hl := HH89.1
    haveI rl := HH89.2
    have hvl := rl.length
    refine wpAny_bind (wpAny_list_append_plain (hsz := by rw [sizeLine_eq]; simp at hlen ⊢; omega) hl fun h₅ hl₅ hs₅ => wpAny_pure (wpAny_pure ⟨hq, ?_⟩))
    have ext₅ : ∀ b o, b ∉ [Da] → s₄.heap.get? b = some o → h₅.get? b = some o := fun b o hb e => hs₅.extBut b o (by simpa using hb) e
    haveI L₅ : LS K n l A c env F₀ σ₀ s₀ own ws kp Da I tx t F₄ σ₄ ρ₁ H₃ { s₄ with heap := h₅ } r (ys ++ [y₁]) := by
     refine ⟨L₄.ok.off (X := [Da]) (fun b hb => ?_) ext₅, L₄.g.off (X := [Da]) (fun b hb => ?_) ext₅ rfl rfl, L₄.it.frame (fun b hb o e => ext₅ b o (by simpa using (f.wsub b hb).2.2.2) e) (fun b o' q o e => ext₅ b o (fun hm => ?_) e) (fun b hb o e => ext₅ b o (fun hm => ?_) e), L₄.wn, ⟨vs ++ [v₄], ?_, rl.append (.cons rep.d_inv .nil)⟩, L₄.dn⟩
     ·rw [List.mem_singleton.mp hb]
      obtain ⟨na, hl⟩ := hl
      exact ⟨L₄.dn.1, L₄.dn.2, _, hl, .inr ⟨_, _, rfl⟩⟩
     ·rw [List.mem_singleton.mp hb]
      obtain ⟨na, hl₅⟩ := hl₅
      exact ⟨f.dsub.1, .inr ⟨_, hl₅⟩⟩
     ·rw [List.mem_singleton.mp hm, L₄.dn.1] at q; cases q
     ·exact (f.kp b hb).2.2 (List.mem_singleton.mp hm ▸ f.dsub.1)
     ·simpa using hl₅
    refine ih (ys ++ [y₁]) F₄ σ₄ ρ₁ H₃ _ L₅ ?_
    rw [hrest]
    refine ⟨by simp at hlen ⊢; omega, fun F' σ' s' ρf g ok hf hv hd => hk F' σ' s' ρf g ok (slots hf) ?_ hd⟩
    simpa using hv
   | _ => exact hk.elim
end
noncomputable def QD (c : Lx) (scope : Scope) (ov : List (Str × Nat)) (top : Nat) : Lx where
 names := fun x => match scope.names.lookup x with
  | some .free => if c.names x == some .cell then some .cell else some .free
  | k => k
 vis := fun x => match ov.lookup x with
  | some k => some k
  | none => if scope.names.lookup x == some .free then c.vis x else none
 own := fun x => scope.names.lookup x == some .local || scope.names.lookup x == some .cell
 top := top
noncomputable def Qce (c : Lx) (scope : Scope) (ov : List (Str × Nat)) (top : Nat) : Bool :=
 scope.kind == .function && decide (c.top ≤ top) &&
 scope.names.all (fun p => (p.2 == .local && scope.names.lookup p.1 == some .local) || (p.2 == .cell && scope.names.lookup p.1 == some .cell) ||
  (p.2 == .free && scope.names.lookup p.1 == some .free && QbD (c.names p.1) && (ov.lookup p.1).isNone) || (p.2 == .globalImplicit && scope.names.lookup p.1 == some .globalImplicit)) &&
 ov.all (fun p => decide (c.top ≤ p.2) && decide (p.2 < top) && ov.all fun q => p.2 != q.2 || p.1 == q.1)
structure OkC (c : Lx) (scope : Scope) (ov : List (Str × Nat)) (top : Nat) : Prop where
 kind : scope.kind = .function
 le : c.top ≤ top
 nm : ∀ p ∈ scope.names, (p.2 = .local ∧ scope.names.lookup p.1 = some .local) ∨ (p.2 = .cell ∧ scope.names.lookup p.1 = some .cell) ∨
  (p.2 = .free ∧ scope.names.lookup p.1 = some .free ∧ QbD (c.names p.1) = true ∧ ov.lookup p.1 = none) ∨ (p.2 = .globalImplicit ∧ scope.names.lookup p.1 = some .globalImplicit)
 ovlt : ∀ x k, ov.lookup x = some k → c.top ≤ k ∧ k < top
 ovin : ∀ x y k, ov.lookup x = some k → ov.lookup y = some k → x = y
theorem QfQ {s : Scope} (h : (s.kind == ScopeKind.function) = true) : s.kind = .function := by
 cases e : s.kind <;> rw [e] at h <;> first | rfl | cases h
theorem QcP {c : Lx} {scope : Scope} {ov : List (Str × Nat)} {top : Nat} (h : Qce c scope ov top = true) : OkC c scope ov top := by
 simp only [Qce, Bool.and_eq_true, decide_eq_true_eq, List.all_eq_true] at h
 obtain ⟨⟨⟨h1, h2⟩, h3⟩, h4⟩ := h
 refine ⟨QfQ h1, h2, fun p hp => ?_, fun x k hx => ?_, fun x y k hx hy => ?_⟩
 ·haveI := h3 p hp
  simp only [Bool.or_eq_true, Bool.and_eq_true, beq_iff_eq, Option.isNone_iff_eq_none] at this
  rcases this with ((h | h) | h) | h
  ·exact .inl h
  ·exact .inr (.inl h)
  ·exact .inr (.inr (.inl ⟨h.1.1.1, h.1.1.2, h.1.2, h.2⟩))
  ·exact .inr (.inr (.inr h))
 ·haveI := h4 _ (mem_of_lookup hx); exact this.1
 ·haveI := (h4 _ (mem_of_lookup hx)).2 _ (mem_of_lookup hy)
  simp at this
  exact this
theorem OkC.wf {c : Lx} {scope : Scope} {ov : List (Str × Nat)} {top : Nat} (h : OkC c scope ov top) (w : c.Wf) : (QD c scope ov top).Wf := by
 refine ⟨fun x k hx => ?_, fun x y k hx hy => ?_⟩
 ·simp only [QD] at hx ⊢
  split at hx
  ·rename_i e; cases hx; exact (h.ovlt x k e).2
  ·split at hx
   ·exact Nat.lt_of_lt_of_le (w.lt x k hx) h.le
   ·cases hx
 ·simp only [QD] at hx hy
  split at hx
  ·rename_i k1 e1; cases hx
   split at hy
   ·rename_i k2 e2; cases hy; exact h.ovin x y k e1 e2
   ·split at hy
    ·have := (h.ovlt x k e1).1; have := w.lt y k hy; omega
    ·cases hy
  ·split at hx
   ·split at hy
    ·rename_i e2; cases hy
     have := (h.ovlt y k e2).1; have := w.lt x k hx; omega
    ·split at hy
     ·exact w.inj x y k hx hy
     ·cases hy
   ·cases hx
theorem Qch {env : Env} (hf : env.scope.kind = .function) : ∀ (names : List (Str × NameKind)) (x : Str),
  (names.map fun (n, k) => if (k == NameKind.free && env.scope.kind == .function && env.kindOf n == some .cell) then (n, NameKind.cell) else (n, k)).lookup x =
   (match names.lookup x with | some .free => if env.kindOf x == some .cell then some .cell else some .free | k => k)
 | [], _ => rfl
 | (n, k) :: r, x => by
  haveI ih := Qch hf r x
  rw [List.map_cons]
  show List.lookup x ((if (k == NameKind.free && env.scope.kind == .function && env.kindOf n == some .cell) = true then (n, NameKind.cell) else (n, k)) :: _) = _
  cases hx : x == n with
  | true =>
   haveI := beq_iff_eq.mp hx; subst this
   rw [show List.lookup x ((x, k) :: r) = some k from by simp [List.lookup_cons]]
   rw [hf]
   cases k <;> simp [List.lookup_cons] <;> (split <;> simp_all)
  | false =>
   rw [show List.lookup x ((n, k) :: r) = List.lookup x r from by simp [List.lookup_cons, hx], ← ih]
   split <;> simp [List.lookup_cons, hx]
noncomputable def clOf (cells : List (Str × Addr)) : List (Str × NameKind) → List (Str × Addr) → List (Str × Addr)
 | [], acc => acc
 | (n, k) :: r, acc => if k == .free then (match cells.lookup n with | some a => clOf cells r ((n, a) :: acc) | none => clOf cells r acc) else clOf cells r acc
theorem Qfz {scope : Scope} {env : Env} (h : ∀ p ∈ scope.names, p.2 = .free → ∃ a, env.cells.lookup p.1 = some a) : closureFor scope env = pure (clOf env.cells scope.names []) := by
 simp only [closureFor]
 haveI : ∀ (names : List (Str × NameKind)) (acc : List (Str × Addr)), (∀ p ∈ names, p.2 = .free → ∃ a, env.cells.lookup p.1 = some a) →
   (forIn names acc (fun x cs => if x.2 == NameKind.free then (do let a ← cellOf env x.1; pure (ForInStep.yield ((x.1, a) :: cs))) else pure (ForInStep.yield cs)) : Sem (List (Str × Addr))) = pure (clOf env.cells names acc) := by
  intro names
  induction names with
  | nil => intro acc _; rfl
  | cons p r ih =>
   intro acc hp
   obtain ⟨nm, k⟩ := p
   rw [List.forIn_cons]
   haveI hr := fun q hq => hp q (List.mem_cons_of_mem _ hq)
   cases hk : k == NameKind.free with
   | true =>
    obtain ⟨a, ha⟩ := hp (nm, k) List.mem_cons_self (beq_iff_eq.mp hk)
    simp only at ha
    rw [clOf, if_pos hk, ha]
    simp only [hk, if_true]
    rw [cellOf, ha]
    exact ih _ hr
   | false =>
    rw [clOf, if_neg (by first | exact Bool.false_ne_true | (rw [hk]; exact Bool.false_ne_true))]
    simp only [hk, if_false, Bool.false_eq_true]
    exact ih _ hr
 haveI h2 := this scope.names [] h
 refine Eq.trans ?_ h2
 exact Sem.bind_pure _
theorem QcB {cells : List (Str × Addr)} : ∀ (names : List (Str × NameKind)) (acc : List (Str × Addr)), (∀ p ∈ acc, cells.lookup p.1 = some p.2) → ∀ p ∈ clOf cells names acc, cells.lookup p.1 = some p.2
 | [], acc, h, p, hp => h p hp
 | (n, k) :: r, acc, h, p, hp => by
  rw [clOf] at hp
  split at hp
  ·split at hp
   ·rename_i a e
    refine QcB r _ (fun q hq => ?_) p hp
    rcases List.mem_cons.mp hq with rfl | hq
    ·exact e
    ·exact h q hq
   ·exact QcB r acc h p hp
  ·exact QcB r acc h p hp
theorem Qei {cells : List (Str × Addr)} : ∀ (names : List (Str × NameKind)) (acc : List (Str × Addr)), ∀ p ∈ acc, p ∈ clOf cells names acc
 | [], acc, p, hp => hp
 | (n, k) :: r, acc, p, hp => by
  rw [clOf]
  split
  ·split
   ·exact Qei r _ p (List.mem_cons_of_mem _ hp)
   ·exact Qei r acc p hp
  ·exact Qei r acc p hp
theorem Qej {cells : List (Str × Addr)} {x : Str} {a : Addr} (hx : cells.lookup x = some a) : ∀ (names : List (Str × NameKind)) (acc : List (Str × Addr)), (x, NameKind.free) ∈ names → (x, a) ∈ clOf cells names acc
 | (n, k) :: r, acc, h => by
  rw [clOf]
  rcases List.mem_cons.mp h with e | h
  ·cases e
   simp only [BEq.rfl, if_true, hx]
   exact Qei r _ _ List.mem_cons_self
  ·split
   ·split
    ·exact Qej hx r _ h
    ·exact Qej hx r _ h
   ·exact Qej hx r _ h
theorem Qaa {α : Type} : ∀ {l : List (Str × α)} {x : Str} {a : α}, (x, a) ∈ l → ∃ b, l.lookup x = some b
 | (k, v) :: r, x, a, h => by
  rw [List.lookup_cons]
  cases hb : x == k with
  | true => exact ⟨v, rfl⟩
  | false =>
   rcases List.mem_cons.mp h with e | h
   ·cases e; simp at hb
   ·exact Qaa h
theorem QjU {cells : List (Str × Addr)} {names : List (Str × NameKind)} {x : Str} {a : Addr} (hm : (x, NameKind.free) ∈ names) (hx : cells.lookup x = some a) : (clOf cells names []).lookup x = some a := by
 obtain ⟨b, hb⟩ := Qaa (Qej hx names [] hm)
 have := QcB names [] (by simp) _ (mem_of_lookup hb)
 simp only at this
 rw [hx] at this; cases this; exact hb
theorem Qbp : ∀ (names : List (Str × NameKind)) (n : Nat) (a b : List (Str × Addr)), cellsFrom n names (a ++ b) = cellsFrom n names a ++ b
 | [], _, _, _ => rfl
 | (x, k) :: r, n, a, b => by
  unfold cellsFrom
  split
  ·exact Qbp r (n + 1) ((x, n) :: a) b
  ·exact Qbp r n a b
theorem Qbu : ∀ (names : List (Str × NameKind)) (n : Nat) (acc : List (Str × Addr)), ∀ p ∈ acc, p ∈ cellsFrom n names acc
 | [], _, _, p, hp => hp
 | (x, k) :: r, n, acc, p, hp => by
  unfold cellsFrom
  split
  ·exact Qbu r _ _ p (List.mem_cons_of_mem _ hp)
  ·exact Qbu r _ _ p hp
theorem Qac {x : Str} : ∀ (names : List (Str × NameKind)) (n : Nat) (acc : List (Str × Addr)), (x, NameKind.cell) ∈ names → ∃ a, (x, a) ∈ cellsFrom n names acc
 | (y, k) :: r, n, acc, h => by
  unfold cellsFrom
  rcases List.mem_cons.mp h with e | h
  ·cases e
   exact ⟨n, Qbu r _ _ _ (by simp)⟩
  ·split
   ·exact Qac r _ _ h
   ·exact Qac r _ _ h
theorem Qbb {x : Str} {a : Addr} : ∀ (names : List (Str × NameKind)) (n : Nat) (acc : List (Str × Addr)), (x, a) ∈ cellsFrom n names acc → (x, NameKind.cell) ∈ names ∨ (x, a) ∈ acc
 | [], _, _, h => .inr h
 | (y, k) :: r, n, acc, h => by
  unfold cellsFrom at h
  split at h
  ·rename_i hk
   rcases Qbb r _ _ h with h | h
   ·exact .inl (List.mem_cons_of_mem _ h)
   ·rcases List.mem_cons.mp h with e | h
    ·cases e; have := beq_iff_eq.mp hk; subst this; exact .inl List.mem_cons_self
    ·exact .inr h
  ·rcases Qbb r _ _ h with h | h
   ·exact .inl (List.mem_cons_of_mem _ h)
   ·exact .inr h
noncomputable def Qeg (scope : Scope) (env : Env) (cl : List (Str × Addr)) (L : Addr) : Env :=
 { scope := scope, locals := L, globals := env.globals, cells := cellsFrom (L + 1) scope.names cl, qual := env.qual, func := none, code := env.code, frame := env.frame, builtins := env.builtins }
section
variable {M : Model} {A : Around} {E : Value → Shared → Prop} {s : Shared}
theorem Qko {scope : Scope} {env : Env} {cl : List (Str × Addr)} {Q : Env → Shared → Prop}
  (h : Q (Qeg scope env cl s.heap.objs.size) { s with heap := pushCells (s.heap.push { cls := .type "dict", data := .dict #[] }) scope.names }) :
  wpAny M A (newFunctionEnv scope env.globals cl [] env.qual none .none (some env)) Q E s := by
 simp only [newFunctionEnv, Option.isSome_some, if_true]
 refine wpAny_bind (wpAny_alloc ?_)
 refine wpAny_bind (wpAny_layCells _ (fun name kind cells => by cases hkc : kind == NameKind.cell <;> simp [hkc]) _ _ _ _ ?_)
 rw [show ({ s with heap := s.heap.push { cls := .type "dict", data := .dict #[] } } : Shared).heap.objs.size = s.heap.objs.size + 1 from Heap.size_push ..]
 refine wpAny_bind ?_
 rw [List.forIn_nil]
 exact wpAny_pure (wpAny_pure h)
end
section
variable {K : Kx} {n : Nat} {c : Lx} {cl : Qh}
theorem Ok.rlx {l : List Env} {A : Around} {env env' : Env} {F : Fz} {σ : List Addr} {ρ : Rho} {H : Hp} {s : Shared} {c' : Lx} (ok : Ok K n l A c env F σ ρ H s) (rl : RL K.fa c' env' F σ ρ s.heap) : Ok K n l A c' env' F σ ρ H s := ⟨ok.ar, ok.rh, rl, ok.rs⟩
theorem QkO {k : Option NameKind} (h : QbD k = true) : k = some .cell ∨ k = some .free := by
 simpa [QbD] using h
theorem QcX {l : List Env} {A : Around} {env : Env} {F F₁ : Fz} {σ σ₁ : List Addr} {ρ : Rho} {H₁ : Hp} {s s₁ : Shared} {E : Value → Shared → Prop} {scope : Scope} {ov : List (Str × Nat)} {top : Nat} {tx tx' iter elt : Expr} {ifs : List Expr} {rest : List Comprehension} {pos : Pos} {t : Tgt}
  {I : Addr} {ws kp : List Addr} {xs : List D} {RR : Value → Addr → Result → Shared → Prop}
  (ok : Ok K n l A c env F₁ σ₁ ρ H₁ s₁) (g₁ : Gr [] F σ s F₁ σ₁ s₁) (it : IT K A tx t I ws kp F₁ xs s₁.heap) (hws : ∀ b ∈ ws, s.heap.get? b = none ∧ F₁ b = none ∧ b ∉ σ₁) (hkp : ∀ b ∈ kp, b ∉ σ ∧ ∃ o, s.heap.get? b = some o ∧ ∀ es ep, o.data ≠ .dict es ep) (hc : OkC c scope ov top)
  (hloop : ∀ own own' C Da cenv s₃, LF (QD c scope ov top) cenv σ s own own' ws kp Da → LS K n l A (QD c scope ov top) cenv F σ s own ws kp Da I tx t F₁ σ₁ ρ H₁ s₃ xs [] → cenv.locals = C → C ∈ own' → (∀ b ∈ own, s.heap.get? b = none) → Da ≠ C → (∀ b ∈ own', ∃ o, s₃.heap.get? b = some o) →
   codeAny (model K.prog K.w) A (.compLoop (.ListComp elt (⟨tx', iter, ifs, 0⟩ :: rest) scope pos) 0 (.ref I) (.ref Da) cenv) (RR (.ref Da) C) s₃) :
  wpAny (model K.prog K.w) A (newList []) (fun acc s₃ => wpAny (model K.prog K.w) A (newFunctionEnv scope env.globals (clOf env.cells scope.names []) [] env.qual none .none (some env)) (fun cenv s₄ =>
   codeAny (model K.prog K.w) A (.compStart (.ListComp elt (⟨tx', iter, ifs, 0⟩ :: rest) scope pos) 0 (.ref I) acc { cenv with scope := relabel scope env }) (RR acc cenv.locals) s₄) E s₃) E s₁ := by
 refine wpAny_newObj_type (Qko ?_)
 generalize hH2 : s₁.heap.push { cls := .type "list", dict := none, data := .seq ([] : List Value).toArray } = h₂
 dsimp only
 have hC : h₂.objs.size = s₁.heap.objs.size + 1 := by rw [← hH2, Heap.size_push]
 generalize hCe : h₂.objs.size = C at hC
 generalize hDe : s₁.heap.objs.size = Da at hC
 have hsz2 : (h₂.push { cls := .type "dict", data := .dict #[] }).objs.size = C + 1 := by rw [Heap.size_push, hCe]
 have ck := cellsFrom_ok scope.names (h₂.push { cls := .type "dict", data := .dict #[] }) (C + 1) [] ⟨fun _ _ hm => (nomatch hm), List.Pairwise.nil⟩ (by rw [hsz2]; exact Nat.le_refl _)
 rw [hsz2] at ck
 have up2 : ∀ b o, h₂.get? b = some o → (pushCells (h₂.push { cls := .type "dict", data := .dict #[] }) scope.names).get? b = some o := fun b o e => pushCells_keeps _ _ b o (Heap.get?_push_of_some _ e)
 have hns : (pushCells (h₂.push { cls := .type "dict", data := .dict #[] }) scope.names).Ns C (fun _ => none) := by
  rw [← hCe]; exact (Heap.Ns.new h₂ (.type "dict")).keeps (pushCells_keeps _ _)
 generalize hH3 : pushCells (h₂.push { cls := .type "dict", data := .dict #[] }) scope.names = h₃ at ck up2 hns
 have up : ∀ b o, s₁.heap.get? b = some o → h₃.get? b = some o := fun b o e => up2 b o (hH2 ▸ Heap.get?_push_of_some _ e)
 have hacc : h₃.PlainList Da #[] := ⟨_, up2 _ _ (hH2 ▸ hDe ▸ Heap.get?_push_size _ rfl)⟩
 have fresh₁ : ∀ b, Da ≤ b → s₁.heap.get? b = none := fun b hb => QbK (hDe ▸ hb)
 have fresh : ∀ b, Da ≤ b → s.heap.get? b = none := fun b hb => g₁.dead (fresh₁ b hb)
 haveI hfree : ∀ p ∈ scope.names, p.2 = .free → ∃ a, env.cells.lookup p.1 = some a := fun p hp hf => by
  rcases hc.nm p hp with h | h | h | h
  ·rw [hf] at h; cases h.1
  ·rw [hf] at h; cases h.1
  ·obtain ⟨a, ov, e, _⟩ := ok.rl.cl p.1 h.2.2.1; exact ⟨a, e⟩
  ·rw [hf] at h; cases h.1
 have hcells : ∀ x, (cellsFrom (C + 1) scope.names (clOf env.cells scope.names [])).lookup x = ((cellsFrom (C + 1) scope.names []).lookup x).or ((clOf env.cells scope.names []).lookup x) := fun x => by
  haveI := Qbp scope.names (C + 1) [] (clOf env.cells scope.names [])
  rw [List.nil_append] at this
  rw [this, List.lookup_append]
 have ownc : ∀ x (a : Nat), (cellsFrom (C + 1) scope.names []).lookup x = some a → scope.names.lookup x = some .cell ∧ h₃.IsCell a none ∧ C + 1 ≤ a := fun x a e => by
  haveI hm := mem_of_lookup e
  rcases Qbb _ _ _ hm with h | h
  ·refine ⟨?_, ck.empty x a hm⟩
   rcases hc.nm _ h with q | q | q | q
   ·cases q.1
   ·exact q.2
   ·cases q.1
   ·cases q.1
  ·cases h
 have clos : ∀ x a, (clOf env.cells scope.names []).lookup x = some a → env.cells.lookup x = some a := fun x a e => QcB _ _ (by simp) _ (mem_of_lookup e)
 haveI okc := ok.step (s' := { s₁ with heap := h₃ }) up rfl rfl
 haveI hkindOf : ∀ x, (relabel scope env).names.lookup x = (QD c scope ov top).names x := fun x => by
  show (List.map _ scope.names).lookup x = _
  haveI := Qch ok.rl.fnk scope.names x
  rw [this]
  simp only [QD, ok.rl.kinds x]
 haveI sc_free : ∀ x, scope.names.lookup x = some .free → QbD (c.names x) = true := fun x e => by
  rcases hc.nm _ (mem_of_lookup e) with q | q | q | q
  ·cases q.1
  ·cases q.1
  ·exact q.2.2.1
  ·cases q.1
 have envlt : ∀ x (a : Nat), QbD (c.names x) = true → env.cells.lookup x = some a → a < Da := fun x a h e => by
  obtain ⟨a', ov', e', _, ⟨o, ho, _⟩, _⟩ := ok.rl.cl x h
  rw [e] at e'; cases e'
  exact hDe ▸ Heap.lt_size ho
 have unb : ∀ x k, (QD c scope ov top).vis x = some k → scope.names.lookup x ≠ some .free → gt ρ k = .unb := fun x k hv hx => by
  simp only [QD] at hv
  split at hv
  ·rename_i e; cases hv; exact ok.rl.hi k (hc.ovlt x k e).1
  ·rw [if_neg (by simpa using hx)] at hv; cases hv
 have rl : RL K.fa (QD c scope ov top) { Qeg scope env (clOf env.cells scope.names []) C with scope := relabel scope env } F₁ σ₁ ρ h₃ := by
  refine ⟨hc.kind, ok.rl.glob, ok.rl.bi, hkindOf, ok.rh.fnone (fresh₁ C (by omega)), ⟨_, hns, fun x k hx hk => ?_⟩, fun x hx => ?_, fun x y a hx hy => ?_, fun k hk => ok.rl.hi k (Nat.le_trans hc.le hk), hc.wf ok.rl.wf⟩
  ·haveI hxl : scope.names.lookup x ≠ some .free := fun e => by
    simp only [QD, e] at hx
    split at hx <;> cases hx
   rw [unb x k hk hxl]
   intro h; exact absurd rfl h
  ·show ∃ a ov', (cellsFrom (C + 1) scope.names (clOf env.cells scope.names [])).lookup x = some a ∧ _
   rw [hcells]
   by_cases hf : scope.names.lookup x = some .free
   ·have hin := sc_free x hf
    obtain ⟨a, ov', HH77⟩ := okc.rl.cl x hin
    haveI e := HH77.1
    haveI hn := HH77.2.1
    haveI hcl := HH77.2.2.1
    haveI hk := HH77.2.2.2
    haveI h1 : (cellsFrom (C + 1) scope.names []).lookup x = none := by
     cases e1 : (cellsFrom (C + 1) scope.names []).lookup x with
     | none => rfl
     | some b => have := (ownc x b e1).1; rw [hf] at this; cases this
    haveI h2 := QjU (mem_of_lookup hf) e
    refine ⟨a, ov', by rw [h1, h2]; rfl, hn, hcl, fun k hv => hk k ?_⟩
    simp only [QD] at hv
    haveI ho : ov.lookup x = none := by as_aux_lemma =>
     rcases hc.nm _ (mem_of_lookup hf) with q | q | q | q
     ·cases q.1
     ·cases q.1
     ·exact q.2.2.2
     ·cases q.1
    rw [ho, hf] at hv
    simpa using hv
   ·have hcell : scope.names.lookup x = some .cell := by
     simp only [QD] at hx
     cases e : scope.names.lookup x with
     | none => rw [e] at hx; cases hx
     | some kd =>
      rw [e] at hx hf
      cases kd <;> first | rfl | (exact absurd rfl hf) | cases hx
    obtain ⟨a, ha⟩ := Qac scope.names (C + 1) [] (mem_of_lookup hcell)
    obtain ⟨b, hb⟩ := Qaa ha
    obtain ⟨_, hcl, hlo⟩ := ownc x b hb
    refine ⟨b, none, by rw [hb]; rfl, ok.rh.fnone (fresh₁ b (by omega)), hcl, fun k hv => ?_⟩
    rw [unb x k hv hf]
    intro h; exact absurd rfl h
  ·replace hx : (cellsFrom (C + 1) scope.names (clOf env.cells scope.names [])).lookup x = some a := hx
   replace hy : (cellsFrom (C + 1) scope.names (clOf env.cells scope.names [])).lookup y = some a := hy
   rw [hcells] at hx hy
   have kindx : ∀ z b, (clOf env.cells scope.names []).lookup z = some b → QbD (c.names z) = true := fun z b e => by
    haveI hmem : ∀ (names : List (Str × NameKind)) (acc : List (Str × Addr)), ∀ p ∈ clOf env.cells names acc, p ∈ acc ∨ (p.1, NameKind.free) ∈ names := by
     intro names
     induction names with
     | nil => intro acc p hp; exact .inl hp
     | cons q r ih =>
      intro acc p hp
      obtain ⟨nm, kd⟩ := q
      rw [clOf] at hp
      split at hp
      ·rename_i hkd
       split at hp
       ·rcases ih _ p hp with h | h
        ·rcases List.mem_cons.mp h with rfl | h
         ·haveI := beq_iff_eq.mp hkd; subst this; exact .inr List.mem_cons_self
         ·exact .inl h
        ·exact .inr (List.mem_cons_of_mem _ h)
       ·rcases ih _ p hp with h | h
        ·exact .inl h
        ·exact .inr (List.mem_cons_of_mem _ h)
      ·rcases ih _ p hp with h | h
       ·exact .inl h
       ·exact .inr (List.mem_cons_of_mem _ h)
    rcases hmem scope.names [] _ (mem_of_lookup e) with h | h
    ·cases h
    ·rcases hc.nm _ h with q | q | q | q
     ·cases q.1
     ·cases q.1
     ·exact q.2.2.1
     ·cases q.1
   cases e1 : (cellsFrom (C + 1) scope.names []).lookup x with
   | some b =>
    rw [e1] at hx
    simp only [Option.some_or, Option.some.injEq] at hx
    subst hx
    haveI hlo := (ownc x b e1).2.2
    cases e2 : (cellsFrom (C + 1) scope.names []).lookup y with
    | some b' =>
     rw [e2] at hy
     simp only [Option.some_or, Option.some.injEq] at hy
     subst hy
     exact name_of_addr ck.apart (mem_of_lookup e1) (mem_of_lookup e2)
    | none =>
     rw [e2, Option.none_or] at hy
     have := envlt y b (kindx y b hy) (clos y b hy)
     exact absurd this (Nat.not_lt.mpr (by omega))
   | none =>
    rw [e1, Option.none_or] at hx
    haveI hlt := envlt x a (kindx x a hx) (clos x a hx)
    cases e2 : (cellsFrom (C + 1) scope.names []).lookup y with
    | some b' =>
     rw [e2] at hy
     simp only [Option.some_or, Option.some.injEq] at hy
     subst hy
     haveI := (ownc y b' e2).2.2
     exact absurd hlt (Nat.not_lt.mpr (by omega))
    | none =>
     rw [e2, Option.none_or] at hy
     exact ok.rl.inj x y a (clos x a hx) (clos y a hy)
 have wlt : ∀ b : Nat, b ∈ ws → b < Da := fun b hb => by
  obtain ⟨o, fs, e, _⟩ := it.objs b hb; exact hDe ▸ Heap.lt_size e
 have hown : ∀ b : Nat, b ∈ (cellsFrom (C + 1) scope.names []).map (·.2) → C + 1 ≤ b := fun b hb => by
  obtain ⟨p, hp, rfl⟩ := List.mem_map.mp hb
  exact (ck.empty p.1 p.2 hp).2
 have own'ge : ∀ b : Nat, b ∈ C :: (cellsFrom (C + 1) scope.names []).map (·.2) → Da < b := fun b hb => by
  rcases List.mem_cons.mp hb with rfl | hb
  ·omega
  ·haveI := hown b hb; omega
 have lf : LF (QD c scope ov top) { Qeg scope env (clOf env.cells scope.names []) C with scope := relabel scope env } σ s (Da :: (C :: (cellsFrom (C + 1) scope.names []).map (·.2)) ++ ws) (C :: (cellsFrom (C + 1) scope.names []).map (·.2)) ws kp Da := by
  refine ⟨fun x hx => ⟨fun _ => List.mem_cons_self, fun a hn ha => ?_⟩, fun b hb => ?_, fun b hb => ⟨?_, (hws b hb).1, fun h => ?_, fun h => ?_⟩, ⟨?_, fun h => ?_⟩, fun b hb => ?_⟩
  ·have hcell : scope.names.lookup x = some .cell := by
    simp only [QD, Bool.or_eq_true, beq_iff_eq] at hx
    rcases hx with e | e
    ·simp only [QD, e] at hn; cases hn
    ·exact e
   replace ha : (cellsFrom (C + 1) scope.names (clOf env.cells scope.names [])).lookup x = some a := ha
   rw [hcells] at ha
   obtain ⟨b, hb⟩ := Qac scope.names (C + 1) [] (mem_of_lookup hcell)
   obtain ⟨b', hb'⟩ := Qaa hb
   rw [hb'] at ha
   simp only [Option.some_or, Option.some.injEq] at ha
   subst ha
   exact List.mem_cons_of_mem _ (List.mem_map.mpr ⟨(x, b'), mem_of_lookup hb', rfl⟩)
  ·exact List.mem_append_left _ (List.mem_cons_of_mem _ hb)
  ·exact List.mem_append_right _ hb
  ·exact absurd (wlt b hb) (Nat.not_lt.mpr (Nat.le_of_lt (own'ge b h)))
  ·exact absurd (wlt b hb) (h ▸ Nat.lt_irrefl _)
  ·simp
  ·exact Nat.lt_irrefl _ (own'ge Da h)
  ·obtain ⟨h1, o, HH202⟩ := hkp b hb
   haveI h2 := HH202.1
   haveI h4 := HH202.2
   refine ⟨h1, ⟨o, h2, h4⟩, fun h => ?_⟩
   haveI alive : @LT.lt Nat instLTNat b Da := by
    obtain ⟨o', e'⟩ := g₁.live b o h2; exact hDe ▸ Heap.lt_size e'
   rcases List.mem_append.mp h with h | h
   ·rcases List.mem_cons.mp h with rfl | h
    ·exact Nat.lt_irrefl _ alive
    ·exact absurd alive (Nat.not_lt.mpr (Nat.le_of_lt (own'ge b h)))
   ·rw [(hws b h).1] at h2; cases h2
 have ls : LS K n l A (QD c scope ov top) { Qeg scope env (clOf env.cells scope.names []) C with scope := relabel scope env } F σ s (Da :: (C :: (cellsFrom (C + 1) scope.names []).map (·.2)) ++ ws) ws kp Da I tx t F₁ σ₁ ρ H₁ { s₁ with heap := h₃ } xs [] :=
  ⟨okc.rlx rl, g₁.weak.trans (Gr.step up rfl rfl), it.frame (fun b _ o e => up b o e) (fun b _ _ o e => up b o e) (fun b _ o e => up b o e), fun b hb => (hws b hb).2, ⟨[], hacc, .nil⟩, ok.rh.fnone (fresh₁ Da (Nat.le_refl _)), ok.rh.nσ (fresh₁ Da (Nat.le_refl _))⟩
 have dead : ∀ b ∈ Da :: (C :: (cellsFrom (C + 1) scope.names []).map (·.2)) ++ ws, s.heap.get? b = none := fun b hb => by
  rcases List.mem_append.mp hb with hb | hb
  ·rcases List.mem_cons.mp hb with rfl | hb
   ·exact fresh _ (Nat.le_refl _)
   ·exact fresh b (Nat.le_of_lt (own'ge b hb))
  ·exact (hws b hb).1
 haveI fin := hloop _ _ C Da _ { s₁ with heap := h₃ } lf ls rfl List.mem_cons_self dead (Nat.ne_of_lt (show Da < C by omega)) (fun b hb => by
  rcases List.mem_cons.mp hb with rfl | hb
  ·obtain ⟨o, _, _, e, _⟩ := hns; exact ⟨o, e⟩
  ·obtain ⟨p, hp, rfl⟩ := List.mem_map.mp hb
   obtain ⟨⟨o, e, _⟩, _⟩ := ck.empty p.1 p.2 hp; exact ⟨o, e⟩)
 exact codeAny_compStart_list fin (ls.it.self fin)
end
noncomputable def QbF : Expr → Bool
 | .Set .. => false
 | _ => true
theorem QbP {x : Expr} (h : QbF x = true) (env : Env) (v : Value) : foldedSetIterable x env v = pure v := by
 cases x <;> first | rfl | cases h
noncomputable def RP {α : Type} (x : Prop) (r : R α) (P : α → Prop) : Prop :=
 match r with
 | .ok a _ => P a
 | .exc _ => x
 | .stuck => True
theorem RP.bd {α β : Type} {x : Prop} {r : R α} {f : α → Hp → R β} {P : α → Prop} {Q : β → Prop} (h : RP x r P) (h2 : ∀ a H, P a → RP x (f a H) Q) : RP x (r.bind f) Q := by
 cases r with
 | ok a H => exact h2 a H h
 | exc H => exact h
 | stuck => trivial
theorem RP.up {α : Type} {x : Prop} {r : R α} {P Q : α → Prop} (h : RP x r P) (h2 : ∀ a, P a → Q a) : RP x r Q := by
 cases r with
 | ok a H => exact h2 a h
 | exc H => exact h
 | stuck => trivial
theorem RP.ne {α : Type} {x : Prop} {r : R α} : RP x r.noexc fun _ => True := by cases r <;> trivial
theorem RP.op {α : Type} {x : Prop} {o : Option α} {H : Hp} : RP x (Qp o H) fun _ => True := by cases o <;> trivial
theorem RP.all {α : Type} {r : R α} : RP True r fun _ => True := by cases r <;> trivial
theorem RP.no {α : Type} {r : R α} {P : α → Prop} {H : Hp} (h : RP False r P) (e : r = .exc H) : False := by subst e; exact h
theorem RP.is {α : Type} {x : Prop} {r : R α} {P : α → Prop} {a : α} {H : Hp} (h : RP x r P) (e : r = .ok a H) : P a := by subst e; exact h
theorem QaP {bd : D → Rho → Option Rho} {el : Rho → Hp → R V} {co : Rho → Hp → R Bool} : ∀ (xs : List D) (ρ : Rho) (H : Hp), RP False (QU bd el co xs ρ H) fun ys => ys.length ≤ xs.length
 | [], _, _ => Nat.le_refl _
 | x :: r, ρ, H => by
  rw [QbV]
  cases bd x ρ with
  | none => trivial
  | some ρ₁ =>
   refine RP.ne.bd fun b H₁ _ => ?_
   cases b with
   | false => exact (QaP r ρ₁ H₁).up fun _ h => Nat.le_succ_of_le h
   | true => exact RP.ne.bd fun _ _ _ => RP.op.bd fun _ _ _ => (QaP r ρ₁ _).bd fun _ _ h => Nat.succ_le_succ h
noncomputable def KX (K : Kx) (l : List Env) (r : R (List D)) (F : Fz) (σ : List Addr) (s : Shared) (E : Value → Shared → Prop) (RR : Value → Addr → Result → Shared → Prop) : Prop :=
 match r with
 | .ok ys H' => ∀ Da C (vs : List Value) F' σ' s', Gr [] F σ s F' σ' s' → RH K.fa K.h₀ F' σ' H' s'.heap → s.heap.get? Da = none → s.heap.get? C = none → Da ≠ C → s'.heap.PlainList Da vs.toArray → RepL F' vs ys → ys.length ≤ 4194305 →
   F' Da = none → Da ∉ σ' → F' C = none → C ∉ σ' → (∃ m, s'.heap.Ns C m) → RR (.ref Da) C (.ok .next) s'
 | .exc H' => ∀ ev s', XE K l F σ H' s ev s' → E ev s'
 | .stuck => False
theorem KX.opt {K : Kx} {l : List Env} {γ : Type} {o : Option γ} {f : γ → Hp → R (List D)} {F : Fz} {σ : List Addr} {H : Hp} {s : Shared} {E : Value → Shared → Prop} {RR : Value → Addr → Result → Shared → Prop}
  (hk : KX K l ((Qp o H).bind f) F σ s E RR) : ∃ a, o = some a ∧ KX K l (f a H) F σ s E RR := by
 cases o with
 | none => exact hk.elim
 | some a => exact ⟨a, rfl, hk⟩
section
variable {K : Kx} {n : Nat} {c : Lx} {cl : Qh}
theorem Qtx {l : List Env} {A : Around} {env : Env} {F : Fz} {σ : List Addr} {ρ : Rho} {H : Hp} {s : Shared} {E : Value → Shared → Prop} {scope : Scope} {ov : List (Str × Nat)} {top : Nat} {tx iter elt : Expr} {ifs : List Expr} {pos : Pos} {t : Tgt} {i : PI} {e : PE} {co : Rho → Hp → R Bool} {RR : Value → Addr → Result → Shared → Prop}
  (ok : Ok K n l A c env F σ ρ H s) (hc : OkC c scope ov top) (hi : SI K n c cl i iter tx t) (ht : OkTgt (QD c scope ov top) t tx) (he : SE K n (QD c scope ov top) cl e elt) (hco : STs K n (QD c scope ov top) co ifs)
  (hk : KX K l ((evI cl i ρ H).bind fun xs H => QU t.bd (evE cl e) co xs ρ H) F σ s E RR) :
  wpAny (model K.prog K.w) A (eval iter env) (fun x s₁ => wpAny (model K.prog K.w) A (pyIter x) (fun it s₂ => wpAny (model K.prog K.w) A (newList []) (fun acc s₃ =>
   wpAny (model K.prog K.w) A (newFunctionEnv scope env.globals (clOf env.cells scope.names []) [] env.qual none .none (some env)) (fun cenv s₄ =>
    codeAny (model K.prog K.w) A (.compStart (.ListComp elt [⟨tx, iter, ifs, 0⟩] scope pos) 0 it acc { cenv with scope := relabel scope env }) (RR acc cenv.locals) s₄) E s₃) E s₂) E s₁) E s := by
 refine hi l A env F σ ρ H s _ E ok ?_
 cases e1 : evI cl i ρ H with
 | exc H' => rw [e1] at hk; exact hk
 | stuck => rw [e1] at hk; exact hk
 | ok xs H₁ =>
  rw [e1] at hk
  simp only [R.bind_ok] at hk
  intro I ws F₁ σ₁ s₁ g₁ rh₁ it hw hle
  refine QcX (rest := []) (ok.grow g₁ rh₁) g₁ it hw (by simp) hc fun own own' C Da cenv s₃ lf ls hC hCo dead hne _ => ?_
  refine Qfh (fun _ _ _ => rfl) rfl rfl rfl ht he hco lf xs [] F₁ σ₁ ρ H₁ s₃ ls ?_
  cases e2 : QU t.bd (evE cl e) co xs ρ H₁ with
  | exc H' => exact ((QaP xs ρ H₁).no e2).elim
  | stuck => rw [e2] at hk; exact hk
  | ok ys H' =>
   rw [e2] at hk
   have hl := (QaP xs ρ H₁).is e2
   refine ⟨by simp; omega, fun F' σ' s' ρf g ok' hsl hv hd => ?_⟩
   obtain ⟨vs, HH23⟩ := hv
   haveI hpl := HH23.1
   haveI rl := HH23.2
   obtain ⟨m, HH26⟩ := ok'.rl.ns
   haveI hm := HH26.1
   subst hC
   exact hk Da cenv.locals vs F' σ' s' (g.own fun a ha => .inr (dead a ha)) ok'.rh (dead _ lf.dsub.1) (dead _ (lf.sub _ hCo)) hne hpl (by simpa using rl) (by omega) hd.1 hd.2 ok'.rl.noL (Qetσ ok' hm) ⟨m, hm⟩
theorem QhZ {l : List Env} {A : Around} {F : Fz} {σ : List Addr} {s : Shared} {Q : Value → Shared → Prop} {E : Value → Shared → Prop} {r : R (List D)} (hk : KF K l r F σ s Q E) :
  KX K l r F σ s E (compPost (model K.prog K.w) A E none Q) := by
 cases r with
 | exc H' => exact hk
 | stuck => exact hk
 | ok ys H' =>
  intro Da C vs F' σ' s' g rh hD hC hne hpl rl hle h1 h2 h3 h4 hm
  obtain ⟨m, hm⟩ := hm
  refine ⟨m, hm, fun h' hs' => ?_⟩
  haveI ext := hs'.extBut
  obtain ⟨na, hpl'⟩ := id hpl
  refine hk Da vs F' σ' _ (((g.weak (own := [C])).off (s' := { s' with heap := h' }) (X := [C]) (fun b hb => ?_) (fun b o hb e => ext b o (by simpa using hb) e) rfl rfl).own fun a ha => .inr (List.mem_singleton.mp ha ▸ hC)) (rh.but ext h3 h4) hD ⟨na, ext Da _ hne hpl'⟩ h1 h2 rl hle
  rw [List.mem_singleton.mp hb]
  exact ⟨by simp, .inl hC⟩
theorem QcF {c : Lx} {scope : Scope} {ov : List (Str × Nat)} {top : Nat} (hc : OkC c scope ov top) : ∀ x ∈ scope.names, x.2 = .local → scope.names.lookup x.1 = some .local := fun x hx hl => by
 rcases hc.nm x hx with q | q | q | q
 ·exact q.2
 ·rw [hl] at q; cases q.1
 ·rw [hl] at q; cases q.1
 ·rw [hl] at q; cases q.1
theorem Qee {l : List Env} {A : Around} {env : Env} {F : Fz} {σ : List Addr} {ρ : Rho} {H : Hp} {s : Shared} {scope : Scope} {ov : List (Str × Nat)} {top : Nat} (ok : Ok K n l A c env F σ ρ H s) (hc : OkC c scope ov top) : closureFor scope env = pure (clOf env.cells scope.names []) :=
 Qfz fun p hp hf => by
  rcases hc.nm p hp with h | h | h | h
  ·rw [hf] at h; cases h.1
  ·rw [hf] at h; cases h.1
  ·obtain ⟨a, ov, e, _⟩ := ok.rl.cl p.1 h.2.2.1; exact ⟨a, e⟩
  ·rw [hf] at h; cases h.1
noncomputable def SUse (K : Kx) (n : Nat) (c : Lx) (cl : Qh) (f : PF) (elt : Expr) (gens : List Comprehension) (scope : Scope) (pos : Pos) : Prop :=
 ∀ (l : List Env) (A : Around) (env : Env) (F : Fz) (σ : List Addr) (ρ : Rho) (H : Hp) (s : Shared) (use : Option (Value → Sem Unit)) (Q : Value → Shared → Prop) (E : Value → Shared → Prop),
  Ok K n l A c env F σ ρ H s → KX K l (evF cl f ρ H) F σ s E (compPost (model K.prog K.w) A E use Q) →
   wpAny (model K.prog K.w) A (comprehension (.ListComp elt gens scope pos) scope env (firstIterPos gens pos) (newList []) (firstAsync gens) (firstIter gens env) use) Q E s
theorem Qpv {f : PF} {elt : Expr} {gens : List Comprehension} {scope : Scope} {pos : Pos} (h : SUse K n c cl f elt gens scope pos) : SF K n c cl f (.ListComp elt gens scope pos) := by
 intro l A env F σ ρ H s Q E ok hk
 rw [eval_ListComp]
 exact h l A env F σ ρ H s none Q E ok (QhZ hk)
theorem QqT {scope : Scope} {ov : List (Str × Nat)} {top : Nat} {tx iter elt : Expr} {pos : Pos} {t : Tgt} {i : PI} {e : PE}
  (hc : Qce c scope ov top = true) (hs : QbF iter = true) (hi : SI K n c cl i iter tx t) (ht : OkTgt (QD c scope ov top) t tx) (he : SE K n (QD c scope ov top) cl e elt) :
  SUse K n c cl (.comp e t i) elt [⟨tx, iter, [], 0⟩] scope pos := by
 intro l A env F σ ρ H s use Q E ok hk
 haveI hc := QcP hc
 exact wpAny_comprehension_free (use := use) rfl (QbP hs env) (Qee ok hc) hc.kind (QcF hc) (Qtx ok hc hi ht he Qkw hk)
theorem QnZ {scope : Scope} {ov : List (Str × Nat)} {top : Nat} {tx iter elt cond : Expr} {pos : Pos} {t : Tgt} {i : PI} {e b : PE}
  (hc : Qce c scope ov top = true) (hs : QbF iter = true) (hi : SI K n c cl i iter tx t) (ht : OkTgt (QD c scope ov top) t tx) (he : SE K n (QD c scope ov top) cl e elt) (hb : ST K n (QD c scope ov top) cl b cond) :
  SUse K n c cl (.compIf e t i b) elt [⟨tx, iter, [cond], 0⟩] scope pos := by
 intro l A env F σ ρ H s use Q E ok hk
 haveI hc := QcP hc
 exact wpAny_comprehension_free (use := use) rfl (QbP hs env) (Qee ok hc) hc.kind (QcF hc) (Qtx ok hc hi ht he (Qrv hb) hk)
theorem QeH : ∀ (ρ : Rho) (k : Nat), gt (ρ.map QcQ) k = QcQ (gt ρ k)
 | [], _ => rfl
 | _ :: _, 0 => rfl
 | _ :: r, k + 1 => QeH r k
theorem RL.bare {fa : Nat → Addr} {env : Env} {F : Fz} {σ : List Addr} {ρ : Rho} {h : Heap} (x : RL fa c env F σ ρ h) : RL fa c env F [] (ρ.map QcQ) h := by
 have hh : ∀ {ov k}, Has fa F σ ov (gt ρ k) → Has fa F [] ov (gt (ρ.map QcQ) k) := fun {ov k} hs hn => by
  rw [QeH] at hn ⊢
  cases e : gt ρ k with
  | unb => rw [e] at hn; exact absurd rfl hn
  | cell m => rw [e] at hn; exact absurd rfl hn
  | d y =>
   obtain ⟨v, HH7⟩ := hs (by rw [e]; intro q; cases q)
   haveI ev := HH7.1
   haveI r := HH7.2
   rw [e] at r
   exact ⟨v, ev, .d r.d_inv⟩
  | fn j =>
   obtain ⟨v, ev, r⟩ := hs (by rw [e]; intro q; cases q)
   rw [e] at r
   cases r
   exact ⟨_, ev, .fn j⟩
 obtain ⟨m, HH17⟩ := x.ns
 haveI hm := HH17.1
 haveI hv := HH17.2
 refine ⟨x.fnk, x.glob, x.bi, x.kinds, x.noL, ⟨m, hm, fun y k a b => hh (hv y k a b)⟩, fun y hy => ?_, x.inj, fun k hk => ?_, x.wf⟩
 ·obtain ⟨a, ov, HH21⟩ := x.cl y hy
  haveI h1 := HH21.1
  haveI h2 := HH21.2.1
  haveI h3 := HH21.2.2.1
  haveI h4 := HH21.2.2.2
  exact ⟨a, ov, h1, h2, h3, fun k hk => hh (h4 k hk)⟩
 ·rw [QeH, x.hi k hk]; rfl
theorem QpB {scope : Scope} {ov : List (Str × Nat)} {top : Nat} {tx elt : Expr} {pos p : Pos} {t : Tgt} {k : Nat} {x : Str} {e : PE}
  (hc : Qce c scope ov top = true) (hx : QW c k x = true) (ht : OkTgt (QD c scope ov top) t tx) (he : SE K n (QD c scope ov top) cl e elt) :
  SUse K n c cl (.compC e t k) elt [⟨tx, .Name x p, [], 0⟩] scope pos := by
 intro l A env F σ ρ H s use Q E ok hk
 haveI hc := QcP hc
 refine wpAny_comprehension_free (use := use) rfl (fun _ => rfl) (Qee ok hc) hc.kind (QcF hc) ?_
 obtain ⟨xs, e0, hk⟩ := KX.opt hk
 cases eg : gt ρ k with
 | cell j =>
  rw [eg] at e0
  refine QZ hx ok (by rw [eg]; intro q; cases q) fun v r => ?_
  rw [eg] at r
  cases r with
  | cell hσ =>
  rename_i a
  obtain ⟨hFa, vs, hpl, rl, hle⟩ := ok.rh.cell j a xs hσ e0
  haveI ha : s.heap.IsList a vs.toArray := hpl.isList
  refine wpAny_pyIter_list ha ?_
  haveI up : ∀ b o, s.heap.get? b = some o → (s.heap.push { cls := .type "list_iterator", data := .fields #[.ref a, .int 0 0] }).get? b = some o := fun b o e => Heap.get?_push_of_some _ e
  haveI it := QoR (K := K) (A := A) (tx := tx) (t := t) (kp := [a]) (F := F) ok.ar.handled ha rl (.inr (by simp))
  haveI ok₀ : Ok K n l A c env F [] (ρ.map QcQ) [] s := ⟨ok.ar, ⟨ok.rh.base, ok.rh.le, rfl, List.nodup_nil, fun m b ys h1 h2 => by simp at h1⟩, ok.rl.bare, ok.rs⟩
  haveI ok₁ := ok₀.step (s' := { s with heap := s.heap.push { cls := .type "list_iterator", data := .fields #[.ref a, .int 0 0] } }) up rfl rfl
  haveI hs0 := QaR s.heap
  refine QcX (rest := []) ok₁ (Gr.step (s := s) up rfl rfl) it (fun b hb => ?_) (fun b hb => ?_) hc fun own own' C Da cenv s₃ lf ls hC hCo dead hne _ => ?_
  ·rw [List.mem_singleton.mp hb]; exact ⟨hs0, ok.rh.fnone hs0, by simp⟩
  ·rw [List.mem_singleton.mp hb]; obtain ⟨na, h⟩ := hpl; exact ⟨by simp, _, h, fun es ep q => by cases q⟩
  refine Qfh (iter := .Name x p) (fun _ _ _ => rfl) rfl rfl rfl ht he Qkw lf xs [] F [] (ρ.map QcQ) [] s₃ ls ?_
  cases e2 : QU t.bd (evE cl e) QaE xs (ρ.map QcQ) [] with
  | exc H' => exact ((QaP xs _ _).no e2).elim
  | stuck => rw [e2] at hk; exact hk
  | ok ys H' =>
   rw [e2] at hk
   haveI hl := (QaP xs _ _).is e2
   refine ⟨by simp; lia, fun F' σ' s' ρf g ok' hsl hv hd => ?_⟩
   obtain ⟨vs', hpl', rl'⟩ := hv
   obtain ⟨m, hm, _⟩ := ok'.rl.ns
   subst hC
   haveI g' : Gr [] F [] s F' σ' s' := g.own fun a ha => .inr (dead a ha)
   haveI g'' : Gr [] F σ s F' σ s' := ⟨g'.live, fun b o _ _ e => g'.keep b o (by simp) (by simp) e, g'.fz, g'.nf, ⟨[], by simp, by simp⟩, g'.gens, g'.os⟩
   haveI rh'' : RH K.fa K.h₀ F' σ H s'.heap := ⟨ok'.rh.base, ok'.rh.le, ok.rh.len, ok.rh.nod, fun m b zs h1 h2 => by
    obtain ⟨q, us, ⟨o, hl⟩, rl, hle⟩ := ok.rh.cell m b zs h1 h2
    exact ⟨g'.nf b _ hl q, us, ⟨o, g'.kept (by simp) (by simp) hl (fun es ep q => by cases q)⟩, rl.mono g'.fz, hle⟩⟩
   haveI nσ : ∀ b, s.heap.get? b = none → b ∉ σ := fun b e => ok.rh.nσ e
   exact hk Da cenv.locals vs' F' σ s' g'' rh'' (dead _ lf.dsub.1) (dead _ (lf.sub _ hCo)) hne hpl' (by simpa using rl') (by omega) hd.1 (nσ _ (dead _ lf.dsub.1)) ok'.rl.noL (nσ _ (dead _ (lf.sub _ hCo))) ⟨m, hm⟩
 | _ => rw [eg] at e0; cases e0
end
theorem Qdm (elt tx iter tx2 iter2 : Expr) (scope : Scope) (pos : Pos) (it acc : Value) (env : Env) :
  compTurn (.ListComp elt [⟨tx, iter, [], 0⟩, ⟨tx2, iter2, [], 0⟩] scope pos) 0 it acc env = (do
   standAt iter.pos
   match ← pyNext it with
   | none => pure (.done .next)
   | some v =>
    letOwnedTupleGo tx it v
    assign tx env v
    let x ← eval iter2 env
    standAt iter2.pos
    let x ← foldedSetIterable iter2 env x
    let _ ← runOwn (.compStart (.ListComp elt [⟨tx, iter, [], 0⟩, ⟨tx2, iter2, [], 0⟩] scope pos) 1 (← holding [x] (pyIter x)) acc env) env
    again (.compLoop (.ListComp elt [⟨tx, iter, [], 0⟩, ⟨tx2, iter2, [], 0⟩] scope pos) 0 it acc env)) := by rfl
section
variable {prog : Program} {w : World} {A : Around} {R : Result → Shared → Prop} {s : Shared}
theorem Qig {elt tx iter tx2 iter2 scope pos it acc env}
  (h0 : codeAny (model prog w) A (.compLoop (.ListComp elt [⟨tx, iter, [], 0⟩, ⟨tx2, iter2, [], 0⟩] scope pos) 1 it acc env) R s)
  (h : wpAny (model prog w) A (pyIter it) (fun it' s' => codeAny (model prog w) A (.compLoop (.ListComp elt [⟨tx, iter, [], 0⟩, ⟨tx2, iter2, [], 0⟩] scope pos) 1 it' acc env) R s')
   (notedBy (model prog w) A env fun x s' => R (.error x) s') s) :
  codeAny (model prog w) A (.compStart (.ListComp elt [⟨tx, iter, [], 0⟩, ⟨tx2, iter2, [], 0⟩] scope pos) 1 it acc env) R s := by
 refine codeAny_of_tree ?_
 show wpAny _ _ ((compStart (.ListComp elt [⟨tx, iter, [], 0⟩, ⟨tx2, iter2, [], 0⟩] scope pos) 1 it acc env).onRaise (fun x => do noteFrame x env; standAt theWindowsPlace)) _ _ s
 refine wpAny_notedAt ?_
 unfold compStart
 show wpAny _ _ (ask >>= _) _ _ s
 refine wpAny_bind (wpAny_askSetting (wpAny_ite ?_))
 split
 ·first
   | exact wpAny_bind (wpAny_pure (wpAny_pure (And.intro rfl h0)))
   | exact wpAny_pure (And.intro rfl h0)
 ·first
   | exact wpAny_bind (wpAny_rule (wpAny_bind (wpAny_standAt (wpAny_bind (wpAny_mono h (fun it' s' h' => wpAny_pure (And.intro rfl h')) fun _ _ x => x)))))
   | (refine wpAny_bind (wpAny_rule ?_); show wpAny _ _ (standAt iter2.pos >>= _) _ _ s; exact wpAny_bind (wpAny_standAt (wpAny_bind (wpAny_mono h (fun it' s' h' => wpAny_pure (And.intro rfl h')) fun _ _ x => x))))
end
section
variable {K : Kx} {n : Nat} {c : Lx} {cl : Qh}
theorem Qmy {l : List Env} {A : Around} {env : Env} {F₀ : Fz} {σ₀ : List Addr} {s₀ : Shared} {own own' ws : List Addr} {Da I : Addr} {tx tx2 elt iter iter2 : Expr} {t t2 : Tgt} {e : PE} {i2 : PI} {scope : Scope} {pos : Pos} {R' : Result → Shared → Prop}
  (ht : OkTgt c t tx) (ht2 : OkTgt c t2 tx2) (hdis : ∀ k ∈ t2.slots, k ∉ t.slots) (hs2 : QbF iter2 = true) (he : SE K n c cl e elt) (hi2 : SI K n c cl i2 iter2 tx2 t2) (f : LF c env σ₀ s₀ own own' ws [] Da) :
  ∀ (xs ys : List D) (F : Fz) (σ : List Addr) (ρ : Rho) (H : Hp) (s : Shared), LS K n l A c env F₀ σ₀ s₀ own ws [] Da I tx t F σ ρ H s xs ys → (∀ b ∈ own', ∃ o, s.heap.get? b = some o) → (∀ k ∈ t2.slots, gt ρ k = .unb) →
   LK K n l A c env F₀ σ₀ s₀ own Da t ρ (QbB t.bd (evI cl i2) t2.bd (evE cl e) xs ρ H) ys (R' (.ok .next)) →
   codeAny (model K.prog K.w) A (.compLoop (.ListComp elt [⟨tx, iter, [], 0⟩, ⟨tx2, iter2, [], 0⟩] scope pos) 0 (.ref I) (.ref Da) env) R' s := by
 intro xs
 induction xs with
 | nil =>
  intro ys F σ ρ H s L hal hub hk
  refine codeAny_of_tree ?_
  show wpAny (model K.prog K.w) A ((compTurn (.ListComp elt [⟨tx, iter, [], 0⟩, ⟨tx2, iter2, [], 0⟩] scope pos) 0 (.ref I) (.ref Da) env).onRaise (fun x => do noteFrame x env; theTreesLotGoes x)) _ _ s
  refine wpAny_noted ?_
  rw [Qdm]
  refine wpAny_bind (wpAny_standAt (wpAny_bind (L.it.done fun h' tk ext => wpAny_pure ?_)))
  simp only [QbB] at hk
  obtain ⟨vs, ⟨na, hl⟩, rl⟩ := L.acc
  haveI hDw : Da ∉ ws := fun h => (f.wsub Da h).2.2.2 rfl
  refine hk.2 F σ _ ρ (L.g.off (X := ws) (fun b hb => ⟨(f.wsub b hb).1, .inl (f.wsub b hb).2.1⟩) ext rfl rfl) (L.ok.off (X := ws) (fun b hb => ⟨(L.wn b hb).1, (L.wn b hb).2, (by obtain ⟨o, fs, e1, e2⟩ := L.it.objs b hb; exact ⟨o, e1, .inl ⟨fs, e2⟩⟩)⟩) ext) (fun _ _ => rfl) ⟨vs, ⟨na, ext _ _ hDw hl⟩, by simpa using rl⟩ L.dn
 | cons y r ih =>
  intro ys F σ ρ H s L hal hub hk
  refine codeAny_of_tree ?_
  show wpAny (model K.prog K.w) A ((compTurn (.ListComp elt [⟨tx, iter, [], 0⟩, ⟨tx2, iter2, [], 0⟩] scope pos) 0 (.ref I) (.ref Da) env).onRaise (fun x => do noteFrame x env; theTreesLotGoes x)) _ _ s
  refine wpAny_noted ?_
  rw [Qdm]
  simp only [QbB] at hk
  cases hb : t.bd y ρ with
  | none => rw [hb] at hk; exact hk.elim
  | some ρ₁ =>
  rw [hb] at hk
  simp only at hk
  refine wpAny_bind (wpAny_standAt (L.it.bind (fun b o q => ⟨L.ok.rh.le b o q, fun hm => by rw [(L.wn b hm).1] at q; cases q⟩) (QjZ hb) (fun v => rfl) fun v h' tk ext it' item => ?_))
  have hDw : Da ∉ ws := fun h => (f.wsub Da h).2.2.2 rfl
  have L₁ : LS K n l A c env F₀ σ₀ s₀ own ws [] Da I tx t F σ ρ H { s with heap := h', toks := tk } r ys := by
   obtain ⟨vs, ⟨na, hl⟩, rl⟩ := L.acc
   exact ⟨L.ok.off (X := ws) (fun b hb => ⟨(L.wn b hb).1, (L.wn b hb).2, (by obtain ⟨o, fs, e1, e2⟩ := L.it.objs b hb; exact ⟨o, e1, .inl ⟨fs, e2⟩⟩)⟩) ext,
    L.g.off (X := ws) (fun b hb => ⟨(f.wsub b hb).1, .inl (f.wsub b hb).2.1⟩) ext rfl rfl, it', L.wn, ⟨vs, ⟨na, ext _ _ hDw hl⟩, rl⟩, L.dn⟩
  have hal₁ : ∀ b ∈ own', ∃ o, h'.get? b = some o := fun b hb => by
   obtain ⟨o, e⟩ := hal b hb; exact ⟨o, ext b o (fun hw => (f.wsub b hw).2.2.1 hb) e⟩
  refine wpAny_bind (Qdb ht f.owns L₁.ok item hb fun s₂ g₂ ok₂ => ?_)
  have L₂ := L₁.grow f g₂ (fun _ h => h) ok₂
  have hal₂ : ∀ b ∈ own', ∃ o, s₂.heap.get? b = some o := fun b hb => by
   obtain ⟨o, e⟩ := hal₁ b hb; exact g₂.live b o e
  have hub₁ : ∀ k ∈ t2.slots, gt ρ₁ k = .unb := fun k hk => (Tgt.bd_off hb k (hdis k hk)).trans (hub k hk)
  cases hcr : evI cl i2 ρ₁ H with
  | exc H' => rw [hcr] at hk; exact hk.elim
  | stuck => rw [hcr] at hk; exact hk.elim
  | ok zs₀ H₃ =>
  rw [hcr] at hk
  simp only [R.noexc_ok, R.bind_ok] at hk
  refine wpAny_bind (wpAny_mono (hi2 l A env F σ ρ₁ H s₂ (fun it2 s₃ => wpAny (model K.prog K.w) A (do
    let _ ← runOwn (.compStart (.ListComp elt [⟨tx, iter, [], 0⟩, ⟨tx2, iter2, [], 0⟩] scope pos) 1 it2 (.ref Da) env) env
    again (.compLoop (.ListComp elt [⟨tx, iter, [], 0⟩, ⟨tx2, iter2, [], 0⟩] scope pos) 0 (.ref I) (.ref Da) env)) (fun fin s' => match fin with | .done f => R' (.ok f) s' | .again c' => c'.quiet = true ∧ codeAny (model K.prog K.w) A c' R' s')
     (notedBy (model K.prog K.w) A env fun e s' => R' (.error e) s') s₃) (notedBy (model K.prog K.w) A env fun e s' => R' (.error e) s') L₂.ok ?_) (fun x s₃ h₃ => ?_) fun _ _ e => e)
  rotate_left
  ·refine wpAny_bind (wpAny_standAt (wpAny_bind (wpAny_of_eq (QbP hs2 env x) ?_)))
   refine wpAny_bind (wpAny_holding (wpAny_mono h₃ (fun it2 s₄ h₄ => h₄) fun _ _ e => e))
  rw [hcr]
  intro I2 ws2 F₃ σ₃ s₃ g₃ rh₃ it2 hw2 hle2
  have ok₃ := L₂.ok.grow g₃ rh₃
  haveI nin : ∀ b ∈ ws2, b ∉ own' := fun b hb hm => by obtain ⟨o, e⟩ := hal₂ b hm; rw [(hw2 b hb).1] at e; cases e
  have nD : ∀ b ∈ ws2, b ≠ Da := fun b hb hm => by obtain ⟨vs, ⟨na, e⟩, _⟩ := L₂.acc; rw [← hm, (hw2 b hb).1] at e; cases e
  have f₂ : LF c env σ s₂ (Da :: own' ++ ws2) own' ws2 [] Da := ⟨f.owns, fun b hb => by simp [hb], fun b hb => ⟨by simp [hb], (hw2 b hb).1, nin b hb, nD b hb⟩, ⟨by simp, f.dsub.2⟩, by simp⟩
  have L₃ := L₂.grow f g₃ (by simp) ok₃
  have ls₂ : LS K n l A c env F σ s₂ (Da :: own' ++ ws2) ws2 [] Da I2 tx2 t2 F₃ σ₃ ρ₁ H₃ s₃ zs₀ ys := ⟨ok₃, g₃.weak, it2, fun b hb => (hw2 b hb).2, L₃.acc, L₃.dn⟩
  cases hin : QU t2.bd (evE cl e) QaE zs₀ ρ₁ H₃ with
  | exc H' => exact ((QaP _ _ _).no hin).elim
  | stuck => rw [hin] at hk; exact hk.elim
  | ok zs H₄ =>
  rw [hin] at hk
  simp only [R.bind_ok] at hk
  cases hrest : QbB t.bd (evI cl i2) t2.bd (evE cl e) r ρ₁ H₄ with
  | exc H' => rw [hrest] at hk; exact hk.elim
  | stuck => rw [hrest] at hk; exact hk.elim
  | ok us H₅ =>
  rw [hrest] at hk
  simp only [R.bind_ok] at hk
  obtain ⟨hlen, hk⟩ := hk
  refine wpAny_bind (wpAny_runOwn ?_)
  haveI goal : codeAny (model K.prog K.w) A (.compLoop (.ListComp elt [⟨tx, iter, [], 0⟩, ⟨tx2, iter2, [], 0⟩] scope pos) 1 (.ref I2) (.ref Da) env) (fun r s' => match r with
    | .ok f => wpAny (model K.prog K.w) A (again (.compLoop (.ListComp elt [⟨tx, iter, [], 0⟩, ⟨tx2, iter2, [], 0⟩] scope pos) 0 (.ref I) (.ref Da) env)) (fun fin s' => match fin with | .done f => R' (.ok f) s' | .again c' => c'.quiet = true ∧ codeAny (model K.prog K.w) A c' R' s')
     (notedBy (model K.prog K.w) A env fun e s' => R' (.error e) s') s'
    | .error e => cameBackBy (model K.prog K.w) A env (notedBy (model K.prog K.w) A env fun e s' => R' (.error e) s') e s') s₃ := by
   refine Qfh (iter := iter2) (fun _ _ _ => rfl) rfl rfl rfl ht2 he Qkw f₂ zs₀ ys F₃ σ₃ ρ₁ H₃ s₃ ls₂ ?_
   rw [hin]
   refine ⟨by simp at hlen ⊢; omega, fun F' σ' s' ρf g ok' hsl hv hd => ?_⟩
   haveI e1 : ∀ k, gt ρ₁ k = gt ρf k ∨ gt ρ₁ k = .unb := fun k => by
    by_cases hkk : k ∈ t2.slots
    ·exact .inr (hub₁ k hkk)
    ·exact .inl (hsl k hkk).symm
   haveI ok'' : Ok K n l A c env F' σ' ρ₁ H₄ s' := ⟨ok'.ar, ok'.rh, ok'.rl.forget e1, ok'.rs⟩
   have g' : Gr (Da :: own') F σ s₂ F' σ' s' := g.own fun a ha => by
    rcases List.mem_append.mp ha with ha | ha
    ·exact .inl ha
    ·exact .inr (hw2 a ha).1
   have nσ : ∀ b o, b ∉ σ → s₂.heap.get? b = some o → b ∉ σ' := fun b o h e hm => by
    obtain ⟨τ, e', hτ⟩ := g'.pre
    rw [e'] at hm
    rcases List.mem_append.mp hm with hm | hm
    ·exact h hm
    ·rw [hτ b hm] at e; cases e
   haveI wk : ∀ b ∈ ws, ∀ o, s₂.heap.get? b = some o → s'.heap.get? b = some o := fun b hb o e => g'.kept (fun h => by
    rcases List.mem_cons.mp h with h | h
    ·exact (f.wsub b hb).2.2.2 h
    ·exact (f.wsub b hb).2.2.1 h) (L₂.wn b hb).2 e (fun es ep q => by obtain ⟨o', fs, e', d⟩ := L₂.it.objs b hb; rw [e] at e'; cases e'; rw [d] at q; cases q)
   haveI L' : LS K n l A c env F₀ σ₀ s₀ own ws [] Da I tx t F' σ' ρ₁ H₄ s' r (ys ++ zs) := by
    refine ⟨ok'', L₂.g.trans (g'.own fun a ha => ?_), (L₂.it.frame wk (fun b o' q o e => ?_) (by simp)).mono g'.fz, fun b hb => ?_, hv, hd⟩
    ·rcases List.mem_cons.mp ha with rfl | ha
     ·exact .inl f.dsub.1
     ·exact .inl (f.sub a ha)
    ·have h1 := L₂.ok.rh.le b o' q
     rw [h1] at e; cases e
     exact ok'.rh.le b o' (g'.fz b o' q)
    ·obtain ⟨o, fs, HH112⟩ := L₂.it.objs b hb
     haveI e := HH112.1
     exact ⟨g'.nf b o e (L₂.wn b hb).1, nσ b o (L₂.wn b hb).2 e⟩
   refine wpAny_pure ⟨rfl, ih (ys ++ zs) F' σ' ρ₁ H₄ s' L' (fun b hb => by obtain ⟨o, e⟩ := hal₂ b hb; exact g'.live b o e) hub₁ ?_⟩
   rw [hrest]
   refine ⟨by simp at hlen ⊢; omega, fun F'' σ'' s'' ρ' g'' ok3 hf hv' hd' => hk F'' σ'' s'' ρ' g'' ok3 (fun k hkk => (hf k hkk).trans (Tgt.bd_off hb k hkk)) ?_ hd'⟩
   simpa using hv'
  exact Qig goal (ls₂.it.self goal)
theorem Qjc {bd : D → Rho → Option Rho} {it2 : Rho → Hp → R (List D)} {bd2 : D → Rho → Option Rho} {el : Rho → Hp → R V} : ∀ (xs : List D) (ρ : Rho) (H : Hp), RP False (QbB bd it2 bd2 el xs ρ H) fun _ => True
 | [], _, _ => trivial
 | x :: r, ρ, H => by
  change RP False (match bd x ρ with
   | none => .stuck
   | some ρ' => (it2 ρ' H).noexc.bind fun zs H => (QU bd2 el QaE zs ρ' H).bind fun ys H => (QbB bd it2 bd2 el r ρ' H).bind fun ws H => .ok (ys ++ ws) H) _
  cases bd x ρ with
  | none => trivial
  | some ρ₁ => exact RP.ne.bd fun _ _ _ => (QaP _ _ _).bd fun _ _ _ => (Qjc r ρ₁ _).bd fun _ _ _ => trivial
noncomputable def QsR (ov : List (Str × Nat)) (t t2 : Tgt) : Bool := t2.slots.all fun k => !(t.slots.contains k)
noncomputable def QsH (top : Nat) (t : Tgt) : Bool := t.slots.all fun k => decide (top ≤ k)
theorem QpH {scope : Scope} {ov : List (Str × Nat)} {top : Nat} {tx tx2 iter iter2 elt : Expr} {pos : Pos} {t t2 : Tgt} {i i2 : PI} {e : PE}
  (hc : Qce c scope ov top = true) (hs : QbF iter = true) (hs2 : QbF iter2 = true) (hi : SI K n c cl i iter tx t) (hi2 : SI K n (QD c scope ov top) cl i2 iter2 tx2 t2) (ht : OkTgt (QD c scope ov top) t tx) (ht2 : OkTgt (QD c scope ov top) t2 tx2)
  (hd : QsR ov t t2 = true) (hh : QsH c.top t2 = true) (he : SE K n (QD c scope ov top) cl e elt) :
  SUse K n c cl (.comp2 e t i t2 i2) elt [⟨tx, iter, [], 0⟩, ⟨tx2, iter2, [], 0⟩] scope pos := by
 intro l A env F σ ρ H s use Q E ok hk
 haveI hc := QcP hc
 refine wpAny_comprehension_free (use := use) rfl (QbP hs env) (Qee ok hc) hc.kind (QcF hc) ?_
 refine hi l A env F σ ρ H s _ E ok ?_
 change KX K l ((evI cl i ρ H).bind _) F σ s E _ at hk
 generalize evI cl i ρ H = r1 at hk ⊢
 cases r1 with
 | exc H' => exact hk
 | stuck => exact hk
 | ok xs H₁ =>
  rw [R.bind_ok] at hk
  intro I ws F₁ σ₁ s₁ g₁ rh₁ it hw hle
  refine QcX (rest := [⟨tx2, iter2, [], 0⟩]) (ok.grow g₁ rh₁) g₁ it hw (by simp) hc fun own own' C Da cenv s₃ lf ls hC hCo dead hne hal => ?_
  haveI hdis : ∀ k ∈ t2.slots, k ∉ t.slots := fun k hk2 => by
   haveI := List.all_eq_true.mp hd k hk2; simpa using this
  haveI hub : ∀ k ∈ t2.slots, gt ρ k = .unb := fun k hk2 => by
   haveI := List.all_eq_true.mp hh k hk2; exact ok.rl.hi k (by simpa using this)
  refine Qmy ht ht2 hdis hs2 he hi2 lf xs [] F₁ σ₁ ρ H₁ s₃ ls hal hub ?_
  cases e2 : QbB t.bd (evI cl i2) t2.bd (evE cl e) xs ρ H₁ with
  | exc H' => exact ((Qjc xs ρ H₁).no e2).elim
  | stuck => rw [e2] at hk; exact hk
  | ok ys H' =>
   rw [e2] at hk
   simp only [R.bind_ok] at hk
   split at hk
   ·rename_i hsm
    haveI hsm := QaV hsm
    refine ⟨by simp; omega, fun F' σ' s' ρf g ok' hsl hv hd => ?_⟩
    obtain ⟨vs, HH32⟩ := hv
    haveI hpl := HH32.1
    haveI rl := HH32.2
    obtain ⟨m, HH35⟩ := ok'.rl.ns
    haveI hm := HH35.1
    subst hC
    exact hk Da cenv.locals vs F' σ' s' (g.own fun a ha => .inr (dead a ha)) ok'.rh (dead _ lf.dsub.1) (dead _ (lf.sub _ hCo)) hne hpl (by simpa using rl) (by omega) hd.1 hd.2 ok'.rl.noL (Qetσ ok' hm) ⟨m, hm⟩
   ·exact hk.elim
end
inductive XO (K : Kx) (l : List Env) (own : List Addr) (F : Fz) (σ : List Addr) (H' : Hp) (s : Shared) (ev : Value) (s' : Shared) : Prop
 | mk (F' : Fz) (σ' : List Addr) (s₁ : Shared) (e : Addr) (h0 : ev = .ref e) (h1 : Gr own F σ s F' σ' s₁) (h2 : RH K.fa K.h₀ F' σ' H' s₁.heap) (h3 : RS l F' s₁.heap) (h4 : s'.gens = s₁.gens) (h5 : s'.os = s₁.os)
  (h6 : (∃ t, Heap.FlyingW (hideAll s₁.heap (frs l)) l e (.ref K.C) (.ref t) s'.heap ∧ s₁.heap.UpToSlots s'.heap) ∨ ∃ args, Heap.MadeExcOf s₁.heap s'.heap e (.ref K.C) args)
theorem XE.toXO {K : Kx} {l : List Env} {own : List Addr} {F : Fz} {σ : List Addr} {H' : Hp} {s : Shared} {ev : Value} {s' : Shared} (x : XE K l F σ H' s ev s') : XO K l own F σ H' s ev s' := by
 obtain ⟨F', σ', s₂, e, t, h1, h2, h3, h7, h4, h5, h6, h8⟩ := x
 exact ⟨F', σ', s₂, e, h1, h2.weak, h3, h7, h4, h5, .inl ⟨t, h6, h8⟩⟩
theorem XO.shift {K : Kx} {l : List Env} {own : List Addr} {F F₁ : Fz} {σ σ₁ : List Addr} {H' : Hp} {s s₁ : Shared} {ev : Value} {s' : Shared} (g : Gr own F σ s F₁ σ₁ s₁) (x : XO K l own F₁ σ₁ H' s₁ ev s') : XO K l own F σ H' s ev s' := by
 obtain ⟨F', σ', s₂, e, h1, h2, h3, h4, h5, h6, h7⟩ := x
 exact ⟨F', σ', s₂, e, h1, g.trans h2, h3, h4, h5, h6, h7⟩
theorem XO.drop {K : Kx} {l : List Env} {own own' : List Addr} {F : Fz} {σ : List Addr} {H' : Hp} {s : Shared} {ev : Value} {s' : Shared} (h : ∀ a ∈ own, a ∈ own' ∨ s.heap.get? a = none) (x : XO K l own F σ H' s ev s') : XO K l own' F σ H' s ev s' := by
 obtain ⟨F', σ', s₂, e, h1, h2, h3, h4, h5, h6, h7⟩ := x
 exact ⟨F', σ', s₂, e, h1, h2.own h, h3, h4, h5, h6, h7⟩
inductive RetOk (K : Kx) (own : List Addr) (base : Nat) (F : Fz) (σ : List Addr) (s : Shared) (H' : Hp) (v : Value) (x : D) (s' : Shared) : Prop
 | mk (F' : Fz) (σ' : List Addr) (F₂ : Fz) (h1 : Gr own F σ s F' σ' s') (h2 : RH K.fa K.h₀ F' σ' H' s'.heap) (h3 : FLe F' F₂) (h4 : ∀ b o, F₂ b = some o → s'.heap.get? b = some o)
  (h5 : ∀ b, F₂ b ≠ F' b → b ∈ σ'.drop base ∨ (s.heap.get? b = none ∧ b ∉ σ')) (h6 : RepD F₂ v x)
theorem RetOk.shift {K : Kx} {own : List Addr} {base : Nat} {F F₁ : Fz} {σ σ₁ : List Addr} {s s₁ : Shared} {H' : Hp} {v : Value} {x : D} {s' : Shared} (g : Gr own F σ s F₁ σ₁ s₁) (r : RetOk K own base F₁ σ₁ s₁ H' v x s') : RetOk K own base F σ s H' v x s' := by
 obtain ⟨F', σ', F₂, h1, h2, h3, h4, h5, h6⟩ := r
 exact ⟨F', σ', F₂, g.trans h1, h2, h3, h4, fun b hb => (h5 b hb).imp id fun h => ⟨g.dead h.1, h.2⟩, h6⟩
theorem RetOk.drop {K : Kx} {own own' : List Addr} {base : Nat} {F : Fz} {σ : List Addr} {s : Shared} {H' : Hp} {v : Value} {x : D} {s' : Shared} (h : ∀ a ∈ own, a ∈ own' ∨ s.heap.get? a = none) (r : RetOk K own base F σ s H' v x s') : RetOk K own' base F σ s H' v x s' := by
 obtain ⟨F', σ', F₂, h1, h2, h3, h4, h5, h6⟩ := r
 exact ⟨F', σ', F₂, h1.own h, h2, h3, h4, h5, h6⟩
noncomputable def KO (K : Kx) (n : Nat) (l : List Env) (A : Around) (c : Lx) (env : Env) (base : Nat) (own : List Addr) (o : O) (F : Fz) (σ : List Addr) (s : Shared) (Q : Flow → Shared → Prop) (E : Value → Shared → Prop) : Prop :=
 match o with
 | .next ρ' H' => ∀ F' σ' s', Gr own F σ s F' σ' s' → Ok K n l A c env F' σ' ρ' H' s' → Q .next s'
 | .ret x H' => ∀ v s', RetOk K own base F σ s H' v x s' → Q (.ret v) s'
 | .exc ρ' H' => ∀ ev s', XO K l own F σ H' s ev s' → E ev s'
 | .stuck => False
noncomputable def TopE (K : Kx) (l : List Env) (A : Around) (env : Env) (E : Value → Shared → Prop) : Prop := PassesOwn (model K.prog K.w) A env E ∧ ∃ outer, l = env :: outer ∧ env.frame = some env.locals
section
variable {K : Kx} {n : Nat} {c : Lx} {cl : Qh} {base : Nat}
theorem KO.shift {l : List Env} {A : Around} {env : Env} {own : List Addr} {o : O} {F F₁ : Fz} {σ σ₁ : List Addr} {s s₁ : Shared} {Q : Flow → Shared → Prop} {E : Value → Shared → Prop}
  (h : KO K n l A c env base own o F σ s Q E) (g : Gr own F σ s F₁ σ₁ s₁) : KO K n l A c env base own o F₁ σ₁ s₁ Q E := by
 cases o with
 | next ρ H => exact fun F' σ' s' g' ok => h F' σ' s' (g.trans g') ok
 | ret x H => exact fun v s' r => h v s' (r.shift g)
 | exc ρ H => exact fun ev s' x => h ev s' (x.shift g)
 | stuck => exact h
theorem KO.go {α β : Type} {l : List Env} {A : Around} {env : Env} {own : List Addr} {Rep₁ : Fz → List Addr → β → α → Prop} {r : R α} {ρ : Rho} {f : α → Hp → O} {F : Fz} {σ : List Addr} {s : Shared} {Q : Flow → Shared → Prop} {Q₁ : β → Shared → Prop} {E : Value → Shared → Prop}
  (hk : KO K n l A c env base own (r.go ρ f) F σ s Q E)
  (h : ∀ a H₁ v F₁ σ₁ s₁, Gr [] F σ s F₁ σ₁ s₁ → RH K.fa K.h₀ F₁ σ₁ H₁ s₁.heap → Rep₁ F₁ σ₁ v a → KO K n l A c env base own (f a H₁) F₁ σ₁ s₁ Q E → Q₁ v s₁) : KR K l Rep₁ r F σ s Q₁ E := by
 cases r with
 | ok a H => exact fun v F' σ' s' g rh rep => h a H v F' σ' s' g rh rep (KO.shift (o := f a H) hk g.weak)
 | exc H => exact fun ev s' x => hk ev s' x.toXO
 | stuck => exact hk
theorem KO.opt {γ : Type} {l : List Env} {A : Around} {env : Env} {own : List Addr} {o : Option γ} {ρ : Rho} {f : γ → Hp → O} {F : Fz} {σ : List Addr} {H : Hp} {s : Shared} {Q : Flow → Shared → Prop} {E : Value → Shared → Prop}
  (hk : KO K n l A c env base own ((Qp o H).go ρ f) F σ s Q E) : ∃ a, o = some a ∧ KO K n l A c env base own (f a H) F σ s Q E := by
 cases o with
 | none => exact hk.elim
 | some a => exact ⟨a, rfl, hk⟩
noncomputable def SS (K : Kx) (n : Nat) (c : Lx) (cl : Qh) (stm : PS) (x : Stmt) : Prop :=
 ∀ (base : Nat) (l : List Env) (A : Around) (env : Env) (own : List Addr) (F : Fz) (σ : List Addr) (ρ : Rho) (H : Hp) (s : Shared) (Q : Flow → Shared → Prop) (E : Value → Shared → Prop),
  Ok K n l A c env F σ ρ H s → Owns c env own → (∀ b ∈ own, ∃ o, s.heap.get? b = some o) → TopE K l A env E → KO K n l A c env base own (exS cl base stm ρ H) F σ s Q E → wpAny (model K.prog K.w) A (exec x env) Q E s
noncomputable def SB (K : Kx) (n : Nat) (c : Lx) (cl : Qh) (b : PB) (xs : List Stmt) : Prop :=
 ∀ (base : Nat) (l : List Env) (A : Around) (env : Env) (own : List Addr) (F : Fz) (σ : List Addr) (ρ : Rho) (H : Hp) (s : Shared) (Q : Flow → Shared → Prop) (E : Value → Shared → Prop),
  Ok K n l A c env F σ ρ H s → Owns c env own → (∀ b ∈ own, ∃ o, s.heap.get? b = some o) → TopE K l A env E → KO K n l A c env base own (exB cl base b ρ H) F σ s Q E → wpAny (model K.prog K.w) A (execs xs env) Q E s
theorem QaA {own own' : List Addr} {F F' : Fz} {σ σ' : List Addr} {s s' : Shared} (g : Gr own' F σ s F' σ' s') (h : ∀ b ∈ own, ∃ o, s.heap.get? b = some o) : ∀ b ∈ own, ∃ o, s'.heap.get? b = some o := fun b hb =>
 let ⟨o, e⟩ := h b hb; g.live b o e
theorem QtC : SB K n c cl .nil [] := by
 intro base l A env own F σ ρ H s Q E ok ho hl hE hk
 exact wpAny_execs_nil (hk F σ s (Gr.refl _ _ _ _) ok)
theorem QqA {stm : PS} {x : Stmt} {b : PB} {xs : List Stmt} (hs : SS K n c cl stm x) (hb : SB K n c cl b xs) : SB K n c cl (.cons stm b) (x :: xs) := by
 intro base l A env own F σ ρ H s Q E ok ho hl hE hk
 refine wpAny_execs_cons (hs base l A env own F σ ρ H s _ E ok ho hl hE ?_)
 change KO K n l A c env base own ((exS cl base stm ρ H).bind _) F σ s Q E at hk
 generalize exS cl base stm ρ H = r at hk ⊢
 cases r with
 | next ρ₁ H₁ =>
  intro F₁ σ₁ s₁ g₁ ok₁
  exact hb base l A env own F₁ σ₁ ρ₁ H₁ s₁ Q E ok₁ ho (QaA g₁ hl) hE (KO.shift (o := exB cl base b ρ₁ H₁) hk g₁)
 | ret y H₁ => exact hk
 | exc ρ₁ H₁ => exact hk
 | stuck => exact hk
noncomputable def Qpa (c : Lx) (value : Expr) (t : Str) (pos : Pos) : Bool :=
 match value with
 | .ListComp _ _ scope p => c.names t == some .local && pos.line == p.line && !(scope.names.any fun (n, k) => n == t && (k == .local || k == .cell))
 | _ => false
noncomputable def noSD : Expr → Bool
 | .SetComp .. => false
 | .DictComp .. => false
 | _ => true
theorem QlP {env : Env} {F : Fz} {σ : List Addr} {ρ : Rho} {h : Heap} (rl : RL K.fa c env F σ ρ h) {value : Expr} {t : Str} {pos : Pos} {ln : Nat} (hn : noSD value = true) : swapsWith value (some (.Name t pos)) ln env = pure (Qpa c value t pos) := by
 haveI hb : (env.blockKind == ScopeKind.function) = true := by
  unfold Env.blockKind; rw [rl.fnk]; rfl
 cases value with
 | ListComp _ _ scope p =>
  show (pure (env.blockKind == ScopeKind.function && env.kindOf t == some .local && pos.line == p.line && !(scope.names.any fun (n, k) => n == t && (k == .local || k == .cell))) : Sem Bool) = _
  rw [hb, rl.kinds t]; rfl
 | SetComp => cases hn
 | DictComp => cases hn
 | _ => rfl
theorem QfG {env : Env} {value v i : Expr} {p : Pos} {ln : Nat} : swapsWith value (some (.Subscript v i p)) ln env = pure false := by
 cases value <;> rfl
theorem QsB {k : Nat} {e : PE} {x : Str} {p pos : Pos} {v : Expr} (hs : QK c k x = true) (hn : noSD v = true) (hw : Qpa c v x p = false) (he : SE K n c cl e v) : SS K n c cl (.asg k e) (.Assign [.Name x p] v pos) := by
 intro base l A env own F σ ρ H s Q E ok ho hl hE hk
 refine wpAny_Assign_Name (he l A env F σ ρ H s _ E ok (hk.go fun a H₁ v₁ F₁ σ₁ s₁ g₁ rh₁ r₁ hk₁ => ?_)) (by rw [QlP ok.rl hn, hw])
 exact Qbf hs ho (ok.grow g₁ rh₁) r₁ fun s₂ g₂ ok₂ => hk₁ F₁ σ₁ s₂ g₂ ok₂
end
section
variable {prog : Program} {w : World} {A : Around} {E : Value → Shared → Prop} {s : Shared}
theorem Qhm {l : Addr} {items : Array Value} {k : Int} {t : Tok} {v : Value} {Q : Unit → Shared → Prop} (hl : s.heap.PlainList l items)
  (h0 : 0 ≤ k) (hfit : k < 2 ^ 63) (hn : k < items.size)
  (hQ : ∀ h', h'.PlainList l (items.setIfInBounds k.toNat v) → Heap.SameBut l s.heap h' → Q () { s with heap := h' }) :
  wpAny (model prog w) A (setItem (.ref l) (.int k t) v) Q E s := by
 obtain ⟨ne, ho⟩ := id hl
 haveI hlt := hl.isList.typeIs (s := s)
 unfold setItem
 try with_reducible refine wpAny_holding ?_
 first | refine wpAny_bind (wpAny_pure ?_) | skip
 refine wpAny_bind (wpAny_sequenceKey hlt (by decide) ?_)
 refine wpAny_bind (wpAny_callSpecial?_slot (name := Str.ofString "__setitem__") hlt slot_list_setitem
  (wpAny_call_entry slot_list_setitem hlt entry_list_setitem ?_ (args_list_setitem _ _ _)))
 show wpAny _ _ (Builtin.List.listSubscript? (.int k t) >>= _) _ _ s
 refine wpAny_bind (wpAny_listSubscript_int (fitsIndex_of h0 hfit) ?_)
 clear hfit
 obtain ⟨j, rfl⟩ := Int.eq_ofNat_of_zero_le h0
 haveI hj : j < items.size := by lia
 haveI hx' : items[j]? = some items[j] := Array.getElem?_eq_getElem hj
 show wpAny _ _ ((seqItemAt l j >>= fun r => pure (r.map (j, ·))) >>= _) _ _ s
 refine wpAny_bind (wpAny_bind (wpAny_seqItemAt ho rfl (wpAny_pure ?_)))
 rw [hx']
 show wpAny _ _ (setSeqItemAt l j v >>= _) _ _ s
 haveI hfin : (s.heap.update l (Obj.mapSeq (·.setIfInBounds j v))).PlainList l (items.setIfInBounds j v) := by
  refine ⟨ne, ?_⟩
  haveI e : Obj.mapSeq (·.setIfInBounds j v) ({ cls := .type "list", data := .seq items ne } : Obj) = { cls := .type "list", data := .seq (items.setIfInBounds j v) ne } := by
   simp [Obj.mapSeq]
  rw [Heap.get?_update_self _ ho (by rw [e]; rfl), e]
 refine wpAny_bind (wpAny_setSeqItemAt ho rfl ?_)
 first
  | exact wpAny_bind (wpAny_pure (wpAny_pure ⟨.none, rfl, wpAny_pure (hQ _ hfin (Heap.SameBut.update ..))⟩))
  | exact wpAny_pure ⟨.none, rfl, wpAny_pure (hQ _ hfin (Heap.SameBut.update ..))⟩
end
section
variable {K : Kx} {n : Nat} {c : Lx} {cl : Qh}
theorem RL.off {fa : Nat → Addr} {env : Env} {F : Fz} {σ : List Addr} {ρ : Rho} {h h' : Heap} {X : List Addr} (rl : RL fa c env F σ ρ h) (hX : ∀ b ∈ X, ∃ o, h.get? b = some o ∧ Qeh o)
  (ext : ∀ b o, b ∉ X → h.get? b = some o → h'.get? b = some o) : RL fa c env F σ ρ h' := by
 obtain ⟨m, HH2⟩ := rl.ns
 haveI hm := HH2.1
 haveI hv := HH2.2
 refine ⟨rl.fnk, rl.glob, rl.bi, rl.kinds, rl.noL, ⟨m, hm.at' fun o e => ext _ o (fun hb => ?_) e, hv⟩, fun y hy => ?_, rl.inj, rl.hi, rl.wf⟩
 ·obtain ⟨o, HH6⟩ := hX _ hb
  haveI e := HH6.1
  haveI p := HH6.2
  obtain ⟨o', es, ep, HH9⟩ := hm
  haveI e' := HH9.1
  haveI d := HH9.2.1
  rw [e] at e'; cases e'
  rcases p with ⟨fs, p⟩ | ⟨xs, m, p⟩ <;> · rw [d] at p; cases p
 ·obtain ⟨a, ov, HH14⟩ := rl.cl y hy
  haveI e := HH14.1
  haveI hn := HH14.2.1
  haveI hc := HH14.2.2.1
  haveI hk := HH14.2.2.2
  obtain ⟨o, ho, hd⟩ := id hc
  refine ⟨a, ov, e, hn, ⟨o, ext _ o (fun hb => ?_) ho, hd⟩, hk⟩
  obtain ⟨o', e', p⟩ := hX _ hb
  rw [ho] at e'; cases e'
  rcases p with ⟨fs, p⟩ | ⟨xs, m, p⟩ <;> · rw [hd] at p; cases p
theorem RS.off {l : List Env} {F : Fz} {h h' : Heap} {X : List Addr} (rs : RS l F h) (hX : ∀ b ∈ X, ∃ o, h.get? b = some o ∧ Qeh o)
  (ext : ∀ b o, b ∉ X → h.get? b = some o → h'.get? b = some o) : RS l F h' := by
 intro e he
 obtain ⟨hk, L, m, HH3⟩ := rs e he
 haveI hf := HH3.1
 haveI hm := HH3.2.1
 haveI hn := HH3.2.2
 refine ⟨hk, L, m, hf, hm.at' fun o e' => ext _ o (fun hb => ?_) e', hn⟩
 obtain ⟨o', e'', p⟩ := hX _ hb
 obtain ⟨o'', es, ep, e3, d, _⟩ := hm
 rw [e''] at e3; cases e3
 rcases p with ⟨fs, p⟩ | ⟨xs, m, p⟩ <;> · rw [d] at p; cases p
theorem Ok.write {l : List Env} {A : Around} {env : Env} {F : Fz} {σ : List Addr} {ρ : Rho} {H : Hp} {s s' : Shared} {j : Nat} {a : Addr} {us : List Value} {ys : List D} (ok : Ok K n l A c env F σ ρ H s) (hσ : σ[j]? = some a) (hj : j < H.length)
  (ext : ∀ b o, b ≠ a → s.heap.get? b = some o → s'.heap.get? b = some o) (hl : s'.heap.PlainList a us.toArray) (rl : RepL F us ys) (hle : ys.length ≤ 4194305) : Ok K n l A c env F σ ρ (H.set j ys) s' := by
 have hm := List.mem_of_getElem? hσ
 have hFa := ok.rh.fnoneσ hm
 obtain ⟨_, vs, ⟨na, h0⟩, _⟩ := ok.rh.cell j a _ hσ (List.getElem?_eq_getElem hj)
 have hX : ∀ b ∈ [a], ∃ o, s.heap.get? b = some o ∧ Qeh o := fun b hb => by
  rw [List.mem_singleton.mp hb]; exact ⟨_, h0, .inr ⟨_, _, rfl⟩⟩
 have ext' : ∀ b o, b ∉ [a] → s.heap.get? b = some o → s'.heap.get? b = some o := fun b o hb e => ext b o (by simpa using hb) e
 refine ⟨ok.ar, ⟨ok.rh.base, fun b o q => ext b o (fun x => by subst x; rw [hFa] at q; cases q) (ok.rh.le b o q), by simp [ok.rh.len], ok.rh.nod, fun m b zs h1 h2 => ?_⟩, ok.rl.off hX ext', ok.rs.off hX ext'⟩
 by_cases hjm : m = j
 ·subst hjm
  rw [hσ] at h1; cases h1
  rw [List.getElem?_set_self hj] at h2
  cases h2
  exact ⟨hFa, us, hl, rl, hle⟩
 ·rw [List.getElem?_set_ne (fun h => hjm h.symm)] at h2
  obtain ⟨q, ws, ⟨o, hl'⟩, rl', hle'⟩ := ok.rh.cell m b zs h1 h2
  refine ⟨q, ws, ⟨o, ext b _ (fun x => ?_) hl'⟩, rl', hle'⟩
  subst x
  haveI hm1 := (List.getElem?_eq_some_iff.mp h1)
  haveI hm2 := (List.getElem?_eq_some_iff.mp hσ)
  exact hjm ((List.getElem_inj (h₀ := hm1.1) (h₁ := hm2.1) ok.rh.nod).mp (hm1.2.trans hm2.2.symm))
theorem Gr.write {own : List Addr} {F : Fz} {σ : List Addr} {s s' : Shared} {j : Nat} {a : Addr} {us : List Value} (hσ : σ[j]? = some a) (ext : ∀ b o, b ≠ a → s.heap.get? b = some o → s'.heap.get? b = some o) (hl : s'.heap.PlainList a us.toArray) (hg : s'.gens = s.gens) (ho : s'.os = s.os) : Gr own F σ s F σ s' :=
 ⟨fun b o e => by
  by_cases q : b = a
  ·subst q; obtain ⟨na, h⟩ := hl; exact ⟨_, h⟩
  ·exact ⟨o, ext b o q e⟩,
  fun b o _ h2 e => ⟨o, ext b o (fun q => h2 (q ▸ List.mem_of_getElem? hσ)) e, .refl o⟩, FLe.refl _, fun _ _ _ e => e, ⟨[], by simp, by simp⟩, hg, ho⟩
theorem QmN {k : Nat} {x : Str} (hs : QW c k x = true) {l : List Env} {A : Around} {env : Env} {F : Fz} {σ : List Addr} {ρ : Rho} {H : Hp} {s : Shared} {Q : Value → Shared → Prop} {E : Value → Shared → Prop}
  (o : Ok K n l A c env F σ ρ H s) (hu : gt ρ k ≠ .unb) (h : ∀ v, RepV K.fa F σ v (gt ρ k) → Q v s) : wpAny (model K.prog K.w) A (loadName env x) Q E s := by
 simp only [QW, Bool.and_eq_true, beq_iff_eq] at hs
 obtain ⟨⟨h1, hv⟩, h3⟩ := hs
 cases hk : c.names x with
 | none => rw [hk] at h3; cases h3
 | some kd =>
  rw [hk] at h3
  have hkk := (o.rl.kinds x).trans hk
  cases kd with
  | «local» =>
   obtain ⟨m, hm, hs⟩ := o.rl.ns
   obtain ⟨v, HH12⟩ := hs x k hk hv hu
   haveI e := HH12.1
   haveI r := HH12.2
   exact wpAny_loadName_local o.rl.fnk hkk hm e (h v r)
  | cell =>
   obtain ⟨a, ov, e, _, hc, hs⟩ := o.rl.cl x (by rw [hk]; rfl)
   obtain ⟨v, rfl, r⟩ := hs k hv hu
   exact wpAny_loadName_cell o.rl.fnk hkk e hc (h v r)
  | free =>
   obtain ⟨a, ov, e, _, hc, hs⟩ := o.rl.cl x (by rw [hk]; rfl)
   obtain ⟨v, rfl, r⟩ := hs k hv hu
   exact wpAny_loadName_free o.rl.fnk hkk e hc (h v r) (Qlq h1)
  | globalExplicit => cases h3
  | globalImplicit => cases h3
theorem QqN {e : PE} {x : Expr} {pos : Pos} (hx : Qiq x = false) (he : SE K n c cl e x) : SS K n c cl (.expr e) (.Expr x pos) := by
 intro base l A env own F σ ρ H s Q E ok ho hl hE hk
 refine wpAny_Expr_any (he l A env F σ ρ H s _ E ok (hk.go fun a H₁ v₁ F₁ σ₁ s₁ g₁ rh₁ r₁ hk₁ => ?_)) (by unfold interactive; rw [ok.rl.fnk]; rfl) ?_
 ·exact hk₁ F₁ σ₁ s₁ (Gr.refl _ _ _ _) (ok.grow g₁ rh₁)
 ·cases x <;> first | rfl | cases hx
theorem KO.test {base : Nat} {l : List Env} {A : Around} {env : Env} {own : List Addr} {e : PE} {f : V → Hp → O} {ρ : Rho} {H : Hp} {F : Fz} {σ : List Addr} {s : Shared} {Q : Flow → Shared → Prop} {Q₁ : Bool → Shared → Prop} {E : Value → Shared → Prop}
  (hk : KO K n l A c env base own ((evE cl e ρ H).go ρ f) F σ s Q E) (hf : ∀ v H, Qaq v = none → f v H = .stuck)
  (h : ∀ b H₁ F₁ σ₁ s₁, Gr [] F σ s F₁ σ₁ s₁ → RH K.fa K.h₀ F₁ σ₁ H₁ s₁.heap → KO K n l A c env base own (f (.d (.bool b)) H₁) F₁ σ₁ s₁ Q E → Q₁ b s₁) : KR K l RepB (evT cl e ρ H) F σ s Q₁ E := by
 unfold evT
 generalize evE cl e ρ H = r at hk ⊢
 cases r with
 | exc H' => exact fun ev s' x => hk ev s' x.toXO
 | stuck => exact hk
 | ok v H' =>
  rw [R.bind_ok]
  rw [R.go_ok] at hk
  cases e2 : Qaq v with
  | none => rw [hf v H' e2] at hk; exact hk.elim
  | some b =>
   haveI := Qab e2; subst this
   intro b' F' σ' s' g rh hb
   haveI : b' = b := hb
   subst this
   exact h b' H' F' σ' s' g rh (KO.shift (o := f (.d (.bool b')) H') hk g.weak)
theorem QtB {e : PE} {a b : PB} {x : Expr} {xs ys : List Stmt} {pos : Pos} (he : ST K n c cl e x) (ha : SB K n c cl a xs) (hb : SB K n c cl b ys) : SS K n c cl (.ite e a b) (.If x xs ys pos) := by
 intro base l A env own F σ ρ H s Q E ok ho hl hE hk
 refine wpAny_If (he l A env F σ ρ H s _ E ok (hk.test (fun v H hv => ?_) fun z H₁ F₁ σ₁ s₁ g₁ rh₁ hk₁ => ?_))
 ·cases v with
  | d y => cases y <;> first | rfl | cases hv
  | _ => rfl
 ·cases z with
  | true => exact ha base l A env own F₁ σ₁ ρ H₁ s₁ Q E (ok.grow g₁ rh₁) ho (QaA g₁ hl) hE hk₁
  | false => exact hb base l A env own F₁ σ₁ ρ H₁ s₁ Q E (ok.grow g₁ rh₁) ho (QaA g₁ hl) hE hk₁
theorem QiU {l : List Env} {A : Around} {env : Env} {F : Fz} {σ : List Addr} {ρ : Rho} {H : Hp} {s : Shared} {v : Value} {m : Nat} {xs : List D} (ok : Ok K n l A c env F σ ρ H s) (r : RepV K.fa F σ v (.cell m)) (e : H[m]? = some xs) :
  ∃ a vs, v = .ref a ∧ σ[m]? = some a ∧ s.heap.PlainList a vs.toArray ∧ RepL F vs xs ∧ xs.length ≤ 4194305 ∧ m < H.length := by
 cases r with
 | cell hσ =>
  obtain ⟨_, vs, HH4⟩ := ok.rh.cell m _ xs hσ e
  haveI h1 := HH4.1
  haveI h2 := HH4.2.1
  haveI h3 := HH4.2.2
  exact ⟨_, vs, rfl, hσ, h1, h2, h3, (List.getElem?_eq_some_iff.mp e).1⟩
theorem QhS {l : List Env} {A : Around} {env : Env} {own : List Addr} {F : Fz} {σ : List Addr} {ρ : Rho} {H H' : Hp} {s : Shared} {Q : Unit → Shared → Prop} {E : Value → Shared → Prop} {v u : Value} {m : Nat} {i : Int} {t : Tok} {x : D}
  (ok : Ok K n l A c env F σ ρ H s) (r : RepV K.fa F σ v (.cell m)) (e : QdZ H m i x = some H') (rx : RepD F u x) (h : ∀ s', Gr own F σ s F σ s' → Ok K n l A c env F σ ρ H' s' → Q () s') :
  wpAny (model K.prog K.w) A (setItem v (.int i t) u) Q E s := by
 unfold QdZ at e
 cases e1 : H[m]? with
 | none => rw [e1] at e; cases e
 | some xs =>
  rw [e1] at e
  simp only at e
  split at e
  ·rename_i hi
   cases e
   obtain ⟨a, vs, rfl, HH12⟩ := QiU ok r e1
   haveI hσ := HH12.1
   haveI hpl := HH12.2.1
   haveI rl := HH12.2.2.1
   haveI hle := HH12.2.2.2.1
   haveI hlt := HH12.2.2.2.2
   haveI hlen := rl.length
   refine Qhm hpl hi.1 (by omega) (by simp; omega) fun h' hl' hs' => ?_
   haveI e2 : vs.toArray.setIfInBounds i.toNat u = (vs.set i.toNat u).toArray := by simp
   rw [e2] at hl'
   exact h _ (Gr.write hσ hs'.extBut hl' rfl rfl) (ok.write hσ hlt hs'.extBut hl' (rl.set rx) (by simp; exact hle))
  ·cases e
theorem Qrz {k : Nat} {i e : PE} {x : Str} {p q pos : Pos} {y v : Expr} (hs : QW c k x = true) (he : SE K n c cl e v) (hi : SE K n c cl i y) :
  SS K n c cl (.setI k i e) (.Assign [.Subscript (.Name x p) y q] v pos) := by
 intro base l A env own F σ ρ H s Q E ok ho hl hE hk
 refine wpAny_Assign_Subscript (he l A env F σ ρ H s _ E ok (hk.go fun a H₁ v₁ F₁ σ₁ s₁ g₁ rh₁ r₁ hk₁ => ?_)) QfG
 obtain ⟨d, e1, hk₀⟩ := hk₁.opt
 haveI := Qal e1; subst this
 haveI ok₁ := ok.grow g₁ rh₁
 cases eg : gt ρ k with
 | cell m =>
  rw [eg] at hk₀
  refine QZ hs ok₁ (by rw [eg]; intro q; cases q) fun u r => ?_
  rw [eg] at r
  refine hi l A env F₁ σ₁ ρ H₁ s₁ _ E ok₁ (hk₀.go fun b H₂ v₂ F₂ σ₂ s₂ g₂ rh₂ r₂ hk₂ => ?_)
  obtain ⟨j, e2, hk₃⟩ := hk₂.opt
  haveI := Qw e2; subst this
  obtain ⟨t, rfl⟩ := r₂.int_inv
  obtain ⟨H', HH16⟩ := hk₃.opt
  haveI e3 := HH16.1
  haveI hk₄ := HH16.2
  haveI ok₂ := ok₁.grow g₂ rh₂
  exact QhS (own := own) ok₂ (r.mono g₂.fz g₂.toPre) e3 (r₁.d_inv.mono g₂.fz) fun s' g ok' => hk₄ F₂ σ₂ s' g ok'
 | _ => rw [eg] at hk₀; exact hk₀.elim
theorem Qsn {k : Nat} {e : PE} {x : Str} {p ap pos spos : Pos} {v : Expr} (hs : QW c k x = true) (hline : (ap.endLine == spos.line) = true) (hv : Qcg v = true) (he : SE K n c cl e v) :
  SS K n c cl (.app k e) (.Expr (.Call (.Attribute (.Name x p) "append" ap) [v] [] spos) pos) := by
 intro base l A env own F σ ρ H s Q E ok ho hl hE hk
 rw [QmU] at hk
 cases eg : gt ρ k with
 | cell m =>
  rw [eg] at hk
  refine wpAny_Expr_any ?_ (by unfold interactive; rw [ok.rl.fnk]; rfl) rfl
  haveI hb := Qak hv [] env spos
  refine wpAny_Call_append rfl (by rw [hb]; rfl) hline (by rw [hb]; rfl) ?_
  refine QZ hs ok (by rw [eg]; intro q; cases q) fun u r => ?_
  rw [eg] at r
  cases r with
  | cell hσ =>
   rename_i a
   have hlt : m < H.length := ok.rh.len ▸ (List.getElem?_eq_some_iff.mp hσ).1
   obtain ⟨_, vs₀, ⟨na, hpl₀⟩, _⟩ := ok.rh.cell m a _ hσ (List.getElem?_eq_getElem hlt)
   refine ⟨a, vs₀.toArray, rfl, ⟨_, na, hpl₀, rfl, rfl, rfl⟩, ?_⟩
   refine he l A env F σ ρ H s _ E ok (hk.go fun b H₁ v₁ F₁ σ₁ s₁ g₁ rh₁ r₁ hk₁ => ?_)
   obtain ⟨d, e1, hk₂⟩ := hk₁.opt
   haveI := Qal e1; subst this
   obtain ⟨H', e3, hk₃⟩ := hk₂.opt
   have ok₁ := ok.grow g₁ rh₁
   unfold QeW at e3
   cases e4 : H₁[m]? with
   | none => rw [e4] at e3; cases e3
   | some xs =>
    rw [e4] at e3
    simp only at e3
    split at e3
    ·rename_i hsm
     haveI hsm := QaV hsm
     cases e3
     obtain ⟨a', vs, HH33⟩ := QiU ok₁ ((RepV.cell hσ : RepV K.fa F σ (.ref a) (.cell m)).mono g₁.fz g₁.toPre) e4
     haveI ea := HH33.1
     haveI hσ' := HH33.2.1
     haveI hpl := HH33.2.2.1
     haveI rl := HH33.2.2.2.1
     haveI hle := HH33.2.2.2.2.1
     haveI hlt' := HH33.2.2.2.2.2
     cases ea
     have hlen := rl.length
     refine wpAny_list_append_plain (hsz := by rw [sizeLine_eq]; simp; omega) hpl fun h' hl' hs' => ?_
     haveI e2 : vs.toArray.push v₁ = (vs ++ [v₁]).toArray := by simp
     rw [e2] at hl'
     exact hk₃ F₁ σ₁ _ (Gr.write hσ' hs'.extBut hl' rfl rfl) (ok₁.write hσ' hlt' hs'.extBut hl' (rl.append (.cons r₁.d_inv .nil)) (by simp; omega))
    ·cases e3
 | _ => rw [eg] at hk; exact hk.elim
noncomputable def QqY : BOp → Bool
 | .add | .sub | .mod | .shr | .or => true
 | _ => false
theorem QmH {op : BOp} {l : List Env} {A : Around} {F : Fz} {σ : List Addr} {H : Hp} {s : Shared} {a b z : Int} {t u : Tok} {Q : Value → Shared → Prop} {E : Value → Shared → Prop} (hop : QqY op = true) (hz : binI op a b = some z)
  (h : ∀ t' tk, Q (.int z t') { s with toks := tk }) : wpAny (model K.prog K.w) A (inplaceOp (opOf op) (.int a t) (.int b u)) Q E s := by
 cases op with
 | add => cases hz; exact iadd_int (h _ _)
 | sub => cases hz; exact isub_int (h _ _)
 | mod => obtain ⟨hb, e⟩ := QlL hz; cases e; exact imod_int hb (h _ _)
 | or => cases hz; exact ior_int (h _ _)
 | shr => obtain ⟨hb, e⟩ := QbX hz; cases e; exact irshift_int hb (h _ _)
 | _ => cases hop
theorem QsV {k : Nat} {op : BOp} {e : PE} {x : Str} {o : Operator} {p pos : Pos} {v : Expr} (hop : QqY op = true) (hoo : o = opOf op) (hs : QW c k x = true) (hst : QK c k x = true) (he : SE K n c cl e v) :
  SS K n c cl (.aug k op e) (.AugAssign (.Name x p) o v pos) := by
 intro base l A env own F σ ρ H s Q E ok ho hl hE hk
 subst hoo
 rw [Qns] at hk
 cases eg : gt ρ k with
 | d d₀ =>
  rw [eg] at hk
  refine wpAny_AugAssign_Name (QmN hs ok (by rw [eg]; intro q; cases q) fun u r => ?_)
  rw [eg] at r
  refine he l A env F σ ρ H s _ E ok (hk.go fun a H₁ v₁ F₁ σ₁ s₁ g₁ rh₁ r₁ hk₁ => ?_)
  obtain ⟨y, e1, hk₂⟩ := hk₁.opt
  haveI := Qal e1; subst this
  obtain ⟨z, e2, hk₃⟩ := hk₂.opt
  obtain ⟨i, j, q, rfl, rfl, rfl, e3⟩ := Qmc e2
  obtain ⟨t, rfl⟩ := r.int_inv
  obtain ⟨t', rfl⟩ := r₁.int_inv
  haveI ok₁ := ok.grow g₁ rh₁
  refine QmH (F := F₁) (σ := σ₁) (H := H₁) (l := l) hop e3 fun t₂ tk => ?_
  haveI ok₂ := ok₁.step (s' := { s₁ with toks := tk }) (fun _ _ e => e) rfl rfl
  exact Qbf hst ho ok₂ (.d (.int _ _)) fun s₂ g₂ ok₃ => hk₃ F₁ σ₁ s₂ ((Gr.tok tk).trans g₂) ok₃
 | _ => rw [eg] at hk; exact hk.elim
end
section
variable {K : Kx} {n : Nat} {c : Lx} {cl : Qh}
theorem Qpg {e : PE} {b : PB} {x : Expr} {xs : List Stmt} {base : Nat} {l : List Env} {A : Around} {env : Env} {own : List Addr} {Q : Flow → Shared → Prop} {E : Value → Shared → Prop} (he : ST K n c cl e x) (hb : SB K n c cl b xs) (ho : Owns c env own) (hE : TopE K l A env E) :
  ∀ (f : Nat) (F : Fz) (σ : List Addr) (ρ : Rho) (H : Hp) (s : Shared), Ok K n l A c env F σ ρ H s → (∀ b ∈ own, ∃ o, s.heap.get? b = some o) → KO K n l A c env base own (Qav (evE cl e) (exB cl base b) f ρ H) F σ s Q E →
   codeAny (model K.prog K.w) A (.whileLoop x xs [] env) (fun r s' => match r with | .ok f => Q f s' | .error e => cameBackBy (model K.prog K.w) A env E e s') s := by
 intro f
 induction f with
 | zero => intro F σ ρ H s ok hl hk; exact hk.elim
 | succ f ih =>
  intro F σ ρ H s ok hl hk
  refine codeAny_of_tree ?_
  show wpAny (model K.prog K.w) A ((whileTurn x xs [] env).onRaise (fun x => do noteFrame x env; theTreesLotGoes x)) _ _ s
  refine wpAny_noted ?_
  simp only [whileTurn]
  rw [Qdi] at hk
  refine wpAny_bind (he l A env F σ ρ H s _ _ ok ?_)
  unfold evT
  generalize evE cl e ρ H = r at hk ⊢
  cases r with
  | exc H' => exact hk.elim
  | stuck => exact hk.elim
  | ok v H₁ =>
   cases v with
   | d y =>
    cases y with
    | bool z =>
     intro z' F₁ σ₁ s₁ g₁ rh₁ hz
     haveI : z' = z := hz
     subst this
     haveI ok₁ := ok.grow g₁ rh₁
     cases z' with
     | true =>
      rw [if_pos rfl]
      refine wpAny_bind (wpAny_passesOwn hE.1 (hb base l A env own F₁ σ₁ ρ H₁ s₁ _ E ok₁ ho (QaA g₁ hl) hE ?_))
      change KO K n l A c env base own (match exB cl base b ρ H₁ with
       | .next ρ H => Qav (evE cl e) (exB cl base b) f ρ H
       | .ret x H => .ret x H
       | _ => .stuck) F σ s Q E at hk
      generalize exB cl base b ρ H₁ = o at hk ⊢
      cases o with
      | next ρ₂ H₂ =>
       intro F₂ σ₂ s₂ g₂ ok₂
       exact wpAny_pure ⟨rfl, ih F₂ σ₂ ρ₂ H₂ s₂ ok₂ (QaA g₂ (QaA g₁ hl)) (KO.shift (o := Qav (evE cl e) (exB cl base b) f ρ₂ H₂) hk (g₁.weak.trans g₂))⟩
      | ret y H₂ =>
       intro v s' r
       exact wpAny_pure (hk v s' (r.shift g₁.weak))
      | exc ρ₂ H₂ => exact hk.elim
      | stuck => exact hk.elim
     | false =>
      rw [if_neg Bool.false_ne_true]
      exact wpAny_bind (wpAny_execs_nil (wpAny_pure (hk F₁ σ₁ s₁ g₁.weak ok₁)))
    | _ => exact hk.elim
   | _ => exact hk.elim
theorem QsO {e : PE} {b : PB} {x : Expr} {xs : List Stmt} {pos : Pos} (he : ST K n c cl e x) (hb : SB K n c cl b xs) : SS K n c cl (.whl e b) (.While x xs [] pos) := by
 intro base l A env own F σ ρ H s Q E ok ho hl hE hk
 exact wpAny_While (Qpg he hb ho hE QH F σ ρ H s ok hl hk)
theorem QoW {b : PB} {tx : Expr} {t : Tgt} {xs : List Stmt} {base : Nat} {l : List Env} {A : Around} {env : Env} {own ws : List Addr} {I : Addr} {F₀ : Fz} {σ₀ : List Addr} {s₀ : Shared} {Q : Flow → Shared → Prop} {E : Value → Shared → Prop}
  (ht : OkTgt c t tx) (hb : SB K n c cl b xs) (ho : Owns c env own) (hE : TopE K l A env E) (hw : ∀ b ∈ ws, b ∉ own ∧ s₀.heap.get? b = none) :
  ∀ (its : List D) (F : Fz) (σ : List Addr) (ρ : Rho) (H : Hp) (s : Shared), Ok K n l A c env F σ ρ H s → (∀ b ∈ own, ∃ o, s.heap.get? b = some o) → Gr (own ++ ws) F₀ σ₀ s₀ F σ s → IT K A tx t I ws [] F its s.heap → (∀ b ∈ ws, F b = none ∧ b ∉ σ) →
   KO K n l A c env base own (Qaf t.bd (exB cl base b) its ρ H) F₀ σ₀ s₀ Q E →
   codeAny (model K.prog K.w) A (.forLoop tx (.ref I) xs [] env) (fun r s' => match r with | .ok f => Q f s' | .error e => cameBackBy (model K.prog K.w) A env E e s') s := by
 haveI drop : ∀ a ∈ own ++ ws, a ∈ own ∨ s₀.heap.get? a = none := fun a ha => by
  rcases List.mem_append.mp ha with ha | ha
  ·exact .inl ha
  ·exact .inr (hw a ha).2
 intro its
 induction its with
 | nil =>
  intro F σ ρ H s ok hl g it wn hk
  refine codeAny_of_tree ?_
  show wpAny (model K.prog K.w) A ((forTurn tx (.ref I) xs [] env).onRaise (fun x => do noteFrame x env; theTreesLotGoes x)) _ _ s
  refine wpAny_noted ?_
  simp only [forTurn]
  refine wpAny_bind (wpAny_standAt (wpAny_bind (wpAny_onRaise (it.done fun h' tk ext => ?_))))
  have okX : Ok K n l A c env F σ ρ H { s with heap := h', toks := tk } := ok.off (X := ws) (fun b hb => ⟨(wn b hb).1, (wn b hb).2, (by obtain ⟨o, fs, e1, e2⟩ := it.objs b hb; exact ⟨o, e1, .inl ⟨fs, e2⟩⟩)⟩) ext
  have gX : Gr (own ++ ws) F₀ σ₀ s₀ F σ { s with heap := h', toks := tk } := g.off (X := ws) (fun b hb => ⟨List.mem_append_right _ hb, .inl (hw b hb).2⟩) ext rfl rfl
  exact wpAny_pure ⟨rfl, codeAny_block (wpAny_execs_nil (hk F σ _ (gX.own drop) okX))⟩
 | cons y r ih =>
  intro F σ ρ H s ok hl g it wn hk
  refine codeAny_of_tree ?_
  show wpAny (model K.prog K.w) A ((forTurn tx (.ref I) xs [] env).onRaise (fun x => do noteFrame x env; theTreesLotGoes x)) _ _ s
  refine wpAny_noted ?_
  simp only [forTurn]
  rw [Qdf] at hk
  cases hbd : t.bd y ρ with
  | none => rw [hbd] at hk; exact hk.elim
  | some ρ₁ =>
  rw [hbd] at hk
  change KO K n l A c env base own ((exB cl base b ρ₁ H).bind _) F₀ σ₀ s₀ Q E at hk
  refine wpAny_bind (wpAny_standAt ?_)
  refine wpAny_bind (wpAny_onRaise (wpAny_mono (it.take (E := fun _ _ => False) (E₁ := notedBy (model K.prog K.w) A env fun e s' => cameBackBy (model K.prog K.w) A env E e s') (Qn := fun _ => False)
   (Q := fun v s' => wpAny (model K.prog K.w) A (do
     assign tx env v
     match ← execs xs env with
     | .next | .cont => again (.forLoop tx (.ref I) xs [] env)
     | .brk => pure (.done .next)
     | .ret v => pure (.done (.ret v))) (fun fin s'' => match fin with | .done f => Q f s'' | .again c' => c'.quiet = true ∧ codeAny (model K.prog K.w) A c' (fun r s' => match r with | .ok f => Q f s' | .error e => cameBackBy (model K.prog K.w) A env E e s') s'')
     (notedBy (model K.prog K.w) A env fun e s' => cameBackBy (model K.prog K.w) A env E e s') s')
   (fun b o q => ⟨ok.rh.le b o q, fun hm => by rw [(wn b hm).1] at q; cases q⟩) (QjZ hbd) fun v h' tk ext it' item => ?_) (fun r₁ s₁ h₁ => ?_) fun _ _ e => e.elim))
  rotate_left
  ·cases r₁ with
   | none => exact h₁.elim
   | some v => exact wpAny_bind h₁
  have okX : Ok K n l A c env F σ ρ H { s with heap := h', toks := tk } := ok.off (X := ws) (fun b hb => ⟨(wn b hb).1, (wn b hb).2, (by obtain ⟨o, fs, e1, e2⟩ := it.objs b hb; exact ⟨o, e1, .inl ⟨fs, e2⟩⟩)⟩) ext
  have gX : Gr (own ++ ws) F₀ σ₀ s₀ F σ { s with heap := h', toks := tk } := g.off (X := ws) (fun b hb => ⟨List.mem_append_right _ hb, .inl (hw b hb).2⟩) ext rfl rfl
  haveI hlX : ∀ b ∈ own, ∃ o, h'.get? b = some o := fun b hb => by
   obtain ⟨o, e⟩ := hl b hb; exact ⟨o, ext b o (fun hm => (hw b hm).1 hb) e⟩
  have keep : ∀ {own₁ : List Addr} {F₁ F₂ : Fz} {σ₁ σ₂ : List Addr} {s₁ s₂ : Shared} {ρ' : Rho} {H' : Hp}, Gr own F₁ σ₁ s₁ F₂ σ₂ s₂ → IT K A tx t I ws [] F₁ r s₁.heap → (∀ b ∈ ws, F₁ b = none ∧ b ∉ σ₁) → (∀ b o, F₁ b = some o → s₁.heap.get? b = some o) → RH K.fa K.h₀ F₂ σ₂ H' s₂.heap →
    IT K A tx t I ws [] F₂ r s₂.heap ∧ (∀ b ∈ ws, F₂ b = none ∧ b ∉ σ₂) := fun {own₁ F₁ F₂ σ₁ σ₂ s₁ s₂ ρ' H'} g it wn le rh => by
   refine ⟨(it.frame (fun b hb o e => g.kept (hw b hb).1 (wn b hb).2 e (fun es ep q => by obtain ⟨o', fs, e', d⟩ := it.objs b hb; rw [e] at e'; cases e'; rw [d] at q; cases q)) (fun b o' q o e => ?_) (by simp)).mono g.fz, fun b hb => ?_⟩
   ·rw [le b o' q] at e; cases e
    exact rh.le b o' (g.fz b o' q)
   ·obtain ⟨o, fs, e, _⟩ := it.objs b hb
    refine ⟨g.nf b o e (wn b hb).1, fun hm => ?_⟩
    obtain ⟨τ, e', hτ⟩ := g.pre
    rw [e'] at hm
    rcases List.mem_append.mp hm with hm | hm
    ·exact (wn b hb).2 hm
    ·rw [hτ b hm] at e; cases e
  refine wpAny_bind (Qdb ht ho okX item hbd fun s₂ g₂ ok₂ => ?_)
  haveI HH64 := keep (own₁ := []) (ρ' := ρ) g₂ it' wn okX.rh.le ok₂.rh
  haveI it₂ := HH64.1
  haveI wn₂ := HH64.2
  haveI gY : Gr (own ++ ws) F₀ σ₀ s₀ F σ s₂ := gX.trans (g₂.own fun a ha => .inl (List.mem_append_left _ ha))
  refine wpAny_bind (wpAny_passesOwn hE.1 (hb base l A env own F σ ρ₁ H s₂ _ E ok₂ ho (QaA (s := { s with heap := h', toks := tk }) g₂ hlX) hE ?_))
  generalize exB cl base b ρ₁ H = o at hk ⊢
  cases o with
  | next ρ₂ H₂ =>
   intro F₃ σ₃ s₃ g₃ ok₃
   haveI HH73 := keep (own₁ := []) (ρ' := ρ) g₃ it₂ wn₂ ok₂.rh.le ok₃.rh
   haveI it₃ := HH73.1
   haveI wn₃ := HH73.2
   exact wpAny_pure ⟨rfl, ih F₃ σ₃ ρ₂ H₂ s₃ ok₃ (QaA g₃ (QaA (s := { s with heap := h', toks := tk }) g₂ hlX)) (gY.trans (g₃.own fun a ha => .inl (List.mem_append_left _ ha))) it₃ wn₃ hk⟩
  | ret z H₂ =>
   intro v' s' rr
   exact wpAny_pure (hk v' s' (((rr.drop (own' := own ++ ws) fun a ha => .inl (List.mem_append_left _ ha)).shift gY).drop drop))
  | exc ρ₂ H₂ =>
   intro ev s' x
   exact hk ev s' (((x.drop (own' := own ++ ws) fun a ha => .inl (List.mem_append_left _ ha)).shift gY).drop drop)
  | stuck => exact hk.elim
theorem QqW {i : PI} {b : PB} {tx iter : Expr} {t : Tgt} {xs : List Stmt} {pos : Pos} (hs : QbF iter = true) (ht : OkTgt c t tx) (hi : SI K n c cl i iter tx t) (hb : SB K n c cl b xs) : SS K n c cl (.forr t i b) (.For tx iter xs [] pos) := by
 intro base l A env own F σ ρ H s Q E ok ho hl hE hk
 refine wpAny_For (hi l A env F σ ρ H s _ E ok ?_) (QbP hs env)
 change KO K n l A c env base own ((evI cl i ρ H).go ρ _) F σ s Q E at hk
 generalize evI cl i ρ H = r at hk ⊢
 cases r with
 | exc H' => exact fun ev s' x => hk ev s' x.toXO
 | stuck => exact hk
 | ok its H₁ =>
  intro I ws F₁ σ₁ s₁ g₁ rh₁ it hw hle
  refine QoW ht hb ho hE (fun b hb => ⟨fun hm => ?_, (hw b hb).1⟩) its F₁ σ₁ ρ H₁ s₁ (ok.grow g₁ rh₁) (QaA g₁ hl) g₁.weak it (fun b hb => (hw b hb).2) hk
  obtain ⟨o, e⟩ := hl b hm
  rw [(hw b hb).1] at e; cases e
end
theorem FLe.put' {F : Fz} {a : Addr} {o : Obj} (h : ∀ o', F a = some o' → o' = o) : FLe F (F.put a o) := by
 intro b o' e
 unfold Fz.put
 split
 ·rename_i q; subst q; rw [h o' e]
 ·exact e
section
variable {K : Kx} {n : Nat} {c : Lx} {cl : Qh}
theorem QnT {F : Fz} {σ : List Addr} {H : Hp} {h : Heap} {base : Nat} (rh : RH K.fa K.h₀ F σ H h) {v : Value} {a : V} {x : D} (r : RepV K.fa F σ v a) (e : toD base H a = some x)
  {F₂ : Fz} (h1 : FLe F F₂) (h2 : ∀ b o, F₂ b = some o → h.get? b = some o) (h3 : ∀ b, F₂ b ≠ F b → b ∈ σ.drop base) :
  ∃ F₃, FLe F₂ F₃ ∧ (∀ b o, F₃ b = some o → h.get? b = some o) ∧ (∀ b, F₃ b ≠ F b → b ∈ σ.drop base) ∧ RepD F₃ v x := by
 cases a with
 | d y =>
  simp only [toD, Option.some.injEq] at e
  subst e
  exact ⟨F₂, FLe.refl _, h2, h3, r.d_inv.mono h1⟩
 | cell m =>
  simp only [toD] at e
  split at e
  ·rename_i hb
   obtain ⟨xs, e1, rfl⟩ := Option.map_eq_some_iff.mp e
   cases r with
   | cell hσ =>
    rename_i ad
    obtain ⟨hF, vs, ⟨na, hpl⟩, rl, hle⟩ := rh.cell m ad xs hσ e1
    have hput : FLe F₂ (F₂.put ad { cls := .type "list", data := .seq vs.toArray na }) := FLe.put' fun o' q => by
     have := h2 _ _ q; rw [hpl] at this; cases this; rfl
    refine ⟨_, hput, fun b o q => ?_, fun b hb' => ?_, .list (Fz.put_self _ _ _) ⟨rfl, na, rfl⟩ (rl.mono (h1.trans hput)) hle⟩
    ·unfold Fz.put at q
     split at q
     ·rename_i z; subst z; cases q; exact hpl
     ·exact h2 b o q
    ·unfold Fz.put at hb'
     split at hb'
     ·rename_i z; subst z
      haveI hlt := (List.getElem?_eq_some_iff.mp hσ)
      haveI hm : m < σ.length := hlt.1
      haveI hbm : base + (m - base) = m := by omega
      refine List.mem_iff_getElem?.mpr ⟨m - base, ?_⟩
      rw [List.getElem?_drop, hbm]; exact hσ
     ·exact h3 b hb'
  ·cases e
 | _ => simp [toD] at e
theorem Qol {F : Fz} {σ : List Addr} {H : Hp} {h : Heap} {base : Nat} (rh : RH K.fa K.h₀ F σ H h) : ∀ {vs : List Value} {as : List V} {xs : List D}, RepVs K.fa F σ vs as → toDs base H as = some xs →
  ∀ {F₂ : Fz}, FLe F F₂ → (∀ b o, F₂ b = some o → h.get? b = some o) → (∀ b, F₂ b ≠ F b → b ∈ σ.drop base) →
  ∃ F₃, FLe F₂ F₃ ∧ (∀ b o, F₃ b = some o → h.get? b = some o) ∧ (∀ b, F₃ b ≠ F b → b ∈ σ.drop base) ∧ RepL F₃ vs xs
 | _, _, _, .nil, e, F₂, h1, h2, h3 => by
  simp only [toDs, Option.some.injEq] at e
  subst e
  exact ⟨F₂, FLe.refl _, h2, h3, .nil⟩
 | _, _, _, .cons r rs, e, F₂, h1, h2, h3 => by
  simp only [toDs] at e
  split at e
  ·rename_i x xs e1 e2
   cases e
   obtain ⟨F₃, HH12⟩ := QnT rh r e1 h1 h2 h3
   haveI a1 := HH12.1
   haveI a2 := HH12.2.1
   haveI a3 := HH12.2.2.1
   haveI a4 := HH12.2.2.2
   obtain ⟨F₄, HH17⟩ := Qol rh rs e2 (h1.trans a1) a2 a3
   haveI b1 := HH17.1
   haveI b2 := HH17.2.1
   haveI b3 := HH17.2.2.1
   haveI b4 := HH17.2.2.2
   exact ⟨F₄, a1.trans b1, b2, b3, .cons (a4.mono b1) b4⟩
  ·cases e
theorem Qsg {e : PE} {x : Expr} {pos : Pos} (he : SE K n c cl e x) : SS K n c cl (.ret e) (.Return (some x) pos) := by
 intro base l A env own F σ ρ H s Q E ok ho hl hE hk
 refine wpAny_Return_some (he l A env F σ ρ H s _ E ok (hk.go fun a H₁ v₁ F₁ σ₁ s₁ g₁ rh₁ r₁ hk₁ => ?_))
 cases e1 : toD base H₁ a with
 | none => rw [e1] at hk₁; exact hk₁.elim
 | some y =>
  rw [e1] at hk₁
  obtain ⟨F₂, HH7⟩ := QnT rh₁ r₁ e1 (FLe.refl _) rh₁.le (fun b hb => absurd rfl hb)
  haveI h1 := HH7.1
  haveI h2 := HH7.2.1
  haveI h3 := HH7.2.2.1
  haveI h4 := HH7.2.2.2
  exact hk₁ v₁ s₁ ⟨F₁, σ₁, F₂, Gr.refl _ _ _ _, rh₁, h1, h2, fun b hb => .inl (h3 b hb), h4⟩
theorem QrQ {es : PEs} {xs : List Expr} {j : Nat} {p pos : Pos} (hes : SEs K n c cl es xs) : SS K n c cl (.rett es) (.Return (some (.Tuple xs j p)) pos) := by
 intro base l A env own F σ ρ H s Q E ok ho hl hE hk
 refine wpAny_Return_some (wpAny_Tuple (hes l A env F σ ρ H s _ E p ok (hk.go fun as H₁ ws F₁ σ₁ s₁ g₁ rh₁ r₁ hk₁ => ?_)))
 cases e1 : toDs base H₁ as with
 | none => rw [e1] at hk₁; exact hk₁.elim
 | some ys =>
  rw [e1] at hk₁
  simp only at hk₁
  split at hk₁
  ·rename_i hsm
   haveI hsm := QaV hsm
   obtain ⟨F₂, HH11⟩ := Qol rh₁ r₁ e1 (FLe.refl _) rh₁.le (fun b hb => absurd rfl hb)
   haveI h1 := HH11.1
   haveI h2 := HH11.2.1
   haveI h3 := HH11.2.2.1
   haveI h4 := HH11.2.2.2
   haveI hlen := h4.length
   refine ⟨Qaw (by omega), ?_⟩
   haveI hn := QaR s₁.heap
   haveI up : ∀ b o, s₁.heap.get? b = some o → (s₁.heap.push { cls := .type "tuple", data := .seq ws.toArray }).get? b = some o := fun b o e => Heap.get?_push_of_some _ e
   haveI hF₂ : F₂ s₁.heap.objs.size = none := by
    cases q : F₂ s₁.heap.objs.size with
    | none => rfl
    | some o => have := h2 _ _ q; rw [hn] at this; cases this
   refine hk₁ _ _ ⟨F₁, σ₁, F₂.put s₁.heap.objs.size { cls := .type "tuple", data := .seq ws.toArray }, Gr.step up rfl rfl, rh₁.keeps up, h1.trans (Fz.put_le hF₂), fun b o q => ?_, fun b hb => ?_, .tup (Fz.put_self _ _ _) ⟨rfl, 0, rfl⟩ (h4.mono (Fz.put_le hF₂)) (by omega)⟩
   ·unfold Fz.put at q
    split at q
    ·rename_i z; subst z; cases q; exact Heap.get?_push_size _ rfl
    ·exact up b o (h2 b o q)
   ·unfold Fz.put at hb
    split at hb
    ·rename_i z; subst z; exact .inr ⟨hn, rh₁.nσ hn⟩
    ·exact .inl (h3 b hb)
  ·exact hk₁.elim
inductive OkNames (c : Lx) : List Nat → List Expr → Prop
 | nil : OkNames c [] []
 | cons {k : Nat} {ks : List Nat} {x : Str} {p : Pos} {r : List Expr} (h : QK c k x = true) (hr : OkNames c ks r) : OkNames c (k :: ks) (.Name x p :: r)
theorem QdC {l : List Env} {A : Around} {env : Env} {own : List Addr} {E : Value → Shared → Prop} (ho : Owns c env own) {ks : List Nat} {ts : List Expr} (h : OkNames c ks ts) : ∀ {vs : List Value} {as : List V} {F : Fz} {σ : List Addr} {ρ : Rho} {H : Hp} {s : Shared} {Q : Unit → Shared → Prop},
  Ok K n l A c env F σ ρ H s → RepVs K.fa F σ vs as → as.length = ks.length → (∀ s', Gr own F σ s F σ s' → Ok K n l A c env F σ (sts ρ ks as) H s' → Q () s') → wpAny (model K.prog K.w) A (assignInOrder ((assignEach ts env).map (·.2)) vs) Q E s := by
 induction h with
 | nil =>
  intro vs as F σ ρ H s Q ok rv hlen hQ
  cases rv with
  | nil => exact assignInOrder_nil (hQ s (Gr.refl _ _ _ _) ok)
  | cons _ _ => exact absurd hlen (Nat.succ_ne_zero _)
 | cons h hr ih =>
  intro vs as F σ ρ H s Q ok rv hlen hQ
  cases rv with
  | nil => exact absurd hlen.symm (Nat.succ_ne_zero _)
  | cons r rs => exact assignInOrder_cons (Qbh h ho ok r fun s₁ g₁ ok₁ => ih ok₁ rs (Nat.succ.inj hlen) fun s₂ g₂ ok₂ => hQ s₂ (g₁.trans g₂) ok₂)
theorem QeJ {env : Env} {ks : List Nat} {ts : List Expr} (h : OkNames c ks ts) : (assignEach ts env).length = ks.length := by
 induction h with
 | nil => rfl
 | cons h hr ih => exact congrArg (· + 1) ih
theorem Qdr {env : Env} {ks : List Nat} {ts : List Expr} (h : OkNames c ks ts) : (assignEach ts env).findIdx? (·.1) = none := by
 induction h with
 | nil => rfl
 | @cons k ks x p r h hr ih =>
  show ((false, assign (.Name x p) env) :: assignEach r env).findIdx? (·.1) = none
  rw [List.findIdx?_cons, ih]; rfl
noncomputable def QnM : Expr → Bool
 | .Tuple .. => false
 | _ => true
theorem Qin {env : Env} {v : Expr} {ts : List Expr} {j : Nat} {p : Pos} (h : QnM v = true) : swappedStores [.Tuple ts j p] v env = pure none := by
 cases v <;> first | rfl | cases h
theorem QbU {env : Env} {v : Expr} {ts : List Expr} {j ln : Nat} {p : Pos} : swapsWithSole [.Tuple ts j p] v ln env = pure false := by
 cases v <;> rfl
theorem Qqb {F : Fz} {σ : List Addr} : ∀ {vs : List Value} {xs : List D}, RepL F vs xs → RepVs K.fa F σ vs (xs.map V.d)
 | _, _, .nil => .nil
 | _, _, .cons a r => .cons (.d a) (Qqb r)
theorem QsS {ks : List Nat} {e : PE} {ts : List Expr} {v : Expr} {j : Nat} {p pos : Pos} (hn : OkNames c ks ts) (hv : QnM v = true) (he : SE K n c cl e v) : SS K n c cl (.unp ks e) (.Assign [.Tuple ts j p] v pos) := by
 intro base l A env own F σ ρ H s Q E ok ho hl hE hk
 refine Assign_Tuple (he l A env F σ ρ H s _ E ok (hk.go fun a H₁ v₁ F₁ σ₁ s₁ g₁ rh₁ r₁ hk₁ => ?_)) QbU (Qin hv)
 cases a with
 | d y =>
  cases y with
  | tuple xs =>
   simp only at hk₁
   split at hk₁
   ·rename_i hlen
    obtain ⟨ad, o, vs, rfl, HH10⟩ := r₁.d_inv.tup_at
    haveI e1 := HH10.1
    haveI e2 := HH10.2.1
    haveI e3 := HH10.2.2.1
    haveI e4 := HH10.2.2.2
    haveI hT : s₁.heap.IsTuple ad vs.toArray := e2.isTup (rh₁.le _ _ e1)
    haveI ok₁ := ok.grow g₁ rh₁
    refine wpAny_assign_Tuple ok.ar.handled hT (by rw [QeJ hn]; simp [e3.length, hlen]) (Qdr hn) fun h' he' => ?_
    haveI up : ∀ b o, s₁.heap.get? b = some o → h'.get? b = some o := fun b o e => he' b o (Nat.ne_of_lt (Heap.lt_size e)) e
    haveI ok₂ := ok₁.step (s' := { s₁ with heap := h' }) up rfl rfl
    exact QdC ho hn ok₂ (Qqb e3) (by simpa using hlen) fun s₂ g₂ ok₃ => hk₁ F₁ σ₁ s₂ ((Gr.step (s := s₁) (s' := { s₁ with heap := h' }) up rfl rfl).trans g₂) ok₃
   ·exact hk₁.elim
  | _ => exact hk₁.elim
 | _ => exact hk₁.elim
end
noncomputable def QtE (nm : Str → Option NameKind) (nf : Bool) (ts vs : List Expr) : Option (Option (List Str)) :=
 if !(ts.length == 2 || ts.length == 3) || vs.length != ts.length || nf then some none
 else if vs.any (fun | .Starred .. => true | _ => false) then some none
 else
  let line := (ts.head?.map (·.pos.line)).getD 0
  let names := ts.filterMap fun
   | .Name id pos => if nm id == some .local && pos.line == line then some id else none
   | _ => none
  if names.length != ts.length || names.eraseDups.length != names.length then some none
  else if vs.all (foldedForSure 8) then some none
  else if vs.all (constantsAlone 8) then none
  else some (some names)
noncomputable def QmP (c : Lx) (ts vs : List Expr) : Option (Option (List Str)) := QtE c.names false ts vs
noncomputable def Is {α : Type} (a : Option α) (b : Sem α) : Prop := ∀ r, a = some r → b = pure r
theorem Is.ite {α : Type} {c : Prop} [Decidable c] {a a' : Option α} {b b' : Sem α} (h : Is a b) (h2 : Is a' b') : Is (if c then a else a') (if c then b else b') := by
 split
 ·exact h
 ·exact h2
theorem Is.some {α : Type} {r : α} : Is (some r) (pure r) := fun _ e => by cases e; rfl
theorem Is.none {α : Type} {b : Sem α} : Is none b := fun _ e => by cases e
section
variable {K : Kx} {n : Nat} {c : Lx} {cl : Qh}
theorem QpE {env : Env} {ts vs : List Expr} {j j' : Nat} {p p' : Pos} : Is (QtE env.kindOf (env.blockKind != .function) ts vs) (swappedStores [.Tuple ts j p] (.Tuple vs j' p') env) :=
 Is.ite .some (Is.ite .some (Is.ite .some (Is.ite .some (Is.ite .none .some))))
theorem Qhz {env : Env} {F : Fz} {σ : List Addr} {ρ : Rho} {h : Heap} (rl : RL K.fa c env F σ ρ h) {ts vs : List Expr} {j j' : Nat} {p p' : Pos} {r : Option (List Str)} (hq : QmP c ts vs = some r) :
  swappedStores [.Tuple ts j p] (.Tuple vs j' p') env = pure r := by
 refine QpE r (Eq.trans ?_ hq)
 rw [show env.kindOf = c.names from funext rl.kinds, show (env.blockKind != ScopeKind.function) = false from by unfold Env.blockKind; rw [rl.fnk]; rfl]; rfl
theorem QgG {es : PEs} {xs : List Expr} {j : Nat} {p : Pos} (hes : SEs K n c cl es xs) {l : List Env} {A : Around} {env : Env} {F : Fz} {σ : List Addr} {ρ : Rho} {H : Hp} {s : Shared} {Q : Value → Shared → Prop} {E : Value → Shared → Prop} (ok : Ok K n l A c env F σ ρ H s)
  (hlen : xs.length ≤ 4194304)
  (hk : KR K l (RepVs K.fa) (evEs cl es ρ H) F σ s (fun ws s₁ => ∀ h' ad, (∀ b o, s₁.heap.get? b = some o → h'.get? b = some o) → h'.IsTuple ad ws.toArray → Q (.ref ad) { s₁ with heap := h' }) E)
  (hl : ∀ as H', evEs cl es ρ H = .ok as H' → as.length = xs.length) : wpAny (model K.prog K.w) A (eval (.Tuple xs j p) env) Q E s := by
 refine wpAny_Tuple (hes l A env F σ ρ H s _ E p ok ?_)
 cases e : evEs cl es ρ H with
 | exc H' => rw [e] at hk; exact hk
 | stuck => rw [e] at hk; exact hk
 | ok as H' =>
  rw [e] at hk
  intro ws F' σ' s' g rh r
  haveI := hl as H' e
  haveI hlen' := r.length
  refine ⟨Qaw (by lia), ?_⟩
  exact hk ws F' σ' s' g rh r _ _ (fun b o e => Heap.get?_push_of_some _ e) ⟨_, Heap.get?_push_size _ rfl, rfl, 0, rfl⟩
noncomputable def QiO : PEs → Nat
 | .nil => 0
 | .cons _ r => QiO r + 1
theorem QjX {cl : Qh} : ∀ (es : PEs) (ρ : Rho) (H : Hp), RP True (evEs cl es ρ H) fun as => as.length = QiO es
 | .nil, _, _ => rfl
 | .cons _ r, ρ, _ => RP.all.bd fun _ _ _ => (QjX r ρ _).bd fun _ _ h => congrArg (· + 1) h
theorem Qsk {ks : List Nat} {es : PEs} {ts vs : List Expr} {j j' : Nat} {p p' pos : Pos} (hn : OkNames c ks ts) (hq : QmP c ts vs = some none) (hlen : QiO es = vs.length) (hsm : small vs.length = true) (hes : SEs K n c cl es vs) :
  SS K n c cl (.par ks es) (.Assign [.Tuple ts j p] (.Tuple vs j' p') pos) := by
 intro base l A env own F σ ρ H s Q E ok ho hl hE hk
 refine Assign_Tuple (QgG hes ok (QaV hsm) (hk.go fun as H₁ ws F₁ σ₁ s₁ g₁ rh₁ r₁ hk₁ h' ad up hT => ?_) (fun as H' e => ((QjX _ _ _).is e).trans hlen)) QbU (Qhz ok.rl hq)
 split at hk₁
 ·rename_i hl2
  haveI ok₁ := (ok.grow g₁ rh₁).step (s' := { s₁ with heap := h' }) up rfl rfl
  refine wpAny_assign_Tuple ok.ar.handled hT (by rw [QeJ hn]; simp [r₁.length, hl2]) (Qdr hn) fun h₂ he₂ => ?_
  haveI up₂ : ∀ b o, h'.get? b = some o → h₂.get? b = some o := fun b o e => he₂ b o (Nat.ne_of_lt (Heap.lt_size e)) e
  haveI ok₂ := ok₁.step (s' := { s₁ with heap := h₂ }) up₂ rfl rfl
  exact QdC ho hn ok₂ r₁ hl2 fun s₂ g₂ ok₃ => hk₁ F₁ σ₁ s₂ ((Gr.step (s := s₁) (s' := { s₁ with heap := h₂ }) (fun b o e => up₂ b o (up b o e)) rfl rfl).trans g₂) ok₃
 ·exact hk₁.elim
inductive OkBinds (c : Lx) : List Nat → List Str → Prop
 | nil : OkBinds c [] []
 | cons {k : Nat} {ks : List Nat} {x : Str} {xs : List Str} (h : QK c k x = true) (hr : OkBinds c ks xs) (hn : k ∉ ks) : OkBinds c (k :: ks) (x :: xs)
theorem Qkc {ks : List Nat} {xs : List Str} (h : OkBinds c ks xs) : xs.length = ks.length := by
 induction h with
 | nil => rfl
 | cons _ _ _ ih => exact congrArg (· + 1) ih
theorem Qoy : ∀ {ρ : Rho} {k j : Nat} {a b : V}, k ≠ j → st (st ρ k a) j b = st (st ρ j b) k a
 | [], _, _, _, _, _ => rfl
 | _ :: _, 0, 0, _, _, h => absurd rfl h
 | _ :: _, 0, _ + 1, _, _, _ => rfl
 | _ :: _, _ + 1, 0, _, _, _ => rfl
 | _ :: r, k + 1, j + 1, a, b, h => by simp only [st]; rw [Qoy (ρ := r) (fun e => h (by rw [e]))]
theorem Qqy : ∀ {ks : List Nat} {as : List V} {ρ : Rho} {k : Nat} {a : V}, k ∉ ks → sts (st ρ k a) ks as = st (sts ρ ks as) k a
 | [], _, _, _, _, _ => by simp [sts]
 | j :: ks, [], _, _, _, _ => by simp [sts]
 | j :: ks, b :: as, ρ, k, a, h => by
  simp only [List.mem_cons, not_or] at h
  simp only [sts]
  rw [Qoy h.1, Qqy h.2]
theorem QkA {l : List Env} {A : Around} {env : Env} {own : List Addr} {E : Value → Shared → Prop} (ho : Owns c env own) {ks : List Nat} {xs : List Str} (h : OkBinds c ks xs) : ∀ {vs : List Value} {as : List V} {F : Fz} {σ : List Addr} {ρ : Rho} {H : Hp} {s : Shared} {Q : Unit → Shared → Prop}
  {ts : List (Value → Sem Unit)} {us : List Value},
  Ok K n l A c env F σ ρ H s → RepVs K.fa F σ vs as → as.length = ks.length → (∀ s', Gr own F σ s F σ s' → Ok K n l A c env F σ (sts ρ ks as) H s' → wpAny (model K.prog K.w) A (assignInOrder ts us) Q E s') →
   wpAny (model K.prog K.w) A (assignInOrder (xs.reverse.map (fun n => bindName env n) ++ ts) (vs.reverse ++ us)) Q E s := by
 induction h with
 | nil =>
  intro vs as F σ ρ H s Q ts us ok rv hlen hQ
  cases rv with
  | nil => exact hQ s (Gr.refl _ _ _ _) ok
  | cons _ _ => exact absurd hlen (Nat.succ_ne_zero _)
 | cons h hr hn ih =>
  intro vs as F σ ρ H s Q ts us ok rv hlen hQ
  cases rv with
  | nil => exact absurd hlen.symm (Nat.succ_ne_zero _)
  | cons r rs =>
   rw [List.reverse_cons, List.reverse_cons, List.map_append, List.append_assoc, List.append_assoc]
   exact ih ok rs (Nat.succ.inj hlen) fun s₁ g₁ ok₁ => assignInOrder_cons (wpAny_bindName (Qbf h ho ok₁ r fun s₂ g₂ ok₂ => hQ s₂ (g₁.trans g₂) (by rw [sts, Qqy hn]; exact ok₂)))
theorem Qrd {ks : List Nat} {es : PEs} {ts vs : List Expr} {names : List Str} {j j' : Nat} {p p' pos : Pos} (hn : OkBinds c ks names) (hq : QmP c ts vs = some (some names)) (hlen : QiO es = vs.length) (hsm : small vs.length = true) (hes : SEs K n c cl es vs) :
  SS K n c cl (.par ks es) (.Assign [.Tuple ts j p] (.Tuple vs j' p') pos) := by
 intro base l A env own F σ ρ H s Q E ok ho hl hE hk
 refine Assign_Tuple_swapped (QgG hes ok (QaV hsm) (hk.go fun as H₁ ws F₁ σ₁ s₁ g₁ rh₁ r₁ hk₁ h' ad up hT => ?_) (fun as H' e => ((QjX _ _ _).is e).trans hlen)) QbU (Qhz ok.rl hq)
 split at hk₁
 ·rename_i hl2
  haveI ok₁ := (ok.grow g₁ rh₁).step (s' := { s₁ with heap := h' }) up rfl rfl
  haveI hnl : names.length = ws.toArray.size := by rw [Qkc hn]; simp [r₁.length, hl2]
  rw [hnl]
  refine unpackItems_tuple ok.ar.handled hT fun h₂ he₂ => ?_
  haveI up₂ : ∀ b o, h'.get? b = some o → h₂.get? b = some o := fun b o e => he₂ b o (Nat.ne_of_lt (Heap.lt_size e)) e
  haveI ok₂ := ok₁.step (s' := { s₁ with heap := h₂ }) up₂ rfl rfl
  haveI := QkA (E := E) (Q := fun _ => Q .next) (ts := []) (us := []) ho hn ok₂ r₁ hl2 fun s₂ g₂ ok₃ => assignInOrder_nil (hk₁ F₁ σ₁ s₂ ((Gr.step (s := s₁) (s' := { s₁ with heap := h₂ }) (fun b o e => up₂ b o (up b o e)) rfl rfl).trans g₂) ok₃)
  simpa using this
 ·exact hk₁.elim
end
section
variable {K : Kx} {n : Nat} {c : Lx} {cl : Qh}
theorem Qhc {A : Around} {env : Env} {s : Shared} {o i : Expr} {pos : Pos} {v : Value} {Q : Unit → Shared → Prop} {E : Value → Shared → Prop}
  (h : wpAny (model K.prog K.w) A (eval o env) (fun ov s₁ => wpAny (model K.prog K.w) A (eval i env) (fun iv s₂ => wpAny (model K.prog K.w) A (setItem ov iv v) Q E s₂) E s₁) E s) : wpAny (model K.prog K.w) A (assign (.Subscript o i pos) env v) Q E s := by
 rw [assign_Subscript]
 exact wpAny_bind (wpAny_holding (wpAny_mono h (fun ov s₁ h₁ => wpAny_bind (wpAny_holding (wpAny_mono h₁ (fun iv s₂ h₂ => wpAny_bind (wpAny_standAt (wpAny_bind (wpAny_holding (wpAny_mono h₂ (fun _ s₃ h₃ => wpAny_release' h₃) fun _ _ e => e))))) fun _ _ e => e))) fun _ _ e => e))
theorem QqI {k : Nat} {i j a b : PE} {x x' : Str} {p p' q q' tp vp pos : Pos} {y y' va vb : Expr} {m m' : Nat} (hs : QW c k x = true) (hs' : QW c k x' = true) (hq : QmP c [.Subscript (.Name x p) y q, .Subscript (.Name x' p') y' q'] [va, vb] = some none) (hst : Qm [va, vb] = true)
  (hi : SE K n c cl i y) (hj : SE K n c cl j y') (ha : SE K n c cl a va) (hb : SE K n c cl b vb) :
  SS K n c cl (.set2 k i j a b) (.Assign [.Tuple [.Subscript (.Name x p) y q, .Subscript (.Name x' p') y' q'] m tp] (.Tuple [va, vb] m' vp) pos) := by
 intro base l A env own F σ ρ H s Q E ok ho hl hE hk
 refine Assign_Tuple (wpAny_Tuple (Qps hst (ha l A env F σ ρ H s _ E ok (hk.go fun a₁ H₁ v₁ F₁ σ₁ s₁ g₁ rh₁ r₁ hk₁ => ?_)))) QbU (Qhz ok.rl hq)
 haveI ok₁ := ok.grow g₁ rh₁
 refine hb l A env F₁ σ₁ ρ H₁ s₁ _ E ok₁ (hk₁.go fun a₂ H₂ v₂ F₂ σ₂ s₂ g₂ rh₂ r₂ hk₂ => ?_)
 obtain ⟨xa, e1, hk₃⟩ := hk₂.opt
 obtain ⟨xb, e2, hk₄⟩ := hk₃.opt
 haveI := Qal e1; subst this
 haveI := Qal e2; subst this
 haveI ok₂ := ok₁.grow g₂ rh₂
 refine ⟨Qaw (by simp), ?_⟩
 haveI up : ∀ b o, s₂.heap.get? b = some o → (s₂.heap.push { cls := .type "tuple", data := .seq [v₁, v₂].toArray }).get? b = some o := fun b o e => Heap.get?_push_of_some _ e
 haveI hT : (s₂.heap.push { cls := .type "tuple", data := .seq [v₁, v₂].toArray }).IsTuple s₂.heap.objs.size #[v₁, v₂] := ⟨_, Heap.get?_push_size _ rfl, rfl, 0, rfl⟩
 refine wpAny_assign_Tuple ok.ar.handled hT rfl rfl fun h₃ he₃ => ?_
 haveI up₃ : ∀ b o, s₂.heap.get? b = some o → h₃.get? b = some o := fun b o e => he₃ b o (Nat.ne_of_lt (Heap.lt_size (up b o e))) (up b o e)
 haveI ok₃ := ok₂.step (s' := { s₂ with heap := h₃ }) up₃ rfl rfl
 haveI g₃ : Gr own F₂ σ₂ s₂ F₂ σ₂ { s₂ with heap := h₃ } := Gr.step up₃ rfl rfl
 cases eg : gt ρ k with
 | cell mm =>
  rw [eg] at hk₄
  simp only at hk₄
  haveI hne : gt ρ k ≠ .unb := by as_aux_lemma => rw [eg]; intro q; cases q
  show wpAny (model K.prog K.w) A (assignInOrder [assign (.Subscript (.Name x p) y q) env, assign (.Subscript (.Name x' p') y' q') env] [v₁, v₂]) _ _ _
  refine assignInOrder_cons (Qhc (QZ hs ok₃ hne fun u r => ?_))
  rw [eg] at r
  haveI hk₅ := KO.shift hk₄ g₃
  refine hi l A env F₂ σ₂ ρ H₂ _ _ E ok₃ (hk₅.go fun a₄ H₄ v₄ F₄ σ₄ s₄ g₄ rh₄ r₄ hk₆ => ?_)
  obtain ⟨ii, e3, hk₇⟩ := hk₆.opt
  haveI := Qw e3; subst this
  obtain ⟨t, rfl⟩ := r₄.int_inv
  obtain ⟨H', HH32⟩ := hk₇.opt
  haveI e4 := HH32.1
  haveI hk₈ := HH32.2
  haveI ok₄ := ok₃.grow g₄ rh₄
  refine QhS (own := own) ok₄ (r.mono g₄.fz g₄.toPre) e4 ((r₁.d_inv.mono g₂.fz).mono g₄.fz) fun s₅ g₅ ok₅ => ?_
  refine assignInOrder_cons (Qhc (QZ hs' ok₅ hne fun u' r' => ?_))
  rw [eg] at r'
  haveI hk₉ := KO.shift hk₈ g₅
  refine hj l A env F₄ σ₄ ρ H' _ _ E ok₅ (hk₉.go fun a₆ H₆ v₆ F₆ σ₆ s₆ g₆ rh₆ r₆ hk₁₀ => ?_)
  obtain ⟨jj, e5, hk₁₁⟩ := hk₁₀.opt
  haveI := Qw e5; subst this
  obtain ⟨t', rfl⟩ := r₆.int_inv
  obtain ⟨H'', HH44⟩ := hk₁₁.opt
  haveI e6 := HH44.1
  haveI hk₁₂ := HH44.2
  haveI ok₆ := ok₅.grow g₆ rh₆
  refine QhS (own := own) ok₆ (r'.mono g₆.fz g₆.toPre) e6 (((r₂.d_inv.mono g₄.fz).mono g₅.fz).mono g₆.fz) fun s₇ g₇ ok₇ => assignInOrder_nil ?_
  exact hk₁₂ F₆ σ₆ s₇ g₇ ok₇
 | _ => rw [eg] at hk₄; exact hk₄.elim
theorem Ok.skip {l : List Env} {A : Around} {env : Env} {F F' : Fz} {σ σ' : List Addr} {ρ ρ' : Rho} {H H' : Hp} {s s' s'' : Shared} {C : Addr} (ok₀ : Ok K n l A c env F σ ρ H s) (hC : s.heap.get? C = none) (ok : Ok K n l A c env F' σ' ρ' H' s')
  (ext : ∀ b o, b ≠ C → s'.heap.get? b = some o → s''.heap.get? b = some o) (hF : F' C = none) (hσ : C ∉ σ') : Ok K n l A c env F' σ' ρ' H' s'' := by
 obtain ⟨m₀, HH2⟩ := ok₀.rl.ns
 haveI hm₀ := HH2.1
 haveI hL : env.locals ≠ C := fun q => by obtain ⟨_, _, _, e, _⟩ := hm₀; rw [q, hC] at e; cases e
 refine ⟨ok.ar, ok.rh.but ext hF hσ, ?_, ?_⟩
 ·obtain ⟨m, HH6⟩ := ok.rl.ns
  haveI hm := HH6.1
  haveI hv := HH6.2
  refine ⟨ok.rl.fnk, ok.rl.glob, ok.rl.bi, ok.rl.kinds, ok.rl.noL, ⟨m, hm.at' fun o e => ext _ o hL e, hv⟩, fun y hy => ?_, ok.rl.inj, ok.rl.hi, ok.rl.wf⟩
  obtain ⟨a, ov, HH10⟩ := ok.rl.cl y hy
  haveI e := HH10.1
  haveI hn := HH10.2.1
  haveI hc := HH10.2.2.1
  haveI hk := HH10.2.2.2
  obtain ⟨a', ov', e', _, ⟨o', ho', _⟩, _⟩ := ok₀.rl.cl y hy
  rw [e] at e'; cases e'
  obtain ⟨o, HH17⟩ := id hc
  haveI ho := HH17.1
  haveI hd := HH17.2
  exact ⟨a, ov, e, hn, ⟨o, ext a o (fun q => by rw [q, hC] at ho'; cases ho') ho, hd⟩, hk⟩
 ·intro e he
  obtain ⟨hk, L, m, HH22⟩ := ok.rs e he
  haveI hf := HH22.1
  haveI hm := HH22.2.1
  haveI hn := HH22.2.2
  obtain ⟨_, L', m', hf', ⟨_, _, _, e', _⟩, _⟩ := ok₀.rs e he
  rw [hf] at hf'; cases hf'
  exact ⟨hk, L, m, hf, hm.at' fun o e'' => ext L o (fun q => by rw [q, hC] at e'; cases e') e'', hn⟩
theorem QrC {k : Nat} {b : Bool} {f : PF} {x : Str} {p pos : Pos} {elt : Expr} {gens : List Comprehension} {scope : Scope} {cp : Pos} (hs : QK c k x = true) (hw : Qpa c (.ListComp elt gens scope cp) x p = true) (hf : SUse K n c cl f elt gens scope cp) :
  SS K n c cl (.asg k (.mk b f)) (.Assign [.Name x p] (.ListComp elt gens scope cp) pos) := by
 intro base l A env own F σ ρ H s Q E ok ho hl hE hk
 change KO K n l A c env base own (((evF cl f ρ H).bind _).go ρ _) F σ s Q E at hk
 rw [exec_Assign_Name_used _ _ _ _ (by rw [QlP ok.rl (by rfl), hw])]
 refine wpAny_bind (wpAny_standAt (wpAny_bind ?_))
 show wpAny (model K.prog K.w) A (do let _ ← comprehension (.ListComp elt gens scope cp) scope env (firstIterPos gens cp) (newList []) (firstAsync gens) (firstIter gens env) (some (assign (.Name x p) env))) _ E s
 refine wpAny_bind (hf l A env F σ ρ H s (some (assign (.Name x p) env)) (fun _ s' => wpAny (model K.prog K.w) A (pure PUnit.unit) (fun _ s'' => wpAny (model K.prog K.w) A (pure .next) Q E s'') E s') E ok ?_)
 generalize evF cl f ρ H = r at hk ⊢
 cases r with
 | exc H' => exact fun ev s' x => hk ev s' x.toXO
 | stuck => exact hk
 | ok ys H' =>
  intro Da C vs F' σ' s' g rh hD hC hne hpl rl hle h1 h2 h3 h4 hm
  show wpAny (model K.prog K.w) A (assign (.Name x p) env (.ref Da)) _ E s'
  haveI hCown : C ∉ own := fun hmm => by obtain ⟨o, e⟩ := hl C hmm; rw [hC] at e; cases e
  obtain ⟨m, hm⟩ := hm
  have fin : ∀ {F₂ : Fz} {σ₂ : List Addr} {H₂ : Hp} {a : V}, Gr [] F σ s F₂ σ₂ s' → RH K.fa K.h₀ F₂ σ₂ H₂ s'.heap → RepV K.fa F₂ σ₂ (.ref Da) a → F₂ C = none → C ∉ σ₂ →
    (∀ F₃ σ₃ s₃, Gr own F σ s F₃ σ₃ s₃ → Ok K n l A c env F₃ σ₃ (st ρ k a) H₂ s₃ → Q .next s₃) →
    wpAny (model K.prog K.w) A (assign (.Name x p) env (.ref Da)) (fun _ s'' => ∃ m, s''.heap.Ns C m ∧ ∀ h', Heap.SameBut C s''.heap h' → wpAny (model K.prog K.w) A (pure PUnit.unit) (fun _ s'' => wpAny (model K.prog K.w) A (pure .next) Q E s'') E { s'' with heap := h' }) E s' := by
   intro F₂ σ₂ H₂ a g₂ rh₂ ra hFC hσC hq
   haveI ok₂ := ok.grow g₂ rh₂
   refine Qbh hs ho ok₂ ra fun s₃ g₃ ok₃ => ?_
   refine ⟨m, g₃.ns hCown hσC hm, fun h' hs' => wpAny_pure (wpAny_pure ?_)⟩
   haveI ext := hs'.extBut
   haveI gg : Gr (own ++ [C]) F σ s F₂ σ₂ s₃ := g₂.weak.trans (g₃.own fun a ha => .inl (List.mem_append_left _ ha))
   haveI gC : Gr (own ++ [C]) F σ s F₂ σ₂ { s₃ with heap := h' } := gg.off (X := [C]) (fun b hb => ⟨List.mem_append_right _ hb, .inl (List.mem_singleton.mp hb ▸ hC)⟩) (fun b o hb e => ext b o (by simpa using hb) e) rfl rfl
   refine hq F₂ σ₂ _ (gC.own fun a ha => ?_) (ok.skip hC ok₃ ext hFC hσC)
   rcases List.mem_append.mp ha with ha | ha
   ·exact .inl ha
   ·exact .inr (List.mem_singleton.mp ha ▸ hC)
  obtain ⟨na, hpl⟩ := hpl
  cases b with
  | false =>
   exact fin (g.put h1 hD) (rh.put hpl h1 h2) (.d (.list (Fz.put_self _ _ _) ⟨rfl, na, rfl⟩ (rl.mono (Fz.put_le h1)) hle)) (by simp only [Fz.put, Ne.symm hne, if_false]; exact h3) h4 hk
  | true =>
   haveI hlen := rh.len
   obtain ⟨τ, HH37⟩ := g.pre
   haveI hτ := HH37.1
   haveI hτ' := HH37.2
   refine fin ⟨g.live, g.keep, g.fz, g.nf, ⟨τ ++ [Da], by rw [hτ]; simp, fun y hy => ?_⟩, g.gens, g.os⟩ (rh.cells ⟨na, hpl⟩ h1 h2 rl hle) (.cell (by rw [← hlen]; simp)) h3 (fun hmm => ?_) hk
   ·rcases List.mem_append.mp hy with hy | hy
    ·exact hτ' y hy
    ·rw [List.mem_singleton.mp hy]; exact hD
   ·rcases List.mem_append.mp hmm with hmm | hmm
    ·exact h4 hmm
    ·exact hne (List.mem_singleton.mp hmm).symm
inductive IsRaiseArgs : List Expr → Prop
 | mk (t : Str) (j : Nat) (p : Pos) : IsRaiseArgs [.Constant (.str t) j p]
theorem QpN (B : Bs K) {x : Str} {args : List Expr} {np cpos pos : Pos} (hx : QF c x = true) (hn : x = "NoInverse") (ha : IsRaiseArgs args) : SS K n c cl .raise (.Raise (some (.Call (.Name x np) args [] cpos)) none pos) := by
 intro base l A env own F σ ρ H s Q E ok ho hl hE hk
 subst hn
 cases ha with
 | mk t j p =>
  have O := B.own.keeps (h' := s.heap) ok.keeps
  obtain ⟨tl, N, nm, q, bs, hdct, sn, sub, ab, col, dd, k0, k1, k2, k3, k5, mN, HH6⟩ := O.obj
  haveI hC := HH6.1
  haveI hN := HH6.2.1
  haveI hni := HH6.2.2.1
  haveI T := HH6.2.2.2
  refine wpAny_Raise_call_subT (C := K.C) (nm := nm) (q := q) (N := N) (bs := bs) (bm := tl) (hdct := hdct) (sn := sn) (sub := sub) (ab := ab) (col := col) (dd := dd) (k0 := k0) (k1 := k1) (k2 := k2) (k3 := k3) (k5 := k5)
   PySem.F.excBase_Exception (mN := mN) (T.hasType PySem.F.excBase_Exception.hasBase) ok.ar.handled rfl hni (Qbm B ok (Qbj hx) O.bound (Qbo hx) ⟨rfl, ?_⟩)
  refine Calls.evalArgs_plain (spliced_more (wpAny_Constant_str (spliced_none ?_)))
  refine ⟨rfl, Qaw (by simp), hC, hN, T, fun h' e hm => ?_⟩
  exact hk (.ref e) _ ⟨F, σ, { s with toks := s.toks + 1 }, e, rfl, Gr.tok _, ok.rh, ok.rs, rfl, rfl, .inr ⟨_, hm⟩⟩
end
theorem QnW {l : List Env} {a : Addr} : a ∈ frs l ↔ ∃ e ∈ l, e.frame = some a := List.mem_filterMap
section
variable {K : Kx} {n : Nat} {c : Lx} {cl : Qh}
theorem Qql {l : List Env} {F : Fz} {σ : List Addr} {H : Hp} {s₁ s₂ : Shared} (rh : RH K.fa K.h₀ F σ H s₁.heap) (rs : RS l F s₁.heap) (st : (hideAll s₁.heap (frs l)).StaysIn s₂.heap) (up : s₁.heap.UpToSlots s₂.heap) (hg : s₂.gens = s₁.gens) (hos : s₂.os = s₁.os) :
  Gr [] F σ s₁ F σ s₂ ∧ RH K.fa K.h₀ F σ H s₂.heap := by
 have frame : ∀ b, b ∈ frs l → ∃ m, s₁.heap.Ns b m ∧ F b = none := fun b hb => by
  obtain ⟨e, he, hf⟩ := QnW.mp hb
  obtain ⟨_, L, m, hf', hm, hn⟩ := rs e he
  rw [hf] at hf'; cases hf'; exact ⟨m, hm, hn⟩
 have keep : ∀ b o, b ∉ frs l → s₁.heap.get? b = some o → s₂.heap.get? b = some o := fun b o hb e => st b o (hideAll_get _ e hb)
 have keepF : ∀ b o, b ∈ frs l → s₁.heap.get? b = some o → ∃ sl, s₂.heap.get? b = some { o with slots := sl } ∧ ∃ es ep, o.data = .dict es ep := fun b o hb e => by
  obtain ⟨m, ⟨o', es, ep, e', d, _⟩, _⟩ := frame b hb
  rw [e] at e'; cases e'
  obtain ⟨sl, h⟩ := up b o e (fun vs q => by rw [d] at q; cases q)
  exact ⟨sl, h, es, ep, d⟩
 refine ⟨⟨fun b o e => ?_, fun b o _ _ e => ?_, FLe.refl _, fun _ _ _ e => e, ⟨[], by simp, by simp⟩, hg, hos⟩, ⟨rh.base, fun b o e => ?_, rh.len, rh.nod, fun m b xs h1 h2 => ?_⟩⟩
 ·by_cases hb : b ∈ frs l
  ·obtain ⟨sl, h, _⟩ := keepF b o hb e; exact ⟨_, h⟩
  ·exact ⟨o, keep b o hb e⟩
 ·by_cases hb : b ∈ frs l
  ·obtain ⟨sl, h, hd⟩ := keepF b o hb e; exact ⟨_, h, .inr ⟨hd, sl, rfl⟩⟩
  ·exact ⟨o, keep b o hb e, .refl o⟩
 ·exact keep b o (fun hb => by obtain ⟨_, _, hn⟩ := frame b hb; rw [hn] at e; cases e) (rh.le b o e)
 ·obtain ⟨q, vs, ⟨na, hl⟩, rl, hle⟩ := rh.cell m b xs h1 h2
  exact ⟨q, vs, ⟨na, keep b _ (fun hb => by obtain ⟨m', hm, _⟩ := frame b hb; exact Qao ⟨_, hl, rfl, na, rfl⟩ hm) hl⟩, rl, hle⟩
theorem Qnz (B : Bs K) {k : Nat} {e : PE} {x : Expr} {nm cn cn' : Str} {ep np p1 p2 p3 p4 p5 hp pos : Pos} {j : Nat} (hx : Qiq x = false) (hnm : QF c nm = true) (hn : nm = "NoInverse") (hs : QW c k cn' = true) (hst : QK c k cn = true) (he : SE K n c cl e x) :
  SS K n c cl (.tryInc k e) (.Try [.Expr x ep] [.ExceptHandler (some (.Name nm np)) none [.Assign [.Name cn p1] (.BinOp (.Name cn' p2) .Add (.Constant (.int 1) j p3) p4) p5] hp] [] [] pos) := by
 intro base l A env own F σ ρ H s Q E ok ho hl hE hk
 subst hn
 obtain ⟨_, outer, HH4⟩ := hE
 haveI hlo := HH4.1
 haveI hfr := HH4.2
 rw [arm_exec_Try]
 refine wpAny_bind (wpAny_standAt (wpAny_tryStmt_except ?_))
 refine wpAny_execs_cons (wpAny_Expr_any (he l A env F σ ρ H s _ _ ok ?_) (by unfold interactive; rw [ok.rl.fnk]; rfl) (by cases x <;> first | rfl | cases hx))
 change KO K n l A c env base own (match evE cl e ρ H with
  | .ok _ H => .next ρ H
  | .exc H => (match gt ρ k with
   | .d (.int i) => .next (st ρ k (.d (.int (i + 1)))) H
   | _ => .stuck)
  | .stuck => .stuck) F σ s Q E at hk
 generalize evE cl e ρ H = r at hk ⊢
 cases r with
 | stuck => exact hk
 | ok v H₁ =>
  intro v' F' σ' s' g rh r
  exact wpAny_execs_nil (wpAny_execs_nil (hk F' σ' s' g.weak (ok.grow g rh)))
 | exc H₁ =>
  change KO K n l A c env base own (match gt ρ k with
   | .d (.int i) => .next (st ρ k (.d (.int (i + 1)))) H₁
   | _ => .stuck) F σ s Q E at hk
  rintro ev s' ⟨F', σ', s₁, ea, ta, rfl, g₁, rh₁, rs₁, hg, hos, hfl, hup⟩
  haveI hfr' : A.frames = some (env :: outer) := hlo ▸ ok.ar.frames
  rw [hlo] at hfl
  refine wpAny_looks_onW hfr' hfr hfl fun h₄ held₄ hsm₄ => ?_
  refine wpAny_landsW held₄ fun h₅ hfl₅ hsm₅ => ?_
  haveI land₅ := Qql (s₂ := { s' with heap := h₅ }) rh₁ rs₁ (hlo ▸ hfl₅.1) (hup.trans (hsm₄.trans hsm₅)) hg hos
  haveI ok₁ := ok.grow g₁ rh₁
  have ok₅ := ok₁.grow land₅.1 land₅.2
  obtain ⟨ob, HH34⟩ := hfl₅.there
  haveI hob := HH34.1
  haveI hobc := HH34.2
  haveI O := B.own.keeps (h' := h₅) ok₅.keeps
  obtain ⟨tl, N, nm, q, bs, hdct, sn, sub, ab, col, dd, k0, k1, k2, k3, k5, mN, HH38⟩ := O.obj
  haveI hC := HH38.1
  haveI hN := HH38.2.1
  haveI hni := HH38.2.2.1
  haveI T := HH38.2.2.2
  refine wpAny_handleBy_cons (codeAny_handlers_test (Name_function_global ok.rl.fnk ((ok.rl.kinds _).trans (Qbj hnm)) (loadGlobal_global (by rw [ok.rl.glob]; exact B.g.keeps ok₅.keeps) O.bound ?_) (Qbo hnm))) (by intro q; cases q)
  refine wpAny_excMatches_sub_self hC hob hobc (T.hasType PySem.F.excBase_Exception.hasBase) (codeAny_handlers_suite ?_)
  refine lands_againW hfl₅ fun h₆ hfl₆ hsm₆ => ?_
  have land₆ := Qql (s₂ := { s' with heap := h₆ }) rh₁ rs₁ (hlo ▸ hfl₆.1) (hup.trans (hsm₄.trans (hsm₅.trans hsm₆))) hg hos
  have ok₆ := ok₁.grow land₆.1 land₆.2
  cases eg : gt ρ k with
  | d y =>
   rw [eg] at hk
   cases y with
   | int i =>
    refine wpAny_execs_cons (wpAny_Assign_Name (wpAny_BinOp (QZ hs ok₆ (by rw [eg]; intro q; cases q) fun u r => wpAny_Constant_int ?_)) rfl)
    rw [eg] at r
    obtain ⟨t, rfl⟩ := r.int_inv
    refine add_int ?_
    haveI ok₇ := ok₆.step (s' := { s' with heap := h₆, toks := s'.toks + 1 + 1 }) (fun _ _ e => e) rfl rfl
    refine Qbf hst ho ok₇ (.d (.int _ _)) fun s₈ g₈ ok₈ => wpAny_execs_nil ?_
    exact hk F' σ' s₈ (g₁.weak.trans (land₆.1.weak.trans ((Gr.step (s := { s' with heap := h₆ }) (s' := { s' with heap := h₆, toks := s'.toks + 1 + 1 }) (fun _ _ e => e) rfl rfl).trans g₈))) ok₈
   | _ => exact hk.elim
  | _ => rw [eg] at hk; exact hk.elim
end
theorem QgS {α : Type} : ∀ {ns : List Str} {vs : List α} {x : Str}, vs.length = ns.length → x ∈ ns → ∃ v, (ns.zip vs).lookup x = some v
 | [], _, _, _, h => by cases h
 | n :: ns, [], _, h, _ => by simp at h
 | n :: ns, v :: vs, x, h, hx => by
  rw [List.zip_cons_cons, List.lookup_cons]
  cases hb : x == n with
  | true => exact ⟨v, rfl⟩
  | false =>
   rcases List.mem_cons.mp hx with rfl | hx
   ·simp at hb
   ·exact QgS (by simpa using h) hx
theorem QcI {α : Type} : ∀ {ns : List Str} {vs : List α}, vs.length = ns.length → ns.Nodup → ns.filterMap (fun n => ((ns.zip vs).lookup n).map (n, ·)) = ns.zip vs
 | [], _, _, _ => by simp
 | n :: ns, [], h, _ => by simp at h
 | n :: ns, v :: vs, h, hn => by
  haveI hn' := List.nodup_cons.mp hn
  rw [List.zip_cons_cons, List.filterMap_cons]
  simp only [List.lookup_cons, BEq.rfl]
  congr 1
  haveI hcg : ∀ {β : Type} (f g : Str → Option β) (l : List Str), (∀ x ∈ l, f x = g x) → l.filterMap f = l.filterMap g := by
   intro β f g l
   induction l with
   | nil => intro _; rfl
   | cons y l ih => intro hh; rw [List.filterMap_cons, List.filterMap_cons, hh y List.mem_cons_self, ih fun x hx => hh x (List.mem_cons_of_mem _ hx)]
  haveI ih := QcI (vs := vs) (by simpa using h) hn'.2
  refine congrArg (List.cons (n, v)) (Eq.trans (hcg _ _ _ fun x hx => ?_) ih)
  haveI : (x == n) = false := by
   cases hb : x == n with
   | false => rfl
   | true => have := beq_iff_eq.mp hb; subst this; exact absurd hx hn'.1
  rw [this]
noncomputable def Qby (p : Arguments) : Bool := p.posonlyargs.isEmpty && p.vararg.isNone && p.kwonlyargs.isEmpty && p.kwarg.isNone
theorem Qsl {α β : Type} (a : α) (f : α → Sem β) : (pure a >>= f) = f a := rfl
theorem QpG : seqItems? Value.none = pure none := rfl
theorem Qsc {name : Str} {as : List Arg} {kd df} {body : List Stmt} {scope : Scope} {pm cd doc : Value} {vs : List Value} (hl : vs.length = as.length)
 (hm : ((as.map (·.arg)).filter fun n => (((as.map (·.arg)).zip vs).lookup n).isNone) = []) (hz : (as.map (·.arg)).filterMap (fun n => (((as.map (·.arg)).zip vs).lookup n).map fun v => (n, v)) = (as.map (·.arg)).zip vs) :
  bindArgs (docDef name ⟨[], as, none, [], kd, none, df⟩ body scope pm cd doc) ⟨vs, []⟩ = pure ((as.map (·.arg)).zip vs) := by
 delta bindArgs docDef
 dsimp only [List.forIn_nil, QpG, Qsl, Option.isNone_none, Bool.and_true, Option.getD_none, List.append_nil]
 refine (if_neg (by simp [hl])).trans ?_
 have e : ∀ l : List Str, List.take (l.length - (List.drop (([] : List Value).length - l.length) ([] : List Value)).length) l = l := fun l => by rw [List.drop_nil]; exact List.take_length
 refine (if_neg (by rw [e]; show ¬((!List.isEmpty ((as.map (·.arg)).filter fun n => (((as.map (·.arg)).zip vs).lookup n).isNone)) = true); rw [hm]; exact Bool.false_ne_true)).trans ?_
 rw [List.drop_nil, List.zip_nil_right]
 refine Eq.trans (b := pure (List.filterMap (fun n => (((as.map (·.arg)).zip vs).lookup n).map (n, ·)) (as.map (·.arg) ++ []))) rfl ?_
 rw [List.append_nil, hz]
theorem QmF {name : Str} {params : Arguments} {body : List Stmt} {scope : Scope} {pm cd doc : Value} {vs : List Value} (hp : Qby params = true) (hl : vs.length = params.args.length) (hnd : (params.args.map (·.arg)).Nodup) :
  bindArgs (docDef name params body scope pm cd doc) ⟨vs, []⟩ = pure ((params.args.map (·.arg)).zip vs) := by
 simp only [Qby, Bool.and_eq_true, List.isEmpty_iff, Option.isNone_iff_eq_none] at hp
 have hl' : vs.length = (params.args.map (·.arg)).length := by rw [List.length_map]; exact hl
 have hm : (((params.args.map (·.arg))).filter fun n => (((params.args.map (·.arg)).zip vs).lookup n).isNone) = [] := by
  rw [List.filter_eq_nil_iff]
  intro x hx
  obtain ⟨v, hv⟩ := QgS (vs := vs) hl' hx
  simp [hv]
 have hz := QcI hl' hnd
 obtain ⟨po, as, va, ko, kd, kw, df⟩ := params
 obtain ⟨⟨⟨rfl, rfl⟩, rfl⟩, rfl⟩ := hp
 exact Qsc hl hm hz
noncomputable def Qmp (scope : Scope) (ov : List (Str × Nat)) (top : Nat) : Lx where
 names := fun x => scope.names.lookup x
 vis := fun x => ov.lookup x
 own := fun x => scope.names.lookup x == some .local || scope.names.lookup x == some .cell
 top := top
noncomputable def Qbv (scope : Scope) (ov : List (Str × Nat)) : Nat → List Str → Bool
 | _, [] => true
 | i, x :: r => ov.lookup x == some i && (scope.names.lookup x == some .local || scope.names.lookup x == some .cell) && Qbv scope ov (i + 1) r
noncomputable def Qph (d : DefR) (f : Fn) : Bool :=
 d.scope.kind == .function && !d.scope.isCoroutine && !d.scope.isGenerator && Qby d.params && d.params.args.length == f.np &&
 d.scope.names.all (fun p => (p.2 == .local || p.2 == .cell || p.2 == .globalImplicit) && d.scope.names.lookup p.1 == some p.2) &&
 f.vis.all (fun p => decide (p.2 < f.np + f.ns) && f.vis.all fun q => p.2 != q.2 || p.1 == q.1) &&
 Qbv d.scope f.vis 0 (d.params.args.map (·.arg))
structure OkF (d : DefR) (f : Fn) : Prop where
 kind : d.scope.kind = .function
 co : d.scope.isCoroutine = false
 gen : d.scope.isGenerator = false
 pl : Qby d.params = true
 np : d.params.args.length = f.np
 nm : ∀ p ∈ d.scope.names, (p.2 = .local ∨ p.2 = .cell ∨ p.2 = .globalImplicit) ∧ d.scope.names.lookup p.1 = some p.2
 wf : (Qmp d.scope f.vis (f.np + f.ns)).Wf
 ps : Qbv d.scope f.vis 0 (d.params.args.map (·.arg)) = true
theorem Qpd {d : DefR} {f : Fn} (h : Qph d f = true) : OkF d f := by
 simp only [Qph, Bool.and_eq_true, List.all_eq_true, Bool.not_eq_true', beq_iff_eq] at h
 obtain ⟨⟨⟨⟨⟨⟨⟨h1, h2⟩, h3⟩, h4⟩, h5⟩, h6⟩, h7⟩, h8⟩ := h
 refine ⟨h1, h2, h3, h4, h5, fun p hp => ?_, ⟨fun x k hx => ?_, fun x y k hx hy => ?_⟩, h8⟩
 ·haveI := h6 p hp
  simp only [Bool.or_eq_true, beq_iff_eq] at this
  exact ⟨by rcases this.1 with (h | h) | h <;> simp [h], this.2⟩
 ·haveI := (h7 _ (mem_of_lookup hx)).1
  show k < f.np + f.ns
  simpa using this
 ·haveI := (h7 _ (mem_of_lookup hx)).2 _ (mem_of_lookup hy)
  simp at this
  exact this
theorem QaD {scope : Scope} {ov : List (Str × Nat)} : ∀ {ps : List Str} {i j : Nat} {x : Str}, Qbv scope ov i ps = true → ps[j]? = some x → ov.lookup x = some (i + j) ∧ (scope.names.lookup x = some .local ∨ scope.names.lookup x = some .cell)
 | [], _, _, _, _, h => by simp at h
 | y :: r, i, 0, x, h, hx => by
  simp only [Qbv, Bool.and_eq_true, Bool.or_eq_true, beq_iff_eq] at h
  simp at hx; subst hx
  exact ⟨by simpa using h.1.1, h.1.2⟩
 | y :: r, i, j + 1, x, h, hx => by
  simp only [Qbv, Bool.and_eq_true] at h
  haveI := QaD h.2 (by simpa using hx)
  rw [show i + 1 + j = i + (j + 1) from by lia] at this
  exact this
theorem QfW {scope : Scope} {ov : List (Str × Nat)} {ps : List Str} (h : Qbv scope ov 0 ps = true) : ps.Nodup := by
 unfold List.Nodup
 rw [List.pairwise_iff_getElem]
 intro i j hi hj hij e
 haveI h1 := (QaD h (List.getElem?_eq_getElem hi)).1
 haveI h2 := (QaD h (List.getElem?_eq_getElem hj)).1
 rw [e, h2] at h1
 simp at h1; lia
theorem Qfy {kd : Str → Option NameKind} {x : Str} : ∀ {bs : List (Str × Value)} {m : Str → Option Value}, (∀ p ∈ bs, p.1 ≠ x) → bindL kd bs m x = m x
 | [], _, _ => rfl
 | (n, v) :: r, m, h => by
  haveI hn : x ≠ n := fun e => h (n, v) List.mem_cons_self e.symm
  unfold bindL
  rw [Qfy fun p hp => h p (List.mem_cons_of_mem _ hp)]
  split
  ·simp [hn]
  ·rfl
theorem Qeq {kd : Str → Option NameKind} {x : Str} : ∀ {bs : List (Str × Value)} {m : Str → Option Value}, (∀ p ∈ bs, p.1 ≠ x) → bindC kd bs m x = m x
 | [], _, _ => rfl
 | (n, v) :: r, m, h => by
  haveI hn : x ≠ n := fun e => h (n, v) List.mem_cons_self e.symm
  unfold bindC
  rw [Qeq fun p hp => h p (List.mem_cons_of_mem _ hp)]
  split
  ·rfl
  ·simp [hn]
theorem Qjf {kd : Str → Option NameKind} {x : Str} {v : Value} (hx : kd x = some .local) : ∀ {ns : List Str} {vs : List Value} {m : Str → Option Value} {j : Nat}, ns.Nodup → ns[j]? = some x → vs[j]? = some v → bindL kd (ns.zip vs) m x = some v
 | [], _, _, _, _, h, _ => by simp at h
 | n :: ns, [], _, _, _, _, h => by simp at h
 | n :: ns, w :: vs, m, 0, hn, h, hv => by
  simp at h hv; subst h; subst hv
  rw [List.zip_cons_cons]
  unfold bindL
  rw [if_pos hx, Qfy]
  ·simp
  ·rintro ⟨a, b⟩ hp e
   simp only at e; subst e
   exact (List.nodup_cons.mp hn).1 (List.of_mem_zip hp).1
 | n :: ns, w :: vs, m, j + 1, hn, h, hv => by
  rw [List.zip_cons_cons]
  unfold bindL
  exact Qjf hx (List.nodup_cons.mp hn).2 (by simpa using h) (by simpa using hv)
theorem Qjz {kd : Str → Option NameKind} {x : Str} {v : Value} (hx : kd x ≠ some .local) : ∀ {ns : List Str} {vs : List Value} {m : Str → Option Value} {j : Nat}, ns.Nodup → ns[j]? = some x → vs[j]? = some v → bindC kd (ns.zip vs) m x = some v
 | [], _, _, _, _, h, _ => by simp at h
 | n :: ns, [], _, _, _, _, h => by simp at h
 | n :: ns, w :: vs, m, 0, hn, h, hv => by
  simp at h hv; subst h; subst hv
  rw [List.zip_cons_cons]
  unfold bindC
  rw [if_neg hx, Qeq]
  ·simp
  ·rintro ⟨a, b⟩ hp e
   simp only at e; subst e
   exact (List.nodup_cons.mp hn).1 (List.of_mem_zip hp).1
 | n :: ns, w :: vs, m, j + 1, hn, h, hv => by
  rw [List.zip_cons_cons]
  unfold bindC
  exact Qjz hx (List.nodup_cons.mp hn).2 (by simpa using h) (by simpa using hv)
theorem Qlo : ∀ (as : List V) (m k : Nat), gt (as ++ List.replicate m .unb) k = (match as[k]? with | some a => a | none => .unb)
 | [], m, k => by
  simp
  induction m generalizing k with
  | zero => rfl
  | succ m ih => cases k with
   | zero => rfl
   | succ k => simpa [List.replicate_succ, gt] using ih k
 | a :: as, m, 0 => rfl
 | a :: as, m, k + 1 => by simpa [gt] using Qlo as m k
theorem RepVs.get {fa : Nat → Addr} {F : Fz} {σ : List Addr} : ∀ {vs : List Value} {as : List V} {k : Nat} {a : V}, RepVs fa F σ vs as → as[k]? = some a → ∃ v, vs[k]? = some v ∧ RepV fa F σ v a
 | _, _, _, _, .nil, h => by simp at h
 | _, _, 0, _, .cons r _, h => by simp at h; subst h; exact ⟨_, rfl, r⟩
 | _, _, k + 1, _, .cons _ rs, h => by obtain ⟨v, h1, h2⟩ := rs.get (by simpa using h); exact ⟨v, by simpa using h1, h2⟩
theorem RH.take {fa : Nat → Addr} {h₀ : Heap} {F : Fz} {σ τ : List Addr} {H : Hp} {h : Heap} {b : Nat} (r : RH fa h₀ F (σ ++ τ) H h) (hb : b = σ.length) : RH fa h₀ F σ (H.take b) h := by
 subst hb
 haveI hlen := r.len
 simp at hlen
 refine ⟨r.base, r.le, by simp; lia, (List.nodup_append.mp r.nod).1, fun n a xs h1 h2 => ?_⟩
 haveI hlt := (List.getElem?_eq_some_iff.mp h1).1
 rw [List.getElem?_take] at h2
 rw [if_pos hlt] at h2
 exact r.cell n a xs (by rw [List.getElem?_append_left hlt]; exact h1) h2
theorem Qpi {env : Env} {l : List Env} {L : Addr} (h : env.frame = some L) : frs (env :: l) = L :: frs l := by
 unfold frs; rw [List.filterMap_cons, h]
theorem QmY {K : Kx} {M : Model} {A : Around} {env : Env} {l : List Env} {L : Addr} {own : List Addr} {F : Fz} {σ : List Addr} {H' : Hp} {s s' : Shared} {ev : Value} {E : Value → Shared → Prop} {R' : Result → Shared → Prop} {H : Hp}
  (hfr : A.frames = some (env :: l)) (hf : env.frame = some L) (hL : s.heap.get? L = none) (hdead : ∀ a ∈ own, s.heap.get? a = none) (hlen : σ.length = H.length) (hrs : RS l F s.heap)
  (x : XO K (env :: l) own F σ H' s ev s') (h : ∀ ev s'', XE K l F σ (H'.take H.length) s ev s'' → R' (.error ev) s'') :
  wpAny M A (leaving env ev) (fun _ s'' => R' (.error ev) s'') E s' := by
 obtain ⟨F', σ', s₁, e, rfl, g, rh, rs, hg, hos, hx⟩ := x
 haveI hbase : hideAll s₁.heap (frs (env :: l)) = hideAll (s₁.heap.hide L) (frs l) := by rw [Qpi hf]; rfl
 obtain ⟨τ, HH6⟩ := g.pre
 haveI hτ := HH6.1
 haveI hτ' := HH6.2
 have g' : Gr [] F σ s F' σ' s₁ := g.own fun a ha => .inr (hdead a ha)
 obtain ⟨_, L', m, HH10⟩ := rs env List.mem_cons_self
 haveI hf' := HH10.1
 haveI hm := HH10.2.1
 haveI hFL := HH10.2.2
 rw [hf] at hf'; cases hf'
 haveI hLσ : L ∉ σ' := fun hm' => by obtain ⟨vs, hl⟩ := rh.isList hm'; exact Qao hl hm
 have hne : ∀ b o, b ≠ L → s₁.heap.get? b = some o → (s₁.heap.hide L).get? b = some o := fun b o hb e => (Heap.hide_ne _ hb).trans e
 have fin : ∀ h' : Heap, (∃ t, Heap.FlyingW (hideAll s₁.heap (frs (env :: l))) l e (.ref K.C) (.ref t) h') → s₁.heap.UpToSlots h' → R' (.error (.ref e)) { s' with heap := h' } := by
  rintro h' ⟨t, hfl⟩ hup
  refine h (.ref e) _ ⟨F', σ, { s₁ with heap := s₁.heap.hide L }, e, t, rfl, ⟨fun b o eb => ?_, fun b o h1 h2 eb => ?_, g.fz, g.nf, ⟨[], by simp, by simp⟩, g.gens, g.os⟩, ?_, ?_, hg, hos, by rw [← hbase]; exact hfl, fun b o eb hn => hup b o (Heap.of_hide eb) hn⟩
  ·obtain ⟨o', e'⟩ := g.live b o eb
   exact ⟨o', hne b o' (fun q => by rw [q, hL] at eb; cases eb) e'⟩
  ·obtain ⟨o', HH22⟩ := g'.keep b o h1 h2 eb
   haveI e' := HH22.1
   haveI z := HH22.2
   exact ⟨o', hne b o' (fun q => by rw [q, hL] at eb; cases eb) e', z⟩
  ·subst hτ
   haveI rh' := rh.take hlen.symm
   exact rh'.but hne hFL (fun hm => hLσ (List.mem_append_left _ hm))
  ·intro e' he'
   obtain ⟨hk, L', m', HH30⟩ := rs e' (List.mem_cons_of_mem _ he')
   haveI hf' := HH30.1
   haveI hm' := HH30.2.1
   haveI hn' := HH30.2.2
   by_cases hq : L' = L
   ·obtain ⟨_, L'', m'', hf'', ⟨o'', _, _, e'', _⟩, _⟩ := hrs e' he'
    rw [hf'] at hf''; cases hf''
    rw [hq, hL] at e''; cases e''
   ·exact ⟨hk, L', m', hf', hm'.at' fun o eo => hne _ o hq eo, hn'⟩
 rcases hx with ⟨t, hfl, hup⟩ | ⟨args, hm⟩
 ·exact wpAny_leaves_onW hfr hf hfl fun h' hfl' hup' => fin h' ⟨t, hfl'⟩ (hup.trans hup')
 ·have hfun : s₁.heap.FunFrames (hideAll s₁.heap (frs (env :: l))) (env :: l) := by
   haveI : ∀ (l' : List Env), (∀ e ∈ l', e ∈ env :: l) → s₁.heap.FunFrames (hideAll s₁.heap (frs (env :: l))) l' := by
    intro l'
    induction l' with
    | nil => intro _; trivial
    | cons e' r ih =>
     intro hin
     obtain ⟨hk, L', m', hf', ⟨o, es, ep, eo, d, _⟩, _⟩ := rs e' (hin e' List.mem_cons_self)
     exact ⟨hk, ⟨L', o, hf', hideAll_none _ (QnW.mpr ⟨e', hin e' List.mem_cons_self, hf'⟩), eo, fun vs q => by rw [d] at q; cases q⟩, ih fun e he => hin e (List.mem_cons_of_mem _ he)⟩
   exact this (env :: l) fun _ h => h
  exact wpAny_leaves_madeW hfr hf (fun b o q => of_hideAll _ q) hfun hm fun h' t hfl' _ _ hup' => fin h' ⟨t, hfl'⟩ ((Heap.UpToSlots.of_keeps hm.keeps).trans hup')
theorem Gr.back {own : List Addr} {F F' : Fz} {σ σ' : List Addr} {s s' : Shared} (g : Gr own F σ s F' σ' s') (h : ∀ a ∈ own, s.heap.get? a = none) : Gr [] F σ s F' σ s' :=
 let g' := g.own (own' := []) fun a ha => .inr (h a ha)
 ⟨g'.live, g'.keep, g'.fz, g'.nf, ⟨[], by simp, by simp⟩, g'.gens, g'.os⟩
noncomputable def QsN (K : Kx) (tb : Nat → Option Fn) : Prop :=
 ∀ k f, tb k = some f → ∃ d, K.defs[k]? = some d ∧ Qph d f = true ∧ ∀ n cl, SC K n cl → SB K n (Qmp d.scope f.vis (f.np + f.ns)) cl f.body d.body
theorem Qqi {K : Kx} (B : Bs K) {tb : Nat → Option Fn} (T : QsN K tb) : ∀ n, SC K n (Qc tb n)
 | 0 => by
  intro k l A F σ H s vs as R' ar rh rs rv hk
  exact hk.elim
 | n + 1 => by
  intro k l A F σ H s vs as R' ar rh rs rv hk
  haveI ih := Qqi B T n
  simp only [Qc] at hk
  cases ht : tb k with
  | none => rw [ht] at hk; exact hk.elim
  | some f =>
  rw [ht] at hk
  simp only at hk
  split at hk
  case isFalse => exact hk.elim
  rename_i hlen
  obtain ⟨d, HH16⟩ := T k f ht
  haveI hd := HH16.1
  haveI hok := HH16.2.1
  haveI hsb := HH16.2.2
  have O := Qpd hok
  obtain ⟨o, pm, code, doc, HH21⟩ := B.df k d hd
  haveI ho := HH21.1
  haveI hdat := HH21.2.1
  haveI hcd := HH21.2.2
  haveI kp : ∀ b x, K.h₀.get? b = some x → s.heap.get? b = some x := fun b x e => rh.le b x (rh.base b x e)
  have hvl := rv.length
  have hpl : vs.length = d.params.args.length := by rw [O.np, hvl, hlen]
  have hnd := QfW O.ps
  generalize hps : d.params.args.map (·.arg) = ps at hnd
  haveI hps' := O.ps
  rw [hps] at hps'
  have hpsl : ps.length = vs.length := by rw [← hps]; simp [hpl]
  haveI hroom : A.depth < recursionLimit := by have := ar.depth; lia
  haveI hbind := QmF (name := d.name) (body := d.body) (scope := d.scope) (pm := pm) (cd := code) (doc := doc) O.pl hpl (by rw [hps]; exact hnd)
  rw [hps] at hbind
  haveI pnames : ∀ x ∈ ps.zip vs, d.scope.names.lookup x.1 = some .local ∨ (d.scope.names.lookup x.1 = some .cell ∧ ((cellsFrom (s.heap.objs.size + 1) d.scope.names []).lookup x.1).isSome = true) := fun x hx => by
   haveI hm := (List.of_mem_zip hx).1
   obtain ⟨j, hj⟩ := List.getElem?_of_mem hm
   rcases (QaD hps' hj).2 with h | h
   ·exact .inl h
   ·obtain ⟨a, ha⟩ := Qac d.scope.names (s.heap.objs.size + 1) [] (mem_of_lookup h)
    obtain ⟨b, hb⟩ := Qaa ha
    exact .inr ⟨h, by rw [hb]; rfl⟩
  refine call_cells hroom (kp _ _ ho) hdat (B.nolim.keeps kp) (hcd.keeps kp) hbind pnames (fun h₁ tk Fr₁ Cl₁ => ?_) O.co O.gen O.kind
  generalize hL : s.heap.objs.size = L at Fr₁ Cl₁
  generalize henv : envOfC d.name d.scope L (K.fa k) code = env at Fr₁ Cl₁
  have eloc : env.locals = L := by rw [← henv]; rfl
  have efr : env.frame = some L := by rw [← henv]; rfl
  have escope : env.scope = d.scope := by rw [← henv]; rfl
  have ecells : env.cells = cellsFrom (L + 1) d.scope.names [] := by rw [← henv]; rfl
  have fresh : ∀ b, L ≤ b → s.heap.get? b = none := fun b hb => QbK (hL ▸ hb)
  have ekind : env.kindOf = fun x => d.scope.names.lookup x := by rw [← henv]; rfl
  have param : ∀ x (k' : Nat), f.vis.lookup x = some k' → k' < f.np → ps[k']? = some x := fun x k' hv hlt => by
   have hlt' : k' < ps.length := by rw [hpsl, hvl, hlen]; exact hlt
   haveI h1 := (QaD hps' (List.getElem?_eq_getElem hlt')).1
   rw [Nat.zero_add] at h1
   haveI : ps[k'] = x := O.wf.inj _ _ k' h1 hv
   rw [List.getElem?_eq_getElem hlt', this]
  have rl : RL K.fa (Qmp d.scope f.vis (f.np + f.ns)) env F σ (as ++ List.replicate (f.ns + f.nx) .unb) h₁ := by
   refine ⟨by rw [escope]; exact O.kind, by rw [← henv]; rfl, by rw [← henv]; rfl, fun x => by rw [ekind]; rfl, by rw [eloc]; exact rh.fnone (fresh L (Nat.le_refl _)), ⟨_, by rw [eloc]; exact Fr₁.ns, fun x k' hx hv => ?_⟩, fun x hx => ?_, fun x y a hx hy => ?_, fun k' hk' => ?_, O.wf⟩
   ·rw [Qlo]
    cases ha : as[k']? with
    | none => intro h; exact absurd rfl h
    | some a =>
     intro _
     have hlt : k' < f.np := by have := (List.getElem?_eq_some_iff.mp ha).1; lia
     obtain ⟨v, HH67⟩ := rv.get ha
     haveI hv1 := HH67.1
     haveI hr := HH67.2
     exact ⟨v, Qjf (by rw [ekind]; exact hx) hnd (param x k' hv hlt) hv1, hr⟩
   ·have hx' : QbD (d.scope.names.lookup x) = true := hx
    have hcell : d.scope.names.lookup x = some .cell := by
     rcases QkO hx' with h | h
     ·exact h
     ·haveI := (O.nm _ (mem_of_lookup h)).1
      rcases this with q | q | q <;> cases q
    obtain ⟨a, ha⟩ := Qac d.scope.names (L + 1) [] (mem_of_lookup hcell)
    obtain ⟨b, hb⟩ := Qaa ha
    haveI hbL : L < b := Cl₁.above x b (mem_of_lookup hb)
    refine ⟨b, _, by rw [ecells]; exact hb, rh.fnone (fresh b (Nat.le_of_lt hbL)), Cl₁.cell x b hb, fun k' hv => ?_⟩
    rw [Qlo]
    cases ha : as[k']? with
    | none => intro h; exact absurd rfl h
    | some a =>
     intro _
     have hlt : k' < f.np := by have := (List.getElem?_eq_some_iff.mp ha).1; omega
     obtain ⟨v, HH87⟩ := rv.get ha
     haveI hv1 := HH87.1
     haveI hr := HH87.2
     exact ⟨v, Qjz (by rw [ekind]; show d.scope.names.lookup x ≠ _; rw [hcell]; intro q; cases q) hnd (param x k' hv hlt) hv1, hr⟩
   ·rw [ecells] at hx hy
    exact name_of_addr Cl₁.apart (mem_of_lookup hx) (mem_of_lookup hy)
   ·rw [Qlo]
    haveI hk'' : f.np + f.ns ≤ k' := hk'
    rw [List.getElem?_eq_none (by lia)]
  have g₁ : Gr [] F σ s F σ { s with heap := h₁, toks := tk } := Gr.step Fr₁.keep rfl rfl
  haveI rh₁ : RH K.fa K.h₀ F σ H h₁ := rh.keeps Fr₁.keep
  have ar' : Ar n (env :: l) (A.deeper env) := ⟨ar.handled, by have := ar.depth; show A.depth + 1 + n + 4 < _; lia, by have := ar.units; show A.units + 3 + 8 * n + 300 < _; omega, by show A.frames.map (env :: ·) = _; rw [ar.frames]; rfl⟩
  have rs₁ : RS (env :: l) F h₁ := fun e he => by
   rcases List.mem_cons.mp he with rfl | he
   ·exact ⟨(by rw [escope, O.kind]; intro q; cases q), L, _, efr, Fr₁.ns, rh.fnone (fresh L (Nat.le_refl _))⟩
   ·exact (rs.grow rh g₁ (by simp)) e he
  have ok₁ : Ok K n (env :: l) (A.deeper env) (Qmp d.scope f.vis (f.np + f.ns)) env F σ (as ++ List.replicate (f.ns + f.nx) .unb) H { s with heap := h₁, toks := tk } := ⟨ar', rh₁, rl, rs₁⟩
  have hown : Owns (Qmp d.scope f.vis (f.np + f.ns)) env (L :: (env.cells.filterMap fun p => env.cells.lookup p.1)) := fun x hx => ⟨fun _ => by rw [eloc]; exact List.mem_cons_self, fun a _ ha => List.mem_cons_of_mem _ (List.mem_filterMap.mpr ⟨(x, a), mem_of_lookup ha, ha⟩)⟩
  have odead : ∀ a ∈ L :: (env.cells.filterMap fun p => env.cells.lookup p.1), s.heap.get? a = none := fun a ha => by
   rcases List.mem_cons.mp ha with rfl | ha
   ·exact fresh _ (Nat.le_refl _)
   ·obtain ⟨p, hp, ha⟩ := List.mem_filterMap.mp ha
    rw [ecells] at ha
    exact fresh _ (Nat.le_of_lt (Cl₁.above p.1 a (mem_of_lookup ha)))
  have oalive : ∀ a ∈ L :: (env.cells.filterMap fun p => env.cells.lookup p.1), ∃ o, h₁.get? a = some o := fun a ha => by
   rcases List.mem_cons.mp ha with rfl | ha
   ·obtain ⟨o, _, _, e, _⟩ := Fr₁.ns; exact ⟨o, e⟩
   ·obtain ⟨p, hp, ha⟩ := List.mem_filterMap.mp ha
    rw [ecells] at ha
    obtain ⟨o, e, _⟩ := Cl₁.cell p.1 a ha
    exact ⟨o, e⟩
  refine hsb n (Qc tb n) ih H.length (env :: l) (A.deeper env) env (L :: (env.cells.filterMap fun p => env.cells.lookup p.1)) F σ _ H _ _ _ ok₁ hown oalive ⟨PassesOwn.leaving, l, rfl, by rw [eloc]; exact efr⟩ ?_
  cases e2 : exB (Qc tb n) H.length f.body (as ++ List.replicate (f.ns + f.nx) .unb) H with
  | stuck => rw [e2] at hk; exact hk.elim
  | next ρ' H' =>
   rw [e2] at hk
   intro F' σ' s' g ok'
   obtain ⟨τ, hτ, _⟩ := g.pre
   subst hτ
   exact hk .none F' s' ((g₁.weak.trans g).back odead) (ok'.rh.take rh.len.symm) .none
  | ret x H' =>
   rw [e2] at hk
   rintro v s' ⟨F', σ', F₂, g, rh', hle, hpres, hdiff, rep⟩
   obtain ⟨τ, hτ, hτ'⟩ := g.pre
   subst hτ
   have gb := (g₁.weak.trans g).back odead
   have hdrop : ∀ b, b ∈ (σ ++ τ).drop H.length → b ∈ τ := fun b hb => by rwa [← rh.len, List.drop_left] at hb
   have alive_same : ∀ b o, s.heap.get? b = some o → F₂ b = F' b := fun b o e => by
    by_cases q : F₂ b = F' b
    ·exact q
    ·exfalso
     have e' : h₁.get? b = some o := Fr₁.keep b o e
     rcases hdiff b q with h | h
     ·have := hτ' b (hdrop b h); rw [show ({ s with heap := h₁, toks := tk } : Shared).heap = h₁ from rfl, e'] at this; cases this
     ·have := h.1; rw [show ({ s with heap := h₁, toks := tk } : Shared).heap = h₁ from rfl, e'] at this; cases this
   have rh₂ := rh'.take rh.len.symm
   refine hk v F₂ s' ⟨gb.live, gb.keep, gb.fz.trans hle, fun b o e hn => by rw [alive_same b o e]; exact gb.nf b o e hn, gb.pre, gb.gens, gb.os⟩ ⟨fun b o e => hle b o (rh₂.base b o e), hpres, rh₂.len, rh₂.nod, fun m a xs h1 h2 => ?_⟩ rep
   obtain ⟨q, us, hl, rl', hle'⟩ := rh₂.cell m a xs h1 h2
   have ha : a ∈ σ := List.mem_of_getElem? h1
   obtain ⟨ws, oo, eo, _⟩ := rh.isList ha
   exact ⟨by rw [alive_same a oo eo]; exact q, us, hl, rl'.mono hle, hle'⟩
  | exc ρ' H' =>
   rw [e2] at hk
   intro ev s' x
   have x' : XO K (env :: l) (L :: (env.cells.filterMap fun p => env.cells.lookup p.1)) F σ H' s ev s' := x.shift g₁.weak
   exact QmY (by show A.frames.map (env :: ·) = _; rw [ar.frames]; rfl) efr (fresh L (Nat.le_refl _)) odead rh.len rs x' hk
section
variable {K : Kx} {n : Nat} {c : Lx} {cl : Qh}
theorem QrF {x : Expr} : SE K n c cl .dead x := by
 intro l A env F σ ρ H s Q E ok hk
 exact hk.elim
theorem Qrf {x : Stmt} : SS K n c cl .dead x := by
 intro base l A env own F σ ρ H s Q E ok ho hl hE hk
 exact hk.elim
theorem QkD {a b : PE} {x y : Expr} {ys : List Expr} {pos : Pos} (ha : SE K n c cl a x) (hb : SE K n c cl b (.BoolOp .And (y :: ys) pos)) : SE K n c cl (.and a b) (.BoolOp .And (x :: y :: ys) pos) := by
 intro l A env F σ ρ H s Q E ok hk
 show wpAny (model K.prog K.w) A (do
  let v ← eval x env
  standAt pos
  let t ← holding [v] (truthy v)
  match BoolOp.And, t with
  | .And, false | .Or, true => pure v
  | _, _ => eval (.BoolOp .And (y :: ys) pos) env) Q E s
 refine wpAny_bind (ha l A env F σ ρ H s _ E ok (hk.bind fun v H₁ v₁ F₁ σ₁ s₁ g₁ rh₁ r₁ hk₁ => ?_))
 obtain ⟨z, e, hk₂⟩ := hk₁.opt
 haveI := Qab e; subst this
 rw [r₁.bool_inv]
 refine wpAny_bind (wpAny_standAt (wpAny_bind (wpAny_holding (wpAny_truthy_bool ?_))))
 cases z with
 | false => exact wpAny_pure (hk₂.done' rh₁ (.d (.bool _)))
 | true =>
  refine hb l A env F₁ σ₁ ρ H₁ s₁ Q E (ok.grow g₁ rh₁) ?_
  simp only at hk₂
  revert hk₂
  cases e3 : evE cl b ρ H₁ with
  | exc H' => exact fun h => h
  | stuck => exact fun h => h
  | ok w H₂ =>
   intro h v' F' σ' s' g rh r
   haveI h' : KR K l (RepV K.fa) ((Qp (Qaq w) H₂).bind fun y H => R.ok (V.d (PyData.bool y)) H) F' σ' s' Q E := KR.shift (r := (Qp (Qaq w) H₂).bind fun y H => R.ok (V.d (PyData.bool y)) H) h g
   obtain ⟨z, e4, h5⟩ := h'.opt
   haveI := Qab e4; subst this
   exact h5.done' rh r
end
noncomputable abbrev Ck (P : Prop) := Option (PLift P)
noncomputable abbrev yes {P : Prop} (h : P) : Ck P := some ⟨h⟩
noncomputable def ckB {P : Prop} (b : Bool) (f : b = true → Ck P) : Ck P := if h : b = true then f h else none
noncomputable def ckA {P Q : Prop} (a : Ck P) (f : P → Ck Q) : Ck Q := match a with | some p => f p.down | none => none
noncomputable def ckP {c : Prop} [Decidable c] {P : Prop} (f : c → Ck P) : Ck P := if h : c then f h else none
noncomputable def ckO {P : Prop} (a b : Ck P) : Ck P := if a.isSome then a else b
@[elab_as_elim] noncomputable def Qx {M : Expr → Type} (x : Expr) (z : M x) (f : ∀ y p, M (.Name y p)) : M x := if h : x.ctorIdx = 23 then Expr.Name.elim (motive_1 := M) x h f else z
@[elab_as_elim] noncomputable def Qdc {M : Expr → Type} (x : Expr) (z : M x) (f : ∀ k j p, M (.Constant k j p)) : M x := if h : x.ctorIdx = 19 then Expr.Constant.elim (motive_1 := M) x h f else z
@[elab_as_elim] noncomputable def QoX {M : Expr → Type} (x : Expr) (z : M x) (f : ∀ l o r p, M (.BinOp l o r p)) : M x := if h : x.ctorIdx = 2 then Expr.BinOp.elim (motive_1 := M) x h f else z
@[elab_as_elim] noncomputable def QnG {M : Expr → Type} (x : Expr) (z : M x) (f : ∀ l o r p, M (.Compare l o r p)) : M x := if h : x.ctorIdx = 15 then Expr.Compare.elim (motive_1 := M) x h f else z
@[elab_as_elim] noncomputable def Qlh {M : Expr → Type} (x : Expr) (z : M x) (f : ∀ o l p, M (.BoolOp o l p)) : M x := if h : x.ctorIdx = 0 then Expr.BoolOp.elim (motive_1 := M) x h f else z
@[elab_as_elim] noncomputable def onUn {M : Expr → Type} (x : Expr) (z : M x) (f : ∀ o l p, M (.UnaryOp o l p)) : M x := if h : x.ctorIdx = 3 then Expr.UnaryOp.elim (motive_1 := M) x h f else z
@[elab_as_elim] noncomputable def onIf {M : Expr → Type} (x : Expr) (z : M x) (f : ∀ a b c p, M (.IfExp a b c p)) : M x := if h : x.ctorIdx = 5 then Expr.IfExp.elim (motive_1 := M) x h f else z
@[elab_as_elim] noncomputable def Qaj {M : Expr → Type} (x : Expr) (z : M x) (f : ∀ g l k p, M (.Call g l k p)) : M x := if h : x.ctorIdx = 16 then Expr.Call.elim (motive_1 := M) x h f else z
@[elab_as_elim] noncomputable def Qqm {M : Expr → Type} (x : Expr) (z : M x) (f : ∀ y n p, M (.Attribute y n p)) : M x := if h : x.ctorIdx = 20 then Expr.Attribute.elim (motive_1 := M) x h f else z
@[elab_as_elim] noncomputable def QhR {M : Expr → Type} (x : Expr) (z : M x) (f : ∀ y z p, M (.Subscript y z p)) : M x := if h : x.ctorIdx = 21 then Expr.Subscript.elim (motive_1 := M) x h f else z
@[elab_as_elim] noncomputable def QfR {M : Expr → Type} (x : Expr) (z : M x) (f : ∀ l j p, M (.Tuple l j p)) : M x := if h : x.ctorIdx = 25 then Expr.Tuple.elim (motive_1 := M) x h f else z
@[elab_as_elim] noncomputable def QsQ {M : Expr → Type} (x : Expr) (z : M x) (f : ∀ l p, M (.List l p)) : M x := if h : x.ctorIdx = 24 then Expr.List.elim (motive_1 := M) x h f else z
@[elab_as_elim] noncomputable def onLC {M : Expr → Type} (x : Expr) (z : M x) (f : ∀ e g s p, M (.ListComp e g s p)) : M x := if h : x.ctorIdx = 8 then Expr.ListComp.elim (motive_1 := M) x h f else z
@[elab_as_elim] noncomputable def QhN {M : Expr → Type} (x : Expr) (z : M x) (f : ∀ a b c p, M (.Slice a b c p)) : M x := if h : x.ctorIdx = 26 then Expr.Slice.elim (motive_1 := M) x h f else z
@[elab_as_elim] noncomputable def Qmq {M : Stmt → Type} (x : Stmt) (z : M x) (f : ∀ l v p, M (.Assign l v p)) : M x := if h : x.ctorIdx = 5 then Stmt.Assign.elim (motive_2 := M) x h f else z
@[elab_as_elim] noncomputable def Qun {M : Stmt → Type} (x : Stmt) (z : M x) (f : ∀ t o v p, M (.AugAssign t o v p)) : M x := if h : x.ctorIdx = 7 then Stmt.AugAssign.elim (motive_2 := M) x h f else z
@[elab_as_elim] noncomputable def onX {M : Stmt → Type} (x : Stmt) (z : M x) (f : ∀ x p, M (.Expr x p)) : M x := if h : x.ctorIdx = 24 then Stmt.Expr.elim (motive_2 := M) x h f else z
@[elab_as_elim] noncomputable def Quj {M : Stmt → Type} (x : Stmt) (z : M x) (f : ∀ x a b p, M (.If x a b p)) : M x := if h : x.ctorIdx = 12 then Stmt.If.elim (motive_2 := M) x h f else z
@[elab_as_elim] noncomputable def QuB {M : Stmt → Type} (x : Stmt) (z : M x) (f : ∀ x a b p, M (.While x a b p)) : M x := if h : x.ctorIdx = 11 then Stmt.While.elim (motive_2 := M) x h f else z
@[elab_as_elim] noncomputable def QtS {M : Stmt → Type} (x : Stmt) (z : M x) (f : ∀ t i a b p, M (.For t i a b p)) : M x := if h : x.ctorIdx = 9 then Stmt.For.elim (motive_2 := M) x h f else z
@[elab_as_elim] noncomputable def Qty {M : Stmt → Type} (x : Stmt) (z : M x) (f : ∀ o p, M (.Return o p)) : M x := if h : x.ctorIdx = 3 then Stmt.Return.elim (motive_2 := M) x h f else z
@[elab_as_elim] noncomputable def onRaise {M : Stmt → Type} (x : Stmt) (z : M x) (f : ∀ a b p, M (.Raise a b p)) : M x := if h : x.ctorIdx = 16 then Stmt.Raise.elim (motive_2 := M) x h f else z
@[elab_as_elim] noncomputable def Qul {M : Stmt → Type} (x : Stmt) (z : M x) (f : ∀ a b c d p, M (.Try a b c d p)) : M x := if h : x.ctorIdx = 17 then Stmt.Try.elim (motive_2 := M) x h f else z
@[elab_as_elim] noncomputable def onKB {M : Const → Type} (x : Const) (z : M x) (f : ∀ b, M (.bool b)) : M x := if h : x.ctorIdx = 1 then Const.bool.elim (motive := M) x h f else z
@[elab_as_elim] noncomputable def onKI {M : Const → Type} (x : Const) (z : M x) (f : ∀ i, M (.int i)) : M x := if h : x.ctorIdx = 2 then Const.int.elim (motive := M) x h f else z
@[elab_as_elim] noncomputable def onKS {M : Const → Type} (x : Const) (z : M x) (f : ∀ i, M (.str i)) : M x := if h : x.ctorIdx = 5 then Const.str.elim (motive := M) x h f else z
@[elab_as_elim] noncomputable def Qpc {M : Tgt → Type} (x : Tgt) (z : M x) (f : ∀ k, M (.one k)) : M x := if h : x.ctorIdx = 0 then Tgt.one.elim (motive := M) x h f else z
@[elab_as_elim] noncomputable def QtV {M : Tgt → Type} (x : Tgt) (z : M x) (f : ∀ k l, M (.two k l)) : M x := if h : x.ctorIdx = 1 then Tgt.two.elim (motive := M) x h f else z
@[elab_as_elim] noncomputable def Qad {α : Type} {M : List α → Type} (x : List α) (z : M x) (f : M []) : M x := match x with | [] => f | y :: r => z
@[elab_as_elim] noncomputable def Qgn {α : Type} {M : List α → Type} (x : List α) (z : M x) (f : ∀ a r, M (a :: r)) : M x := match x with | [] => z | a :: r => f a r
@[elab_as_elim] noncomputable def on1 {α : Type} {M : List α → Type} (x : List α) (z : M x) (f : ∀ a, M [a]) : M x := match x with | [a] => f a | [] => z | _ :: _ :: _ => z
@[elab_as_elim] noncomputable def on2 {α : Type} {M : List α → Type} (x : List α) (z : M x) (f : ∀ a b, M [a, b]) : M x := match x with | [a, b] => f a b | [] => z | [_] => z | _ :: _ :: _ :: _ => z
@[elab_as_elim] noncomputable def on3 {α : Type} {M : List α → Type} (x : List α) (z : M x) (f : ∀ a b c, M [a, b, c]) : M x := match x with | [a, b, c] => f a b c | [] => z | [_] => z | [_, _] => z | _ :: _ :: _ :: _ :: _ => z
@[elab_as_elim] noncomputable def Qcm {α : Type} {M : Option α → Type} (x : Option α) (z : M x) (f : M none) : M x := match x with | none => f | some _ => z
@[elab_as_elim] noncomputable def Qdp {α : Type} {M : Option α → Type} (x : Option α) (z : M x) (f : ∀ a, M (some a)) : M x := match x with | none => z | some a => f a
@[elab_as_elim] noncomputable def onKN {M : Const → Type} (x : Const) (z : M x) (f : M .none) : M x := if h : x.ctorIdx = 0 then Const.none.elim (motive := M) x h f else z
@[elab_as_elim] noncomputable def onEq {α : Type} [DecidableEq α] {M : α → Type} (a b : α) (z : M a) (f : M b) : M a := if h : a = b then h ▸ f else z
@[elab_as_elim] noncomputable def Qbg {M : Str → Type} (f : Str) (c : Lx) (k : Str) (z : M f) (hh : QF c k = true → M k) : M f := if h : f = k then if h2 : QF c k = true then h ▸ hh h2 else z else z
@[elab_as_elim] noncomputable def QtO {M : ExceptHandler → Type} (x : ExceptHandler) (f : ∀ a b c d, M (.ExceptHandler a b c d)) : M x := match x with | .ExceptHandler a b c d => f a b c d
@[elab_as_elim] noncomputable def onG {M : Comprehension → Type} (g : Comprehension) (f : ∀ a b c d, M ⟨a, b, c, d⟩) : M g := match g with | ⟨a, b, c, d⟩ => f a b c d
noncomputable def ovOf : Tgt → Expr → List (Str × Nat)
 | .one k, x => Qx x [] fun y _ => [(y, k)]
 | .two k j, x => QfR x [] fun l _ _ => on2 l [] fun a b => Qx a [] fun a _ => Qx b [] fun b _ => [(a, k), (b, j)]
noncomputable def Qnc (m : Nat) (ov : List (Str × Nat)) : Nat := ov.foldl (fun m p => max m (p.2 + 1)) m
noncomputable def compC (c : Lx) (scope : Scope) (ov : List (Str × Nat)) : Lx := QD c scope ov (Qnc c.top ov)
noncomputable def QmB (c : Lx) : (t : Tgt) → (x : Expr) → Ck (OkTgt c t x)
 | .one k, x => Qx x none fun y _ => ckB (QK c k y) fun h => yes (.one h)
 | .two k j, x => QfR x none fun l _ _ => on2 l none fun y z => Qx y none fun y _ => Qx z none fun z _ => ckB (QK c k y) fun h => ckB (QK c j z) fun h2 => yes (.two h h2)
noncomputable def Qrn : (d : D) → (k : Const) → Ck (CRep d k)
 | .none, k => onKN k none (yes .none)
 | .bool b, k => onKB k none fun b' => onEq b' b none (yes (.bool b))
 | .int i, k => onKI k none fun j => onEq j i none (yes (.int i))
 | _, _ => none
noncomputable def ckM1 (x : Expr) : Ck (IsM1 x) := onUn x none fun o l p => onEq o .USub none (Qdc l none fun k j q => onKI k none fun i => onEq i 1 none (yes (.mk j q p)))
noncomputable def QqP (x : List Expr) : Ck (IsRaiseArgs x) := on1 x none fun a => Qdc a none fun k j q => onKS k none fun t => yes (.mk t j q)
noncomputable def Qkj (c : Lx) : (ks : List Nat) → (ts : List Expr) → Ck (OkNames c ks ts)
 | [], ts => Qad ts none (yes .nil)
 | k :: ks, ts => Qgn ts none fun t r => Qx t none fun x _ => ckB (QK c k x) fun h => ckA (Qkj c ks r) fun h2 => yes (.cons h h2)
noncomputable def Qnw (c : Lx) : (ks : List Nat) → (xs : List Str) → Ck (OkBinds c ks xs)
 | [], xs => Qad xs none (yes .nil)
 | k :: ks, xs => Qgn xs none fun x r => ckB (QK c k x) fun h => ckA (Qnw c ks r) fun h2 => ckP fun h3 : k ∉ ks => yes (.cons h h2 h3)
theorem Ck.get {P : Prop} {a : Ck P} (h : a.isSome = true) : P := match a, h with | some p, _ => p.down
section
variable {K : Kx} {n : Nat} {cl : Qh} {fm : List Str}
noncomputable abbrev SFU (K : Kx) (n : Nat) (c : Lx) (cl : Qh) (f : PF) (x : Expr) : Prop := SF K n c cl f x ∧ ∀ elt gens scope pos, x = .ListComp elt gens scope pos → SUse K n c cl f elt gens scope pos
theorem QlZ {c : Lx} {f : PF} {elt : Expr} {gens : List Comprehension} {scope : Scope} {pos : Pos} (h : SUse K n c cl f elt gens scope pos) : SFU K n c cl f (.ListComp elt gens scope pos) := ⟨Qpv h, fun _ _ _ _ q => by cases q; exact h⟩
mutual
noncomputable def ckE (B : Bs K) (hc : SC K n cl) (hf : fm = K.fnm) : (c : Lx) → (e : PE) → (x : Expr) → Ck (SE K n c cl e x)
 | c, .loc k, x => Qx x none fun y _ => ckB (QW c k y) fun h => yes (QpZ h)
 | c, .kd d, x => Qdc x none fun k _ _ => ckA (Qrn d k) fun h => yes (QrZ h)
 | c, .glob b, x => Qx x none fun y _ => ckB (QF c y) fun h => ckP fun h2 => yes (Qri B h h2)
 | c, .fn k, x => Qx x none fun y _ => ckB (QF c y) fun h => ckP fun h2 : fm[k]? = some y => yes (QtU B h (hf ▸ h2))
 | c, .bin op a b, x => QoX x none fun l o r _ => ckP fun h => ckA (ckE B hc hf c a l) fun ha => ckA (ckE B hc hf c b r) fun hb => yes (QsG (op := op) h ha hb)
 | c, .cmp op a b, x => QnG x none fun l os rs _ => on1 os none fun o => on1 rs none fun r => ckP fun h => ckP fun h2 => ckA (ckE B hc hf c a l) fun ha => ckA (ckE B hc hf c b r) fun hb => yes (Qsj (op := op) h h2 ha hb)
 | c, .cmp2 _ _ _ _ _, x => none
 | c, .notNone a, x => QnG x none fun l os rs _ => on1 os none fun o => onEq o .IsNot none (on1 rs none fun r => Qdc r none fun k _ _ => onKN k none (ckA (ckE B hc hf c a l) fun ha => yes (Qmr ha)))
 | c, .and a b, x => Qlh x none fun o xs p => onEq o .And none (Qgn xs none fun l t => Qgn t none fun r t2 => ckO
  (Qad t2 none (ckA (ckE B hc hf c a l) fun ha => ckA (ckE B hc hf c b r) fun hb => yes (Qsv ha hb)))
  (ckA (ckE B hc hf c a l) fun ha => ckA (ckE B hc hf c b (.BoolOp .And (r :: t2) p)) fun hb => yes (QkD ha hb)))
 | c, .or a b, x => Qlh x none fun o xs _ => onEq o .Or none (on2 xs none fun l r => ckA (ckE B hc hf c a l) fun ha => ckA (ckE B hc hf c b r) fun hb => yes (QtP ha hb))
 | c, .not a, x => onUn x none fun o l _ => onEq o .Not none (ckA (ckE B hc hf c a l) fun ha => yes (Qsf ha))
 | c, .neg a, x => onUn x none fun o l _ => onEq o .USub none (ckA (ckE B hc hf c a l) fun ha => yes (Qqp ha))
 | c, .ite z a b, x => onIf x none fun t l r _ => ckA (ckT B hc hf c z t) fun hz => ckA (ckE B hc hf c a l) fun ha => ckA (ckE B hc hf c b r) fun hb => yes (Qti hz ha hb)
 | c, .call k as, x => Qaj x none fun g xs ks _ => Qx g none fun f _ => Qad ks none (ckB (QF c f) fun h => ckP fun h2 : fm[k]? = some f => ckP fun h3 => ckB (Qm xs) fun h4 => ckA (ckEs B hc hf c as xs) fun ha => yes (QnL B hc h (hf ▸ h2) h3 h4 ha))
 | c, .callv k as, x => Qaj x none fun g xs ks _ => Qx g none fun f _ => Qad ks none (ckB (QW c k f) fun h => ckP fun h3 => ckB (Qm xs) fun h4 => ckA (ckEs B hc hf c as xs) fun ha => yes (Qpf B hc h h3 h4 ha))
 | c, .len a, x => Qaj x none fun g xs ks _ => Qx g none fun f _ => Qad ks none (on1 xs none fun y => Qbg f c "len" none fun h => ckB (Qm [y]) fun h4 => ckA (ckE B hc hf c a y) fun ha => yes (Qtg B h rfl h4 ha))
 | c, .abs a, x => Qaj x none fun g xs ks _ => Qx g none fun f _ => Qad ks none (on1 xs none fun y => Qbg f c "abs" none fun h => ckB (Qm [y]) fun h4 => ckA (ckE B hc hf c a y) fun ha => yes (QsU B h rfl h4 ha))
 | c, .sum a, x => Qaj x none fun g xs ks _ => Qx g none fun f _ => Qad ks none (on1 xs none fun y => Qbg f c "sum" none fun h => ckB (Qm [y]) fun h4 => ckA (ckE B hc hf c a y) fun ha => yes (Qsm B h rfl h4 ha))
 | c, .any a, x => Qaj x none fun g xs ks _ => Qx g none fun f _ => Qad ks none (on1 xs none fun y => Qbg f c "any" none fun h => ckB (Qm [y]) fun h4 => ckA (ckE B hc hf c a y) fun ha => yes (Qqv B h rfl h4 ha))
 | c, .min a b, x => Qaj x none fun g xs ks _ => Qx g none fun f _ => Qad ks none (on2 xs none fun y z => Qbg f c "min" none fun h => ckB (Qm [y, z]) fun h4 => ckA (ckE B hc hf c a y) fun ha => ckA (ckE B hc hf c b z) fun hb => yes (Qsh B h rfl h4 ha hb))
 | c, .powm a b d, x => Qaj x none fun g xs ks _ => Qx g none fun f _ => Qad ks none (on3 xs none fun y z w => Qbg f c "pow" none fun h => ckB (Qm [y, z, w]) fun h4 => ckA (ckE B hc hf c a y) fun ha => ckA (ckE B hc hf c b z) fun hb => ckA (ckE B hc hf c d w) fun hd => yes (QqM B h rfl h4 ha hb hd))
 | c, .toInt a, x => Qaj x none fun g xs ks _ => Qx g none fun f _ => Qad ks none (on1 xs none fun y => Qbg f c "int" none fun h => ckB (Qm [y]) fun h4 => ckA (ckE B hc hf c a y) fun ha => yes (QpF B h rfl h4 ha))
 | c, .bitlen a, x => Qaj x none fun g xs ks p => Qad xs none (Qad ks none (Qqm g none fun y nm ap => onEq nm "bit_length" none (ckB (Qiq y) fun h2 => ckB (ap.endLine == p.line) fun h3 => ckA (ckE B hc hf c a y) fun ha => yes (Qof h2 h3 ha))))
 | c, .idx a i, x => QhR x none fun y z _ => ckB (Qhk z) fun h => ckA (ckE B hc hf c a y) fun ha => ckA (ckE B hc hf c i z) fun hi => yes (Qqk h ha hi)
 | c, .tup as, x => QfR x none fun xs _ _ => ckA (ckEs B hc hf c as xs) fun ha => yes (Qsw ha)
 | c, .mk _ f, x => ckA (ckF B hc hf c f x) fun h => yes (Quw h.1)
 | _, .dead, _ => yes QrF
noncomputable def ckT (B : Bs K) (hc : SC K n cl) (hf : fm = K.fnm) : (c : Lx) → (e : PE) → (x : Expr) → Ck (ST K n c cl e x)
 | c, .cmp op a b, x => QnG x none fun l os rs _ => on1 os none fun o => on1 rs none fun r => ckP fun h => ckP fun h2 => ckA (ckE B hc hf c a l) fun ha => ckA (ckE B hc hf c b r) fun hb => yes (QrY (op := op) h h2 ha hb)
 | c, .cmp2 o₁ o₂ a b d, x => QnG x none fun l os rs _ => on2 os none fun q₁ q₂ => on2 rs none fun r w => ckP fun h => ckP fun h1 => ckP fun h2 => ckA (ckE B hc hf c a l) fun ha => ckA (ckE B hc hf c b r) fun hb => ckA (ckE B hc hf c d w) fun hd => yes (QrJ (o₁ := o₁) (o₂ := o₂) h h1 h2 ha hb hd)
 | c, .not a, x => onUn x none fun o l _ => onEq o .Not none (ckA (ckT B hc hf c a l) fun ha => yes (QsM ha))
 | c, .and a b, x => Qlh x none fun o xs _ => onEq o .And none (on2 xs none fun l r => ckA (ckT B hc hf c a l) fun ha => ckA (ckT B hc hf c b r) fun hb => yes (QsI ha hb))
 | c, .or a b, x => Qlh x none fun o xs _ => onEq o .Or none (on2 xs none fun l r => ckA (ckT B hc hf c a l) fun ha => ckA (ckT B hc hf c b r) fun hb => yes (Qub ha hb))
 | c, .loc k, x => Qx x none fun y _ => ckB (QW c k y) fun h => yes (Qeb (fun _ _ => rfl) (QpZ h))
 | c, .call k as, x => Qaj x none fun g xs ks _ => Qx g none fun f _ => Qad ks none (ckB (QF c f) fun h => ckP fun h2 : fm[k]? = some f => ckP fun h3 => ckB (Qm xs) fun h4 => ckA (ckEs B hc hf c as xs) fun ha => yes (Qeb (fun _ _ => rfl) (QnL B hc h (hf ▸ h2) h3 h4 ha)))
 | c, .idx a i, x => QhR x none fun y z _ => ckB (Qhk z) fun h => ckA (ckE B hc hf c a y) fun ha => ckA (ckE B hc hf c i z) fun hi => yes (Qeb (fun _ _ => rfl) (Qqk h ha hi))
 | c, .any a, x => Qaj x none fun g xs ks _ => Qx g none fun f _ => Qad ks none (on1 xs none fun y => Qbg f c "any" none fun h => ckB (Qm [y]) fun h4 => ckA (ckE B hc hf c a y) fun ha => yes (Qeb (fun _ _ => rfl) (Qqv B h rfl h4 ha)))
 | c, .notNone a, x => QnG x none fun l os rs _ => on1 os none fun o => onEq o .IsNot none (on1 rs none fun r => Qdc r none fun k _ _ => onKN k none (ckA (ckE B hc hf c a l) fun ha => yes (QmD ha)))
 | _, _, _ => none
noncomputable def ckEs (B : Bs K) (hc : SC K n cl) (hf : fm = K.fnm) : (c : Lx) → (es : PEs) → (xs : List Expr) → Ck (SEs K n c cl es xs)
 | c, .nil, xs => Qad xs none (yes Qrw)
 | c, .cons e r, xs => Qgn xs none fun x ys => ckB (Qcg x) fun h => ckA (ckE B hc hf c e x) fun ha => ckA (ckEs B hc hf c r ys) fun hb => yes (Qpo h ha hb)
noncomputable def ckF (B : Bs K) (hc : SC K n cl) (hf : fm = K.fnm) : (c : Lx) → (f : PF) → (x : Expr) → Ck (SFU K n c cl f x)
 | c, .list as, x => QsQ x none fun xs _ => ckA (ckEs B hc hf c as xs) fun ha => yes ⟨QqU ha, fun _ _ _ _ q => nomatch q⟩
 | c, .cat a b, x => QoX x none fun l o r _ => onEq o .Add none (ckA (ckE B hc hf c a l) fun ha => ckA (ckE B hc hf c b r) fun hb => yes ⟨QsK ha hb, fun _ _ _ _ q => nomatch q⟩)
 | c, .rep a b, x => QoX x none fun l o r _ => onEq o .Mult none (ckA (ckE B hc hf c a l) fun ha => ckA (ckE B hc hf c b r) fun hb => yes ⟨QtF ha hb, fun _ _ _ _ q => nomatch q⟩)
 | c, .slc a, x => QhR x none fun y z _ => QhN z none fun o1 o2 o3 _ => Qcm o1 none (Qcm o2 none (Qcm o3 none (ckA (ckE B hc hf c a y) fun ha => yes ⟨Qtr ha, fun _ _ _ _ q => nomatch q⟩)))
 | c, .slcU a u, x => QhR x none fun y z _ => QhN z none fun o1 o2 o3 _ => Qcm o1 none (Qdp o2 none fun z => Qcm o3 none (ckA (ckE B hc hf c a y) fun ha => ckA (ckE B hc hf c u z) fun hb => yes ⟨QrG ha hb, fun _ _ _ _ q => nomatch q⟩))
 | c, .slcL a l, x => QhR x none fun y z _ => QhN z none fun o1 o2 o3 _ => Qdp o1 none fun z => Qcm o2 none (Qcm o3 none (ckA (ckE B hc hf c a y) fun ha => ckA (ckE B hc hf c l z) fun hb => yes ⟨QqE ha hb, fun _ _ _ _ q => nomatch q⟩))
 | c, .slcLU a l u, x => QhR x none fun y z _ => QhN z none fun o1 o2 o3 _ => Qdp o1 none fun z => Qdp o2 none fun w => Qcm o3 none (ckA (ckE B hc hf c a y) fun ha => ckA (ckE B hc hf c l z) fun hb => ckA (ckE B hc hf c u w) fun hd => yes ⟨Qpe ha hb hd, fun _ _ _ _ q => nomatch q⟩)
 | c, .comp e t i, x => onLC x none fun elt gens scope pos => on1 gens none fun g => onG g fun tx iter ifs as => Qad ifs none (onEq as 0 none (ckB (Qce c scope (ovOf t tx) (Qnc c.top (ovOf t tx))) fun h1 => ckB (QbF iter) fun h2 => ckA (ckI B hc hf c i iter tx t) fun h3 => ckA (QmB (compC c scope (ovOf t tx)) t tx) fun h4 => ckA (ckE B hc hf (compC c scope (ovOf t tx)) e elt) fun h5 => yes (QlZ (QqT h1 h2 h3 h4 h5))))
 | c, .compIf e t i b, x => onLC x none fun elt gens scope pos => on1 gens none fun g => onG g fun tx iter ifs as => on1 ifs none fun cond => onEq as 0 none (ckB (Qce c scope (ovOf t tx) (Qnc c.top (ovOf t tx))) fun h1 => ckB (QbF iter) fun h2 => ckA (ckI B hc hf c i iter tx t) fun h3 => ckA (QmB (compC c scope (ovOf t tx)) t tx) fun h4 => ckA (ckE B hc hf (compC c scope (ovOf t tx)) e elt) fun h5 => ckA (ckT B hc hf (compC c scope (ovOf t tx)) b cond) fun h6 => yes (QlZ (QnZ h1 h2 h3 h4 h5 h6)))
 | c, .comp2 e t i t2 i2, x => onLC x none fun elt gens scope pos => on2 gens none fun g g2 => onG g fun tx iter ifs as => onG g2 fun tx2 iter2 ifs2 as2 => Qad ifs none (Qad ifs2 none (onEq as 0 none (onEq as2 0 none (ckB (Qce c scope (ovOf t tx ++ ovOf t2 tx2) (Qnc c.top (ovOf t tx ++ ovOf t2 tx2))) fun h1 => ckB (QbF iter) fun h2 => ckB (QbF iter2) fun h3 => ckA (ckI B hc hf c i iter tx t) fun h4 => ckA (ckI B hc hf (compC c scope (ovOf t tx ++ ovOf t2 tx2)) i2 iter2 tx2 t2) fun h5 =>
   ckA (QmB (compC c scope (ovOf t tx ++ ovOf t2 tx2)) t tx) fun h6 => ckA (QmB (compC c scope (ovOf t tx ++ ovOf t2 tx2)) t2 tx2) fun h7 => ckB (QsR [] t t2) fun h8 => ckB (QsH c.top t2) fun h9 => ckA (ckE B hc hf (compC c scope (ovOf t tx ++ ovOf t2 tx2)) e elt) fun h10 => yes (QlZ (QpH h1 h2 h3 h4 h5 h6 h7 h8 h9 h10))))))
 | c, .compC e t k, x => onLC x none fun elt gens scope pos => on1 gens none fun g => onG g fun tx iter ifs as => Qx iter none fun y _ => Qad ifs none (onEq as 0 none (ckB (Qce c scope (ovOf t tx) (Qnc c.top (ovOf t tx))) fun h1 => ckB (QW c k y) fun h2 => ckA (QmB (compC c scope (ovOf t tx)) t tx) fun h3 => ckA (ckE B hc hf (compC c scope (ovOf t tx)) e elt) fun h4 => yes (QlZ (QpB h1 h2 h3 h4))))
noncomputable def ckI (B : Bs K) (hc : SC K n cl) (hf : fm = K.fnm) : (c : Lx) → (i : PI) → (x tx : Expr) → (t : Tgt) → Ck (SI K n c cl i x tx t)
 | c, .seq e, x, _, _ => ckA (ckE B hc hf c e x) fun h => yes (Qta h)
 | c, .range1 a, x, tx, t => Qx tx none fun _ _ => Qpc t none fun _ => Qaj x none fun g xs ks _ => Qx g none fun f _ => Qad ks none (on1 xs none fun y => Qbg f c "range" none fun h => ckB (Qm [y]) fun h4 => ckA (ckE B hc hf c a y) fun ha => yes (QnB B h rfl h4 ha))
 | c, .range2 a b, x, tx, t => Qx tx none fun _ _ => Qpc t none fun _ => Qaj x none fun g xs ks _ => Qx g none fun f _ => Qad ks none (on2 xs none fun y z => Qbg f c "range" none fun h => ckB (Qm [y, z]) fun h4 => ckA (ckE B hc hf c a y) fun ha => ckA (ckE B hc hf c b z) fun hb => yes (Qoc B h rfl h4 ha hb))
 | c, .rangeD a, x, tx, t => Qx tx none fun _ _ => Qpc t none fun _ => Qaj x none fun g xs ks _ => Qx g none fun f _ => Qad ks none (on3 xs none fun y z w => Qbg f c "range" none fun h => ckB (Qm [y, z, w]) fun h4 => ckA (ckM1 z) fun h5 => ckA (ckM1 w) fun h6 => ckA (ckE B hc hf c a y) fun ha => yes (Qno B h rfl h4 h5 h6 ha))
 | c, .enum a, x, tx, t => QfR tx none fun _ _ _ => QtV t none fun _ _ => Qaj x none fun g xs ks _ => Qx g none fun f _ => Qad ks none (on1 xs none fun y => Qbg f c "enumerate" none fun h => ckB (Qm [y]) fun h4 => ckA (ckE B hc hf c a y) fun ha => yes (QrU B h rfl h4 ha))
 | c, .rev a, x, tx, t => Qx tx none fun _ _ => Qpc t none fun _ => Qaj x none fun g xs ks _ => Qx g none fun f _ => Qad ks none (on1 xs none fun y => Qbg f c "reversed" none fun h => ckB (Qm [y]) fun h4 => ckA (ckE B hc hf c a y) fun ha => yes (Qtm B h rfl h4 ha))
end
noncomputable def QtI {c : Lx} {k : Nat} {x : Str} {p pos : Pos} {e : PE} {v : Expr} (h1 : QK c k x = true) (ce : Ck (SE K n c cl e v)) (cf : (f : PF) → Ck (SFU K n c cl f v)) : Ck (SS K n c cl (.asg k e) (.Assign [.Name x p] v pos)) :=
 ckO (ckB (noSD v) fun h2 => ckP fun hw => ckA ce fun h3 => yes (QsB h1 h2 hw h3))
  (match e with
  | .mk _ f => ckA (cf f) fun h3 => ckA (onLC v none fun _ _ _ _ => yes ⟨_, _, _, _, rfl⟩ : Ck (∃ elt gens scope cp, v = .ListComp elt gens scope cp)) fun h4 => ckB (Qpa c v x p) fun hw => yes (by obtain ⟨elt, gens, scope, cp, rfl⟩ := h4; exact QrC h1 hw (h3.2 _ _ _ _ rfl))
  | _ => none)
noncomputable def Qus {c : Lx} {ks : List Nat} {es : PEs} {ts vs : List Expr} {j j' : Nat} {p p' pos : Pos} (h1 : QiO es = vs.length) (h2 : small vs.length = true) (h3 : SEs K n c cl es vs) : Ck (SS K n c cl (.par ks es) (.Assign [.Tuple ts j p] (.Tuple vs j' p') pos)) :=
 match hq : QmP c ts vs with
 | some none => ckA (Qkj c ks ts) fun h4 => yes (Qsk h4 hq h1 h2 h3)
 | some (some names) => ckA (Qnw c ks names) fun h4 => yes (Qrd h4 hq h1 h2 h3)
 | none => none
mutual
noncomputable def ckS (B : Bs K) (hc : SC K n cl) (hf : fm = K.fnm) : (c : Lx) → (s : PS) → (x : Stmt) → Ck (SS K n c cl s x)
 | c, .asg k e, s => Qmq s none fun ts v _ => on1 ts none fun t => Qx t none fun x p => ckB (QK c k x) fun h1 => QtI h1 (ckE B hc hf c e v) (fun f => ckF B hc hf c f v)
 | c, .par ks es, s => Qmq s none fun ts v _ => on1 ts none fun t => QfR t none fun ts _ _ => QfR v none fun vs _ _ => ckP fun h1 => ckB (small vs.length) fun h2 => ckA (ckEs B hc hf c es vs) fun h3 => Qus h1 h2 h3
 | c, .unp ks e, s => Qmq s none fun ts v _ => on1 ts none fun t => QfR t none fun ts _ _ => ckA (Qkj c ks ts) fun h1 => ckB (QnM v) fun h2 => ckA (ckE B hc hf c e v) fun h3 => yes (QsS h1 h2 h3)
 | c, .setI k i e, s => Qmq s none fun ts v _ => on1 ts none fun t => QhR t none fun z y _ => Qx z none fun x _ => ckB (QW c k x) fun h1 => ckA (ckE B hc hf c e v) fun h2 => ckA (ckE B hc hf c i y) fun h3 => yes (Qrz h1 h2 h3)
 | c, .set2 k i j a b, s => Qmq s none fun ts v _ => on1 ts none fun t => QfR t none fun ts _ _ => on2 ts none fun t1 t2 => QhR t1 none fun z y q => QhR t2 none fun z' y' q' => Qx z none fun x p => Qx z' none fun x' p' => QfR v none fun vs _ _ => on2 vs none fun va vb => 
   ckB (QW c k x) fun h1 => ckB (QW c k x') fun h2 => ckP fun h3 => ckB (Qm [va, vb]) fun h4 => ckA (ckE B hc hf c i y) fun h5 => ckA (ckE B hc hf c j y') fun h6 => ckA (ckE B hc hf c a va) fun h7 => ckA (ckE B hc hf c b vb) fun h8 => yes (QqI h1 h2 h3 h4 h5 h6 h7 h8)
 | c, .aug k op e, s => Qun s none fun t o v _ => Qx t none fun x _ => ckB (QqY op) fun h1 => ckP fun h2 => ckB (QW c k x) fun h3 => ckB (QK c k x) fun h4 => ckA (ckE B hc hf c e v) fun h5 => yes (QsV h1 h2 h3 h4 h5)
 | c, .app k e, s => onX s none fun z _ => Qaj z none fun g vs ks sp => Qqm g none fun z nm ap => Qx z none fun x _ => on1 vs none fun v => Qad ks none (onEq nm "append" none (ckB (QW c k x) fun h2 => ckB (ap.endLine == sp.line) fun h3 => ckB (Qcg v) fun h4 => ckA (ckE B hc hf c e v) fun h5 => yes (Qsn h2 h3 h4 h5)))
 | c, .expr e, s => onX s none fun x _ => ckP fun h1 => ckA (ckE B hc hf c e x) fun h2 => yes (QqN h1 h2)
 | c, .ite e a b, s => Quj s none fun x xs ys _ => ckA (ckT B hc hf c e x) fun h1 => ckA (ckBk B hc hf c a xs) fun h2 => ckA (ckBk B hc hf c b ys) fun h3 => yes (QtB h1 h2 h3)
 | c, .whl e b, s => QuB s none fun x xs ys _ => Qad ys none (ckA (ckT B hc hf c e x) fun h1 => ckA (ckBk B hc hf c b xs) fun h2 => yes (QsO h1 h2))
 | c, .forr t i b, s => QtS s none fun tx iter xs ys _ => Qad ys none (ckB (QbF iter) fun h1 => ckA (QmB c t tx) fun h2 => ckA (ckI B hc hf c i iter tx t) fun h3 => ckA (ckBk B hc hf c b xs) fun h4 => yes (QqW h1 h2 h3 h4))
 | c, .ret e, s => Qty s none fun o _ => Qdp o none fun x => ckA (ckE B hc hf c e x) fun h => yes (Qsg h)
 | c, .rett es, s => Qty s none fun o _ => Qdp o none fun x => QfR x none fun xs _ _ => ckA (ckEs B hc hf c es xs) fun h => yes (QrQ h)
 | c, .raise, s => onRaise s none fun o o2 _ => Qcm o2 none (Qdp o none fun x => Qaj x none fun g args ks _ => Qx g none fun x _ => Qad ks none (ckB (QF c x) fun h1 => ckP fun h2 => ckA (QqP args) fun h3 => yes (QpN B h1 h2 h3)))
 | c, .tryInc k e, s => Qul s none fun bd hs l1 l2 _ => Qad l1 none (Qad l2 none (on1 bd none fun b => onX b none fun x _ => on1 hs none fun h => QtO h fun o o2 hb _ => Qcm o2 none (Qdp o none fun z => Qx z none fun nm _ => on1 hb none fun a => Qmq a none fun ts v _ => on1 ts none fun t => Qx t none fun cn _ => QoX v none fun l op r _ => Qx l none fun cn' _ => onEq op .Add none (Qdc r none fun kk _ _ => onKI kk none fun i => onEq i 1 none (ckP fun h1 => ckB (QF c nm) fun h2 => ckP fun h3 => ckB (QW c k cn') fun h4 => ckB (QK c k cn) fun h5 => ckA (ckE B hc hf c e x) fun h6 => yes (Qnz B h1 h2 h3 h4 h5 h6))))))
 | _, .dead, _ => yes Qrf
noncomputable def ckBk (B : Bs K) (hc : SC K n cl) (hf : fm = K.fnm) : (c : Lx) → (b : PB) → (xs : List Stmt) → Ck (SB K n c cl b xs)
 | c, .nil, xs => Qad xs none (yes QtC)
 | c, .cons s r, xs => Qgn xs none fun x ys => ckA (ckS B hc hf c s x) fun h1 => ckA (ckBk B hc hf c r ys) fun h2 => yes (QqA h1 h2)
end
end
noncomputable def T_normal_0 : PE := (.and (.cmp .gt (.loc 1) (.kd (.int 0))) (.cmp .eq (.idx (.loc 0) (.bin .sub (.loc 1) (.kd (.int 1)))) (.kd (.int 0))))
noncomputable def B_normal_0 : PB := (.cons (.aug 1 .sub (.kd (.int 1))) .nil)
noncomputable def QlJ : Fn := ⟨1, 1, 0, [("a", 0), ("end", 1)],
 (.cons (.asg 1 (.len (.loc 0))) (.cons (.whl T_normal_0 B_normal_0) (.cons (.ret (.mk false (.slcU (.loc 0) (.loc 1)))) .nil)))⟩
noncomputable def T_nat_of_0 : PE := (.cmp .gt (.loc 0) (.kd (.int 0)))
noncomputable def B_nat_of_0 : PB := (.cons (.app 2 (.bin .and (.loc 0) (.loc 3))) (.cons (.aug 0 .shr (.loc 1)) .nil))
noncomputable def Qlk : Fn := ⟨2, 2, 0, [("number", 0), ("w", 1), ("found", 2), ("mask", 3)],
 (.cons (.ite (.cmp .lt (.loc 0) (.kd (.int 0))) (.cons .dead .nil) .nil) (.cons (.par [2, 3] (.cons (.mk true (.list .nil)) (.cons (.bin .sub (.bin .shl (.kd (.int 1)) (.loc 1)) (.kd (.int 1))) .nil))) (.cons (.whl T_nat_of_0 B_nat_of_0) (.cons (.ret (.loc 2)) .nil))))⟩
noncomputable def B_compare_0 : PB := (.cons (.ite (.cmp .ne (.idx (.loc 0) (.loc 2)) (.idx (.loc 1) (.loc 2))) (.cons (.ret (.ite (.cmp .lt (.idx (.loc 0) (.loc 2)) (.idx (.loc 1) (.loc 2))) (.neg (.kd (.int 1))) (.kd (.int 1)))) .nil) .nil) .nil)
noncomputable def QcH : Fn := ⟨2, 1, 0, [("a", 0), ("b", 1), ("at", 2)],
 (.cons (.ite (.cmp .ne (.len (.loc 0)) (.len (.loc 1))) (.cons (.ret (.ite (.cmp .lt (.len (.loc 0)) (.len (.loc 1))) (.neg (.kd (.int 1))) (.kd (.int 1)))) .nil) .nil) (.cons (.forr (.one 2) (.rangeD (.bin .sub (.len (.loc 0)) (.kd (.int 1)))) B_compare_0) (.cons (.ret (.kd (.int 0))) .nil)))⟩
noncomputable def B_add_0 : PB := (.cons (.aug 4 .add (.bin .add (.idx (.loc 0) (.loc 6)) (.idx (.loc 1) (.loc 6)))) (.cons (.app 3 (.bin .and (.loc 4) (.loc 5))) (.cons (.aug 4 .shr (.loc 2)) .nil)))
noncomputable def B_add_1 : PB := (.cons (.aug 4 .add (.idx (.loc 0) (.loc 6))) (.cons (.app 3 (.bin .and (.loc 4) (.loc 5))) (.cons (.aug 4 .shr (.loc 2)) .nil)))
noncomputable def QpO : Fn := ⟨3, 4, 0, [("a", 0), ("b", 1), ("w", 2), ("found", 3), ("carry", 4), ("mask", 5), ("at", 6)],
 (.cons (.ite (.cmp .lt (.len (.loc 0)) (.len (.loc 1))) (.cons (.par [0, 1] (.cons (.loc 1) (.cons (.loc 0) .nil))) .nil) .nil) (.cons (.par [3, 4, 5] (.cons (.mk true (.list .nil)) (.cons (.kd (.int 0)) (.cons (.bin .sub (.bin .shl (.kd (.int 1)) (.loc 2)) (.kd (.int 1))) .nil)))) (.cons (.forr (.one 6) (.range1 (.len (.loc 1))) B_add_0) (.cons (.forr (.one 6) (.range2 (.len (.loc 1)) (.len (.loc 0))) B_add_1) (.cons (.ite (.cmp .gt (.loc 4) (.kd (.int 0))) (.cons (.app 3 (.loc 4)) .nil) .nil) (.cons (.ret (.loc 3)) .nil))))))⟩
noncomputable def B_sub_0 : PB := (.cons (.asg 7 (.bin .sub (.bin .sub (.idx (.loc 0) (.loc 6)) (.loc 4)) (.ite (.cmp .lt (.loc 6) (.len (.loc 1))) (.idx (.loc 1) (.loc 6)) (.kd (.int 0))))) (.cons (.asg 4 (.ite (.cmp .lt (.loc 7) (.kd (.int 0))) (.kd (.int 1)) (.kd (.int 0)))) (.cons (.app 3 (.ite (.cmp .lt (.loc 7) (.kd (.int 0))) (.bin .add (.loc 7) (.loc 5)) (.loc 7))) .nil)))
noncomputable def Qte : Fn := ⟨3, 5, 0, [("a", 0), ("b", 1), ("w", 2), ("found", 3), ("borrow", 4), ("base", 5), ("at", 6), ("limb", 7)],
 (.cons (.ite (.cmp .lt (.call 2 (.cons (.loc 0) (.cons (.loc 1) .nil))) (.kd (.int 0))) (.cons .dead .nil) .nil) (.cons (.par [3, 4, 5] (.cons (.mk true (.list .nil)) (.cons (.kd (.int 0)) (.cons (.bin .shl (.kd (.int 1)) (.loc 2)) .nil)))) (.cons (.forr (.one 6) (.range1 (.len (.loc 0))) B_sub_0) (.cons (.ret (.call 0 (.cons (.loc 3) .nil))) .nil))))⟩
noncomputable def B_add_limb_0 : PB := (.cons (.aug 1 .add (.loc 5)) (.cons (.app 3 (.bin .and (.loc 1) (.loc 4))) (.cons (.aug 1 .shr (.loc 2)) .nil)))
noncomputable def Qmm : Fn := ⟨3, 3, 0, [("a", 0), ("limb", 1), ("w", 2), ("found", 3), ("mask", 4), ("one", 5)],
 (.cons (.par [3, 4] (.cons (.mk true (.list .nil)) (.cons (.bin .sub (.bin .shl (.kd (.int 1)) (.loc 2)) (.kd (.int 1))) .nil))) (.cons (.forr (.one 5) (.seq (.loc 0)) B_add_limb_0) (.cons (.ite (.cmp .gt (.loc 1) (.kd (.int 0))) (.cons (.app 3 (.loc 1)) .nil) .nil) (.cons (.ret (.loc 3)) .nil))))⟩
noncomputable def B_divrem_limb_0 : PB := (.cons (.asg 4 (.bin .or (.bin .shl (.loc 4) (.loc 2)) (.idx (.loc 0) (.loc 5)))) (.cons (.setI 3 (.loc 5) (.bin .div (.loc 4) (.loc 1))) (.cons (.aug 4 .mod (.loc 1)) .nil)))
noncomputable def Qcz : Fn := ⟨3, 3, 0, [("a", 0), ("limb", 1), ("w", 2), ("found", 3), ("rest", 4), ("at", 5)],
 (.cons (.ite (.cmp .eq (.loc 1) (.kd (.int 0))) (.cons .dead .nil) .nil) (.cons (.par [3, 4] (.cons (.mk true (.rep (.mk false (.list (.cons (.kd (.int 0)) .nil))) (.len (.loc 0)))) (.cons (.kd (.int 0)) .nil))) (.cons (.forr (.one 5) (.rangeD (.bin .sub (.len (.loc 0)) (.kd (.int 1)))) B_divrem_limb_0) (.cons (.rett (.cons (.call 0 (.cons (.loc 3) .nil)) (.cons (.loc 4) .nil))) .nil))))⟩
noncomputable def B_shift_left_0 : PB := (.cons (.aug 6 .or (.bin .shl (.loc 8) (.loc 4))) (.cons (.app 5 (.bin .and (.loc 6) (.loc 7))) (.cons (.aug 6 .shr (.loc 2)) .nil)))
noncomputable def QbR : Fn := ⟨3, 6, 0, [("a", 0), ("n", 1), ("w", 2), ("spots", 3), ("few", 4), ("found", 5), ("carry", 6), ("mask", 7), ("one", 8)],
 (.cons (.ite (.cmp .eq (.len (.loc 0)) (.kd (.int 0))) (.cons (.ret (.mk false (.list .nil))) .nil) .nil) (.cons (.par [3, 4] (.cons (.bin .div (.loc 1) (.loc 2)) (.cons (.bin .mod (.loc 1) (.loc 2)) .nil))) (.cons (.par [5, 6, 7] (.cons (.mk true (.rep (.mk false (.list (.cons (.kd (.int 0)) .nil))) (.loc 3))) (.cons (.kd (.int 0)) (.cons (.bin .sub (.bin .shl (.kd (.int 1)) (.loc 2)) (.kd (.int 1))) .nil)))) (.cons (.forr (.one 8) (.seq (.loc 0)) B_shift_left_0) (.cons (.ite (.cmp .gt (.loc 6) (.kd (.int 0))) (.cons (.app 5 (.loc 6)) .nil) .nil) (.cons (.ret (.loc 5)) .nil))))))⟩
noncomputable def B_shift_right_0 : PB := (.cons (.asg 8 (.ite (.cmp .lt (.bin .add (.loc 7) (.kd (.int 1))) (.len (.loc 0))) (.idx (.loc 0) (.bin .add (.loc 7) (.kd (.int 1)))) (.kd (.int 0)))) (.cons (.app 5 (.bin .and (.bin .or (.bin .shr (.idx (.loc 0) (.loc 7)) (.loc 4)) (.bin .shl (.loc 8) (.bin .sub (.loc 2) (.loc 4)))) (.loc 6))) .nil))
noncomputable def QcT : Fn := ⟨3, 6, 0, [("a", 0), ("n", 1), ("w", 2), ("spots", 3), ("few", 4), ("found", 5), ("mask", 6), ("at", 7), ("above", 8)],
 (.cons (.par [3, 4] (.cons (.bin .div (.loc 1) (.loc 2)) (.cons (.bin .mod (.loc 1) (.loc 2)) .nil))) (.cons (.par [5, 6] (.cons (.mk true (.list .nil)) (.cons (.bin .sub (.bin .shl (.kd (.int 1)) (.loc 2)) (.kd (.int 1))) .nil))) (.cons (.forr (.one 7) (.range2 (.loc 3) (.len (.loc 0))) B_shift_right_0) (.cons (.ret (.call 0 (.cons (.loc 5) .nil))) .nil))))⟩
noncomputable def Qqg : Fn := ⟨2, 0, 0, [("a", 0), ("w", 1)],
 (.cons (.ret (.ite (.cmp .gt (.len (.loc 0)) (.kd (.int 0))) (.bin .add (.bin .mul (.bin .sub (.len (.loc 0)) (.kd (.int 1))) (.loc 1)) (.bitlen (.idx (.loc 0) (.neg (.kd (.int 1)))))) (.kd (.int 0)))) .nil)⟩
noncomputable def QkW : Fn := ⟨2, 0, 0, [("is_below", 0), ("nat", 1)],
 (.cons (.rett (.cons (.and (.loc 0) (.cmp .gt (.len (.loc 1)) (.kd (.int 0)))) (.cons (.loc 1) .nil))) .nil)⟩
noncomputable def Qqs : Fn := ⟨2, 0, 0, [("number", 0), ("w", 1)],
 (.cons (.rett (.cons (.cmp .lt (.loc 0) (.kd (.int 0))) (.cons (.call 1 (.cons (.abs (.loc 0)) (.cons (.loc 1) .nil))) .nil))) .nil)⟩
noncomputable def Qok : Fn := ⟨1, 0, 0, [("x", 0)],
 (.cons (.ret (.call 10 (.cons (.not (.idx (.loc 0) (.kd (.int 0)))) (.cons (.idx (.loc 0) (.kd (.int 1))) .nil)))) .nil)⟩
noncomputable def QhL : Fn := ⟨1, 0, 0, [("x", 0)],
 (.cons (.ite (.cmp .eq (.len (.idx (.loc 0) (.kd (.int 1)))) (.kd (.int 0))) (.cons (.ret (.kd (.int 0))) .nil) .nil) (.cons (.ret (.ite (.idx (.loc 0) (.kd (.int 0))) (.neg (.kd (.int 1))) (.kd (.int 1)))) .nil))⟩
noncomputable def Qhw : Fn := ⟨3, 0, 0, [("x", 0), ("y", 1), ("w", 2)],
 (.cons (.ite (.cmp .eq (.idx (.loc 0) (.kd (.int 0))) (.idx (.loc 1) (.kd (.int 0)))) (.cons (.ret (.call 10 (.cons (.idx (.loc 0) (.kd (.int 0))) (.cons (.call 3 (.cons (.idx (.loc 0) (.kd (.int 1))) (.cons (.idx (.loc 1) (.kd (.int 1))) (.cons (.loc 2) .nil)))) .nil)))) .nil) .nil) (.cons (.ite (.cmp .lt (.call 2 (.cons (.idx (.loc 0) (.kd (.int 1))) (.cons (.idx (.loc 1) (.kd (.int 1))) .nil))) (.kd (.int 0))) (.cons (.ret (.call 10 (.cons (.idx (.loc 1) (.kd (.int 0))) (.cons (.call 4 (.cons (.idx (.loc 1) (.kd (.int 1))) (.cons (.idx (.loc 0) (.kd (.int 1))) (.cons (.loc 2) .nil)))) .nil)))) .nil) .nil) (.cons (.ret (.call 10 (.cons (.idx (.loc 0) (.kd (.int 0))) (.cons (.call 4 (.cons (.idx (.loc 0) (.kd (.int 1))) (.cons (.idx (.loc 1) (.kd (.int 1))) (.cons (.loc 2) .nil)))) .nil)))) .nil)))⟩
noncomputable def Qog : Fn := ⟨3, 0, 0, [("x", 0), ("y", 1), ("w", 2)],
 (.cons (.ret (.call 14 (.cons (.loc 0) (.cons (.call 12 (.cons (.loc 1) .nil)) (.cons (.loc 2) .nil))))) .nil)⟩
noncomputable def Qnd : Fn := ⟨4, 0, 0, [("x", 0), ("y", 1), ("w", 2), ("mul", 3)],
 (.cons (.ret (.call 10 (.cons (.cmp .ne (.idx (.loc 0) (.kd (.int 0))) (.idx (.loc 1) (.kd (.int 0)))) (.cons (.callv 3 (.cons (.idx (.loc 0) (.kd (.int 1))) (.cons (.idx (.loc 1) (.kd (.int 1))) (.cons (.loc 2) .nil)))) .nil)))) .nil)⟩
noncomputable def Qqu : Fn := ⟨4, 2, 0, [("x", 0), ("y", 1), ("w", 2), ("divrem", 3), ("quotient", 4), ("rest", 5)],
 (.cons (.ite (.cmp .eq (.len (.idx (.loc 1) (.kd (.int 1)))) (.kd (.int 0))) (.cons .dead .nil) .nil) (.cons (.unp [4, 5] (.callv 3 (.cons (.idx (.loc 0) (.kd (.int 1))) (.cons (.idx (.loc 1) (.kd (.int 1))) (.cons (.loc 2) .nil))))) (.cons (.rett (.cons (.call 10 (.cons (.cmp .ne (.idx (.loc 0) (.kd (.int 0))) (.idx (.loc 1) (.kd (.int 0)))) (.cons (.loc 4) .nil))) (.cons (.call 10 (.cons (.idx (.loc 0) (.kd (.int 0))) (.cons (.loc 5) .nil))) .nil))) .nil)))⟩
noncomputable def Qqx : Fn := ⟨4, 2, 0, [("x", 0), ("y", 1), ("w", 2), ("divrem", 3), ("quotient", 4), ("rest", 5)],
 (.cons (.unp [4, 5] (.call 17 (.cons (.loc 0) (.cons (.loc 1) (.cons (.loc 2) (.cons (.loc 3) .nil)))))) (.cons (.ite (.and (.cmp .gt (.len (.idx (.loc 5) (.kd (.int 1)))) (.kd (.int 0))) (.cmp .ne (.idx (.loc 0) (.kd (.int 0))) (.idx (.loc 1) (.kd (.int 0))))) (.cons (.rett (.cons (.tup (.cons (.kd (.bool true)) (.cons (.call 5 (.cons (.idx (.loc 4) (.kd (.int 1))) (.cons (.kd (.int 1)) (.cons (.loc 2) .nil)))) .nil))) (.cons (.call 14 (.cons (.loc 5) (.cons (.loc 1) (.cons (.loc 2) .nil)))) .nil))) .nil) .nil) (.cons (.rett (.cons (.loc 4) (.cons (.loc 5) .nil))) .nil)))⟩
noncomputable def E_m_unit_0 : PE := (.ite (.cmp .eq (.loc 1) (.loc 2)) (.glob true) (.glob false))
noncomputable def E_m_unit_1 : PE := (.mk false (.comp E_m_unit_0 (.one 2) (.range1 (.loc 0))))
noncomputable def QlB : Fn := ⟨1, 0, 2, [("size", 0)],
 (.cons (.ret (.mk false (.comp E_m_unit_1 (.one 1) (.range1 (.loc 0))))) .nil)⟩
noncomputable def E_m_turned_0 : PE := (.idx (.loc 2) (.loc 1))
noncomputable def E_m_turned_1 : PE := (.mk false (.comp E_m_turned_0 (.one 2) (.seq (.loc 0))))
noncomputable def QgJ : Fn := ⟨1, 0, 2, [("a", 0)],
 (.cons (.ret (.ite (.cmp .gt (.len (.loc 0)) (.kd (.int 0))) (.mk false (.comp E_m_turned_1 (.one 1) (.range1 (.len (.idx (.loc 0) (.kd (.int 0))))))) (.mk false (.list .nil)))) .nil)⟩
noncomputable def B_inner_0 : PB := (.cons (.asg 4 (.call 14 (.cons (.loc 4) (.cons (.call 16 (.cons (.loc 6) (.cons (.idx (.loc 1) (.loc 5)) (.cons (.loc 2) (.cons (.loc 3) .nil))))) (.cons (.loc 2) .nil))))) .nil)
noncomputable def QoE : Fn := ⟨4, 3, 0, [("one", 0), ("other", 1), ("w", 2), ("mul", 3), ("found", 4), ("at", 5), ("value", 6)],
 (.cons (.asg 4 (.glob false)) (.cons (.forr (.two 5 6) (.enum (.loc 0)) B_inner_0) (.cons (.ret (.loc 4)) .nil)))⟩
noncomputable def E_m_mul_0 : PE := (.call 21 (.cons (.loc 5) (.cons (.loc 6) (.cons (.loc 2) (.cons (.loc 3) .nil)))))
noncomputable def E_m_mul_1 : PE := (.mk false (.comp E_m_mul_0 (.one 6) (.seq (.loc 4))))
noncomputable def QoJ : Fn := ⟨4, 1, 2, [("a", 0), ("b", 1), ("w", 2), ("mul", 3), ("columns", 4)],
 (.cons (.asg 4 (.call 20 (.cons (.loc 1) .nil))) (.cons (.ret (.mk false (.comp E_m_mul_1 (.one 5) (.seq (.loc 0))))) .nil))⟩
noncomputable def E_m_led_0 : PE := (.call 21 (.cons (.loc 4) (.cons (.loc 1) (.cons (.loc 2) (.cons (.loc 3) .nil)))))
noncomputable def QoG : Fn := ⟨4, 0, 1, [("a", 0), ("column", 1), ("w", 2), ("mul", 3)],
 (.cons (.ret (.mk false (.comp E_m_led_0 (.one 4) (.seq (.loc 0))))) .nil)⟩
noncomputable def Qnr : Fn := ⟨4, 2, 0, [("x", 0), ("y", 1), ("w", 2), ("divrem", 3), ("found", 4), ("rest", 5)],
 (.cons (.unp [4, 5] (.call 17 (.cons (.loc 0) (.cons (.loc 1) (.cons (.loc 2) (.cons (.loc 3) .nil)))))) (.cons (.ret (.loc 4)) .nil))⟩
noncomputable def B_pivot_row_0 : PB := (.cons (.ite (.cmp .ne (.call 13 (.cons (.idx (.idx (.loc 0) (.loc 3)) (.loc 2)) .nil)) (.kd (.int 0))) (.cons (.ret (.loc 3)) .nil) .nil) .nil)
noncomputable def QfP : Fn := ⟨3, 1, 0, [("rows", 0), ("top", 1), ("column", 2), ("at", 3)],
 (.cons (.forr (.one 3) (.range2 (.loc 1) (.len (.loc 0))) B_pivot_row_0) (.cons (.ret (.neg (.kd (.int 1)))) .nil))⟩
noncomputable def B_cleared_0 : PB := (.cons (.asg 12 (.call 15 (.cons (.call 16 (.cons (.loc 11) (.cons (.loc 7) (.cons (.loc 4) (.cons (.loc 5) .nil))))) (.cons (.call 16 (.cons (.loc 8) (.cons (.idx (.loc 1) (.loc 10)) (.cons (.loc 4) (.cons (.loc 5) .nil))))) (.cons (.loc 4) .nil))))) (.cons (.app 9 (.call 24 (.cons (.loc 12) (.cons (.loc 3) (.cons (.loc 4) (.cons (.loc 6) .nil)))))) .nil))
noncomputable def QiG : Fn := ⟨7, 6, 0, [("row", 0), ("head", 1), ("column", 2), ("before", 3), ("w", 4), ("mul", 5), ("divrem", 6), ("pivot", 7), ("own", 8), ("found", 9), ("at", 10), ("value", 11), ("here", 12)],
 (.cons (.par [7, 8] (.cons (.idx (.loc 1) (.loc 2)) (.cons (.idx (.loc 0) (.loc 2)) .nil))) (.cons (.asg 9 (.mk true (.list .nil))) (.cons (.forr (.two 10 11) (.enum (.loc 0)) B_cleared_0) (.cons (.ret (.loc 9)) .nil))))⟩
noncomputable def E_steps_down_0 : PE := (.mk false (.slc (.loc 13)))
noncomputable def B_steps_down_0 : PB := (.cons (.setI 5 (.loc 12) (.call 26 (.cons (.idx (.loc 5) (.loc 12)) (.cons (.idx (.loc 5) (.loc 10)) (.cons (.loc 9) (.cons (.loc 8) (.cons (.loc 2) (.cons (.loc 3) (.cons (.loc 4) .nil))))))))) .nil)
noncomputable def B_steps_down_1 : PB := (.cons (.asg 10 (.len (.loc 6))) (.cons (.asg 11 (.call 25 (.cons (.loc 5) (.cons (.loc 10) (.cons (.loc 9) .nil))))) (.cons (.ite (.cmp .ge (.loc 11) (.kd (.int 0))) (.cons (.ite (.cmp .ne (.loc 11) (.loc 10)) (.cons (.set2 5 (.loc 10) (.loc 11) (.idx (.loc 5) (.loc 11)) (.idx (.loc 5) (.loc 10))) (.cons (.asg 7 (.not (.loc 7))) .nil)) .nil) (.cons (.forr (.one 12) (.range2 (.bin .add (.loc 10) (.kd (.int 1))) (.len (.loc 5))) B_steps_down_0) (.cons (.asg 8 (.idx (.idx (.loc 5) (.loc 10)) (.loc 9))) (.cons (.app 6 (.loc 9)) .nil)))) .nil) .nil)))
noncomputable def Qdn : Fn := ⟨5, 8, 1, [("a", 0), ("columns", 1), ("w", 2), ("mul", 3), ("divrem", 4), ("rows", 5), ("places", 6), ("is_odd", 7), ("before", 8), ("column", 9), ("top", 10), ("spot", 11), ("at", 12)],
 (.cons (.par [5, 6, 7, 8] (.cons (.mk true (.comp E_steps_down_0 (.one 13) (.seq (.loc 0)))) (.cons (.mk true (.list .nil)) (.cons (.kd (.bool false)) (.cons (.glob true) .nil))))) (.cons (.forr (.one 9) (.range1 (.loc 1)) B_steps_down_1) (.cons (.rett (.cons (.loc 5) (.cons (.loc 6) (.cons (.loc 7) .nil)))) .nil)))⟩
noncomputable def Qqw : Fn := ⟨4, 0, 0, [("a", 0), ("w", 1), ("mul", 2), ("divrem", 3)],
 (.cons (.ite (.cmp .eq (.len (.loc 0)) (.kd (.int 0))) (.cons (.ret (.kd (.int 0))) .nil) .nil) (.cons (.ret (.len (.idx (.call 27 (.cons (.loc 0) (.cons (.len (.idx (.loc 0) (.kd (.int 0)))) (.cons (.loc 1) (.cons (.loc 2) (.cons (.loc 3) .nil)))))) (.kd (.int 1))))) .nil))⟩
noncomputable def Qbq : Fn := ⟨4, 4, 0, [("a", 0), ("w", 1), ("mul", 2), ("divrem", 3), ("rows", 4), ("places", 5), ("is_odd", 6), ("last", 7)],
 (.cons (.ite (.cmp .eq (.len (.loc 0)) (.kd (.int 0))) (.cons (.ret (.glob true)) .nil) .nil) (.cons (.unp [4, 5, 6] (.call 27 (.cons (.loc 0) (.cons (.len (.loc 0)) (.cons (.loc 1) (.cons (.loc 2) (.cons (.loc 3) .nil))))))) (.cons (.ite (.cmp .lt (.len (.loc 5)) (.len (.loc 0))) (.cons (.ret (.glob false)) .nil) .nil) (.cons (.asg 7 (.idx (.idx (.loc 4) (.neg (.kd (.int 1)))) (.bin .sub (.len (.loc 0)) (.kd (.int 1))))) (.cons (.ret (.ite (.loc 6) (.call 12 (.cons (.loc 7) .nil)) (.loc 7))) .nil)))))⟩
noncomputable def E_solve_bareiss_0 : PE := (.mk false (.cat (.loc 15) (.mk false (.list (.cons (.idx (.loc 1) (.loc 14)) .nil)))))
noncomputable def B_solve_bareiss_0 : PB := (.cons (.asg 13 (.call 16 (.cons (.loc 10) (.cons (.idx (.idx (.loc 7) (.loc 12)) (.loc 5)) (.cons (.loc 2) (.cons (.loc 3) .nil)))))) (.cons (.asg 13 (.call 15 (.cons (.loc 13) (.cons (.call 21 (.cons (.mk false (.slcLU (.idx (.loc 7) (.loc 12)) (.bin .add (.loc 12) (.kd (.int 1))) (.loc 5))) (.cons (.mk false (.slcL (.loc 11) (.bin .add (.loc 12) (.kd (.int 1))))) (.cons (.loc 2) (.cons (.loc 3) .nil))))) (.cons (.loc 2) .nil))))) (.cons (.setI 11 (.loc 12) (.call 24 (.cons (.loc 13) (.cons (.idx (.idx (.loc 7) (.loc 12)) (.loc 12)) (.cons (.loc 2) (.cons (.loc 4) .nil)))))) .nil)))
noncomputable def QaK : Fn := ⟨5, 9, 2, [("a", 0), ("column", 1), ("w", 2), ("mul", 3), ("divrem", 4), ("size", 5), ("wide", 6), ("rows", 7), ("places", 8), ("is_odd", 9), ("divisor", 10), ("found", 11), ("at", 12), ("here", 13)],
 (.cons (.asg 5 (.len (.loc 0))) (.cons (.asg 6 (.mk false (.comp E_solve_bareiss_0 (.two 14 15) (.enum (.loc 0))))) (.cons (.unp [7, 8, 9] (.call 27 (.cons (.loc 6) (.cons (.loc 5) (.cons (.loc 2) (.cons (.loc 3) (.cons (.loc 4) .nil))))))) (.cons (.ite (.cmp .lt (.len (.loc 8)) (.loc 5)) (.cons .raise .nil) .nil) (.cons (.ite (.cmp .eq (.loc 5) (.kd (.int 0))) (.cons (.rett (.cons (.mk false (.list .nil)) (.cons (.glob true) .nil))) .nil) .nil) (.cons (.asg 10 (.idx (.idx (.loc 7) (.neg (.kd (.int 1)))) (.bin .sub (.loc 5) (.kd (.int 1))))) (.cons (.asg 11 (.mk true (.rep (.mk false (.list (.cons (.glob false) .nil))) (.loc 5)))) (.cons (.forr (.one 12) (.rangeD (.bin .sub (.loc 5) (.kd (.int 1)))) B_solve_bareiss_0) (.cons (.rett (.cons (.loc 11) (.cons (.loc 10) .nil))) .nil)))))))))⟩
noncomputable def B_adjoint_0 : PB := (.cons (.unp [7, 5] (.call 30 (.cons (.loc 0) (.cons (.loc 6) (.cons (.loc 1) (.cons (.loc 2) (.cons (.loc 3) .nil))))))) (.cons (.app 4 (.loc 7)) .nil))
noncomputable def Qfv : Fn := ⟨4, 4, 0, [("a", 0), ("w", 1), ("mul", 2), ("divrem", 3), ("columns", 4), ("divisor", 5), ("column", 6), ("found", 7)],
 (.cons (.par [4, 5] (.cons (.mk true (.list .nil)) (.cons (.glob true) .nil))) (.cons (.forr (.one 6) (.seq (.call 19 (.cons (.len (.loc 0)) .nil))) B_adjoint_0) (.cons (.rett (.cons (.call 64 (.cons (.loc 4) .nil)) (.cons (.loc 5) .nil))) .nil)))⟩
noncomputable def B_rest_plain_0 : PB := (.cons (.asg 3 (.bin .mod (.bin .add (.bin .shl (.loc 3) (.loc 2)) (.loc 4)) (.loc 1))) .nil)
noncomputable def QdK : Fn := ⟨3, 2, 0, [("x", 0), ("p", 1), ("w", 2), ("found", 3), ("limb", 4)],
 (.cons (.asg 3 (.kd (.int 0))) (.cons (.forr (.one 4) (.rev (.idx (.loc 0) (.kd (.int 1)))) B_rest_plain_0) (.cons (.ret (.ite (.idx (.loc 0) (.kd (.int 0))) (.bin .mod (.neg (.loc 3)) (.loc 1)) (.loc 3))) .nil)))⟩
noncomputable def T_is_plain_prime_0 : PE := (.cmp .le (.bin .mul (.loc 1) (.loc 1)) (.loc 0))
noncomputable def B_is_plain_prime_0 : PB := (.cons (.ite (.cmp .eq (.bin .mod (.loc 0) (.loc 1)) (.kd (.int 0))) (.cons (.ret (.kd (.bool false))) .nil) .nil) (.cons (.aug 1 .add (.kd (.int 1))) .nil))
noncomputable def QR : Fn := ⟨1, 1, 0, [("p", 0), ("d", 1)],
 (.cons (.ite (.cmp .lt (.loc 0) (.kd (.int 2))) (.cons (.ret (.kd (.bool false))) .nil) .nil) (.cons (.asg 1 (.kd (.int 2))) (.cons (.whl T_is_plain_prime_0 B_is_plain_prime_0) (.cons (.ret (.kd (.bool true))) .nil))))⟩
noncomputable def T_next_plain_prime_0 : PE := (.not (.call 33 (.cons (.loc 0) .nil)))
noncomputable def B_next_plain_prime_0 : PB := (.cons (.aug 0 .add (.kd (.int 1))) .nil)
noncomputable def QaN : Fn := ⟨1, 0, 0, [("p", 0)],
 (.cons (.aug 0 .add (.kd (.int 1))) (.cons (.whl T_next_plain_prime_0 B_next_plain_prime_0) (.cons (.ret (.loc 0)) .nil)))⟩
noncomputable def E_det_rest_0 : PE := (.mk false (.slc (.loc 8)))
noncomputable def E_det_rest_1 : PE := (.loc 8)
noncomputable def E_det_rest_2 : PE := (.bin .mod (.bin .sub (.loc 9) (.bin .mul (.loc 7) (.idx (.idx (.loc 0) (.loc 3)) (.loc 8)))) (.loc 1))
noncomputable def B_det_rest_0 : PB := (.cons (.asg 7 (.bin .mod (.bin .mul (.idx (.idx (.loc 0) (.loc 6)) (.loc 3)) (.loc 5)) (.loc 1))) (.cons (.setI 0 (.loc 6) (.mk false (.comp E_det_rest_2 (.two 8 9) (.enum (.idx (.loc 0) (.loc 6)))))) .nil))
noncomputable def B_det_rest_1 : PB := (.cons (.asg 4 (.mk false (.compIf E_det_rest_1 (.one 8) (.range2 (.loc 3) (.len (.loc 0))) (.cmp .ne (.idx (.idx (.loc 0) (.loc 8)) (.loc 3)) (.kd (.int 0)))))) (.cons (.ite (.cmp .eq (.len (.loc 4)) (.kd (.int 0))) (.cons (.ret (.kd (.int 0))) .nil) .nil) (.cons (.ite (.cmp .ne (.idx (.loc 4) (.kd (.int 0))) (.loc 3)) (.cons (.set2 0 (.loc 3) (.idx (.loc 4) (.kd (.int 0))) (.idx (.loc 0) (.idx (.loc 4) (.kd (.int 0)))) (.idx (.loc 0) (.loc 3))) (.cons (.asg 2 (.bin .mod (.neg (.loc 2)) (.loc 1))) .nil)) .nil) (.cons (.asg 2 (.bin .mod (.bin .mul (.loc 2) (.idx (.idx (.loc 0) (.loc 3)) (.loc 3))) (.loc 1))) (.cons (.asg 5 (.powm (.idx (.idx (.loc 0) (.loc 3)) (.loc 3)) (.bin .sub (.loc 1) (.kd (.int 2))) (.loc 1))) (.cons (.forr (.one 6) (.range2 (.bin .add (.loc 3) (.kd (.int 1))) (.len (.loc 0))) B_det_rest_0) .nil))))))
noncomputable def QbT : Fn := ⟨2, 6, 2, [("rows", 0), ("p", 1), ("found", 2), ("at", 3), ("spots", 4), ("back", 5), ("spot", 6), ("part", 7)],
 (.cons (.par [0, 2] (.cons (.mk true (.comp E_det_rest_0 (.one 8) (.seq (.loc 0)))) (.cons (.kd (.int 1)) .nil))) (.cons (.forr (.one 3) (.range1 (.len (.loc 0))) B_det_rest_1) (.cons (.ret (.loc 2)) .nil)))⟩
noncomputable def B_row_bound_0 : PB := (.cons (.asg 2 (.call 3 (.cons (.loc 2) (.cons (.idx (.loc 3) (.kd (.int 1))) (.cons (.loc 1) .nil))))) .nil)
noncomputable def Qfu : Fn := ⟨2, 2, 0, [("row", 0), ("w", 1), ("found", 2), ("one", 3)],
 (.cons (.asg 2 (.mk false (.list .nil))) (.cons (.forr (.one 3) (.seq (.loc 0)) B_row_bound_0) (.cons (.ret (.loc 2)) .nil)))⟩
noncomputable def B_det_bound_0 : PB := (.cons (.asg 3 (.callv 2 (.cons (.loc 3) (.cons (.call 36 (.cons (.loc 4) (.cons (.loc 1) .nil))) (.cons (.loc 1) .nil))))) .nil)
noncomputable def Qew : Fn := ⟨3, 2, 0, [("a", 0), ("w", 1), ("mul", 2), ("found", 3), ("row", 4)],
 (.cons (.asg 3 (.mk false (.list (.cons (.kd (.int 1)) .nil)))) (.cons (.forr (.one 4) (.seq (.loc 0)) B_det_bound_0) (.cons (.ret (.loc 3)) .nil)))⟩
noncomputable def QcO : Fn := ⟨6, 3, 0, [("value", 0), ("modulus", 1), ("rest", 2), ("p", 3), ("w", 4), ("mul", 5), ("here", 6), ("step", 7), ("times", 8)],
 (.cons (.par [6, 7] (.cons (.call 32 (.cons (.tup (.cons (.kd (.bool false)) (.cons (.loc 0) .nil))) (.cons (.loc 3) (.cons (.loc 4) .nil)))) (.cons (.call 32 (.cons (.tup (.cons (.kd (.bool false)) (.cons (.loc 1) .nil))) (.cons (.loc 3) (.cons (.loc 4) .nil)))) .nil))) (.cons (.asg 8 (.bin .mod (.bin .mul (.bin .sub (.loc 2) (.loc 6)) (.powm (.loc 7) (.bin .sub (.loc 3) (.kd (.int 2))) (.loc 3))) (.loc 3))) (.cons (.ret (.call 3 (.cons (.loc 0) (.cons (.callv 5 (.cons (.loc 1) (.cons (.call 1 (.cons (.loc 8) (.cons (.loc 4) .nil))) (.cons (.loc 4) .nil)))) (.cons (.loc 4) .nil))))) .nil)))⟩
noncomputable def T_det_primes_0 : PE := (.cmp .le (.call 2 (.cons (.loc 6) (.cons (.loc 4) .nil))) (.kd (.int 0)))
noncomputable def E_det_primes_0 : PE := (.call 32 (.cons (.loc 10) (.cons (.loc 7) (.cons (.loc 1) .nil))))
noncomputable def E_det_primes_1 : PE := (.mk false (.comp E_det_primes_0 (.one 10) (.seq (.loc 9))))
noncomputable def B_det_primes_0 : PB := (.cons (.asg 7 (.call 34 (.cons (.loc 7) .nil))) (.cons (.asg 8 (.call 35 (.cons (.mk false (.comp E_det_primes_1 (.one 9) (.seq (.loc 0)))) (.cons (.loc 7) .nil)))) (.cons (.asg 5 (.call 38 (.cons (.loc 5) (.cons (.loc 6) (.cons (.loc 8) (.cons (.loc 7) (.cons (.loc 1) (.cons (.loc 2) .nil)))))))) (.cons (.asg 6 (.callv 2 (.cons (.loc 6) (.cons (.call 1 (.cons (.loc 7) (.cons (.loc 1) .nil))) (.cons (.loc 1) .nil))))) .nil))))
noncomputable def QbQ : Fn := ⟨4, 5, 2, [("a", 0), ("w", 1), ("mul", 2), ("first", 3), ("wanted", 4), ("value", 5), ("modulus", 6), ("p", 7), ("rest", 8)],
 (.cons (.asg 4 (.call 7 (.cons (.call 37 (.cons (.loc 0) (.cons (.loc 1) (.cons (.loc 2) .nil)))) (.cons (.kd (.int 1)) (.cons (.loc 1) .nil))))) (.cons (.par [5, 6, 7] (.cons (.mk false (.list .nil)) (.cons (.mk false (.list (.cons (.kd (.int 1)) .nil))) (.cons (.loc 3) .nil)))) (.cons (.whl T_det_primes_0 B_det_primes_0) (.cons (.ite (.cmp .gt (.call 2 (.cons (.call 7 (.cons (.loc 5) (.cons (.kd (.int 1)) (.cons (.loc 1) .nil)))) (.cons (.loc 6) .nil))) (.kd (.int 0))) (.cons (.ret (.call 10 (.cons (.kd (.bool true)) (.cons (.call 4 (.cons (.loc 6) (.cons (.loc 5) (.cons (.loc 1) .nil)))) .nil)))) .nil) .nil) (.cons (.ret (.call 10 (.cons (.kd (.bool false)) (.cons (.loc 5) .nil)))) .nil)))))⟩
noncomputable def E_inverse_rests_0 : PE := (.ite (.cmp .eq (.loc 9) (.loc 11)) (.kd (.int 1)) (.kd (.int 0)))
noncomputable def E_inverse_rests_1 : PE := (.mk false (.cat (.loc 10) (.mk false (.comp E_inverse_rests_0 (.one 11) (.range1 (.loc 2))))))
noncomputable def E_inverse_rests_2 : PE := (.loc 9)
noncomputable def E_inverse_rests_3 : PE := (.bin .mod (.bin .mul (.loc 9) (.loc 6)) (.loc 1))
noncomputable def E_inverse_rests_4 : PE := (.bin .mod (.bin .sub (.loc 10) (.bin .mul (.loc 8) (.idx (.idx (.loc 3) (.loc 4)) (.loc 9)))) (.loc 1))
noncomputable def B_inverse_rests_0 : PB := (.cons (.ite (.and (.cmp .ne (.loc 7) (.loc 4)) (.cmp .ne (.idx (.idx (.loc 3) (.loc 7)) (.loc 4)) (.kd (.int 0)))) (.cons (.asg 8 (.idx (.idx (.loc 3) (.loc 7)) (.loc 4))) (.cons (.setI 3 (.loc 7) (.mk false (.comp E_inverse_rests_4 (.two 9 10) (.enum (.idx (.loc 3) (.loc 7)))))) .nil)) .nil) .nil)
noncomputable def B_inverse_rests_1 : PB := (.cons (.asg 5 (.mk false (.compIf E_inverse_rests_2 (.one 9) (.range2 (.loc 4) (.loc 2)) (.cmp .ne (.idx (.idx (.loc 3) (.loc 9)) (.loc 4)) (.kd (.int 0)))))) (.cons (.ite (.cmp .eq (.len (.loc 5)) (.kd (.int 0))) (.cons (.ret (.kd .none)) .nil) .nil) (.cons (.set2 3 (.loc 4) (.idx (.loc 5) (.kd (.int 0))) (.idx (.loc 3) (.idx (.loc 5) (.kd (.int 0)))) (.idx (.loc 3) (.loc 4))) (.cons (.asg 6 (.powm (.idx (.idx (.loc 3) (.loc 4)) (.loc 4)) (.bin .sub (.loc 1) (.kd (.int 2))) (.loc 1))) (.cons (.setI 3 (.loc 4) (.mk false (.comp E_inverse_rests_3 (.one 9) (.seq (.idx (.loc 3) (.loc 4)))))) (.cons (.forr (.one 7) (.range1 (.loc 2)) B_inverse_rests_0) .nil))))))
noncomputable def E_inverse_rests_5 : PE := (.mk false (.slcL (.loc 9) (.loc 2)))
noncomputable def Qat : Fn := ⟨2, 7, 3, [("rows", 0), ("p", 1), ("size", 2), ("wide", 3), ("at", 4), ("spots", 5), ("back", 6), ("spot", 7), ("part", 8)],
 (.cons (.asg 2 (.len (.loc 0))) (.cons (.asg 3 (.mk true (.comp E_inverse_rests_1 (.two 9 10) (.enum (.loc 0))))) (.cons (.forr (.one 4) (.range1 (.loc 2)) B_inverse_rests_1) (.cons (.ret (.mk false (.compC E_inverse_rests_5 (.one 9) 3))) .nil))))⟩
noncomputable def T_lifting_prime_0 : PE := (.cmp .le (.call 2 (.cons (.loc 5) (.cons (.loc 4) .nil))) (.kd (.int 0)))
noncomputable def E_lifting_prime_0 : PE := (.call 32 (.cons (.loc 9) (.cons (.loc 6) (.cons (.loc 2) .nil))))
noncomputable def E_lifting_prime_1 : PE := (.mk false (.comp E_lifting_prime_0 (.one 9) (.seq (.loc 8))))
noncomputable def B_lifting_prime_0 : PB := (.cons (.asg 6 (.call 34 (.cons (.loc 6) .nil))) (.cons (.asg 7 (.call 40 (.cons (.mk false (.comp E_lifting_prime_1 (.one 8) (.seq (.loc 0)))) (.cons (.loc 6) .nil)))) (.cons (.ite (.notNone (.loc 7)) (.cons (.rett (.cons (.loc 6) (.cons (.loc 7) .nil))) .nil) .nil) (.cons (.asg 5 (.callv 3 (.cons (.loc 5) (.cons (.call 1 (.cons (.loc 6) (.cons (.loc 2) .nil))) (.cons (.loc 2) .nil))))) .nil))))
noncomputable def Qan : Fn := ⟨4, 4, 2, [("a", 0), ("first", 1), ("w", 2), ("mul", 3), ("bound", 4), ("product", 5), ("p", 6), ("found", 7)],
 (.cons (.par [4, 5, 6] (.cons (.call 37 (.cons (.loc 0) (.cons (.loc 2) (.cons (.loc 3) .nil)))) (.cons (.mk false (.list (.cons (.kd (.int 1)) .nil))) (.cons (.loc 1) .nil)))) (.cons (.whl T_lifting_prime_0 B_lifting_prime_0) (.cons .raise .nil)))⟩
noncomputable def E_lifted_digits_0 : PE := (.call 32 (.cons (.loc 15) (.cons (.loc 3) (.cons (.loc 5) .nil))))
noncomputable def E_lifted_digits_1 : PE := (.bin .mul (.idx (.loc 15) (.loc 16)) (.loc 17))
noncomputable def E_lifted_digits_2 : PE := (.bin .mod (.sum (.mk false (.comp E_lifted_digits_1 (.two 16 17) (.enum (.loc 12))))) (.loc 3))
noncomputable def E_lifted_digits_3 : PE := (.call 11 (.cons (.loc 15) (.cons (.loc 5) .nil)))
noncomputable def E_lifted_digits_4 : PE := (.call 24 (.cons (.call 15 (.cons (.loc 16) (.cons (.idx (.loc 14) (.loc 15)) (.cons (.loc 5) .nil)))) (.cons (.loc 10) (.cons (.loc 5) (.cons (.loc 7) .nil)))))
noncomputable def B_lifted_digits_0 : PB := (.cons (.asg 12 (.mk false (.comp E_lifted_digits_0 (.one 15) (.seq (.loc 8))))) (.cons (.asg 13 (.mk false (.comp E_lifted_digits_2 (.one 15) (.seq (.loc 2))))) (.cons (.app 9 (.loc 13)) (.cons (.asg 14 (.call 23 (.cons (.loc 0) (.cons (.mk false (.comp E_lifted_digits_3 (.one 15) (.seq (.loc 13)))) (.cons (.loc 5) (.cons (.loc 6) .nil)))))) (.cons (.asg 8 (.mk false (.comp E_lifted_digits_4 (.two 15 16) (.enum (.loc 8))))) .nil)))))
noncomputable def QbI : Fn := ⟨8, 7, 3, [("a", 0), ("column", 1), ("inverse", 2), ("p", 3), ("many", 4), ("w", 5), ("mul", 6), ("divrem", 7), ("rest", 8), ("found", 9), ("prime", 10), ("turn", 11), ("told", 12), ("digits", 13), ("made", 14)],
 (.cons (.par [8, 9, 10] (.cons (.mk false (.slc (.loc 1))) (.cons (.mk true (.list .nil)) (.cons (.tup (.cons (.kd (.bool false)) (.cons (.call 1 (.cons (.loc 3) (.cons (.loc 5) .nil))) .nil))) .nil)))) (.cons (.forr (.one 11) (.range1 (.loc 4)) B_lifted_digits_0) (.cons (.ret (.loc 9)) .nil)))⟩
noncomputable def T_fraction_of_0 : PE := (.cmp .gt (.call 2 (.cons (.idx (.loc 7) (.kd (.int 1))) (.cons (.loc 2) .nil))) (.kd (.int 0)))
noncomputable def B_fraction_of_0 : PB := (.cons (.unp [10, 11] (.call 18 (.cons (.loc 6) (.cons (.loc 7) (.cons (.loc 3) (.cons (.loc 5) .nil)))))) (.cons (.par [6, 7] (.cons (.loc 7) (.cons (.loc 11) .nil))) (.cons (.par [8, 9] (.cons (.loc 9) (.cons (.call 15 (.cons (.loc 8) (.cons (.call 16 (.cons (.loc 10) (.cons (.loc 9) (.cons (.loc 3) (.cons (.loc 4) .nil))))) (.cons (.loc 3) .nil)))) .nil))) .nil)))
noncomputable def QcS : Fn := ⟨6, 6, 0, [("value", 0), ("modulus", 1), ("bound", 2), ("w", 3), ("mul", 4), ("divrem", 5), ("one", 6), ("other", 7), ("here", 8), ("there", 9), ("quotient", 10), ("rest", 11)],
 (.cons (.par [6, 7, 8, 9] (.cons (.tup (.cons (.kd (.bool false)) (.cons (.loc 1) .nil))) (.cons (.tup (.cons (.kd (.bool false)) (.cons (.loc 0) .nil))) (.cons (.glob false) (.cons (.glob true) .nil))))) (.cons (.whl T_fraction_of_0 B_fraction_of_0) (.cons (.ite (.or (.cmp .eq (.call 13 (.cons (.loc 9) .nil)) (.kd (.int 0))) (.cmp .gt (.call 2 (.cons (.idx (.loc 9) (.kd (.int 1))) (.cons (.loc 2) .nil))) (.kd (.int 0)))) (.cons (.ret (.kd .none)) .nil) .nil) (.cons (.rett (.cons (.ite (.idx (.loc 9) (.kd (.int 0))) (.call 12 (.cons (.loc 7) .nil)) (.loc 7)) (.cons (.idx (.loc 9) (.kd (.int 1))) .nil))) .nil))))⟩
noncomputable def E_lift_bound_0 : PE := (.mk false (.cat (.loc 5) (.mk false (.list (.cons (.idx (.loc 1) (.loc 4)) .nil)))))
noncomputable def QdF : Fn := ⟨4, 0, 2, [("a", 0), ("column", 1), ("w", 2), ("mul", 3)],
 (.cons (.ret (.call 37 (.cons (.mk false (.comp E_lift_bound_0 (.two 4 5) (.enum (.loc 0)))) (.cons (.loc 2) (.cons (.loc 3) .nil))))) .nil)⟩
noncomputable def T_solve_dixon_0 : PE := (.cmp .le (.call 2 (.cons (.loc 10) (.cons (.loc 9) .nil))) (.kd (.int 0)))
noncomputable def B_solve_dixon_0 : PB := (.cons (.asg 10 (.callv 4 (.cons (.loc 10) (.cons (.call 1 (.cons (.loc 6) (.cons (.loc 3) .nil))) (.cons (.loc 3) .nil))))) (.cons (.aug 11 .add (.kd (.int 1))) .nil))
noncomputable def E_solve_dixon_0 : PE := (.mk false (.list .nil))
noncomputable def E_solve_dixon_1 : PE := (.call 3 (.cons (.callv 4 (.cons (.loc 15) (.cons (.call 1 (.cons (.loc 6) (.cons (.loc 3) .nil))) (.cons (.loc 3) .nil)))) (.cons (.call 1 (.cons (.idx (.loc 13) (.loc 14)) (.cons (.loc 3) .nil))) (.cons (.loc 3) .nil))))
noncomputable def B_solve_dixon_1 : PB := (.cons (.asg 12 (.mk false (.comp E_solve_dixon_1 (.two 14 15) (.enum (.loc 12))))) .nil)
noncomputable def E_solve_dixon_2 : PE := (.call 43 (.cons (.loc 14) (.cons (.loc 10) (.cons (.loc 8) (.cons (.loc 3) (.cons (.loc 4) (.cons (.loc 5) .nil)))))))
noncomputable def Qbr : Fn := ⟨6, 8, 2, [("a", 0), ("column", 1), ("first", 2), ("w", 3), ("mul", 4), ("divrem", 5), ("p", 6), ("inverse", 7), ("bound", 8), ("wanted", 9), ("modulus", 10), ("many", 11), ("values", 12), ("digits", 13)],
 (.cons (.unp [6, 7] (.call 41 (.cons (.loc 0) (.cons (.loc 2) (.cons (.loc 3) (.cons (.loc 4) .nil)))))) (.cons (.asg 8 (.call 44 (.cons (.loc 0) (.cons (.loc 1) (.cons (.loc 3) (.cons (.loc 4) .nil)))))) (.cons (.par [9, 10, 11] (.cons (.call 7 (.cons (.callv 4 (.cons (.loc 8) (.cons (.loc 8) (.cons (.loc 3) .nil)))) (.cons (.kd (.int 1)) (.cons (.loc 3) .nil)))) (.cons (.mk false (.list (.cons (.kd (.int 1)) .nil))) (.cons (.kd (.int 0)) .nil)))) (.cons (.whl T_solve_dixon_0 B_solve_dixon_0) (.cons (.asg 12 (.mk false (.comp E_solve_dixon_0 (.one 14) (.seq (.loc 0))))) (.cons (.forr (.one 13) (.rev (.call 42 (.cons (.loc 0) (.cons (.loc 1) (.cons (.loc 7) (.cons (.loc 6) (.cons (.loc 11) (.cons (.loc 3) (.cons (.loc 4) (.cons (.loc 5) .nil)))))))))) B_solve_dixon_1) (.cons (.ret (.mk false (.comp E_solve_dixon_2 (.one 14) (.seq (.loc 12))))) .nil)))))))⟩
noncomputable def B_mul_school_0 : PB := (.cons (.aug 7 .add (.bin .add (.idx (.loc 3) (.bin .add (.loc 5) (.loc 8))) (.bin .mul (.loc 6) (.loc 9)))) (.cons (.setI 3 (.bin .add (.loc 5) (.loc 8)) (.bin .and (.loc 7) (.loc 4))) (.cons (.aug 7 .shr (.loc 2)) .nil)))
noncomputable def B_mul_school_1 : PB := (.cons (.asg 7 (.kd (.int 0))) (.cons (.forr (.two 8 9) (.enum (.loc 1)) B_mul_school_0) (.cons (.setI 3 (.bin .add (.loc 5) (.len (.loc 1))) (.loc 7)) .nil)))
noncomputable def QdH : Fn := ⟨3, 7, 0, [("a", 0), ("b", 1), ("w", 2), ("found", 3), ("mask", 4), ("at", 5), ("limb", 6), ("carry", 7), ("spot", 8), ("other", 9)],
 (.cons (.par [3, 4] (.cons (.mk true (.rep (.mk false (.list (.cons (.kd (.int 0)) .nil))) (.bin .add (.len (.loc 0)) (.len (.loc 1))))) (.cons (.bin .sub (.bin .shl (.kd (.int 1)) (.loc 2)) (.kd (.int 1))) .nil))) (.cons (.forr (.two 5 6) (.enum (.loc 0)) B_mul_school_1) (.cons (.ret (.call 0 (.cons (.loc 3) .nil))) .nil)))⟩
noncomputable def Qci : Fn := ⟨3, 2, 0, [("a", 0), ("b", 1), ("w", 2), ("quotient", 3), ("rest", 4)],
 (.cons (.unp [3, 4] (.call 6 (.cons (.loc 0) (.cons (.idx (.loc 1) (.kd (.int 0))) (.cons (.loc 2) .nil))))) (.cons (.rett (.cons (.loc 3) (.cons (.ite (.cmp .gt (.loc 4) (.kd (.int 0))) (.mk false (.list (.cons (.loc 4) .nil))) (.mk false (.list .nil))) .nil))) .nil))⟩
noncomputable def T_guessed_limb_0 : PE := (.and (.cmp .lt (.loc 7) (.loc 5)) (.cmp .gt (.bin .mul (.loc 6) (.loc 2)) (.bin .or (.bin .shl (.loc 7) (.loc 3)) (.idx (.loc 0) (.kd (.int 0))))))
noncomputable def B_guessed_limb_0 : PB := (.cons (.aug 6 .sub (.kd (.int 1))) (.cons (.aug 7 .add (.loc 1)) .nil))
noncomputable def Qcj : Fn := ⟨4, 4, 0, [("top", 0), ("first", 1), ("second", 2), ("w", 3), ("high", 4), ("base", 5), ("limb", 6), ("rest", 7)],
 (.cons (.par [4, 5] (.cons (.bin .or (.bin .shl (.idx (.loc 0) (.kd (.int 2))) (.loc 3)) (.idx (.loc 0) (.kd (.int 1)))) (.cons (.bin .shl (.kd (.int 1)) (.loc 3)) .nil))) (.cons (.asg 6 (.min (.bin .div (.loc 4) (.loc 1)) (.bin .sub (.loc 5) (.kd (.int 1))))) (.cons (.asg 7 (.bin .sub (.loc 4) (.bin .mul (.loc 6) (.loc 1)))) (.cons (.whl T_guessed_limb_0 B_guessed_limb_0) (.cons (.ret (.loc 6)) .nil)))))⟩
noncomputable def B_take_away_0 : PB := (.cons (.asg 9 (.bin .sub (.idx (.loc 0) (.bin .add (.loc 3) (.loc 7))) (.bin .mod (.bin .add (.bin .mul (.loc 2) (.loc 8)) (.loc 5)) (.loc 6)))) (.cons (.asg 5 (.bin .add (.bin .div (.bin .add (.bin .mul (.loc 2) (.loc 8)) (.loc 5)) (.loc 6)) (.ite (.cmp .lt (.loc 9) (.kd (.int 0))) (.kd (.int 1)) (.kd (.int 0))))) (.cons (.setI 0 (.bin .add (.loc 3) (.loc 7)) (.ite (.cmp .lt (.loc 9) (.kd (.int 0))) (.bin .add (.loc 9) (.loc 6)) (.loc 9))) .nil)))
noncomputable def QeD : Fn := ⟨5, 5, 0, [("rest", 0), ("b", 1), ("limb", 2), ("at", 3), ("w", 4), ("carry", 5), ("base", 6), ("spot", 7), ("other", 8), ("here", 9)],
 (.cons (.par [5, 6] (.cons (.kd (.int 0)) (.cons (.bin .shl (.kd (.int 1)) (.loc 4)) .nil))) (.cons (.forr (.two 7 8) (.enum (.loc 1)) B_take_away_0) (.cons (.asg 9 (.bin .sub (.idx (.loc 0) (.bin .add (.loc 3) (.len (.loc 1)))) (.loc 5))) (.cons (.setI 0 (.bin .add (.loc 3) (.len (.loc 1))) (.ite (.cmp .lt (.loc 9) (.kd (.int 0))) (.bin .add (.loc 9) (.loc 6)) (.loc 9))) (.cons (.ret (.ite (.cmp .lt (.loc 9) (.kd (.int 0))) (.kd (.int 1)) (.kd (.int 0)))) .nil)))))⟩
noncomputable def B_put_back_0 : PB := (.cons (.aug 4 .add (.bin .add (.idx (.loc 0) (.bin .add (.loc 2) (.loc 6))) (.loc 7))) (.cons (.setI 0 (.bin .add (.loc 2) (.loc 6)) (.bin .and (.loc 4) (.loc 5))) (.cons (.aug 4 .shr (.loc 3)) .nil)))
noncomputable def Qmn : Fn := ⟨4, 4, 0, [("rest", 0), ("b", 1), ("at", 2), ("w", 3), ("carry", 4), ("mask", 5), ("spot", 6), ("other", 7)],
 (.cons (.par [4, 5] (.cons (.kd (.int 0)) (.cons (.bin .sub (.bin .shl (.kd (.int 1)) (.loc 3)) (.kd (.int 1))) .nil))) (.cons (.forr (.two 6 7) (.enum (.loc 1)) B_put_back_0) (.cons (.setI 0 (.bin .add (.loc 2) (.len (.loc 1))) (.bin .and (.bin .add (.idx (.loc 0) (.bin .add (.loc 2) (.len (.loc 1)))) (.loc 4)) (.loc 5))) .nil)))⟩
noncomputable def B_divide_rows_0 : PB := (.cons (.asg 6 (.call 48 (.cons (.mk false (.slcLU (.loc 0) (.bin .sub (.bin .add (.loc 5) (.loc 3)) (.kd (.int 2))) (.bin .add (.bin .add (.loc 5) (.loc 3)) (.kd (.int 1))))) (.cons (.idx (.loc 1) (.bin .sub (.loc 3) (.kd (.int 1)))) (.cons (.idx (.loc 1) (.bin .sub (.loc 3) (.kd (.int 2)))) (.cons (.loc 2) .nil)))))) (.cons (.ite (.cmp .eq (.call 49 (.cons (.loc 0) (.cons (.loc 1) (.cons (.loc 6) (.cons (.loc 5) (.cons (.loc 2) .nil)))))) (.kd (.int 1))) (.cons (.aug 6 .sub (.kd (.int 1))) (.cons (.expr (.call 50 (.cons (.loc 0) (.cons (.loc 1) (.cons (.loc 5) (.cons (.loc 2) .nil)))))) .nil)) .nil) (.cons (.setI 4 (.loc 5) (.loc 6)) .nil)))
noncomputable def QcD : Fn := ⟨3, 4, 0, [("rest", 0), ("b", 1), ("w", 2), ("size", 3), ("quotient", 4), ("at", 5), ("limb", 6)],
 (.cons (.asg 3 (.len (.loc 1))) (.cons (.asg 4 (.mk true (.rep (.mk false (.list (.cons (.kd (.int 0)) .nil))) (.bin .sub (.len (.loc 0)) (.loc 3))))) (.cons (.forr (.one 5) (.rangeD (.bin .sub (.bin .sub (.len (.loc 0)) (.loc 3)) (.kd (.int 1)))) B_divide_rows_0) (.cons (.ret (.loc 4)) .nil))))⟩
noncomputable def Qar : Fn := ⟨3, 4, 0, [("a", 0), ("b", 1), ("w", 2), ("shift", 3), ("divisor", 4), ("rest", 5), ("quotient", 6)],
 (.cons (.ite (.cmp .eq (.len (.loc 1)) (.kd (.int 0))) (.cons .dead .nil) .nil) (.cons (.ite (.cmp .lt (.call 2 (.cons (.loc 0) (.cons (.loc 1) .nil))) (.kd (.int 0))) (.cons (.rett (.cons (.mk false (.list .nil)) (.cons (.mk false (.slc (.loc 0))) .nil))) .nil) .nil) (.cons (.ite (.cmp .eq (.len (.loc 1)) (.kd (.int 1))) (.cons (.ret (.call 47 (.cons (.loc 0) (.cons (.loc 1) (.cons (.loc 2) .nil))))) .nil) .nil) (.cons (.asg 3 (.bin .sub (.loc 2) (.call 9 (.cons (.mk false (.list (.cons (.idx (.loc 1) (.neg (.kd (.int 1)))) .nil))) (.cons (.loc 2) .nil))))) (.cons (.asg 4 (.call 7 (.cons (.loc 1) (.cons (.loc 3) (.cons (.loc 2) .nil))))) (.cons (.asg 5 (.call 7 (.cons (.loc 0) (.cons (.loc 3) (.cons (.loc 2) .nil))))) (.cons (.asg 5 (.mk true (.cat (.loc 5) (.mk false (.rep (.mk false (.list (.cons (.kd (.int 0)) .nil))) (.bin .sub (.bin .add (.len (.loc 0)) (.kd (.int 1))) (.len (.loc 5)))))))) (.cons (.asg 6 (.call 51 (.cons (.loc 5) (.cons (.loc 4) (.cons (.loc 2) .nil))))) (.cons (.rett (.cons (.call 0 (.cons (.loc 6) .nil)) (.cons (.call 8 (.cons (.call 0 (.cons (.loc 5) .nil)) (.cons (.loc 3) (.cons (.loc 2) .nil)))) .nil))) .nil)))))))))⟩
noncomputable def QfC : Fn := ⟨2, 0, 0, [("bowl", 0), ("many", 1)],
 (.cons (.setI 0 (.kd (.int 0)) (.bin .add (.idx (.loc 0) (.kd (.int 0))) (.kd (.int 1)))) (.cons (.ite (.cmp .le (.idx (.loc 0) (.kd (.int 0))) (.len (.idx (.loc 0) (.kd (.int 1))))) (.cons (.ret (.bin .mod (.idx (.idx (.loc 0) (.kd (.int 1))) (.bin .sub (.idx (.loc 0) (.kd (.int 0))) (.kd (.int 1)))) (.loc 1))) .nil) .nil) (.cons (.ret (.bin .mod (.bin .add (.bin .add (.bin .mul (.kd (.int 7)) (.idx (.loc 0) (.kd (.int 0)))) (.bin .div (.idx (.loc 0) (.kd (.int 0))) (.kd (.int 2)))) (.kd (.int 2))) (.loc 1))) .nil)))⟩
noncomputable def T_law_signed_0 : PE := (.cmp .gt (.loc 2) (.kd (.int 0)))
noncomputable def B_law_signed_0 : PB := (.cons (.app 3 (.bin .mod (.loc 2) (.bin .pow (.kd (.int 2)) (.loc 1)))) (.cons (.asg 2 (.bin .div (.loc 2) (.bin .pow (.kd (.int 2)) (.loc 1)))) .nil))
noncomputable def Qdu : Fn := ⟨2, 2, 0, [("number", 0), ("w", 1), ("left", 2), ("limbs", 3)],
 (.cons (.par [2, 3] (.cons (.abs (.loc 0)) (.cons (.mk true (.list .nil)) .nil))) (.cons (.whl T_law_signed_0 B_law_signed_0) (.cons (.rett (.cons (.cmp .lt (.loc 0) (.kd (.int 0))) (.cons (.loc 3) .nil))) .nil)))⟩
noncomputable def E_law_grid_0 : PE := (.call 54 (.cons (.loc 3) (.cons (.loc 1) .nil)))
noncomputable def E_law_grid_1 : PE := (.mk false (.comp E_law_grid_0 (.one 3) (.seq (.loc 2))))
noncomputable def QgQ : Fn := ⟨2, 0, 2, [("rows", 0), ("w", 1)],
 (.cons (.ret (.mk false (.comp E_law_grid_1 (.one 2) (.seq (.loc 0))))) .nil)⟩
noncomputable def E_law_plain_0 : PE := (.bin .mul (.loc 4) (.bin .pow (.kd (.int 2)) (.bin .mul (.loc 1) (.loc 3))))
noncomputable def QeM : Fn := ⟨2, 1, 2, [("x", 0), ("w", 1), ("size", 2)],
 (.cons (.asg 2 (.sum (.mk false (.comp E_law_plain_0 (.two 3 4) (.enum (.idx (.loc 0) (.kd (.int 1)))))))) (.cons (.ret (.ite (.idx (.loc 0) (.kd (.int 0))) (.bin .sub (.kd (.int 0)) (.loc 2)) (.loc 2))) .nil))⟩
noncomputable def QeB : Fn := ⟨3, 0, 0, [("rows", 0), ("tops", 1), ("lefts", 2)],
 (.cons (.ret (.bin .sub (.bin .mul (.idx (.idx (.loc 0) (.idx (.loc 1) (.kd (.int 0)))) (.idx (.loc 2) (.kd (.int 0)))) (.idx (.idx (.loc 0) (.idx (.loc 1) (.kd (.int 1)))) (.idx (.loc 2) (.kd (.int 1))))) (.bin .mul (.idx (.idx (.loc 0) (.idx (.loc 1) (.kd (.int 0)))) (.idx (.loc 2) (.kd (.int 1)))) (.idx (.idx (.loc 0) (.idx (.loc 1) (.kd (.int 1)))) (.idx (.loc 2) (.kd (.int 0))))))) .nil)⟩
noncomputable def E_law_pairs_0 : PE := (.tup (.cons (.loc 2) (.cons (.loc 1) .nil)))
noncomputable def Qcr : Fn := ⟨1, 0, 2, [("many", 0)],
 (.cons (.ret (.mk false (.comp2 E_law_pairs_0 (.one 1) (.range1 (.loc 0)) (.one 2) (.range1 (.loc 1))))) .nil)⟩
noncomputable def B_law_rank_0 : PB := (.cons (.ite (.cmp .ne (.call 57 (.cons (.loc 0) (.cons (.loc 1) (.cons (.loc 2) .nil)))) (.kd (.int 0))) (.cons (.ret (.kd (.int 2))) .nil) .nil) .nil)
noncomputable def B_law_rank_1 : PB := (.cons (.forr (.one 2) (.seq (.call 58 (.cons (.len (.idx (.loc 0) (.kd (.int 0)))) .nil))) B_law_rank_0) .nil)
noncomputable def E_law_rank_0 : PE := (.cmp .ne (.loc 4) (.kd (.int 0)))
noncomputable def Qda : Fn := ⟨1, 2, 2, [("rows", 0), ("tops", 1), ("lefts", 2)],
 (.cons (.forr (.one 1) (.seq (.call 58 (.cons (.len (.loc 0)) .nil))) B_law_rank_1) (.cons (.ret (.ite (.any (.mk false (.comp2 E_law_rank_0 (.one 3) (.seq (.loc 0)) (.one 4) (.seq (.loc 3))))) (.kd (.int 1)) (.kd (.int 0)))) .nil))⟩
noncomputable def T_law_least_0 : PE := (.cmp .ne (.loc 3) (.kd (.int 0)))
noncomputable def B_law_least_0 : PB := (.cons (.par [2, 3] (.cons (.loc 3) (.cons (.bin .mod (.loc 2) (.loc 3)) .nil))) .nil)
noncomputable def Qct : Fn := ⟨2, 2, 0, [("above", 0), ("below", 1), ("one", 2), ("other", 3)],
 (.cons (.par [2, 3] (.cons (.abs (.loc 0)) (.cons (.abs (.loc 1)) .nil))) (.cons (.whl T_law_least_0 B_law_least_0) (.cons (.ret (.ite (.cmp .gt (.loc 1) (.kd (.int 0))) (.tup (.cons (.bin .div (.loc 0) (.loc 2)) (.cons (.bin .div (.loc 1) (.loc 2)) .nil))) (.tup (.cons (.bin .div (.bin .sub (.kd (.int 0)) (.loc 0)) (.loc 2)) (.cons (.bin .div (.bin .sub (.kd (.int 0)) (.loc 1)) (.loc 2)) .nil))))) .nil)))⟩
noncomputable def QbE : Fn := ⟨4, 1, 0, [("square", 0), ("column", 1), ("first", 2), ("w", 3), ("count", 4)],
 (.cons (.asg 4 (.kd (.int 0))) (.cons (.tryInc 4 (.call 31 (.cons (.loc 0) (.cons (.loc 3) (.cons (.fn 46) (.cons (.fn 52) .nil)))))) (.cons (.tryInc 4 (.call 45 (.cons (.loc 0) (.cons (.loc 1) (.cons (.loc 2) (.cons (.loc 3) (.cons (.fn 46) (.cons (.fn 52) .nil)))))))) (.cons (.ret (.cmp .eq (.loc 4) (.kd (.int 2)))) .nil))))⟩
noncomputable def E_law_solved_0 : PE := (.bin .div (.bin .mul (.loc 18) (.loc 11)) (.loc 6))
noncomputable def E_law_solved_1 : PE := (.mk false (.comp E_law_solved_0 (.one 18) (.seq (.loc 17))))
noncomputable def E_law_solved_2 : PE := (.bin .mul (.loc 17) (.call 56 (.cons (.loc 9) (.cons (.loc 5) .nil))))
noncomputable def E_law_solved_3 : PE := (.call 60 (.cons (.loc 17) (.cons (.loc 6) .nil)))
noncomputable def E_law_solved_4 : PE := (.tup (.cons (.call 54 (.cons (.loc 17) (.cons (.loc 5) .nil))) (.cons (.idx (.call 54 (.cons (.loc 18) (.cons (.loc 5) .nil))) (.kd (.int 1))) .nil)))
noncomputable def QbM : Fn := ⟨6, 11, 2, [("plain", 0), ("square", 1), ("x", 2), ("column", 3), ("first", 4), ("w", 5), ("worth", 6), ("goal", 7), ("told", 8), ("divisor", 9), ("due", 10), ("by", 11), ("made", 12), ("back", 13), ("found", 14), ("above", 15), ("fractions", 16)],
 (.cons (.asg 6 (.call 57 (.cons (.loc 0) (.cons (.tup (.cons (.kd (.int 0)) (.cons (.kd (.int 1)) .nil))) (.cons (.tup (.cons (.kd (.int 0)) (.cons (.kd (.int 1)) .nil))) .nil))))) (.cons (.asg 7 (.idx (.call 55 (.cons (.mk false (.list (.cons (.loc 3) .nil))) (.cons (.loc 5) .nil))) (.kd (.int 0)))) (.cons (.ite (.cmp .eq (.loc 6) (.kd (.int 0))) (.cons (.ret (.call 61 (.cons (.loc 1) (.cons (.loc 7) (.cons (.loc 4) (.cons (.loc 5) .nil)))))) .nil) .nil) (.cons (.unp [8, 9] (.call 31 (.cons (.loc 1) (.cons (.loc 5) (.cons (.fn 46) (.cons (.fn 52) .nil)))))) (.cons (.asg 10 (.mk false (.list (.cons (.mk false (.list (.cons (.idx (.idx (.loc 0) (.kd (.int 1))) (.kd (.int 1))) (.cons (.bin .sub (.kd (.int 0)) (.idx (.idx (.loc 0) (.kd (.int 0))) (.kd (.int 1)))) .nil)))) (.cons (.mk false (.list (.cons (.bin .sub (.kd (.int 0)) (.idx (.idx (.loc 0) (.kd (.int 1))) (.kd (.int 0)))) (.cons (.idx (.idx (.loc 0) (.kd (.int 0))) (.kd (.int 0))) .nil)))) .nil))))) (.cons (.asg 11 (.call 56 (.cons (.loc 9) (.cons (.loc 5) .nil)))) (.cons (.ite (.or (.cmp .ne (.abs (.loc 11)) (.abs (.loc 6))) (.cmp .ne (.loc 8) (.call 55 (.cons (.mk false (.comp E_law_solved_1 (.one 17) (.seq (.loc 10)))) (.cons (.loc 5) .nil))))) (.cons (.ret (.kd (.bool false))) .nil) .nil) (.cons (.asg 12 (.call 23 (.cons (.loc 1) (.cons (.idx (.call 55 (.cons (.mk false (.list (.cons (.loc 2) .nil))) (.cons (.loc 5) .nil))) (.kd (.int 0))) (.cons (.loc 5) (.cons (.fn 46) .nil)))))) (.cons (.unp [13, 9] (.call 30 (.cons (.loc 1) (.cons (.loc 12) (.cons (.loc 5) (.cons (.fn 46) (.cons (.fn 52) .nil))))))) (.cons (.ite (.cmp .ne (.loc 13) (.idx (.call 55 (.cons (.mk false (.list (.cons (.mk false (.comp E_law_solved_2 (.one 17) (.seq (.loc 2)))) .nil))) (.cons (.loc 5) .nil))) (.kd (.int 0)))) (.cons (.ret (.kd (.bool false))) .nil) .nil) (.cons (.asg 14 (.call 45 (.cons (.loc 1) (.cons (.loc 7) (.cons (.loc 4) (.cons (.loc 5) (.cons (.fn 46) (.cons (.fn 52) .nil)))))))) (.cons (.asg 15 (.mk false (.list (.cons (.bin .sub (.bin .mul (.idx (.loc 3) (.kd (.int 0))) (.idx (.idx (.loc 0) (.kd (.int 1))) (.kd (.int 1)))) (.bin .mul (.idx (.idx (.loc 0) (.kd (.int 0))) (.kd (.int 1))) (.idx (.loc 3) (.kd (.int 1))))) (.cons (.bin .sub (.bin .mul (.idx (.idx (.loc 0) (.kd (.int 0))) (.kd (.int 0))) (.idx (.loc 3) (.kd (.int 1)))) (.bin .mul (.idx (.loc 3) (.kd (.int 0))) (.idx (.idx (.loc 0) (.kd (.int 1))) (.kd (.int 0))))) .nil))))) (.cons (.asg 16 (.mk false (.comp E_law_solved_3 (.one 17) (.seq (.loc 15))))) (.cons (.ret (.cmp .eq (.loc 14) (.mk false (.comp E_law_solved_4 (.two 17 18) (.seq (.loc 16)))))) .nil))))))))))))))⟩
noncomputable def E_law_0 : PE := (.abs (.toInt (.loc 16)))
noncomputable def E_law_1 : PE := (.bin .sub (.call 53 (.cons (.loc 1) (.cons (.kd (.int 7)) .nil))) (.kd (.int 3)))
noncomputable def E_law_2 : PE := (.mk false (.comp E_law_1 (.one 17) (.range1 (.kd (.int 3)))))
noncomputable def E_law_3 : PE := (.bin .sub (.call 53 (.cons (.loc 1) (.cons (.kd (.int 7)) .nil))) (.kd (.int 3)))
noncomputable def E_law_4 : PE := (.mk false (.comp E_law_3 (.one 17) (.range1 (.kd (.int 2)))))
noncomputable def E_law_5 : PE := (.bin .sub (.call 53 (.cons (.loc 1) (.cons (.kd (.int 5)) .nil))) (.kd (.int 2)))
noncomputable def E_law_6 : PE := (.bin .sub (.call 53 (.cons (.loc 1) (.cons (.kd (.int 9)) .nil))) (.kd (.int 4)))
noncomputable def E_law_7 : PE := (.call 56 (.cons (.loc 17) (.cons (.loc 2) .nil)))
noncomputable def E_law_8 : PE := (.mk false (.comp E_law_7 (.one 17) (.seq (.loc 16))))
noncomputable def E_law_9 : PE := (.bin .mul (.call 57 (.cons (.loc 4) (.cons (.tup (.cons (.kd (.int 0)) (.cons (.kd (.int 1)) .nil))) (.cons (.loc 16) .nil)))) (.call 57 (.cons (.loc 5) (.cons (.loc 16) (.cons (.tup (.cons (.kd (.int 0)) (.cons (.kd (.int 1)) .nil))) .nil)))))
noncomputable def E_law_10 : PE := (.call 28 (.cons (.loc 16) (.cons (.loc 2) (.cons (.fn 46) (.cons (.fn 52) .nil)))))
noncomputable def E_law_11 : PE := (.mk false (.slcU (.loc 16) (.kd (.int 2))))
noncomputable def E_law_12 : PE := (.mk false (.slcU (.loc 16) (.kd (.int 2))))
noncomputable def QpQ : Fn := ⟨1, 15, 2, [("script", 0), ("bowl", 1), ("w", 2), ("first", 3), ("wide", 4), ("tall", 5), ("x", 6), ("column", 7), ("one", 8), ("other", 9), ("made", 10), ("plainly", 11), ("due", 12), ("ranks", 13), ("plain", 14), ("square", 15)],
 (.cons (.asg 1 (.mk true (.list (.cons (.kd (.int 0)) (.cons (.mk false (.comp E_law_0 (.one 16) (.seq (.mk false (.slcU (.loc 0) (.kd (.int 18))))))) .nil))))) (.cons (.par [2, 3] (.cons (.bin .add (.kd (.int 8)) (.call 53 (.cons (.loc 1) (.cons (.kd (.int 3)) .nil)))) (.cons (.bin .add (.kd (.int 148)) (.call 53 (.cons (.loc 1) (.cons (.kd (.int 4)) .nil)))) .nil))) (.cons (.asg 4 (.mk false (.comp E_law_2 (.one 16) (.range1 (.kd (.int 2)))))) (.cons (.asg 5 (.mk false (.comp E_law_4 (.one 16) (.range1 (.kd (.int 3)))))) (.cons (.asg 6 (.mk false (.comp E_law_5 (.one 16) (.range1 (.kd (.int 2)))))) (.cons (.asg 7 (.mk false (.comp E_law_6 (.one 16) (.range1 (.kd (.int 2)))))) (.cons (.par [8, 9] (.cons (.call 55 (.cons (.loc 4) (.cons (.loc 2) .nil))) (.cons (.call 55 (.cons (.loc 5) (.cons (.loc 2) .nil))) .nil))) (.cons (.asg 10 (.call 22 (.cons (.loc 8) (.cons (.loc 9) (.cons (.loc 2) (.cons (.fn 46) .nil)))))) (.cons (.asg 11 (.mk false (.comp E_law_8 (.one 16) (.seq (.loc 10))))) (.cons (.asg 12 (.sum (.mk false (.comp E_law_9 (.one 16) (.seq (.call 58 (.cons (.kd (.int 3)) .nil))))))) (.cons (.ite (.cmp .ne (.call 29 (.cons (.loc 10) (.cons (.loc 2) (.cons (.fn 46) (.cons (.fn 52) .nil))))) (.call 54 (.cons (.loc 12) (.cons (.loc 2) .nil)))) (.cons (.ret (.kd (.bool false))) .nil) .nil) (.cons (.ite (.cmp .ne (.call 39 (.cons (.loc 10) (.cons (.loc 2) (.cons (.fn 46) (.cons (.loc 3) .nil))))) (.call 54 (.cons (.loc 12) (.cons (.loc 2) .nil)))) (.cons (.ret (.kd (.bool false))) .nil) .nil) (.cons (.asg 13 (.mk false (.comp E_law_10 (.one 16) (.seq (.tup (.cons (.loc 8) (.cons (.loc 9) (.cons (.loc 10) .nil)))))))) (.cons (.ite (.cmp .ne (.loc 13) (.mk false (.list (.cons (.call 59 (.cons (.loc 4) .nil)) (.cons (.call 59 (.cons (.loc 5) .nil)) (.cons (.call 59 (.cons (.loc 11) .nil)) .nil)))))) (.cons (.ret (.kd (.bool false))) .nil) .nil) (.cons (.ite (.not (.cmp2 .le .le (.bin .sub (.bin .add (.idx (.loc 13) (.kd (.int 0))) (.idx (.loc 13) (.kd (.int 1)))) (.kd (.int 3))) (.idx (.loc 13) (.kd (.int 2))) (.min (.idx (.loc 13) (.kd (.int 0))) (.idx (.loc 13) (.kd (.int 1)))))) (.cons (.ret (.kd (.bool false))) .nil) .nil) (.cons (.par [14, 15] (.cons (.mk false (.comp E_law_11 (.one 16) (.seq (.loc 4)))) (.cons (.mk false (.comp E_law_12 (.one 16) (.seq (.loc 8)))) .nil))) (.cons (.ite (.not (.call 62 (.cons (.loc 14) (.cons (.loc 15) (.cons (.loc 6) (.cons (.loc 7) (.cons (.loc 3) (.cons (.loc 2) .nil)))))))) (.cons (.ret (.kd (.bool false))) .nil) .nil) (.cons (.ret (.and (.cmp .eq (.loc 8) (.call 55 (.cons (.loc 4) (.cons (.loc 2) .nil)))) (.and (.cmp .eq (.loc 9) (.call 55 (.cons (.loc 5) (.cons (.loc 2) .nil)))) (.cmp .eq (.loc 15) (.call 55 (.cons (.loc 14) (.cons (.loc 2) .nil))))))) .nil))))))))))))))))))⟩
noncomputable def E_m_turnedc_0 : PE := (.idx (.loc 2) (.loc 1))
noncomputable def E_m_turnedc_1 : PE := (.mk false (.compC E_m_turnedc_0 (.one 2) 0))
noncomputable def QfD : Fn := ⟨1, 0, 2, [("a", 0)],
 (.cons (.ret (.ite (.cmp .gt (.len (.loc 0)) (.kd (.int 0))) (.mk false (.comp E_m_turnedc_1 (.one 1) (.range1 (.len (.idx (.loc 0) (.kd (.int 0))))))) (.mk false (.list .nil)))) .nil)⟩
noncomputable def tblL : List Fn := [QlJ, Qlk, QcH, QpO, Qte, Qmm, Qcz, QbR, QcT, Qqg, QkW, Qqs, Qok, QhL, Qhw, Qog, Qnd, Qqu, Qqx, QlB, QgJ, QoE, QoJ, QoG, Qnr, QfP, QiG, Qdn, Qqw, Qbq, QaK, Qfv, QdK, QR, QaN, QbT, Qfu, Qew, QcO, QbQ, Qat, Qan, QbI, QcS, QdF, Qbr, QdH, Qci, Qcj, QeD, Qmn, QcD, Qar, QfC, Qdu, QgQ, QeM, QeB, Qcr, Qda, Qct, QbE, QbM, QpQ, QfD]
noncomputable def tb (k : Nat) : Option Fn := tblL[k]?
noncomputable def dgF (B : Nat) : Nat → Nat → List Nat
 | 0, _ => []
 | f + 1, n => if n = 0 then [] else n % B :: dgF B f (n / B)
noncomputable def dg (B n : Nat) : List Nat := dgF B n n
theorem Qgs {B : Nat} (hB : 2 ≤ B) : ∀ (f g n : Nat), n ≤ f → n ≤ g → dgF B f n = dgF B g n
 | 0, 0, n, _, _ => rfl
 | 0, g + 1, n, h, _ => by
   have : n = 0 := by lia
   subst this; simp [dgF]
 | f + 1, 0, n, _, h => by
   have : n = 0 := by lia
   subst this; simp [dgF]
 | f + 1, g + 1, n, h1, h2 => by
  simp only [dgF]
  split
  ·rfl
  ·rename_i hn
   have : n / B < n := Nat.div_lt_self (by lia) (by lia)
   rw [Qgs hB f g (n / B) (by lia) (by lia)]
theorem Qbx (B : Nat) : dg B 0 = [] := rfl
theorem QbH {B n : Nat} (hB : 2 ≤ B) (hn : 0 < n) : dg B n = n % B :: dg B (n / B) := by
 unfold dg
 obtain ⟨m, rfl⟩ := Nat.exists_eq_succ_of_ne_zero (by lia : n ≠ 0)
 have : (m + 1) / B < m + 1 := Nat.div_lt_self (by lia) (by lia)
 conv => lhs; unfold dgF
 rw [if_neg (by lia), Qgs hB m ((m + 1) / B) ((m + 1) / B) (by lia) (Nat.le_refl _)]
noncomputable def val (B : Nat) : List Nat → Nat
 | [] => 0
 | x :: r => x + B * val B r
theorem QmZ {B : Nat} (hB : 2 ≤ B) (n : Nat) : val B (dg B n) = n := by
 induction n using Nat.strongRecOn with
 | ind n ih =>
  by_cases hn : n = 0
  ·subst hn; rfl
  ·rw [QbH hB (by lia)]
   simp only [val]
   rw [ih (n / B) (Nat.div_lt_self (by lia) (by lia))]
   have := Nat.div_add_mod n B; lia
theorem QsF {B : Nat} (hB : 2 ≤ B) (n : Nat) : ∀ x ∈ dg B n, x < B := by
 induction n using Nat.strongRecOn with
 | ind n ih =>
  by_cases hn : n = 0
  ·subst hn; intro x hx; simp [Qbx] at hx
  ·rw [QbH hB (by lia)]
   intro x hx
   rcases List.mem_cons.mp hx with rfl | hx
   ·exact Nat.mod_lt _ (by lia)
   ·exact ih (n / B) (Nat.div_lt_self (by lia) (by lia)) x hx
noncomputable def Norm (l : List Nat) : Prop := l.getLast? ≠ some 0
theorem QeG {B : Nat} (hB : 2 ≤ B) : ∀ (l : List Nat), (∀ x ∈ l, x < B) → Norm l → dg B (val B l) = l
 | [], _, _ => rfl
 | x :: r, hlt, hn => by
  have hx := hlt x List.mem_cons_self
  have hr : Norm r := by
   unfold Norm at hn ⊢
   cases r with
   | nil => simp
   | cons y r => rwa [List.getLast?_cons_cons] at hn
  have ih := QeG hB r (fun y hy => hlt y (List.mem_cons_of_mem _ hy)) hr
  have hpos : 0 < x + B * val B r := by
   by_cases h0 : x = 0
   ·subst h0
    cases r with
    | nil => exact absurd rfl hn
    | cons y r' =>
     have hv : val B (y :: r') ≠ 0 := fun e => by rw [e] at ih; simp [Qbx] at ih
     have := Nat.mul_pos (by lia : 0 < B) (Nat.pos_of_ne_zero hv)
     lia
   ·lia
  simp only [val]
  rw [QbH hB hpos]
  have e1 : (x + B * val B r) % B = x := by rw [Nat.add_mul_mod_self_left, Nat.mod_eq_of_lt hx]
  have e2 : (x + B * val B r) / B = val B r := by rw [Nat.add_mul_div_left _ _ (by lia : 0 < B), Nat.div_eq_of_lt hx, Nat.zero_add]
  rw [e1, e2, ih]
theorem Qrb {B : Nat} (hB : 2 ≤ B) (n : Nat) : Norm (dg B n) := by
 induction n using Nat.strongRecOn with
 | ind n ih =>
  by_cases hn : n = 0
  ·subst hn; simp [Norm, Qbx]
  ·rw [QbH hB (by lia)]
   have ih' := ih (n / B) (Nat.div_lt_self (by lia) (by lia))
   unfold Norm at ih' ⊢
   by_cases h0 : n / B = 0
   ·rw [h0, Qbx]
    have h1 := Nat.div_add_mod n B
    rw [h0, Nat.mul_zero, Nat.zero_add] at h1
    rw [h1]
    simp; lia
   ·rw [QbH hB (Nat.pos_of_ne_zero h0)] at ih' ⊢
    rwa [List.getLast?_cons_cons]
theorem Qlx {B : Nat} (hB : 2 ≤ B) (n k : Nat) (h : n < B ^ k) : (dg B n).length ≤ k := by
 induction k generalizing n with
 | zero =>
   have : n = 0 := by simpa using h
   subst this; simp [Qbx]
 | succ k ih =>
  by_cases hn : n = 0
  ·subst hn; simp [Qbx]
  ·rw [QbH hB (by lia)]
   have : n / B < B ^ k := by rw [Nat.div_lt_iff_lt_mul (by lia)]; rwa [Nat.pow_succ] at h
   have := ih _ this
   simp; lia
theorem Qih {k : Nat} {f : Fn} (h : tb k = some f) (n : Nat) (vs : List V) (H : Hp) (hl : vs.length = f.np) :
  Qc tb (n + 1) k vs H = fin H (exB (Qc tb n) H.length f.body (vs ++ List.replicate (f.ns + f.nx) .unb) H) := by
 simp only [Qc, h, hl, if_true]
theorem Qij (H : Hp) (x : D) : fin H (.ret x H) = .ok x H := by simp [fin]
noncomputable abbrev nd (n : Nat) : D := .int (n : Int)
noncomputable def nl (l : List Nat) : D := .list (l.map nd)
noncomputable def sg (w : Nat) (z : Int) : D := .tuple [.bool (decide (z < 0)), nl (dg (2 ^ w) z.natAbs)]
theorem QI {w : Nat} (hw : 0 < w) : 2 ≤ 2 ^ w := by
 obtain ⟨k, rfl⟩ := Nat.exists_eq_succ_of_ne_zero (by lia : w ≠ 0)
 have := Nat.one_le_two_pow (n := k)
 rw [Nat.pow_succ]; lia
theorem Qjh {B n : Nat} (hB : 2 ≤ B) : dg B n = [] ↔ n = 0 := by
 refine ⟨fun h => ?_, fun h => by subst h; rfl⟩
 by_cases hn : n = 0
 ·exact hn
 ·rw [QbH hB (by lia)] at h; cases h
theorem Qpr (m : Nat) (b : Bool) (xs : List D) (H : Hp) : Qc tb (m + 1) 10 [.d (.bool b), .d (.list xs)] H = .ok (.tuple [.bool (b && decide ((0 : Int) < xs.length)), .list xs]) H := by
 rw [Qih (f := QkW) rfl _ _ _ rfl]
 cases b <;> exact Qij H _
theorem QmE {w : Nat} (hw : 0 < w) (m : Nat) (b : Bool) (n : Nat) (H : Hp) : Qc tb (m + 1) 10 [.d (.bool b), .d (nl (dg (2 ^ w) n))] H = .ok (sg w (if b then -(n : Int) else n)) H := by
 unfold nl
 rw [Qpr]
 have h := Qjh (n := n) (QI hw)
 have e : (if b then -(n : Int) else n).natAbs = n := by cases b <;> simp
 unfold sg nl
 rw [e]
 congr 4
 cases b
 ·simp
 ·by_cases hn : n = 0
  ·subst hn; simp [Qbx]
  ·have : dg (2 ^ w) n ≠ [] := fun q => hn (h.mp q)
   have : 0 < (dg (2 ^ w) n).length := List.length_pos_iff.mpr this
   simp; lia
theorem Qto {n w : Nat} : binI .and (n : Int) ((1 : Int) * 2 ^ w - 1) = some ((n % 2 ^ w : Nat) : Int) := by
 have h : (1 : Int) * 2 ^ w - 1 = ((2 ^ w - 1 : Nat) : Int) := by
  have := Nat.one_le_two_pow (n := w)
  rw [Int.one_mul]
  push_cast [this]
  rfl
 simp only [binI]
 rw [h, bitAnd_pp (by lia) (by lia), Int.toNat_natCast, Int.toNat_natCast, Nat.and_two_pow_sub_one_eq_mod]
theorem Qtl {n w : Nat} : binI .shr (n : Int) (w : Int) = some ((n / 2 ^ w : Nat) : Int) := by
 simp only [binI]
 rw [if_pos (by lia), Int.toNat_natCast]
 congr 1
 have : ((2 : Int) ^ w) = ((2 ^ w : Nat) : Int) := by push_cast; rfl
 rw [this, Int.fdiv_eq_ediv_of_nonneg _ (Int.natCast_nonneg _)]
 rfl
theorem Qnm {w : Nat} (h : w ≤ 1000) : binI .shl 1 (w : Int) = some (1 * 2 ^ w) := by
 simp only [binI]
 rw [if_pos ⟨by lia, by lia, by decide⟩, Int.toNat_natCast]
theorem getc (H : Hp) (x : List D) : (H ++ [x])[H.length]? = some x := by simp
theorem appc (H : Hp) (x : List D) (y : D) (h : x.length ≤ 4194303) : QeW (H ++ [x]) H.length y = some (H ++ [x ++ [y]]) := by
 unfold QeW
 rw [getc]
 simp [small]; lia
theorem Qv {α β : Type} {r : R α} {f : α → Hp → R β} {a : α} {H : Hp} {z : R β} (h : r = .ok a H) (h2 : f a H = z) : r.bind f = z := by subst h; exact h2
theorem QN {α β : Type} {r : Option α} {f : α → Hp → R β} {a : α} {H : Hp} {z : R β} (h : r = some a) (h2 : f a H = z) : (Qp r H).bind f = z := by subst h; exact h2
theorem Qca {α : Type} {r : R α} {ρ : Rho} {f : α → Hp → O} {a : α} {H : Hp} {z : O} (h : r = .ok a H) (h2 : f a H = z) : r.go ρ f = z := by subst h; exact h2
theorem Qdj {α : Type} {r : Option α} {ρ : Rho} {f : α → Hp → O} {a : α} {H : Hp} {z : O} (h : r = some a) (h2 : f a H = z) : (Qp r H).go ρ f = z := by subst h; exact h2
theorem Qsp {r : O} {f : Rho → Hp → O} {ρ : Rho} {H : Hp} {z : O} (h : r = .next ρ H) (h2 : f ρ H = z) : r.bind f = z := by subst h; exact h2
theorem Quo {α : Type} {r : R α} {ρ : Rho} {f : α → Hp → O} {H : Hp} (h : r = .exc H) : r.go ρ f = .exc ρ H := by subst h; rfl
theorem QoN {c : Bool} {α : Type} {a b z : α} (h : c = true) (h2 : a = z) : (if c = true then a else b) = z := by subst h; exact h2
theorem QhO {c : Prop} [Decidable c] {α : Type} {a b z : α} (h : c) (h2 : a = z) : (if c then a else b) = z := (if_pos h).trans h2
theorem Qpw {test : Rho → Hp → R V} {body : Rho → Hp → O} {n : Nat} {ρ ρ2 : Rho} {H H1 H2 : Hp} (ht : test ρ H = .ok (.d (.bool true)) H1) (hb : body ρ H1 = .next ρ2 H2) : Qav test body (n + 1) ρ H = Qav test body n ρ2 H2 := (Qgj ht).trans (by rw [hb])
theorem QA {test : Rho → Hp → R V} {body : Rho → Hp → O} {n : Nat} {ρ : Rho} {H H1 : Hp} (ht : test ρ H = .ok (.d (.bool false)) H1) : Qav test body (n + 1) ρ H = .next ρ H1 := by rw [Qdi, ht]
theorem QpC {bd : D → Rho → Option Rho} {body : Rho → Hp → O} {x : D} {r : List D} {ρ ρ1 ρ2 : Rho} {H H2 : Hp} (hd : bd x ρ = some ρ1) (hb : body ρ1 H = .next ρ2 H2) : Qaf bd body (x :: r) ρ H = Qaf bd body r ρ2 H2 := by rw [Qdf, hd]; exact Qsp hb rfl
theorem QjL (B : Nat) (l : List Nat) (x : Nat) : val B (l ++ [x]) = val B l + B ^ l.length * x := by
 induction l with
 | nil => simp [val]
 | cons y r ih => simp only [List.cons_append, val, ih, List.length_cons, Nat.pow_succ]; grind
theorem Qqn {B : Nat} : ∀ (l : List Nat), (∀ x ∈ l, x < B) → val B l < B ^ l.length
 | [], _ => by simp [val]
 | x :: r, h => by
  have ih := Qqn r (fun y hy => h y (List.mem_cons_of_mem _ hy))
  have hx := h x List.mem_cons_self
  simp only [val, List.length_cons, Nat.pow_succ]
  have : B * val B r + B ≤ B * B ^ r.length := by
   have := Nat.mul_le_mul_left B (Nat.succ_le_of_lt ih)
   rw [Nat.mul_succ] at this; exact this
  rw [Nat.mul_comm (B ^ r.length) B]; lia
theorem QaG {l : List D} {i : Nat} : idxD l (i : Int) = l[i]? := by
 unfold idxD; rw [if_pos (by lia), Int.toNat_natCast]
theorem Qjy {l : List Nat} {i : Nat} : idxD (l.map nd) (i : Int) = l[i]?.map nd := by
 rw [QaG, List.getElem?_map]
theorem QrA {B : Nat} (l : List Nat) : val B (l ++ [0]) = val B l := by rw [QjL]; simp
theorem QrR {B : Nat} (hB : 2 ≤ B) {l : List Nat} {x : Nat} (h : ∀ y ∈ l, y < B) (hx : x < B) (h0 : x ≠ 0) : dg B (val B (l ++ [x])) = l ++ [x] :=
 QeG hB _ (fun y hy => by rcases List.mem_append.mp hy with hy | hy; exact h y hy; simp at hy; lia) (by unfold Norm; simp; exact h0)
inductive Ex2 {t0 t1 : Type} (P : t0 → t1 → Prop) : Prop
 | mk (x0 : t0) (x1 : t1) (h : P x0 x1)
inductive Ex3 {t0 t1 t2 : Type} (P : t0 → t1 → t2 → Prop) : Prop
 | mk (x0 : t0) (x1 : t1) (x2 : t2) (h : P x0 x1 x2)
inductive Ex4 {t0 t1 t2 t3 : Type} (P : t0 → t1 → t2 → t3 → Prop) : Prop
 | mk (x0 : t0) (x1 : t1) (x2 : t2) (x3 : t3) (h : P x0 x1 x2 x3)
inductive Ex5 {t0 t1 t2 t3 t4 : Type} (P : t0 → t1 → t2 → t3 → t4 → Prop) : Prop
 | mk (x0 : t0) (x1 : t1) (x2 : t2) (x3 : t3) (x4 : t4) (h : P x0 x1 x2 x3 x4)
inductive Ex6 {t0 t1 t2 t3 t4 t5 : Type} (P : t0 → t1 → t2 → t3 → t4 → t5 → Prop) : Prop
 | mk (x0 : t0) (x1 : t1) (x2 : t2) (x3 : t3) (x4 : t4) (x5 : t5) (h : P x0 x1 x2 x3 x4 x5)
inductive Ex7 {t0 t1 t2 t3 t4 t5 t6 : Type} (P : t0 → t1 → t2 → t3 → t4 → t5 → t6 → Prop) : Prop
 | mk (x0 : t0) (x1 : t1) (x2 : t2) (x3 : t3) (x4 : t4) (x5 : t5) (x6 : t6) (h : P x0 x1 x2 x3 x4 x5 x6)
inductive Ex8 {t0 t1 t2 t3 t4 t5 t6 t7 : Type} (P : t0 → t1 → t2 → t3 → t4 → t5 → t6 → t7 → Prop) : Prop
 | mk (x0 : t0) (x1 : t1) (x2 : t2) (x3 : t3) (x4 : t4) (x5 : t5) (x6 : t6) (x7 : t7) (h : P x0 x1 x2 x3 x4 x5 x6 x7)
inductive Ex9 {t0 t1 t2 t3 t4 t5 t6 t7 t8 : Type} (P : t0 → t1 → t2 → t3 → t4 → t5 → t6 → t7 → t8 → Prop) : Prop
 | mk (x0 : t0) (x1 : t1) (x2 : t2) (x3 : t3) (x4 : t4) (x5 : t5) (x6 : t6) (x7 : t7) (x8 : t8) (h : P x0 x1 x2 x3 x4 x5 x6 x7 x8)
section
variable {cl : Qh} {b : Nat} {ρ ρ1 : Rho} {H H1 H2 H3 : Hp}
theorem Qb {f as vs x} (ha : evEs cl as ρ H = .ok vs H1) (hc : cl f vs H1 = .ok x H2) : evE cl (.call f as) ρ H = .ok (.d x) H2 := Qv ha (Qv hc rfl)
theorem Qap {k f as vs x} (hk : gt ρ k = .fn f) (ha : evEs cl as ρ H = .ok vs H1) (hc : cl f vs H1 = .ok x H2) : evE cl (.callv k as) ρ H = .ok (.d x) H2 := by
 rw [QiX, hk]; exact Qv ha (Qv hc rfl)
theorem Qef {f as vs} (ha : evEs cl as ρ H = .ok vs H1) (hc : cl f vs H1 = .exc H2) : evE cl (.call f as) ρ H = .exc H2 := Qv ha (by rw [hc]; rfl)
theorem Qa {e r v vs} (ha : evE cl e ρ H = .ok v H1) (hc : evEs cl r ρ H1 = .ok vs H2) : evEs cl (.cons e r) ρ H = .ok (v :: vs) H2 := Qv ha (Qv hc rfl)
theorem Qe {op e f x y z} (ha : evE cl e ρ H = .ok (.d x) H1) (hb : evE cl f ρ H1 = .ok (.d y) H2) (hz : binD op x y = some z) : evE cl (.bin op e f) ρ H = .ok (.d z) H2 := Qv ha (Qv hb (QN rfl (QN rfl (QN hz rfl))))
theorem Qf {op e f x y z} (ha : evE cl e ρ H = .ok (.d x) H1) (hb : evE cl f ρ H1 = .ok (.d y) H2) (hz : cmpD op x y = some z) : evE cl (.cmp op e f) ρ H = .ok (.d (.bool z)) H2 := Qv ha (Qv hb (QN rfl (QN rfl (QN hz rfl))))
theorem QlK {e z} (ha : evE cl e ρ H = .ok (.d (.bool z)) H1) : evE cl (.not e) ρ H = .ok (.d (.bool !z)) H1 := Qv ha rfl
theorem QO {c e f z v} (ha : evE cl c ρ H = .ok (.d (.bool z)) H1) (hv : evE cl (bif z then e else f) ρ H1 = .ok v H2) : evE cl (.ite c e f) ρ H = .ok v H2 := Qv ha (by cases z <;> exact hv)
theorem Qcl {cl : Qh} {ρ : Rho} {H H1 H2 : Hp} {e f : PE} {z y : Bool} (h : evE cl e ρ H = .ok (.d (.bool z)) H1) (h2 : evE cl (bif z then f else .kd (.bool false)) ρ H1 = .ok (.d (.bool y)) H2) : evE cl (.and e f) ρ H = .ok (.d (.bool y)) H2 := Qv h (QN rfl (by
 cases z with
 | false => cases h2; rfl
 | true => exact Qv h2 rfl))
theorem Qi {e f v xs j z} (ha : evE cl e ρ H = .ok v H1) (hb : evE cl f ρ H1 = .ok (.d (.int j)) H2) (hs : Qhr H2 v = some xs) (hz : idxD xs j = some z) : evE cl (.idx e f) ρ H = .ok (.d z) H2 := Qv ha (Qv hb (QN hs (QN rfl (QN hz rfl))))
theorem QC {e v xs} (ha : evE cl e ρ H = .ok v H1) (hs : Qhr H1 v = some xs) : evE cl (.len e) ρ H = .ok (.d (.int xs.length)) H1 := Qv ha (QN hs rfl)
theorem Qu {f xs} (ha : evF cl f ρ H = .ok xs H1) : evE cl (.mk false f) ρ H = .ok (.d (.list xs)) H1 := Qv ha rfl
theorem QbC {f xs} (ha : evF cl f ρ H = .ok xs H1) : evE cl (.mk true f) ρ H = .ok (.cell H1.length) (H1 ++ [xs]) := Qv ha rfl
theorem Qo {e t i xs ys} (hi : evI cl i ρ H = .ok xs H1) (hc : QU t.bd (evE cl e) QaE xs ρ H1 = .ok ys H2) : evF cl (.comp e t i) ρ H = .ok ys H2 := Qv hi hc
theorem Ql {bd el co} : QU bd el co [] ρ H = .ok [] H := rfl
theorem Qd {bd el x r y ys} (hd : bd x ρ = some ρ1) (he : el ρ1 H = .ok (.d y) H1) (hr : QU bd el QaE r ρ1 H1 = .ok ys H2) : QU bd el QaE (x :: r) ρ H = .ok (y :: ys) H2 := by rw [QbV, hd]; exact Qv (a := true) rfl (Qv (by rw [he]; rfl) (QN rfl (Qv hr rfl)))
theorem sq {s r o} (h : exS cl b s ρ H = .next ρ1 H1) (h2 : exB cl b r ρ1 H1 = o) : exB cl b (.cons s r) ρ H = o := Qsp h h2
theorem Qg {s r x} (h : exS cl b s ρ H = .ret x H1) : exB cl b (.cons s r) ρ H = .ret x H1 := (congrArg (O.bind · _) h).trans rfl
theorem QfA {s r} (h : exS cl b s ρ H = .exc ρ1 H1) : exB cl b (.cons s r) ρ H = .exc ρ1 H1 := (congrArg (O.bind · _) h).trans rfl
theorem Qy {e x} (h : evE cl e ρ H = .ok (.d x) H1) : exS cl b (.ret e) ρ H = .ret x H1 := Qca h rfl
theorem Qbd {es vs xs} (h : evEs cl es ρ H = .ok vs H1) (hx : toDs b H1 vs = some xs) (hs : small xs.length = true) : exS cl b (.rett es) ρ H = .ret (.tuple xs) H1 := Qca h (by rw [hx]; exact QoN hs rfl)
theorem Qk {k e v} (h : evE cl e ρ H = .ok v H1) : exS cl b (.asg k e) ρ H = .next (st ρ k v) H1 := Qca h rfl
theorem QcG {ks e xs} (h : evE cl e ρ H = .ok (.d (.tuple xs)) H1) (hl : xs.length = ks.length) : exS cl b (.unp ks e) ρ H = .next (sts ρ ks (xs.map V.d)) H1 := Qca h (QhO hl rfl)
theorem Qqo {ks e} (h : evE cl e ρ H = .exc H1) : exS cl b (.unp ks e) ρ H = .exc ρ H1 := Quo h
theorem QT {ks es vs} (h : evEs cl es ρ H = .ok vs H1) (hl : vs.length = ks.length) : exS cl b (.par ks es) ρ H = .next (sts ρ ks vs) H1 := Qca h (QhO hl rfl)
theorem Qcn {k e x n} (h : evE cl e ρ H = .ok (.d x) H1) (hk : gt ρ k = .cell n) (ha : QeW H1 n x = some H2) : exS cl b (.app k e) ρ H = .next ρ H2 := by
 rw [QmU, hk]; exact Qca h (Qdj rfl (Qdj ha rfl))
theorem QaJ {k i e x n j} (h : evE cl e ρ H = .ok (.d x) H1) (hk : gt ρ k = .cell n) (hi : evE cl i ρ H1 = .ok (.d (.int j)) H2) (ha : QdZ H2 n j x = some H3) : exS cl b (.setI k i e) ρ H = .next ρ H3 := Qca h (Qdj rfl (by rw [hk]; exact Qca hi (Qdj rfl (Qdj ha rfl))))
theorem Qcb {k op e x y z} (hk : gt ρ k = .d x) (h : evE cl e ρ H = .ok (.d y) H1) (hz : binD op x y = some z) : exS cl b (.aug k op e) ρ H = .next (st ρ k (.d z)) H1 := by
 rw [Qns, hk]; exact Qca h (Qdj rfl (Qdj hz rfl))
theorem Qr {c s r z o} (h : evE cl c ρ H = .ok (.d (.bool z)) H1) (ho : exB cl b (bif z then s else r) ρ H1 = o) : exS cl b (.ite c s r) ρ H = o := Qca h (by cases z <;> exact ho)
theorem QP {t i s xs o} (hi : evI cl i ρ H = .ok xs H1) (hl : Qaf t.bd (exB cl b s) xs ρ H1 = o) : exS cl b (.forr t i s) ρ H = o := Qca hi hl
theorem QcE {c s o} (hl : Qav (evE cl c) (exB cl b s) QH ρ H = o) : exS cl b (.whl c s) ρ H = o := hl
theorem Qau {bd body} : Qaf bd body [] ρ H = .next ρ H := rfl
theorem Qq {bd body x r o} {ρ2 : Rho} (hd : bd x ρ = some ρ1) (hb : body ρ1 H = .next ρ2 H1) (hr : Qaf bd body r ρ2 H1 = o) : Qaf bd body (x :: r) ρ H = o := (QpC hd hb).trans hr
theorem Qbw {bd body x r y} (hd : bd x ρ = some ρ1) (hb : body ρ1 H = .ret y H1) : Qaf bd body (x :: r) ρ H = .ret y H1 := by rw [Qdf, hd]; exact (congrArg (O.bind · _) hb).trans rfl
theorem QaS {n test body o} {ρ2 : Rho} (ht : test ρ H = .ok (.d (.bool true)) H1) (hb : body ρ H1 = .next ρ2 H2) (hr : Qav test body n ρ2 H2 = o) : Qav test body (n + 1) ρ H = o := (Qpw ht hb).trans hr
theorem QrD {n test body y} (ht : test ρ H = .ok (.d (.bool true)) H1) (hb : body ρ H1 = .ret y H2) : Qav test body (n + 1) ρ H = .ret y H2 := (Qgj ht).trans (by rw [hb])
theorem Qhy {bd body} (xs : List D) (I : Nat → Rho → Hp → Prop) (h0 : I 0 ρ H) (hs : ∀ i x ρ H, xs[i]? = some x → I i ρ H → Ex3 fun ρ1 ρ2 H2 => bd x ρ = some ρ1 ∧ body ρ1 H = .next ρ2 H2 ∧ I (i + 1) ρ2 H2) : Ex2 fun ρ' H' => Qaf bd body xs ρ H = .next ρ' H' ∧ I xs.length ρ' H' := by
 induction xs generalizing I ρ H with
 | nil => exact ⟨_, _, rfl, h0⟩
 | cons x r ih =>
  obtain ⟨ρ1, ρ2, H2, e1, e2, e3⟩ := hs 0 x ρ H rfl h0
  obtain ⟨ρ', H', e4, e5⟩ := ih (fun i => I (i + 1)) e3 (fun i y ρ H hy hI => hs (i + 1) y ρ H hy hI)
  exact ⟨ρ', H', Qq e1 e2 e4, e5⟩
end
theorem Qt {k : Nat} {f : Fn} {n : Nat} {vs : List V} {H H1 : Hp} {x : D} (h : tb k = some f) (hl : vs.length = f.np) (hb : exB (Qc tb n) H.length f.body (vs ++ List.replicate (f.ns + f.nx) .unb) H = .ret x H1) (hH : H1.take H.length = H) : Qc tb (n + 1) k vs H = .ok x H := by
 simp only [Qc, h, hl, if_true, hb, fin, hH]
theorem QiV {k : Nat} {f : Fn} {n : Nat} {vs : List V} {H H1 : Hp} {ρ1 : Rho} (h : tb k = some f) (hl : vs.length = f.np) (hb : exB (Qc tb n) H.length f.body (vs ++ List.replicate (f.ns + f.nx) .unb) H = .exc ρ1 H1) (hH : H1.take H.length = H) : Qc tb (n + 1) k vs H = .exc H := by
 simp only [Qc, h, hl, if_true, hb, fin, hH]
theorem tk0 {H : Hp} : H.take H.length = H := List.take_length
theorem tk1 {H X : Hp} : (H ++ X).take H.length = H := by simp
theorem tk2 {H X Y : Hp} : (H ++ X ++ Y).take H.length = H := by simp
section
variable {k l : Nat} {body : Rho → Hp → O} {ρ : Rho} {H : Hp} (I : Nat → Rho → Hp → Prop)
theorem Qmu {lo n : Nat} (h0 : I 0 ρ H) (hs : ∀ i ρ H, i < n → I i ρ H → Ex2 fun ρ2 H2 => body (st ρ k (.d (nd (lo + i)))) H = .next ρ2 H2 ∧ I (i + 1) ρ2 H2) : Ex2 fun ρ' H' => Qaf (Tgt.one k).bd body (Qbc lo n) ρ H = .next ρ' H' ∧ I n ρ' H' := by
 have := Qhy (bd := (Tgt.one k).bd) (body := body) (Qbc lo n) I h0 fun i x ρ H hx hI => by
  obtain ⟨ρ2, H2, e1, e2⟩ := hs i ρ H (by rw [← QX n lo]; exact (List.getElem?_eq_some_iff.mp hx).1) hI
  rw [QcK n lo i x hx]
  exact ⟨_, ρ2, H2, rfl, by rw [← e1, Int.mul_one]; rfl, e2⟩
 rwa [QX] at this
theorem QtQ {n : Nat} (h0 : I 0 ρ H) (hs : ∀ i ρ H, i < n → I i ρ H → Ex2 fun ρ2 H2 => body (st ρ k (.d (nd (n - 1 - i)))) H = .next ρ2 H2 ∧ I (i + 1) ρ2 H2) : Ex2 fun ρ' H' => Qaf (Tgt.one k).bd body (QcN ((n : Int) - 1) n) ρ H = .next ρ' H' ∧ I n ρ' H' := by
 have := Qhy (bd := (Tgt.one k).bd) (body := body) (QcN ((n : Int) - 1) n) I h0 fun i x ρ H hx hI => by
  have hi : i < n := by rw [← QaT n ((n : Int) - 1)]; exact (List.getElem?_eq_some_iff.mp hx).1
  obtain ⟨ρ2, H2, e1, e2⟩ := hs i ρ H hi hI
  rw [QeL n _ i x hx, show (n : Int) - 1 + (i : Int) * (-1) = ((n - 1 - i : Nat) : Int) from by omega]
  exact ⟨_, ρ2, H2, rfl, e1, e2⟩
 rwa [QaT] at this
theorem QpW {xs : List D} (h0 : I 0 ρ H) (hs : ∀ i x ρ H, xs[i]? = some x → I i ρ H → Ex2 fun ρ2 H2 => body (st ρ k (.d x)) H = .next ρ2 H2 ∧ I (i + 1) ρ2 H2) : Ex2 fun ρ' H' => Qaf (Tgt.one k).bd body xs ρ H = .next ρ' H' ∧ I xs.length ρ' H' :=
 Qhy xs I h0 fun i x ρ H hx hI => by
  obtain ⟨ρ2, H2, e1, e2⟩ := hs i x ρ H hx hI
  exact ⟨_, ρ2, H2, rfl, e1, e2⟩
theorem Qkf {xs : List D} (h0 : I 0 ρ H) (hs : ∀ i x ρ H, xs[i]? = some x → I i ρ H → Ex2 fun ρ2 H2 => body (st (st ρ k (.d (nd i))) l (.d x)) H = .next ρ2 H2 ∧ I (i + 1) ρ2 H2) : Ex2 fun ρ' H' => Qaf (Tgt.two k l).bd body (Qcc 0 xs) ρ H = .next ρ' H' ∧ I xs.length ρ' H' := by
 have := Qhy (bd := (Tgt.two k l).bd) (body := body) (Qcc 0 xs) I h0 fun i x ρ H hx hI => by
  obtain ⟨y, hy, rfl⟩ := Qfp _ _ _ _ hx
  obtain ⟨ρ2, H2, e1, e2⟩ := hs i y ρ H hy hI
  exact ⟨_, ρ2, H2, rfl, by rw [← e1]; congr 4; simp, e2⟩
 rwa [QaX] at this
end
noncomputable def dl (B k n : Nat) : List Nat := (List.range k).map fun i => n / B ^ i % B
theorem Qbl (B k n : Nat) : dl B (k + 1) n = dl B k n ++ [n / B ^ k % B] := by simp [dl, List.range_succ]
theorem QaU (B k n : Nat) : (dl B k n).length = k := by simp [dl]
theorem Qlp {B k n i : Nat} (h : i < k) : (dl B k n)[i]? = some (n / B ^ i % B) := by simp [dl, h]
theorem Qmw {B : Nat} (hB : 2 ≤ B) (k n : Nat) : ∀ x ∈ dl B k n, x < B := by
 intro x hx
 obtain ⟨i, _, rfl⟩ := List.mem_map.mp hx
 exact Nat.mod_lt _ (by lia)
theorem QoF {B : Nat} (hB : 2 ≤ B) (k n : Nat) : val B (dl B k n) = n % B ^ k := by
 induction k with
 | zero => simp [dl, val, Nat.mod_one]
 | succ k ih => rw [Qbl, QjL, ih, QaU, Nat.pow_succ, Nat.mod_mul]
theorem Qny {B : Nat} (hB : 2 ≤ B) {k n : Nat} (h : n < B ^ k) (h2 : ∀ j, k = j + 1 → B ^ j ≤ n) : dg B n = dl B k n := by
 haveI := QeG hB (dl B k n) (Qmw hB k n) (by
  cases k with
  | zero => simp [Norm, dl]
  | succ j =>
   rw [Qbl]
   unfold Norm
   haveI h3 := h2 j rfl
   haveI hp := Nat.pow_pos (n := j) (by lia : 0 < B)
   haveI h4 : n / B ^ j < B := by rw [Nat.div_lt_iff_lt_mul hp, Nat.mul_comm, ← Nat.pow_succ]; exact h
   haveI h5 : 0 < n / B ^ j := Nat.div_pos h3 hp
   rw [Nat.mod_eq_of_lt h4]
   simp; lia)
 rwa [QoF hB, Nat.mod_eq_of_lt h] at this
theorem Qcd {B : Nat} (hB : 2 ≤ B) (n : Nat) : n < B ^ (dg B n).length := by
 haveI := Qqn (dg B n) (QsF hB n)
 rwa [QmZ hB] at this
theorem Qpt {B : Nat} (hB : 2 ≤ B) (n j : Nat) (h : (dg B n).length = j + 1) : B ^ j ≤ n := by
 rcases List.eq_nil_or_concat (dg B n) with e | ⟨l, x, e⟩
 ·rw [e] at h; cases h
 ·rw [List.concat_eq_append] at e
  haveI hv := QmZ hB n
  haveI hN := Qrb hB n
  rw [e] at h hv hN
  rw [QjL] at hv
  haveI : x ≠ 0 := fun q => hN (by rw [q]; simp)
  haveI hl : l.length = j := by simpa using h
  haveI := Nat.le_mul_of_pos_right (B ^ l.length) (Nat.pos_of_ne_zero this)
  rw [hl] at this hv; lia
theorem QsJ {B : Nat} (hB : 2 ≤ B) (n : Nat) : dg B n = dl B (dg B n).length n := Qny hB (Qcd hB n) (Qpt hB n)
theorem QnD {B : Nat} (hB : 2 ≤ B) {a b : Nat} (h : a ≤ b) : (dg B a).length ≤ (dg B b).length := by
 refine Nat.le_of_not_lt fun q => ?_
 obtain ⟨j, hj⟩ := Nat.exists_eq_succ_of_ne_zero (by lia : (dg B a).length ≠ 0)
 haveI h1 := Qpt hB a j hj
 haveI h2 := Qcd hB b
 haveI h3 := Nat.pow_le_pow_right (n := B) (by lia) (by lia : (dg B b).length ≤ j)
 lia
theorem QaW {B : Nat} (hB : 2 ≤ B) {n i : Nat} (h : i < (dg B n).length) : idxD ((dg B n).map nd) (i : Int) = some (nd (n / B ^ i % B)) := by
 rw [Qjy, QsJ hB, Qlp h]; rfl
theorem Qlv {B : Nat} (hB : 2 ≤ B) {k n : Nat} (h : n < B ^ k) : dg B (val B (dl B k n)) = dg B n := by rw [QoF hB, Nat.mod_eq_of_lt h]
noncomputable def nn (w n : Nat) : D := nl (dg (2 ^ w) n)
noncomputable def fits (n : Nat) : Prop := n < 2 ^ 200
theorem QQ {w n : Nat} (hw : 0 < w) (h : fits n) : (dg (2 ^ w) n).length ≤ 200 :=
 Qlx (QI hw) n 200 (Nat.lt_of_lt_of_le h (Nat.pow_le_pow_left (QI hw) 200))
theorem QG (x y : Nat) : binD .add (nd x) (nd y) = some (nd (x + y)) := congrArg (fun z => some (PyData.int z)) (by push_cast; rfl)
theorem Qel {x : Nat} (y : Nat) (h : x < 2 ^ 62) : binD .mul (nd x) (nd y) = some (nd (x * y)) := by
 show Option.map PyData.int (if _ then _ else _) = _; rw [if_pos (.inl (by rw [Int.natAbs_natCast]; exact h))]; simp
theorem Qhe (x w : Nat) : binD .and (nd x) (.int (1 * 2 ^ w - 1)) = some (nd (x % 2 ^ w)) := by
 show (binI .and (x : Int) _).map _ = _; rw [Qto]; rfl
theorem QgV (x w : Nat) : binD .shr (nd x) (nd w) = some (nd (x / 2 ^ w)) := by
 show (binI .shr (x : Int) (w : Int)).map PyData.int = _; rw [Qtl]; rfl
theorem Qgm {x w : Nat} (hx : x < 2 ^ 64) (hw : w ≤ 1000) : binD .shl (nd x) (nd w) = some (nd (x * 2 ^ w)) := by
 show Option.map PyData.int (if _ then _ else _) = _; rw [if_pos ⟨by lia, by lia, by rw [Int.natAbs_natCast]; exact hx⟩]; simp
theorem Qpz {y k : Nat} (x : Nat) (h : y < 2 ^ k) : binD .or (nd (x * 2 ^ k)) (nd y) = some (nd (x * 2 ^ k + y)) := by
 show some (PyData.int (Builtin.bitOr _ _)) = _
 rw [bitOr_and, bitAnd_pp (by lia) (by lia), Int.toNat_natCast, Int.toNat_natCast]
 haveI e : x * 2 ^ k &&& y = 0 := by
  refine Nat.eq_of_testBit_eq fun i => ?_
  rw [Nat.testBit_and, Nat.testBit_mul_two_pow, Nat.zero_testBit]
  by_cases hi : k ≤ i
  ·rw [Nat.testBit_lt_two_pow (Nat.lt_of_lt_of_le h (Nat.pow_le_pow_right (by lia) hi))]; simp
  ·simp [hi]
 rw [e]; simp
theorem Qgw {y : Nat} (x : Nat) (h : 0 < y) (h2 : y < 1073741824) : binD .div (nd x) (nd y) = some (nd (x / y)) := by
 show Option.map PyData.int (if _ then _ else _) = _; rw [if_pos ⟨by lia, by lia⟩, Int.fdiv_eq_ediv_of_nonneg _ (by lia)]; rfl
theorem Qcy {y : Nat} (x : Nat) (h : 0 < y) : binD .mod (nd x) (nd y) = some (nd (x % y)) := by
 show Option.map PyData.int (if _ then _ else _) = _; rw [if_neg (by lia), Int.fmod_eq_emod_of_nonneg _ (by lia)]; rfl
theorem Qcf {x y : Nat} (h : y ≤ x) : binD .sub (nd x) (nd y) = some (nd (x - y)) := congrArg (fun z => some (PyData.int z)) (by lia)
theorem app1 (H : Hp) (l : List Nat) (y : Nat) (h : l.length ≤ 4000) : QeW (H ++ [l.map nd]) H.length (nd y) = some (H ++ [(l ++ [y]).map nd]) := by
 rw [appc _ _ _ (by simp; lia)]; simp
theorem set1 (H : Hp) (xs : List D) (i : Nat) (x : D) (h : i < xs.length) : QdZ (H ++ [xs]) H.length (i : Int) x = some (H ++ [xs.set i x]) := by
 unfold QdZ
 rw [getc]
 simp [h]
theorem QeA {cl : Qh} {ρ : Rho} {H : Hp} {k w : Nat} (hk : gt ρ k = .d (nd w)) (h : w ≤ 1000) : evE cl (.bin .sub (.bin .shl (.kd (.int 1)) (.loc k)) (.kd (.int 1))) ρ H = .ok (.d (.int (1 * 2 ^ w - 1))) H := by
 haveI e : evE cl (.loc k) ρ H = .ok (.d (nd w)) H := QY hk
 refine Qe (Qe (z := .int (1 * 2 ^ w)) rfl e ?_) rfl rfl
 haveI := Qnm h
 show (binI .shl 1 (w : Int)).map PyData.int = _
 rw [this]; rfl
theorem Qcv (x : Nat) : cmpD .gt (nd x) (nd 0) = some (decide (0 < x)) := by
 show some (decide ((0 : Int) < x)) = _
 by_cases h : 0 < x <;> simp [h]
theorem Qbs (x y : Nat) : cmpD .eq (nd x) (nd y) = some (decide (x = y)) := by
 show some ((x : Int) == y) = _
 by_cases h : x = y
 ·subst h; simp
 ·simp [h]; lia
theorem Qz {cl : Qh} {ρ : Rho} {H H1 : Hp} {w a : Nat} {e : PE} (h : evE cl e ρ H = .ok (.d (nn w a)) H1) : evE cl (.len e) ρ H = .ok (.d (nd (dg (2 ^ w) a).length)) H1 :=
 (QC h rfl).trans (by rw [List.length_map])
theorem QcL {cl : Qh} {ρ : Rho} {H H1 : Hp} {n : Nat} {e : PE} (h : evE cl e ρ H = .ok (.d (.int ((n : Int) - 1))) H1) (hn : n ≤ 4000) : evI cl (.rangeD e) ρ H = .ok (QcN ((n : Int) - 1) n) H1 := Qv h (QN rfl (QhO ⟨by lia, by lia⟩ (by congr 2; lia)))
theorem Qmx {cl : Qh} {ρ : Rho} {H H1 : Hp} {e : PE} {i : Int} (h : evE cl e ρ H = .ok (.d (.int i)) H1) (hn : i < 4194304 ∧ -4194304 < i) : evI cl (.range1 e) ρ H = .ok (Qbc 0 i.toNat) H1 := Qv h (QN rfl (QhO hn rfl))
theorem QM {cl : Qh} {ρ : Rho} {H H1 : Hp} {n : Nat} {e : PE} (h : evE cl e ρ H = .ok (.d (nd n)) H1) (hn : n ≤ 4000) : evI cl (.range1 e) ρ H = .ok (Qbc (0 : Nat) n) H1 :=
 Qmx h (by lia)
theorem Qmt {cl : Qh} {ρ : Rho} {H H1 H2 : Hp} {i j : Int} {e f : PE} (h : evE cl e ρ H = .ok (.d (.int i)) H1) (h2 : evE cl f ρ H1 = .ok (.d (.int j)) H2) (hn : i < 2097152 ∧ -2097152 < i ∧ j < 2097152 ∧ -2097152 < j) : evI cl (.range2 e f) ρ H = .ok (Qbc i (j - i).toNat) H2 := Qv h (Qv h2 (QN rfl (QN rfl (QhO hn rfl))))
theorem Qag {cl : Qh} {ρ : Rho} {H H1 H2 : Hp} {k n : Nat} {e f : PE} (h : evE cl e ρ H = .ok (.d (nd k)) H1) (h2 : evE cl f ρ H1 = .ok (.d (nd n)) H2) (hk : k ≤ 4000) (hn : n ≤ 4000) : evI cl (.range2 e f) ρ H = .ok (Qbc k (n - k)) H2 := by
 rw [Qmt h h2 (by lia), show ((n : Int) - (k : Int)).toNat = n - k from by lia]
theorem QcY {cl : Qh} {ρ : Rho} {H H1 H2 : Hp} {e f : PE} {v : V} {i : Int} {xs : List D} (h : evE cl e ρ H = .ok v H1) (h2 : evE cl f ρ H1 = .ok (.d (.int i)) H2) (hv : Qbk H2 v = some xs) (hi : 0 ≤ i ∧ i < 4611686018427387904) : evF cl (.slcU e f) ρ H = .ok (xs.take i.toNat) H2 := Qv h (Qv h2 (QN hv (QN rfl (QhO hi rfl))))
theorem Qhx {cl : Qh} {ρ : Rho} {H H1 H2 : Hp} {e f : PE} {v : V} {i : Int} {xs : List D} (h : evE cl e ρ H = .ok v H1) (h2 : evE cl f ρ H1 = .ok (.d (.int i)) H2) (hv : Qbk H2 v = some xs) (hi : 0 ≤ i ∧ i < 4611686018427387904) : evF cl (.slcL e f) ρ H = .ok (xs.drop i.toNat) H2 := Qv h (Qv h2 (QN hv (QN rfl (QhO hi rfl))))
theorem QjV {B X t q : Nat} (hB : 2 ≤ B) (h : X = t + B * q) : X % B = t % B ∧ X / B = t / B + q := by
 subst h; exact ⟨Nat.add_mul_mod_self_left _ _ _, Nat.add_mul_div_left _ _ (by lia)⟩
theorem QaO (n B i : Nat) : n / B ^ (i + 1) = n / B ^ i / B := by rw [Nat.pow_succ, Nat.div_div_eq_div_mul]
theorem QaM {B : Nat} (n i : Nat) : n / B ^ i = n / B ^ i % B + B * (n / B ^ (i + 1)) := by rw [QaO, Nat.add_comm, Nat.div_add_mod]
theorem Qfc {B : Nat} (hB : 2 ≤ B) (cl : Qh) (base : Nat) (H : Hp) (v : V) (l : List Nat) (e0 : ∀ x, evE cl (.loc 0) [v, x] H = .ok v H) (hv : Qhr H v = some (l.map nd)) (hl : ∀ x ∈ l, x < B) : ∀ (f k : Nat), k < f → k ≤ l.length →
  Qav (evE cl T_normal_0) (exB cl base B_normal_0) f [v, .d (nd k)] H = .next [v, .d (nd (dg B (val B (l.take k))).length)] H ∧ dg B (val B (l.take k)) = l.take (dg B (val B (l.take k))).length
 | 0, _, h, _ => absurd h (Nat.not_lt_zero _)
 | f + 1, 0, _, _ => ⟨QA (Qcl (z := false) (Qf rfl rfl rfl) rfl), rfl⟩
 | f + 1, k + 1, hf, hk => by
  haveI HH5 := Qfc hB cl base H v l e0 hv hl f k (Nat.lt_of_succ_lt_succ hf) (Nat.le_of_succ_le hk)
  haveI ih1 := HH5.1
  haveI ih2 := HH5.2
  haveI ht : l.take (k + 1) = l.take k ++ [l[k]] := by rw [List.take_succ_eq_append_getElem hk]
  haveI test : evE cl T_normal_0 [v, .d (nd (k + 1))] H = .ok (.d (.bool (decide (l[k] = 0)))) H :=
   Qcl (z := true) (Qf rfl rfl ((Qcv (k + 1)).trans (congrArg some (decide_eq_true (Nat.succ_pos k))))) (Qf (Qi (e0 _) (Qe rfl rfl (Qcf (x := k + 1) (y := 1) (Nat.succ_pos k))) hv (by rw [Qjy, Nat.add_sub_cancel, List.getElem?_eq_getElem hk]; rfl)) rfl (Qbs _ 0))
  by_cases h0 : l[k] = 0
  ·rw [ht, h0, QrA]
   exact ⟨QaS (test.trans (by rw [decide_eq_true h0])) (sq (Qcb rfl rfl (Qcf (x := k + 1) (y := 1) (Nat.succ_pos k))) rfl) ih1, ih2⟩
  ·rw [ht, QrR hB (fun y hy => hl y (List.mem_of_mem_take hy)) (hl _ (List.getElem_mem hk)) h0, ← ht, List.length_take, Nat.min_eq_left hk]
   exact ⟨QA (test.trans (by rw [decide_eq_false h0])), rfl⟩
theorem QbY {w : Nat} (hw : 0 < w) (m : Nat) {v : V} {l : List Nat} {H : Hp} (hv : Qbk H v = some (l.map nd)) (hl : ∀ x ∈ l, x < 2 ^ w) (hlen : l.length ≤ 4000) : Qc tb (m + 1) 0 [v] H = .ok (nn w (val (2 ^ w) l)) H := by
 have hs : Qhr H v = some (l.map nd) := by
  cases v with
  | d x => cases x <;> first | exact hv | cases hv
  | _ => first | exact hv | cases hv
 have e0 : ∀ x, evE (Qc tb m) (.loc 0) [v, x] H = .ok v H := by as_aux_lemma => intro x; cases v <;> first | rfl | cases hv
 obtain ⟨h1, h2⟩ := Qfc (QI hw) (Qc tb m) H.length H v l e0 hs hl QH l.length (by unfold QH; lia) (Nat.le_refl _)
 rw [List.take_length] at h1 h2
 refine Qt (f := QlJ) rfl rfl (sq (Qk (QC (e0 _) hs)) (sq (QcE (o := .next [v, .d (nd (dg (2 ^ w) (val (2 ^ w) l)).length)] H) ?_) (Qg (Qy (Qu (QcY (e0 _) rfl hv ?_)))))) tk0 |>.trans ?_
 ·rw [List.length_map]; exact h1
 ·haveI hl2 : (dg (2 ^ w) (val (2 ^ w) l)).length ≤ l.length := by rw [h2]; simp; lia
  exact ⟨by lia, by lia⟩
 ·rw [Int.toNat_natCast, ← List.map_take, ← h2]; rfl
noncomputable def cmpz (a b : Nat) : Int := if a < b then -1 else if b < a then 1 else 0
theorem QS (x y : Nat) : cmpD .ne (nd x) (nd y) = some (decide (x ≠ y)) := by
 show some ((x : Int) != y) = _
 by_cases h : x = y
 ·subst h; simp
 ·simp [h]; lia
theorem QV (x y : Nat) : cmpD .lt (nd x) (nd y) = some (decide (x < y)) := by
 show some (decide ((x : Int) < y)) = _
 by_cases h : x < y <;> simp [h]
theorem QdB {w a b : Nat} (hw : 0 < w) (cl : Qh) (base : Nat) (H : Hp) (hl : (dg (2 ^ w) a).length = (dg (2 ^ w) b).length) : ∀ (k : Nat) (v : V), k ≤ (dg (2 ^ w) a).length →
  (Qaf (Tgt.one 2).bd (exB cl base B_compare_0) (QcN ((k : Int) - 1) k) [.d (nn w a), .d (nn w b), v] H).bind (fun ρ H => exB cl base (.cons (.ret (.kd (.int 0))) .nil) ρ H) = .ret (.int (cmpz (a % (2 ^ w) ^ k) (b % (2 ^ w) ^ k))) H
 | 0, v, _ => by simp [QcN, Qaf, cmpz, Nat.mod_one]; rfl
 | k + 1, v, hk => by
  haveI ih := QdB hw cl base H hl k (.d (nd k)) (by lia)
  haveI hB := QI hw
  haveI ga := QaW hB (n := a) (i := k) (by lia)
  haveI gb := QaW hB (n := b) (i := k) (by lia)
  haveI e1 : ((k + 1 : Nat) : Int) - 1 = (k : Nat) := by lia
  haveI ma := Nat.mod_mul (a := (2 ^ w) ^ k) (b := 2 ^ w) (x := a)
  haveI mb := Nat.mod_mul (a := (2 ^ w) ^ k) (b := 2 ^ w) (x := b)
  rw [← Nat.pow_succ] at ma mb
  rw [e1]
  simp only [QcN]
  haveI ea : evE cl (.idx (.loc 0) (.loc 2)) [.d (nn w a), .d (nn w b), .d (nd k)] H = .ok (.d (nd (a / (2 ^ w) ^ k % 2 ^ w))) H := Qi rfl rfl rfl ga
  haveI eb : evE cl (.idx (.loc 1) (.loc 2)) [.d (nn w a), .d (nn w b), .d (nd k)] H = .ok (.d (nd (b / (2 ^ w) ^ k % 2 ^ w))) H := Qi rfl rfl rfl gb
  haveI pk : 0 < (2 ^ w) ^ k := Nat.pow_pos (by lia)
  haveI la := Nat.mod_lt a pk
  haveI lb := Nat.mod_lt b pk
  generalize a / (2 ^ w) ^ k % 2 ^ w = x at *
  generalize b / (2 ^ w) ^ k % 2 ^ w = y at *
  rw [ma, mb]
  by_cases h : x = y
  ·haveI hb : exB cl base B_compare_0 [.d (nn w a), .d (nn w b), .d (nd k)] H = .next [.d (nn w a), .d (nn w b), .d (nd k)] H :=
    sq (Qr (Qf ea eb ((QS x y).trans (congrArg some (decide_eq_false (by lia))))) rfl) rfl
   rw [Qq (ρ1 := [.d (nn w a), .d (nn w b), .d (nd k)]) rfl hb rfl, ih, h]
   congr 2
   unfold cmpz
   simp only [Nat.add_lt_add_iff_right]
  ·haveI hm : ∀ {p q s t : Nat}, p < (2 ^ w) ^ k → s < t → p + (2 ^ w) ^ k * s < q + (2 ^ w) ^ k * t := by
    intro p q s t hp hst
    haveI := Nat.mul_le_mul_left ((2 ^ w) ^ k) (Nat.succ_le_of_lt hst)
    rw [Nat.mul_succ] at this; lia
   by_cases hxy : x < y
   ·haveI hb : exB cl base B_compare_0 [.d (nn w a), .d (nn w b), .d (nd k)] H = .ret (.int (-1)) H :=
     Qg (Qr (z := true) (Qf ea eb ((QS x y).trans (congrArg some (decide_eq_true h)))) (Qg (Qy (QO (z := true) (Qf ea eb ((QV x y).trans (congrArg some (decide_eq_true hxy)))) rfl))))
    rw [Qbw (ρ1 := [.d (nn w a), .d (nn w b), .d (nd k)]) rfl hb]
    simp only [O.bind_ret, cmpz]
    rw [if_pos (hm la hxy)]
   ·haveI hb : exB cl base B_compare_0 [.d (nn w a), .d (nn w b), .d (nd k)] H = .ret (.int 1) H :=
     Qg (Qr (z := true) (Qf ea eb ((QS x y).trans (congrArg some (decide_eq_true h)))) (Qg (Qy (QO (z := false) (Qf ea eb ((QV x y).trans (congrArg some (decide_eq_false hxy)))) rfl))))
    rw [Qbw (ρ1 := [.d (nn w a), .d (nn w b), .d (nd k)]) rfl hb]
    simp only [O.bind_ret, cmpz]
    haveI := hm (q := a % (2 ^ w) ^ k) lb (by lia : y < x)
    rw [if_neg (by lia), if_pos this]
theorem Qae {w a b : Nat} (hw : 0 < w) (m : Nat) (H : Hp) (ha : fits a) (hb : fits b) : Qc tb (m + 1) 2 [.d (nn w a), .d (nn w b)] H = .ok (.int (cmpz a b)) H := by
 haveI hB := QI hw
 haveI la := QQ hw ha
 haveI lb := QQ hw hb
 haveI ea : ∀ x H, evE (Qc tb m) (.len (.loc 0)) [.d (nn w a), .d (nn w b), x] H = .ok (.d (nd (dg (2 ^ w) a).length)) H := fun x H => Qz rfl
 haveI eb : ∀ x H, evE (Qc tb m) (.len (.loc 1)) [.d (nn w a), .d (nn w b), x] H = .ok (.d (nd (dg (2 ^ w) b).length)) H := fun x H => Qz rfl
 by_cases h : (dg (2 ^ w) a).length = (dg (2 ^ w) b).length
 ·haveI hl := QdB hw (Qc tb m) H.length H h _ .unb (Nat.le_refl _)
  rw [Nat.mod_eq_of_lt (Qcd hB a)] at hl
  rw [h, Nat.mod_eq_of_lt (Qcd hB b), ← h] at hl
  refine Qt (f := QcH) rfl rfl (sq (Qr (z := false) (Qf (ea _ _) (eb _ _) ((QS _ _).trans (congrArg some (decide_eq_false (fun q => q h))))) rfl) ?_) tk0
  exact (congrArg (fun o : O => o.bind _) (QP (QcL (Qe (ea _ _) rfl rfl) (by lia)) rfl)).trans hl
 ·by_cases h2 : (dg (2 ^ w) a).length < (dg (2 ^ w) b).length
  ·haveI e : cmpz a b = -1 := by
    unfold cmpz; rw [if_pos]
    exact Nat.lt_of_not_le fun q => by have := QnD hB q; lia
   rw [e]
   exact Qt (f := QcH) rfl rfl (Qg (Qr (z := true) (Qf (ea _ _) (eb _ _) ((QS _ _).trans (congrArg some (decide_eq_true h)))) (Qg (Qy (QO (z := true) (Qf (ea _ _) (eb _ _) ((QV _ _).trans (congrArg some (decide_eq_true h2)))) rfl))))) tk0
  ·haveI e : cmpz a b = 1 := by
    haveI : b < a := Nat.lt_of_not_le fun q => by have := QnD hB q; lia
    unfold cmpz; rw [if_neg (by lia), if_pos this]
   rw [e]
   exact Qt (f := QcH) rfl rfl (Qg (Qr (z := true) (Qf (ea _ _) (eb _ _) ((QS _ _).trans (congrArg some (decide_eq_true h)))) (Qg (Qy (QO (z := false) (Qf (ea _ _) (eb _ _) ((QV _ _).trans (congrArg some (decide_eq_false h2)))) rfl))))) tk0
noncomputable def PB.tl : PB → PB
 | .cons _ r => r
 | .nil => .nil
theorem Qgc {cl : Qh} {b n : Nat} {ρ : Rho} {H H1 : Hp} {e : PE} {xs : List D} (h : evE cl e ρ H = .ok (.cell n) H1) (hn : b ≤ n) (hg : H1[n]? = some xs) : exS cl b (.ret e) ρ H = .ret (.list xs) H1 := Qca h (by rw [show toD b H1 (.cell n) = some (.list xs) from (if_pos hn).trans (by rw [hg]; rfl)])
theorem QaZ {B : Nat} (hB : 2 ≤ B) {n i : Nat} (h : (dg B n).length ≤ i) : n / B ^ i = 0 :=
 Nat.div_eq_of_lt (Nat.lt_of_lt_of_le (Qcd hB n) (Nat.pow_le_pow_right (by lia) h))
section
variable {w : Nat} (hw : 0 < w) (hw2 : w ≤ 16)
include hw hw2
theorem Qma {a b : Nat} (cl : Qh) (H : Hp) (ha : fits a) (hb : fits b) (h : (dg (2 ^ w) b).length ≤ (dg (2 ^ w) a).length) : ∃ H', exB cl H.length (PB.tl QpO.body) [.d (nn w a), .d (nn w b), .d (nd w), .unb, .unb, .unb, .unb] H = .ret (nn w (a + b)) (H ++ H') := by
 haveI hB := QI hw
 haveI la := QQ hw ha
 haveI lb := QQ hw hb
 let I : Nat → Rho → Hp → Prop := fun i ρ H' => Ex2 fun v c => c + a / (2 ^ w) ^ i + b / (2 ^ w) ^ i = (a + b) / (2 ^ w) ^ i ∧ ρ = [.d (nn w a), .d (nn w b), .d (nd w), .cell H.length, .d (nd c), .d (.int (1 * 2 ^ w - 1)), v] ∧ H' = H ++ [(dl (2 ^ w) i (a + b)).map nd]
 haveI step : ∀ i c x y : Nat, i ≤ 200 → x = a / (2 ^ w) ^ i % 2 ^ w → y = b / (2 ^ w) ^ i % 2 ^ w → c + a / (2 ^ w) ^ i + b / (2 ^ w) ^ i = (a + b) / (2 ^ w) ^ i → (c + (x + y)) % 2 ^ w = (a + b) / (2 ^ w) ^ i % 2 ^ w ∧ (c + (x + y)) / 2 ^ w + a / (2 ^ w) ^ (i + 1) + b / (2 ^ w) ^ (i + 1) = (a + b) / (2 ^ w) ^ (i + 1) := by as_aux_lemma =>
  intro i c x y _ hx hy hc
  haveI h1 := QaM (B := 2 ^ w) a i
  haveI h2 := QaM (B := 2 ^ w) b i
  haveI := QjV (X := (a + b) / (2 ^ w) ^ i) (t := c + (x + y)) (q := a / (2 ^ w) ^ (i + 1) + b / (2 ^ w) ^ (i + 1)) hB (by rw [Nat.mul_add]; lia)
  exact ⟨this.1.symm, by rw [QaO (a + b), this.2, Nat.add_assoc]⟩
 obtain ⟨ρ1, H1, e1, v1, c1, q1, rfl, rfl⟩ := Qmu (k := 6) (lo := 0) (n := (dg (2 ^ w) b).length) (body := exB cl H.length B_add_0) (ρ := [.d (nn w a), .d (nn w b), .d (nd w), .cell H.length, .d (nd 0), .d (.int (1 * 2 ^ w - 1)), .unb]) (H := H ++ [[]]) I ⟨_, 0, by simp, rfl, rfl⟩ (by
  rintro i _ _ hi ⟨v, c, q, rfl, rfl⟩
  rw [Nat.zero_add]
  haveI HH14 := step i c _ _ (by lia) rfl rfl q
  haveI s1 := HH14.1
  haveI s2 := HH14.2
  refine ⟨_, _, sq (Qcb rfl (Qe (Qi rfl rfl rfl (QaW hB (by lia))) (Qi rfl rfl rfl (QaW hB (by lia))) (QG _ _)) (QG _ _)) (sq (Qcn (Qe rfl rfl (Qhe _ _)) rfl (app1 _ _ _ (by rw [QaU]; lia))) (sq (Qcb rfl rfl (QgV _ _)) rfl)), _, _, s2, rfl, ?_⟩
  rw [s1, Qbl])
 obtain ⟨ρ2, H2, e2, v2, c2, q2, rfl, rfl⟩ := Qmu (k := 6) (lo := (dg (2 ^ w) b).length) (n := (dg (2 ^ w) a).length - (dg (2 ^ w) b).length) (body := exB cl H.length B_add_1) (ρ := [.d (nn w a), .d (nn w b), .d (nd w), .cell H.length, .d (nd c1), .d (.int (1 * 2 ^ w - 1)), v1]) (H := H ++ [(dl (2 ^ w) (dg (2 ^ w) b).length (a + b)).map nd]) (fun i => I ((dg (2 ^ w) b).length + i)) ⟨_, _, q1, rfl, rfl⟩ (by
  rintro i _ _ hi ⟨v, c, q, rfl, rfl⟩
  haveI HH21 := step _ c _ 0 (by lia) rfl (by rw [QaZ hB (by lia)]; simp) q
  haveI s1 := HH21.1
  haveI s2 := HH21.2
  refine ⟨_, _, sq (Qcb rfl (Qi rfl rfl rfl (QaW hB (by lia))) (QG _ _)) (sq (Qcn (Qe rfl rfl (Qhe _ _)) rfl (app1 _ _ _ (by rw [QaU]; lia))) (sq (Qcb rfl rfl (QgV _ _)) rfl)), _, _, s2, rfl, ?_⟩
  rw [Nat.add_zero] at s1
  rw [s1, ← Nat.add_assoc, Qbl])
 rw [show (dg (2 ^ w) b).length + ((dg (2 ^ w) a).length - (dg (2 ^ w) b).length) = (dg (2 ^ w) a).length from by lia] at q2 e2
 rw [QaZ hB (Nat.le_refl _), QaZ hB h] at q2
 haveI hlo : ∀ j, (dg (2 ^ w) a).length = j + 1 → (2 ^ w) ^ j ≤ a + b := fun j hj => by have := Qpt hB a j hj; lia
 refine ⟨[(dg (2 ^ w) (a + b)).map nd], sq (QT (Qa rfl (Qa rfl (Qa (QeA rfl (by lia)) rfl))) rfl) (sq (QP (QM (Qz rfl) (by lia)) e1) (sq (QP (Qag (Qz rfl) (Qz rfl) (by lia) (by lia)) e2) (sq (Qr (z := decide (0 < c2)) (Qf rfl rfl (Qcv c2)) (o := .next [.d (nn w a), .d (nn w b), .d (nd w), .cell H.length, .d (nd c2), .d (.int (1 * 2 ^ w - 1)), v2] (H ++ [(dg (2 ^ w) (a + b)).map nd])) ?_) (Qg (Qgc rfl (Nat.le_refl _) (getc _ _))))))⟩
 simp only [Nat.add_zero] at q2
 by_cases hc : 0 < c2
 ·rw [decide_eq_true hc]
  refine sq (Qcn rfl rfl (app1 _ _ _ (by rw [QaU]; lia))) ?_
  haveI hlt : a + b < (2 ^ w) ^ ((dg (2 ^ w) a).length + 1) := by
   haveI h1 := Qcd hB a
   haveI h2 := Qcd hB b
   haveI h3 := Nat.pow_le_pow_right (n := 2 ^ w) (by lia) h
   haveI h4 := Nat.mul_le_mul_left ((2 ^ w) ^ (dg (2 ^ w) a).length) hB
   rw [Nat.pow_succ]; lia
  haveI hge : (2 ^ w) ^ (dg (2 ^ w) a).length ≤ a + b := by
   refine Nat.le_of_not_lt fun q => ?_
   rw [Nat.div_eq_of_lt q] at q2; lia
  rw [Qny hB hlt (fun j hj => by cases hj; exact hge), Qbl, ← q2]
  haveI : c2 < 2 ^ w := by
   rw [q2, Nat.div_lt_iff_lt_mul (Nat.pow_pos (by lia)), Nat.mul_comm, ← Nat.pow_succ]; exact hlt
  rw [Nat.mod_eq_of_lt this]; rfl
 ·rw [decide_eq_false hc]
  haveI hlt : a + b < (2 ^ w) ^ (dg (2 ^ w) a).length := by as_aux_lemma =>
   refine Nat.lt_of_not_le fun q => ?_
   haveI := Nat.div_pos q (Nat.pow_pos (by lia)); lia
  rw [Qny hB hlt hlo]; rfl
theorem Qpj {a b : Nat} (m : Nat) (H : Hp) (ha : fits a) (hb : fits b) : Qc tb (m + 1) 3 [.d (nn w a), .d (nn w b), .d (nd w)] H = .ok (nn w (a + b)) H := by
 by_cases h : (dg (2 ^ w) a).length < (dg (2 ^ w) b).length
 ·obtain ⟨H', e⟩ := Qma hw hw2 (Qc tb m) H hb ha (by lia)
  rw [Nat.add_comm a b]
  exact Qt (f := QpO) rfl rfl (sq (Qr (z := true) (Qf (Qz rfl) (Qz rfl) ((QV _ _).trans (congrArg some (decide_eq_true h)))) rfl) e) tk1
 ·obtain ⟨H', e⟩ := Qma hw hw2 (Qc tb m) H ha hb (by lia)
  exact Qt (f := QpO) rfl rfl (sq (Qr (z := false) (Qf (Qz rfl) (Qz rfl) ((QV _ _).trans (congrArg some (decide_eq_false h)))) rfl) e) tk1
end
theorem QmL {cl : Qh} {ρ : Rho} {H : Hp} {k w : Nat} (hk : gt ρ k = .d (nd w)) (h : w ≤ 1000) : evE cl (.bin .shl (.kd (.int 1)) (.loc k)) ρ H = .ok (.d (.int (1 * 2 ^ w))) H := by
 haveI e : evE cl (.loc k) ρ H = .ok (.d (nd w)) H := QY hk
 refine Qe rfl e ?_
 haveI := Qnm h
 show (binI .shl 1 (w : Int)).map PyData.int = _
 rw [this]; rfl
theorem QaY (x : Int) : cmpD .lt (.int x) (.int 0) = some (decide (x < 0)) := rfl
theorem Qpx {B a b D r i : Nat} (hB : 2 ≤ B) (hr : r ≤ 1) (h : r + D / B ^ i + b / B ^ i = a / B ^ i) {t : Int} (ht : t = ((a / B ^ i % B : Nat) : Int) - r - (b / B ^ i % B : Nat)) :
  (t < 0 ∧ t + B = (D / B ^ i % B : Nat) ∧ 1 + D / B ^ (i + 1) + b / B ^ (i + 1) = a / B ^ (i + 1)) ∨ (¬ t < 0 ∧ t = (D / B ^ i % B : Nat) ∧ 0 + D / B ^ (i + 1) + b / B ^ (i + 1) = a / B ^ (i + 1)) := by
 haveI h1 := QaM (B := B) a i
 haveI h2 := QaM (B := B) b i
 haveI h3 := QaM (B := B) D i
 haveI l1 := Nat.mod_lt (a / B ^ i) (by lia : 0 < B)
 haveI l2 := Nat.mod_lt (b / B ^ i) (by lia : 0 < B)
 haveI l3 := Nat.mod_lt (D / B ^ i) (by lia : 0 < B)
 rw [h1, h2, h3] at h
 generalize a / B ^ i % B = x at *
 generalize b / B ^ i % B = y at *
 generalize D / B ^ i % B = d at *
 generalize a / B ^ (i + 1) = a' at *
 generalize b / B ^ (i + 1) = b' at *
 generalize D / B ^ (i + 1) = D' at *
 haveI hk : t = d - (B : Int) * ((a' : Int) - D' - b') := by
  rw [ht]
  haveI : ((r + (d + B * D') + (y + B * b') : Nat) : Int) = ((x + B * a' : Nat) : Int) := by rw [h]
  push_cast at this
  rw [Int.mul_sub, Int.mul_sub]; lia
 obtain ⟨k, hkk⟩ : ∃ k, (a' : Int) - D' - b' = k := ⟨_, rfl⟩
 rw [hkk] at hk
 haveI k1 : 0 ≤ k := by
  refine Int.not_lt.mp fun q => ?_
  haveI := Int.mul_le_mul_of_nonneg_left (by lia : k ≤ -1) (by lia : (0 : Int) ≤ B)
  lia
 haveI k2 : k ≤ 1 := by
  refine Int.not_lt.mp fun q => ?_
  haveI := Int.mul_le_mul_of_nonneg_left (by lia : 2 ≤ k) (by lia : (0 : Int) ≤ B)
  lia
 haveI : k = 0 ∨ k = 1 := by lia
 rcases this with rfl | rfl
 ·right; lia
 ·left; lia
section
variable {w : Nat} (hw : 0 < w) (hw2 : w ≤ 16)
include hw
theorem Qqq {cl : Qh} {ρ : Rho} {H : Hp} {b i j : Nat} {e : PE} (hj : gt ρ j = .d (nn w b)) (ek : evE cl e ρ H = .ok (.d (nd i)) H) : evE cl (.ite (.cmp .lt e (.len (.loc j))) (.idx (.loc j) e) (.kd (.int 0))) ρ H = .ok (.d (nd (b / (2 ^ w) ^ i % 2 ^ w))) H := by
 haveI hB := QI hw
 have ej : evE cl (.loc j) ρ H = .ok (.d (nn w b)) H := QY hj
 refine QO (Qf ek (Qz ej) (QV _ _)) ?_
 by_cases h : i < (dg (2 ^ w) b).length
 ·rw [decide_eq_true h]; exact Qi ej ek rfl (QaW hB h)
 ·rw [decide_eq_false h, QaZ hB (by lia), Nat.zero_mod]; rfl
include hw2
theorem Qrp {a b : Nat} (m : Nat) (H : Hp) (ha : fits a) (hb : b ≤ a) : Qc tb (m + 2) 4 [.d (nn w a), .d (nn w b), .d (nd w)] H = .ok (nn w (a - b)) H := by
 haveI hB := QI hw
 haveI la := QQ hw ha
 obtain ⟨D, rfl⟩ := Nat.exists_eq_add_of_le hb
 rw [Nat.add_sub_cancel_left]
 haveI hc : cmpz (b + D) b = if 0 < D then 1 else 0 := by unfold cmpz; rw [if_neg (by lia)]; congr 1; rw [Nat.lt_add_right_iff_pos]
 obtain ⟨ρ1, H1, e1, v1, u1, r1, hr1, q1, rfl, rfl⟩ := Qmu (k := 6) (lo := 0) (n := (dg (2 ^ w) (b + D)).length) (body := exB (Qc tb (m + 1)) H.length B_sub_0) (ρ := [.d (nn w (b + D)), .d (nn w b), .d (nd w), .cell H.length, .d (nd 0), .d (.int (1 * 2 ^ w)), .unb, .unb]) (H := H ++ [[]])
  (fun i ρ H' => Ex3 fun v u r => r ≤ 1 ∧ r + D / (2 ^ w) ^ i + b / (2 ^ w) ^ i = (b + D) / (2 ^ w) ^ i ∧ ρ = [.d (nn w (b + D)), .d (nn w b), .d (nd w), .cell H.length, .d (nd r), .d (.int (1 * 2 ^ w)), v, u] ∧ H' = H ++ [(dl (2 ^ w) i D).map nd])
  ⟨_, _, 0, by lia, by simp; lia, rfl, rfl⟩ (by
   rintro i _ _ hi ⟨v, u, r, hr, q, rfl, rfl⟩
   rw [Nat.zero_add]
   obtain ⟨t, ht⟩ : ∃ t, t = (((b + D) / (2 ^ w) ^ i % 2 ^ w : Nat) : Int) - r - (b / (2 ^ w) ^ i % 2 ^ w : Nat) := ⟨_, rfl⟩
   haveI e0 : evE (Qc tb (m + 1)) (.bin .sub (.bin .sub (.idx (.loc 0) (.loc 6)) (.loc 4)) (.ite (.cmp .lt (.loc 6) (.len (.loc 1))) (.idx (.loc 1) (.loc 6)) (.kd (.int 0)))) [.d (nn w (b + D)), .d (nn w b), .d (nd w), .cell H.length, .d (nd r), .d (.int (1 * 2 ^ w)), .d (nd i), u] (H ++ [(dl (2 ^ w) i D).map nd]) = .ok (.d (.int t)) (H ++ [(dl (2 ^ w) i D).map nd]) := by
    rw [ht]
    exact Qe (Qe (Qi rfl rfl rfl (QaW hB hi)) rfl rfl) (Qqq hw rfl rfl) rfl
   haveI ap := app1 H (dl (2 ^ w) i D) (D / (2 ^ w) ^ i % 2 ^ w) (by rw [QaU]; lia)
   rw [← Qbl] at ap
   rcases Qpx hB hr q ht with ⟨s1, s2, s3⟩ | ⟨s1, s2, s3⟩
   ·haveI hz := (QaY t).trans (congrArg some (decide_eq_true s1))
    refine ⟨_, _, sq (Qk e0) (sq (Qk (QO (z := true) (Qf rfl rfl hz) rfl)) (sq (Qcn (QO (z := true) (Qf rfl rfl hz) (Qe rfl rfl rfl)) rfl ?_) rfl)), _, _, 1, by lia, s3, rfl, rfl⟩
    rw [← ap]; exact congrArg (fun z => QeW _ _ (PyData.int z)) (by rw [← s2]; push_cast; lia)
   ·haveI hz := (QaY t).trans (congrArg some (decide_eq_false s1))
    refine ⟨_, _, sq (Qk e0) (sq (Qk (QO (z := false) (Qf rfl rfl hz) rfl)) (sq (Qcn (QO (z := false) (Qf rfl rfl hz) rfl) rfl ?_) rfl)), _, _, 0, by lia, s3, rfl, rfl⟩
    rw [← ap]; exact congrArg (fun z => QeW _ _ (PyData.int z)) s2)
 refine (Qt (f := Qte) rfl rfl (sq (Qr (z := false) (Qf (Qb rfl (Qae hw m H ha (by unfold fits at *; lia))) rfl ((QaY _).trans (congrArg some (decide_eq_false ?_)))) rfl) (sq (QT (Qa rfl (Qa rfl (Qa (QmL rfl (by lia)) rfl))) rfl) (sq (QP (QM (Qz rfl) (by lia)) e1) (Qg (Qy (Qb rfl (QbY hw m (getc _ _) (Qmw hB _ _) (by rw [QaU]; lia)))))))) tk1).trans ?_
 ·rw [hc]; split <;> lia
 ·unfold nn; rw [Qlv hB (Nat.lt_of_le_of_lt (by lia) (Qcd hB (b + D)))]
end
theorem kx {n i : Nat} (h : i < n) : ∃ k, n = k + 1 + i := let ⟨k, e⟩ := Nat.exists_eq_add_of_lt h; ⟨k, by rw [e, Nat.add_comm i k, Nat.add_right_comm]⟩
theorem kx1 {n k i : Nat} (h : n = k + 1 + i) : n - i = k + 1 := by rw [h, Nat.add_sub_cancel]
theorem kx2 {n k i : Nat} (h : n = k + 1 + i) : n - 1 - i = k := by rw [h, Nat.add_right_comm, Nat.add_sub_cancel, Nat.add_sub_cancel]
theorem kx3 {n k i : Nat} (h : n = k + 1 + i) : n - (i + 1) = k := by rw [h, Nat.add_assoc, Nat.add_comm 1 i, Nat.add_sub_cancel]
noncomputable def mx {α : Type} (f g : Nat → α) (n k : Nat) : List α := (List.range n).map fun j => if j < k then f j else g j
theorem QbA {α : Type} (f g : Nat → α) (n k : Nat) : (mx f g n k).length = n := by simp [mx]
theorem QoH {α : Type} (f g : Nat → α) (n : Nat) : mx f g n n = (List.range n).map f :=
 List.map_congr_left fun j hj => by rw [if_pos (List.mem_range.mp hj)]
theorem Qra {α : Type} (f g : Nat → α) (n : Nat) : mx f g n 0 = (List.range n).map g :=
 List.map_congr_left fun j hj => by rw [if_neg (by lia)]
theorem QcA {α : Type} {f g : Nat → α} {n k i : Nat} (h : i < n) : (mx f g n k)[i]? = some (if i < k then f i else g i) := by simp [mx, h]
theorem Qmv {α : Type} {f g : Nat → α} {n k : Nat} : (mx f g n k).set k (f k) = mx f g n (k + 1) := by
 refine List.ext_getElem? fun i => ?_
 rw [List.getElem?_set, QbA]
 by_cases hi : i < n
 ·rw [QcA hi, QcA hi]
  by_cases h : k = i
  ·subst h; simp [hi]
  ·rw [if_neg h]; congr 1
   by_cases h2 : i < k
   ·rw [if_pos h2, if_pos (by lia)]
   ·rw [if_neg h2, if_neg (by lia)]
 ·rw [List.getElem?_eq_none (by rw [QbA]; lia), List.getElem?_eq_none (by rw [QbA]; lia)]
  split <;> simp; lia
theorem QqL {α : Type} {f g : Nat → α} {n k : Nat} : (mx f g n (k + 1)).set k (g k) = mx f g n k := by
 refine List.ext_getElem? fun i => ?_
 rw [List.getElem?_set, QbA]
 by_cases hi : i < n
 ·rw [QcA hi, QcA hi]
  by_cases h : k = i
  ·subst h; simp [hi]
  ·rw [if_neg h]; congr 1
   by_cases h2 : i < k
   ·rw [if_pos h2, if_pos (by lia)]
   ·rw [if_neg h2, if_neg (by lia)]
 ·rw [List.getElem?_eq_none (by rw [QbA]; lia), List.getElem?_eq_none (by rw [QbA]; lia)]
  split <;> simp; lia
theorem QpA (c n : Nat) (g : Nat → Nat) : (mx (fun _ => c) g n n).map nd = List.replicate n (nd c) := by
 rw [QoH, List.map_map]; simp [List.eq_replicate_iff]
theorem Qdd (l : List Nat) (i x : Nat) : (l.map nd).set i (nd x) = (l.set i x).map nd := by rw [List.map_set]
theorem Qni {cl : Qh} {ρ : Rho} {H H1 H2 : Hp} {e f : PE} {v : V} {x : D} {i : Int} (h : evE cl e ρ H = .ok v H1) (h2 : evE cl f ρ H1 = .ok (.d (.int i)) H2) (hv : Qbk H2 v = some [x]) (hi : -4194304 ≤ i ∧ i ≤ 4194304) : evF cl (.rep e f) ρ H = .ok (List.replicate i.toNat x) H2 := Qv h (Qv h2 (QN hv (QN rfl (QhO hi rfl))))
theorem Qed {cl : Qh} {ρ : Rho} {H : Hp} {f : PE} {n : Nat} (h2 : evE cl f ρ H = .ok (.d (nd n)) H) (hi : n ≤ 4000) : evE cl (.mk true (.rep (.mk false (.list (.cons (.kd (.int 0)) .nil))) f)) ρ H = .ok (.cell H.length) (H ++ [List.replicate n (nd 0)]) :=
 QbC (Qni (v := .d (.list [.int 0])) rfl h2 rfl (by lia))
theorem Qnp {X A B y : Nat} (p : Nat) (h : X = y + B * A) : X = (A % p * B + y) + p * (B * (A / p)) := by
 haveI := Nat.div_add_mod A p
 generalize A / p = q at *
 generalize A % p = r at *
 subst h; subst this; grind
section
variable {w : Nat} (hw : 0 < w) (hw2 : w ≤ 16)
include hw hw2
theorem Qia {a p : Nat} (m : Nat) (H : Hp) (ha : fits a) (hp : 0 < p) (hp2 : p < 1073741824) : Qc tb (m + 2) 6 [.d (nn w a), .d (nd p), .d (nd w)] H = .ok (.tuple [nn w (a / p), nd (a % p)]) H := by
 haveI hB := QI hw
 haveI la := QQ hw ha
 obtain ⟨n, hn⟩ : ∃ n, n = (dg (2 ^ w) a).length := ⟨_, rfl⟩
 obtain ⟨ρ1, H1, e1, v1, rfl, rfl⟩ := QtQ (k := 5) (n := n) (body := exB (Qc tb (m + 1)) H.length B_divrem_limb_0) (ρ := [.d (nn w a), .d (nd p), .d (nd w), .cell H.length, .d (nd 0), .unb]) (H := H ++ [(mx (fun _ => 0) (fun j => a / p / (2 ^ w) ^ j % 2 ^ w) n n).map nd])
  (fun i ρ H' => ∃ v, ρ = [.d (nn w a), .d (nd p), .d (nd w), .cell H.length, .d (nd (a / (2 ^ w) ^ (n - i) % p)), v] ∧ H' = H ++ [(mx (fun _ => 0) (fun j => a / p / (2 ^ w) ^ j % 2 ^ w) n (n - i)).map nd])
  ⟨_, by rw [Nat.sub_zero, hn, QaZ hB (Nat.le_refl _), Nat.zero_mod], rfl⟩ (by
   rintro i _ _ hi ⟨v, rfl, rfl⟩
   obtain ⟨k, hk⟩ := kx hi
   rw [kx1 hk, kx2 hk, kx3 hk]
   haveI hd := QaM (B := 2 ^ w) a k
   haveI hx := Nat.mod_lt (a / (2 ^ w) ^ k) (by lia : 0 < 2 ^ w)
   haveI hr := Nat.mod_lt (a / (2 ^ w) ^ (k + 1)) hp
   haveI hX := Qnp p hd
   haveI hlt : (a / (2 ^ w) ^ (k + 1) % p * 2 ^ w + a / (2 ^ w) ^ k % 2 ^ w) / p < 2 ^ w := by
    rw [Nat.div_lt_iff_lt_mul hp]
    haveI := Nat.mul_le_mul_right (2 ^ w) (Nat.succ_le_of_lt hr)
    rw [Nat.succ_mul, Nat.mul_comm p] at this; lia
   haveI r1 : a / (2 ^ w) ^ k % p = (a / (2 ^ w) ^ (k + 1) % p * 2 ^ w + a / (2 ^ w) ^ k % 2 ^ w) % p := by
    rw [hX, Nat.add_mul_mod_self_left, ← hX]
   haveI r2 : a / p / (2 ^ w) ^ k % 2 ^ w = (a / (2 ^ w) ^ (k + 1) % p * 2 ^ w + a / (2 ^ w) ^ k % 2 ^ w) / p := by
    rw [Nat.div_div_eq_div_mul, Nat.mul_comm, ← Nat.div_div_eq_div_mul, hX, Nat.add_mul_div_left _ _ hp, Nat.add_mul_mod_self_left, ← hX, Nat.mod_eq_of_lt hlt]
   refine ⟨_, _, sq (Qk (Qe (Qe rfl rfl (Qgm (by lia) (by lia))) (Qi rfl rfl rfl (QaW hB (by lia))) (Qpz _ hx))) (sq (QaJ (Qe rfl rfl (Qgw _ hp hp2)) rfl rfl (set1 _ _ _ _ (by rw [List.length_map, QbA]; lia))) (sq (Qcb rfl rfl (Qcy _ hp)) rfl)), .d (nd k), ?_, ?_⟩
   ·rw [r1]; rfl
   ·rw [Qdd, ← r2, ← QqL (k := k)])
 rw [Nat.sub_self] at e1
 rw [QpA] at e1
 rw [Nat.pow_zero, Nat.div_one, Qra] at e1
 haveI e2 : Qc tb (m + 1) 0 [.cell H.length] (H ++ [(dl (2 ^ w) n (a / p)).map nd]) = .ok (nn w (a / p)) (H ++ [(dl (2 ^ w) n (a / p)).map nd]) := by
  rw [QbY hw m (getc _ _) (Qmw hB _ _) (by rw [QaU]; lia)]
  unfold nn; rw [Qlv hB (Nat.lt_of_le_of_lt (Nat.div_le_self _ _) (hn ▸ Qcd hB a))]
 refine Qt (f := Qcz) rfl rfl (sq (Qr (z := false) (Qf rfl rfl ((Qbs p 0).trans (congrArg some (decide_eq_false (by lia))))) rfl) (sq (QT (Qa (Qed (hn ▸ Qz rfl) (by lia)) rfl) rfl) (sq (QP (QcL (n := n) (Qe (hn ▸ Qz rfl) rfl rfl) (by lia)) e1) (Qg (Qbd (Qa (Qb rfl e2) rfl) rfl rfl))))) tk1
omit hw hw2 in
theorem QlY (n : Nat) : sg w (n : Int) = .tuple [.bool false, nn w n] := by
 unfold sg nn
 rw [decide_eq_false (by lia), Int.natAbs_natCast]
theorem QaF {z : Int} {p : Nat} (m : Nat) (H : Hp) (hz : fits z.natAbs) (hp : 0 < p) (hp2 : p < 1073741824) : Qc tb (m + 1) 32 [.d (sg w z), .d (nd p), .d (nd w)] H = .ok (.int (z % (p : Int))) H := by
 haveI hB := QI hw
 haveI la := QQ hw hz
 obtain ⟨n, hn⟩ : ∃ n, n = (dg (2 ^ w) z.natAbs).length := ⟨_, rfl⟩
 obtain ⟨ρ1, H1, e1, v1, rfl, rfl⟩ := QpW (k := 4) (xs := ((dg (2 ^ w) z.natAbs).map nd).reverse) (body := exB (Qc tb m) H.length B_rest_plain_0) (ρ := [.d (sg w z), .d (nd p), .d (nd w), .d (nd 0), .unb]) (H := H)
  (fun i ρ H' => ∃ v, ρ = [.d (sg w z), .d (nd p), .d (nd w), .d (nd (z.natAbs / (2 ^ w) ^ (n - i) % p)), v] ∧ H = H')
  ⟨_, by rw [Nat.sub_zero, hn, QaZ hB (Nat.le_refl _), Nat.zero_mod], rfl⟩ (by
   rintro i x _ _ hx ⟨v, rfl, rfl⟩
   haveI hi : i < n := by as_aux_lemma => have := (List.getElem?_eq_some_iff.mp hx).1; simpa [hn] using this
   obtain ⟨k, hk⟩ := kx hi
   haveI hg := QaW hB (n := z.natAbs) (i := k) (by lia)
   rw [List.getElem?_reverse (by simp; lia), List.length_map, ← hn, kx2 hk, ← QaG, hg] at hx
   obtain rfl := Option.some.inj hx
   rw [show n - i = k + 1 from by lia, show n - (i + 1) = k from by lia]
   haveI hr := Nat.mod_lt (z.natAbs / (2 ^ w) ^ (k + 1)) hp
   refine ⟨_, _, sq (Qk (Qe (Qe (Qe rfl rfl (Qgm (by lia) (by lia))) rfl (QG _ _)) rfl (Qcy _ hp))) rfl, .d (nd (z.natAbs / (2 ^ w) ^ k % 2 ^ w)), ?_, rfl⟩
   haveI hd := QaM (B := 2 ^ w) z.natAbs k
   haveI r1 : z.natAbs / (2 ^ w) ^ k % p = (z.natAbs / (2 ^ w) ^ (k + 1) % p * 2 ^ w + z.natAbs / (2 ^ w) ^ k % 2 ^ w) % p := by
    rw [Qnp p hd, Nat.add_mul_mod_self_left, ← Qnp p hd]
   rw [r1]; rfl)
 rw [List.length_reverse, List.length_map, ← hn, Nat.sub_self, Nat.pow_zero, Nat.div_one] at e1
 refine Qt (f := QdK) rfl rfl (sq (Qk rfl) (sq (QP (H1 := H) rfl e1) (Qg (Qy (QO (z := decide (z < 0)) rfl ?_))))) tk0
 by_cases h : z < 0
 ·rw [decide_eq_true h]
  haveI e : binD .mod (.int (-((z.natAbs % p : Nat) : Int))) (nd p) = some (.int (z % (p : Int))) := by
   show (binI .mod _ (p : Int)).map PyData.int = _
   simp only [binI]
   rw [if_neg (by lia), Int.fmod_eq_emod_of_nonneg _ (by lia), Option.map_some]
   congr 2
   haveI := Int.natAbs_of_nonneg (a := -z) (by lia)
   rw [Int.natAbs_neg] at this
   rw [Int.natCast_emod, this, ← Int.zero_sub, Int.sub_emod_emod, Int.zero_sub, Int.neg_neg]
  exact Qe rfl rfl e
 ·rw [decide_eq_false h]
  haveI := Int.natAbs_of_nonneg (a := z) (by lia)
  rw [show z % (p : Int) = ((z.natAbs % p : Nat) : Int) from by rw [Int.natCast_emod, this]]
  rfl
end
theorem QnU {w : Nat} (hw : w ≤ 1000) : binD .pow (nd 2) (nd w) = some (nd (2 ^ w)) := by
 show Option.map PyData.int (if _ then _ else _) = _
 rw [if_pos ⟨by lia, by lia, by decide⟩, Int.toNat_natCast]; simp
theorem QpV {y k : Nat} (x : Nat) (h : y < 2 ^ k) : binD .or (nd y) (nd (x * 2 ^ k)) = some (nd (x * 2 ^ k + y)) := by
 haveI := Qpz x h
 change some (PyData.int (Builtin.bitOr _ _)) = _ at this
 show some (PyData.int (Builtin.bitOr _ _)) = _
 rw [bitOr_comm, this]
theorem QqJ {w : Nat} (x : Nat) (h : 0 < w) (h2 : w ≤ 16) : binD .div (nd x) (nd (2 ^ w)) = some (nd (x / 2 ^ w)) :=
 Qgw x (Nat.pow_pos (by lia)) (Nat.lt_of_le_of_lt (Nat.pow_le_pow_right (by lia) h2) (by lia))
theorem QgW : ∀ ys : List Int, QeX (ys.map PyData.int) = some ys
 | [] => rfl
 | y :: r => by simp [QeX, QgW r]
theorem Qnb {cl : Qh} {ρ : Rho} {H H1 : Hp} {e : PE} {ys : List Int} (h : evE cl e ρ H = .ok (.d (.list (ys.map PyData.int))) H1) : evE cl (.sum e) ρ H = .ok (.d (.int ys.sum)) H1 := by
 exact Qv h (QN (QgW ys) rfl)
section
variable {w : Nat} (hw : 0 < w) (hw2 : w ≤ 16)
include hw hw2
theorem QjH (cl : Qh) (base : Nat) (H : Hp) (z : Int) : ∀ (f n : Nat) (acc : List Nat), (dg (2 ^ w) n).length < f → acc.length + (dg (2 ^ w) n).length ≤ 4000 →
  Qav (evE cl T_law_signed_0) (exB cl base B_law_signed_0) f [.d (.int z), .d (nd w), .d (nd n), .cell H.length] (H ++ [acc.map nd]) =
   .next [.d (.int z), .d (nd w), .d (nd 0), .cell H.length] (H ++ [(acc ++ dg (2 ^ w) n).map nd])
 | 0, n, acc, h, _ => by lia
 | f + 1, n, acc, h, h2 => by
  by_cases hn : n = 0
  ·subst hn
   rw [Qbx, List.append_nil]
   exact QA rfl
  ·haveI hd := QbH (QI hw) (by lia : 0 < n)
   rw [hd] at h h2 ⊢
   simp only [List.length_cons] at h h2
   haveI ih := QjH cl base H z f (n / 2 ^ w) (acc ++ [n % 2 ^ w]) (by lia) (by simp; lia)
   rw [List.append_assoc] at ih
   exact QaS (Qf rfl rfl ((Qcv n).trans (congrArg some (decide_eq_true (by lia))))) (sq (Qcn (Qe rfl (Qe rfl rfl (QnU (by lia))) (Qcy _ (Nat.pow_pos (by lia)))) rfl (app1 _ _ _ (by lia))) (sq (Qk (Qe rfl (Qe rfl rfl (QnU (by lia))) (QqJ _ hw hw2))) rfl)) ih
theorem Qhd (cl : Qh) (base : Nat) (H : Hp) : ∀ (f n : Nat) (acc : List Nat), (dg (2 ^ w) n).length < f → acc.length + (dg (2 ^ w) n).length ≤ 4000 →
  Qav (evE cl T_nat_of_0) (exB cl base B_nat_of_0) f [.d (nd n), .d (nd w), .cell H.length, .d (.int (1 * 2 ^ w - 1))] (H ++ [acc.map nd]) =
   .next [.d (nd 0), .d (nd w), .cell H.length, .d (.int (1 * 2 ^ w - 1))] (H ++ [(acc ++ dg (2 ^ w) n).map nd])
 | 0, n, acc, h, _ => absurd h (Nat.not_lt_zero _)
 | f + 1, n, acc, h, h2 => by
  by_cases hn : n = 0
  ·subst hn
   rw [Qbx, List.append_nil]
   exact QA rfl
  ·haveI hd := QbH (QI hw) (Nat.pos_of_ne_zero hn)
   rw [hd] at h h2 ⊢
   simp only [List.length_cons] at h h2
   haveI ih := Qhd cl base H f (n / 2 ^ w) (acc ++ [n % 2 ^ w]) (by lia) (by simp; lia)
   rw [List.append_assoc] at ih
   exact QaS (Qf rfl rfl ((Qcv n).trans (congrArg some (decide_eq_true (Nat.pos_of_ne_zero hn))))) (sq (Qcn (Qe rfl rfl (Qhe _ _)) rfl (app1 _ _ _ (by lia))) (sq (Qcb rfl rfl (QgV _ _)) rfl)) ih
theorem QkQ (m n : Nat) (H : Hp) (hl : (dg (2 ^ w) n).length ≤ 4000) : Qc tb (m + 1) 1 [.d (nd n), .d (nd w)] H = .ok (nl (dg (2 ^ w) n)) H :=
 Qt (f := Qlk) rfl rfl (sq (Qr (z := false) (Qf rfl rfl ((QaY _).trans (congrArg some (decide_eq_false (by lia))))) rfl) (sq (QT (Qa rfl (Qa (QeA rfl (by lia)) rfl)) rfl) (sq (QcE (Qhd hw hw2 (Qc tb m) H.length H QH n [] (by unfold QH; lia) (by simpa using hl))) (Qg (Qgc rfl (Nat.le_refl _) (getc _ _)))))) tk1
theorem QbN (m : Nat) (z : Int) (H : Hp) (hz : fits z.natAbs) : Qc tb (m + 1) 54 [.d (.int z), .d (nd w)] H = .ok (sg w z) H := by
 haveI la := QQ hw hz
 haveI h := QjH hw hw2 (Qc tb m) H.length H z QH z.natAbs [] (by unfold QH; lia) (by simp; lia)
 haveI ht : toDs H.length (H ++ [(dg (2 ^ w) z.natAbs).map nd]) [.d (.bool (decide (z < 0))), .cell H.length] = some [.bool (decide (z < 0)), nl (dg (2 ^ w) z.natAbs)] := by
  simp [toDs, toD, nl]
 exact Qt (f := Qdu) rfl rfl (sq (QT (Qa rfl (Qa (QbC rfl) rfl)) rfl) (sq (QcE h) (Qg (Qbd (Qa (Qf rfl rfl rfl) rfl) ht rfl)))) tk1
theorem Qer (cl : Qh) (H : Hp) (x y : V) : ∀ (l : List Nat) (i : Nat) (u v : V), (∀ x ∈ l, x < 2 ^ w) → i + l.length ≤ 60 →
  ∃ ys : List Int, QU (Tgt.two 3 4).bd (evE cl E_law_plain_0) QaE (Qcc i (l.map nd)) [x, .d (nd w), y, u, v] H = .ok (ys.map .int) H ∧ ys.sum = (((2 ^ w) ^ i * val (2 ^ w) l : Nat) : Int)
 | [], i, u, v, _, _ => ⟨[], rfl, by simp [val]⟩
 | a :: r, i, u, v, hl, hi => by
  obtain ⟨ys, HH4⟩ := Qer cl H x y r (i + 1) (.d (nd i)) (.d (nd a)) (fun y hy => hl y (List.mem_cons_of_mem _ hy)) (by simp at hi; lia)
  haveI e1 := HH4.1
  haveI e2 := HH4.2
  simp only [List.length_cons] at hi
  haveI hB := Nat.pow_le_pow_right (n := 2) (by lia) hw2
  haveI ha := hl a List.mem_cons_self
  haveI hwi : w * i ≤ 1000 := Nat.le_trans (Nat.mul_le_mul hw2 (by lia : i ≤ 60)) (by lia)
  refine ⟨((a * 2 ^ (w * i) : Nat) : Int) :: ys, Qd (y := nd (a * 2 ^ (w * i))) rfl (Qe rfl (Qe rfl (Qe rfl rfl (Qel i (by lia))) (QnU hwi)) (Qel _ (by lia))) e1, ?_⟩
  rw [List.sum_cons, e2]
  simp only [val]
  rw [← Int.natCast_add, Nat.pow_mul, Nat.pow_succ]
  congr 1
  generalize (2 ^ w) ^ i = X
  grind
theorem Qey (m : Nat) (z : Int) (H : Hp) (hz : z.natAbs < 2 ^ 60) : Qc tb (m + 1) 56 [.d (sg w z), .d (nd w)] H = .ok (.int z) H := by
 haveI hB := QI hw
 haveI la := Qlx hB z.natAbs 60 (Nat.lt_of_lt_of_le hz (Nat.pow_le_pow_left hB 60))
 obtain ⟨ys, HH3⟩ := Qer hw hw2 (Qc tb m) H (.d (sg w z)) .unb (dg (2 ^ w) z.natAbs) 0 .unb .unb (QsF hB _) (by lia)
 haveI e1 := HH3.1
 haveI e2 := HH3.2
 rw [QmZ hB, Nat.pow_zero, Nat.one_mul] at e2
 haveI es : evE (Qc tb m) (.sum (.mk false (.comp E_law_plain_0 (.two 3 4) (.enum (.idx (.loc 0) (.kd (.int 1))))))) [.d (sg w z), .d (nd w), .unb, .unb, .unb] H = .ok (.d (nd z.natAbs)) H := by
  haveI := Qnb (Qu (Qo (cl := Qc tb m) (i := .enum (.idx (.loc 0) (.kd (.int 1)))) (e := E_law_plain_0) rfl e1))
  rwa [e2] at this
 refine Qt (f := QeM) rfl rfl (sq (Qk es) (Qg (Qy (QO (z := decide (z < 0)) rfl ?_)))) tk0
 by_cases h : z < 0
 ·rw [decide_eq_true h]
  exact Qe rfl rfl (congrArg (fun z => some (PyData.int z)) (by lia))
 ·rw [decide_eq_false h]
  rw [show z = (z.natAbs : Int) from by lia]
  rfl
end
section
variable {w : Nat} (hw : 0 < w) (hw2 : w ≤ 16)
include hw hw2
theorem QaB {a f : Nat} (m : Nat) (H : Hp) (ha : fits a) (hf : f < w) : Qc tb (m + 1) 7 [.d (nn w a), .d (nd f), .d (nd w)] H = .ok (nn w (a * 2 ^ f)) H := by
 haveI hB := QI hw
 haveI la := QQ hw ha
 by_cases h0 : a = 0
 ·subst h0
  rw [Nat.zero_mul]
  exact Qt (f := QbR) (H1 := H) rfl rfl (Qg (Qr (z := true) rfl rfl)) tk0
 haveI hl0 : (dg (2 ^ w) a).length ≠ 0 := fun q => h0 ((Qjh hB).mp (List.length_eq_zero_iff.mp q))
 haveI h2f : 2 ^ f ≤ 2 ^ w := Nat.pow_le_pow_right (by lia) (by lia)
 haveI hBw := Nat.pow_le_pow_right (n := 2) (by lia) hw2
 haveI pf : 0 < 2 ^ f := Nat.pow_pos (by lia)
 obtain ⟨ρ1, H1, e1, v1, c1, hc1, q1, rfl, rfl⟩ := QpW (k := 8) (xs := (dg (2 ^ w) a).map nd) (body := exB (Qc tb m) H.length B_shift_left_0) (ρ := [.d (nn w a), .d (nd f), .d (nd w), .d (nd 0), .d (nd f), .cell H.length, .d (nd 0), .d (.int (1 * 2 ^ w - 1)), .unb]) (H := H ++ [[]])
  (fun i ρ H' => Ex2 fun v c => c < 2 ^ f ∧ c + 2 ^ f * (a / (2 ^ w) ^ i) = a * 2 ^ f / (2 ^ w) ^ i ∧ ρ = [.d (nn w a), .d (nd f), .d (nd w), .d (nd 0), .d (nd f), .cell H.length, .d (nd c), .d (.int (1 * 2 ^ w - 1)), v] ∧ H' = H ++ [(dl (2 ^ w) i (a * 2 ^ f)).map nd])
  ⟨_, 0, pf, by simp [Nat.mul_comm], rfl, rfl⟩ (by
   rintro i x _ _ hx ⟨v, c, hc, q, rfl, rfl⟩
   haveI hi : i < (dg (2 ^ w) a).length := by have := (List.getElem?_eq_some_iff.mp hx).1; simpa using this
   rw [← QaG, QaW hB hi] at hx
   obtain rfl := Option.some.inj hx
   haveI hxl := Nat.mod_lt (a / (2 ^ w) ^ i) (by lia : 0 < 2 ^ w)
   haveI hd := QaM (B := 2 ^ w) a i
   generalize hX : a / (2 ^ w) ^ i % 2 ^ w = X at *
   haveI := QjV (X := a * 2 ^ f / (2 ^ w) ^ i) (t := X * 2 ^ f + c) (q := 2 ^ f * (a / (2 ^ w) ^ (i + 1))) hB (by rw [← q, hd]; grind)
   refine ⟨_, _, sq (Qcb rfl (Qe rfl rfl (Qgm (by lia) (by lia))) (QpV _ hc)) (sq (Qcn (Qe rfl rfl (Qhe _ _)) rfl (app1 _ _ _ (by rw [QaU]; lia))) (sq (Qcb rfl rfl (QgV _ _)) rfl)), _, _, ?_, ?_, rfl, ?_⟩
   ·rw [Nat.div_lt_iff_lt_mul (by lia)]
    haveI := Nat.mul_le_mul_right (2 ^ f) (Nat.succ_le_of_lt hxl)
    rw [Nat.succ_mul, Nat.mul_comm (2 ^ w)] at this; lia
   ·rw [QaO (a * 2 ^ f), this.2]
   ·rw [Qbl, this.1])
 rw [List.length_map] at q1 e1
 rw [QaZ hB (Nat.le_refl _), Nat.mul_zero, Nat.add_zero] at q1
 haveI e0 : cmpD .eq (.int ((((dg (2 ^ w) a).map nd).length : Nat) : Int)) (.int 0) = some false := (Qbs _ 0).trans (congrArg some (decide_eq_false (by rw [List.length_map]; exact hl0)))
 haveI sp : binD .div (nd f) (nd w) = some (nd 0) := by rw [Qgw f hw (by lia), Nat.div_eq_of_lt hf]
 haveI fw : binD .mod (nd f) (nd w) = some (nd f) := by rw [Qcy f hw, Nat.mod_eq_of_lt hf]
 haveI hge : a ≤ a * 2 ^ f := Nat.le_mul_of_pos_right a pf
 refine Qt (f := QbR) (H1 := H ++ [(dg (2 ^ w) (a * 2 ^ f)).map nd]) rfl rfl (sq (Qr (z := false) (Qf (QC rfl rfl) rfl e0) rfl) (sq (QT (Qa (Qe rfl rfl sp) (Qa (Qe rfl rfl fw) rfl)) rfl) (sq (QT (Qa (Qed rfl (by lia)) (Qa rfl (Qa (QeA rfl (by lia)) rfl))) rfl) (sq (QP rfl e1) (sq (Qr (z := decide (0 < c1)) (Qf rfl rfl (Qcv c1)) (o := .next [.d (nn w a), .d (nd f), .d (nd w), .d (nd 0), .d (nd f), .cell H.length, .d (nd c1), .d (.int (1 * 2 ^ w - 1)), v1] (H ++ [(dg (2 ^ w) (a * 2 ^ f)).map nd])) ?_) (Qg (Qgc rfl (Nat.le_refl _) (getc _ _)))))))) tk1
 haveI pp : 0 < (2 ^ w) ^ (dg (2 ^ w) a).length := Nat.pow_pos (by lia)
 by_cases hc : 0 < c1
 ·rw [decide_eq_true hc]
  refine sq (Qcn rfl rfl (app1 _ _ _ (by rw [QaU]; lia))) ?_
  haveI hlt : a * 2 ^ f < (2 ^ w) ^ ((dg (2 ^ w) a).length + 1) := by
   rw [Nat.pow_succ]; exact Nat.lt_of_lt_of_le ((Nat.mul_lt_mul_right pf).mpr (Qcd hB a)) (Nat.mul_le_mul_left _ h2f)
  haveI hge2 : (2 ^ w) ^ (dg (2 ^ w) a).length ≤ a * 2 ^ f := by
   refine Nat.le_of_not_lt fun q => ?_
   rw [Nat.div_eq_of_lt q] at q1; lia
  rw [Qny hB hlt (fun j hj => by cases hj; exact hge2), Qbl, ← q1, Nat.mod_eq_of_lt (Nat.lt_of_lt_of_le hc1 h2f)]
  rfl
 ·rw [decide_eq_false hc]
  haveI hlt : a * 2 ^ f < (2 ^ w) ^ (dg (2 ^ w) a).length := by as_aux_lemma =>
   refine Nat.lt_of_not_le fun q => ?_
   haveI := Nat.div_pos q pp; lia
  rw [Qny hB hlt (fun j hj => Nat.le_trans (Qpt hB a j hj) hge)]; rfl
theorem Qif {a f : Nat} (m : Nat) (H : Hp) (ha : fits a) (hf : f < w) : Qc tb (m + 2) 8 [.d (nn w a), .d (nd f), .d (nd w)] H = .ok (nn w (a / 2 ^ f)) H := by
 haveI hB := QI hw
 haveI la := QQ hw ha
 haveI hBw := Nat.pow_le_pow_right (n := 2) (by lia) hw2
 haveI pf : 0 < 2 ^ f := Nat.pow_pos (by lia)
 haveI hs : 2 ^ w = 2 ^ f * 2 ^ (w - f) := by rw [← Nat.pow_add]; congr 1; lia
 obtain ⟨ρ1, H1, e1, v1, u1, rfl, rfl⟩ := Qmu (k := 7) (lo := 0) (n := (dg (2 ^ w) a).length) (body := exB (Qc tb (m + 1)) H.length B_shift_right_0) (ρ := [.d (nn w a), .d (nd f), .d (nd w), .d (nd 0), .d (nd f), .cell H.length, .d (.int (1 * 2 ^ w - 1)), .unb, .unb]) (H := H ++ [[]])
  (fun i ρ H' => Ex2 fun v u => ρ = [.d (nn w a), .d (nd f), .d (nd w), .d (nd 0), .d (nd f), .cell H.length, .d (.int (1 * 2 ^ w - 1)), v, u] ∧ H' = H ++ [(dl (2 ^ w) i (a / 2 ^ f)).map nd])
  ⟨_, _, rfl, rfl⟩ (by
   rintro i _ _ hi ⟨v, u, rfl, rfl⟩
   rw [Nat.zero_add]
   haveI h1 := QaM (B := 2 ^ w) a i
   haveI h2 := QaM (B := 2 ^ w) a (i + 1)
   haveI l1 := Nat.mod_lt (a / (2 ^ w) ^ i) (by lia : 0 < 2 ^ w)
   haveI l2 := Nat.mod_lt (a / (2 ^ w) ^ (i + 1)) (by lia : 0 < 2 ^ w)
   haveI hx : a / (2 ^ w) ^ i % 2 ^ w / 2 ^ f < 2 ^ (w - f) := by rw [Nat.div_lt_iff_lt_mul pf, Nat.mul_comm, ← hs]; exact l1
   haveI hv : (a / (2 ^ w) ^ (i + 1) % 2 ^ w * 2 ^ (w - f) + a / (2 ^ w) ^ i % 2 ^ w / 2 ^ f) % 2 ^ w = a / 2 ^ f / (2 ^ w) ^ i % 2 ^ w := by
    rw [Nat.div_div_eq_div_mul a, Nat.mul_comm (2 ^ f), ← Nat.div_div_eq_div_mul]
    conv => rhs; rw [h1, h2]
    generalize a / (2 ^ w) ^ (i + 1) % 2 ^ w = y
    generalize a / (2 ^ w) ^ i % 2 ^ w = x
    generalize a / (2 ^ w) ^ (i + 1 + 1) = q
    haveI : ∀ F Y W : Nat, W = F * Y → x + W * (y + W * q) = x + F * (y * Y + W * (Y * q)) := by intro F Y W h; subst h; grind
    rw [this _ _ _ hs]
    rw [Nat.add_mul_div_left _ _ pf, ← Nat.add_assoc, Nat.add_mul_mod_self_left, Nat.add_comm]
   haveI ab : binD .sub (nd w) (nd f) = some (nd (w - f)) := Qcf (by lia)
   refine ⟨_, _, sq (Qk (Qqq hw rfl (Qe rfl rfl (QG _ _)))) (sq (Qcn (Qe (Qe (Qe (Qi rfl rfl rfl (QaW hB hi)) rfl (QgV _ _)) (Qe rfl (Qe rfl rfl ab) (Qgm (by lia) (by lia))) (QpV _ hx)) rfl (Qhe _ _)) rfl (app1 _ _ _ (by rw [QaU]; lia))) rfl), _, _, rfl, ?_⟩
   rw [hv, Qbl])
 haveI sp : binD .div (nd f) (nd w) = some (nd 0) := by rw [Qgw f hw (by lia), Nat.div_eq_of_lt hf]
 haveI fw : binD .mod (nd f) (nd w) = some (nd f) := by rw [Qcy f hw, Nat.mod_eq_of_lt hf]
 refine (Qt (f := QcT) rfl rfl (sq (QT (Qa (Qe rfl rfl sp) (Qa (Qe rfl rfl fw) rfl)) rfl) (sq (QT (Qa rfl (Qa (QeA rfl (by lia)) rfl)) rfl) (sq (QP (Qag (k := 0) rfl (Qz rfl) (by lia) (by lia)) e1) (Qg (Qy (Qb rfl (QbY hw m (getc _ _) (Qmw hB _ _) (by rw [QaU]; lia)))))))) tk1).trans ?_
 unfold nn; rw [Qlv hB (Nat.lt_of_le_of_lt (Nat.div_le_self _ _) (Qcd hB a))]
omit hw hw2 in
theorem QtG (m x : Nat) (H : Hp) : Qc tb (m + 1) 9 [.d (.list [nd x]), .d (nd w)] H = .ok (nd (Builtin.Int.intBits x)) H := by
 refine (Qt (f := Qqg) (H1 := H) rfl rfl (Qg (Qy rfl)) tk0).trans ?_
 simp
end
theorem mx_f {α : Type} {f g : Nat → α} {n k : Nat} (h : ∀ j, k ≤ j → g j = f j) : mx f g n k = (List.range n).map f :=
 List.map_congr_left fun j _ => by split; rfl; exact h j (by lia)
theorem mx_g {α : Type} {f g : Nat → α} {n k : Nat} (h : ∀ j, j < k → f j = g j) : mx f g n k = (List.range n).map g :=
 List.map_congr_left fun j _ => by split; exact h j (by lia); rfl
section
variable {w : Nat} (hw : 0 < w) (hw2 : w ≤ 16)
include hw hw2
theorem QnF {a b : Nat} (cl : Qh) (base : Nat) (H : Hp) (hb : fits b) (n i x F : Nat) (v1 v2 : V) (hx : x < 2 ^ w) (hn : i + (dg (2 ^ w) b).length < n) (hF : F < (2 ^ w) ^ (i + (dg (2 ^ w) b).length)) :
  Ex2 fun v1' v2' => exB cl base B_mul_school_1 [.d (nn w a), .d (nn w b), .d (nd w), .cell H.length, .d (.int (1 * 2 ^ w - 1)), .d (nd i), .d (nd x), .d (nd 0), v1, v2] (H ++ [(dl (2 ^ w) n F).map nd]) =
   .next [.d (nn w a), .d (nn w b), .d (nd w), .cell H.length, .d (.int (1 * 2 ^ w - 1)), .d (nd i), .d (nd x), .d (nd ((F + (2 ^ w) ^ i * (x * b)) / (2 ^ w) ^ (i + (dg (2 ^ w) b).length))), v1', v2'] (H ++ [(dl (2 ^ w) n (F + (2 ^ w) ^ i * (x * b))).map nd]) := by
 haveI hB := QI hw
 haveI lb := QQ hw hb
 haveI hBw := Nat.pow_le_pow_right (n := 2) (by lia) hw2
 obtain ⟨G, hG⟩ : ∃ G, G = F + (2 ^ w) ^ i * (x * b) := ⟨_, rfl⟩
 haveI low : ∀ j, j < i → G / (2 ^ w) ^ j % 2 ^ w = F / (2 ^ w) ^ j % 2 ^ w := by
  intro j hj
  obtain ⟨k, rfl⟩ := Nat.exists_eq_add_of_lt hj
  rw [hG, show j + k + 1 = j + (1 + k) from by lia, Nat.pow_add, Nat.pow_add, Nat.mul_assoc, Nat.add_mul_div_left _ _ (Nat.pow_pos (by lia)), Nat.pow_one, Nat.mul_assoc, Nat.add_mul_mod_self_left]
 haveI hGlt : G < (2 ^ w) ^ (i + (dg (2 ^ w) b).length + 1) := by as_aux_lemma =>
  haveI h1 := Qcd hB b
  haveI h2 := Nat.mul_le_mul (Nat.le_sub_one_of_lt hx) (Nat.le_of_lt h1)
  haveI h3 := Nat.mul_le_mul_left ((2 ^ w) ^ i) h2
  rw [hG, Nat.pow_succ, Nat.pow_add]
  rw [Nat.pow_add] at hF
  generalize (2 ^ w) ^ i = P at *
  generalize (2 ^ w) ^ (dg (2 ^ w) b).length = Q at *
  haveI e : P * Q * 2 ^ w = P * Q + P * ((2 ^ w - 1) * Q) := by
   obtain ⟨k, hk⟩ : ∃ k, 2 ^ w = k + 1 := ⟨2 ^ w - 1, by lia⟩
   rw [hk, Nat.add_sub_cancel]; grind
  lia
 obtain ⟨ρ1, H1, e1, u1, u2, c1, q1, rfl, rfl⟩ := Qkf (k := 8) (l := 9) (xs := (dg (2 ^ w) b).map nd) (body := exB cl base B_mul_school_0) (ρ := [.d (nn w a), .d (nn w b), .d (nd w), .cell H.length, .d (.int (1 * 2 ^ w - 1)), .d (nd i), .d (nd x), .d (nd 0), v1, v2]) (H := H ++ [(mx (fun j => G / (2 ^ w) ^ j % 2 ^ w) (fun j => F / (2 ^ w) ^ j % 2 ^ w) n i).map nd])
  (fun s ρ H' => Ex3 fun v1 v2 c => c + F / (2 ^ w) ^ (i + s) + x * (b / (2 ^ w) ^ s) = G / (2 ^ w) ^ (i + s) ∧ ρ = [.d (nn w a), .d (nn w b), .d (nd w), .cell H.length, .d (.int (1 * 2 ^ w - 1)), .d (nd i), .d (nd x), .d (nd c), v1, v2] ∧ H' = H ++ [(mx (fun j => G / (2 ^ w) ^ j % 2 ^ w) (fun j => F / (2 ^ w) ^ j % 2 ^ w) n (i + s)).map nd])
  ⟨_, _, 0, by rw [hG, Nat.add_zero, Nat.add_mul_div_left _ _ (Nat.pow_pos (by lia))]; simp, rfl, rfl⟩ (by
   rintro s y _ _ hy ⟨v1, v2, c, q, rfl, rfl⟩
   haveI hi : s < (dg (2 ^ w) b).length := by as_aux_lemma => have := (List.getElem?_eq_some_iff.mp hy).1; simpa using this
   rw [← QaG, QaW hB hi] at hy
   obtain rfl := Option.some.inj hy
   haveI h1 := QaM (B := 2 ^ w) b s
   haveI h2 := QaM (B := 2 ^ w) F (i + s)
   haveI := QjV (X := G / (2 ^ w) ^ (i + s)) (t := c + (F / (2 ^ w) ^ (i + s) % 2 ^ w + x * (b / (2 ^ w) ^ s % 2 ^ w))) (q := F / (2 ^ w) ^ (i + s + 1) + x * (b / (2 ^ w) ^ (s + 1))) hB (by
    rw [← q]
    generalize F / (2 ^ w) ^ (i + s) = A1 at *
    generalize b / (2 ^ w) ^ s = A2 at *
    generalize A2 % 2 ^ w = r2 at *
    generalize A1 % 2 ^ w = r1 at *
    rw [h1, h2]; grind)
   haveI hg : idxD ((mx (fun j => G / (2 ^ w) ^ j % 2 ^ w) (fun j => F / (2 ^ w) ^ j % 2 ^ w) n (i + s)).map nd) ((i + s : Nat) : Int) = some (nd (F / (2 ^ w) ^ (i + s) % 2 ^ w)) := by
    rw [Qjy, QcA (by lia), if_neg (by lia)]; rfl
   refine ⟨_, _, sq (Qcb rfl (Qe (Qi rfl (Qe rfl rfl (QG _ _)) (getc _ _) hg) (Qe rfl rfl (Qel _ (by lia))) (QG _ _)) (QG _ _)) (sq (QaJ (Qe rfl rfl (Qhe _ _)) rfl (Qe rfl rfl (QG _ _)) (set1 _ _ _ _ (by rw [List.length_map, QbA]; lia))) (sq (Qcb rfl rfl (QgV _ _)) rfl)), _, _, _, ?_, rfl, ?_⟩
   ·rw [← Nat.add_assoc i s 1, QaO G, this.2, Nat.add_assoc]
   ·rw [Qdd, ← this.1, ← Nat.add_assoc i s 1, ← Qmv (k := i + s)])
 rw [List.length_map] at q1 e1
 rw [QaZ hB (Nat.le_refl _), Nat.mul_zero, Nat.add_zero, Nat.div_eq_of_lt hF, Nat.add_zero] at q1
 rw [mx_g low] at e1
 rw [← hG]
 subst q1
 haveI hc : G / (2 ^ w) ^ (i + (dg (2 ^ w) b).length) = G / (2 ^ w) ^ (i + (dg (2 ^ w) b).length) % 2 ^ w := by
  rw [Nat.mod_eq_of_lt]
  rw [Nat.div_lt_iff_lt_mul (Nat.pow_pos (by lia)), Nat.mul_comm, ← Nat.pow_succ]; exact hGlt
 haveI key : (mx (fun j => G / (2 ^ w) ^ j % 2 ^ w) (fun j => F / (2 ^ w) ^ j % 2 ^ w) n (i + (dg (2 ^ w) b).length)).set (i + (dg (2 ^ w) b).length) (G / (2 ^ w) ^ (i + (dg (2 ^ w) b).length)) = dl (2 ^ w) n G := by
  conv => lhs; arg 3; rw [hc]
  refine (Qmv (f := fun j => G / (2 ^ w) ^ j % 2 ^ w)).trans (mx_f fun j hj => ?_)
  haveI h1 := Nat.pow_le_pow_right (n := 2 ^ w) (by lia) hj
  haveI h2 := Nat.pow_le_pow_right (n := 2 ^ w) (by lia) (by lia : i + (dg (2 ^ w) b).length ≤ j)
  show F / (2 ^ w) ^ j % 2 ^ w = G / (2 ^ w) ^ j % 2 ^ w
  rw [Nat.div_eq_of_lt (by lia), Nat.div_eq_of_lt (by lia)]
 refine ⟨u1, u2, sq (Qk rfl) (sq (QP rfl e1) (sq (QaJ rfl rfl (Qe rfl (Qz rfl) (QG _ _)) (set1 _ _ _ _ (by rw [List.length_map, QbA]; lia))) ?_))⟩
 rw [Qdd, key]; rfl
theorem QhH {a b : Nat} (m : Nat) (H : Hp) (ha : fits a) (hb : fits b) : Qc tb (m + 2) 46 [.d (nn w a), .d (nn w b), .d (nd w)] H = .ok (nn w (a * b)) H := by
 haveI hB := QI hw
 haveI la := QQ hw ha
 haveI lb := QQ hw hb
 obtain ⟨ρ1, H1, e1, v1, v2, v3, v4, v5, rfl, rfl⟩ := Qkf (k := 5) (l := 6) (xs := (dg (2 ^ w) a).map nd) (body := exB (Qc tb (m + 1)) H.length B_mul_school_1) (ρ := [.d (nn w a), .d (nn w b), .d (nd w), .cell H.length, .d (.int (1 * 2 ^ w - 1)), .unb, .unb, .unb, .unb, .unb]) (H := H ++ [(dl (2 ^ w) ((dg (2 ^ w) a).length + (dg (2 ^ w) b).length) 0).map nd])
  (fun i ρ H' => Ex5 fun v1 v2 v3 v4 v5 => ρ = [.d (nn w a), .d (nn w b), .d (nd w), .cell H.length, .d (.int (1 * 2 ^ w - 1)), v1, v2, v3, v4, v5] ∧ H' = H ++ [(dl (2 ^ w) ((dg (2 ^ w) a).length + (dg (2 ^ w) b).length) (a % (2 ^ w) ^ i * b)).map nd])
  ⟨_, _, _, _, _, rfl, by rw [Nat.pow_zero, Nat.mod_one, Nat.zero_mul]⟩ (by
   rintro i x _ _ hx ⟨v1, v2, v3, v4, v5, rfl, rfl⟩
   haveI hi : i < (dg (2 ^ w) a).length := by as_aux_lemma => have := (List.getElem?_eq_some_iff.mp hx).1; simpa using this
   rw [← QaG, QaW hB hi] at hx
   obtain rfl := Option.some.inj hx
   haveI hF : a % (2 ^ w) ^ i * b < (2 ^ w) ^ (i + (dg (2 ^ w) b).length) := by
    rw [Nat.pow_add]
    exact Nat.mul_lt_mul_of_lt_of_le (Nat.mod_lt _ (Nat.pow_pos (by lia))) (Nat.le_of_lt (Qcd hB b)) (Nat.pow_pos (by lia))
   obtain ⟨v1', v2', e⟩ := QnF hw hw2 (a := a) (Qc tb (m + 1)) H.length H hb ((dg (2 ^ w) a).length + (dg (2 ^ w) b).length) i _ _ v4 v5 (Nat.mod_lt (a / (2 ^ w) ^ i) (by lia : 0 < 2 ^ w)) (by lia) hF
   haveI hs : a % (2 ^ w) ^ i * b + (2 ^ w) ^ i * (a / (2 ^ w) ^ i % 2 ^ w * b) = a % (2 ^ w) ^ (i + 1) * b := by as_aux_lemma =>
    rw [Nat.pow_succ, Nat.mod_mul, Nat.add_mul, Nat.mul_assoc]
   rw [hs] at e
   haveI e' : exB (Qc tb (m + 1)) H.length B_mul_school_1 [.d (nn w a), .d (nn w b), .d (nd w), .cell H.length, .d (.int (1 * 2 ^ w - 1)), .d (nd i), .d (nd (a / (2 ^ w) ^ i % 2 ^ w)), v3, v4, v5] (H ++ [(dl (2 ^ w) ((dg (2 ^ w) a).length + (dg (2 ^ w) b).length) (a % (2 ^ w) ^ i * b)).map nd]) = _ := e
   exact ⟨_, _, e', _, _, _, _, _, rfl, rfl⟩)
 rw [List.length_map, Nat.mod_eq_of_lt (Qcd hB a)] at e1
 haveI hz : (dl (2 ^ w) ((dg (2 ^ w) a).length + (dg (2 ^ w) b).length) 0).map nd = List.replicate ((dg (2 ^ w) a).length + (dg (2 ^ w) b).length) (nd 0) := by
  simp [dl, List.eq_replicate_iff]
 rw [hz] at e1
 refine (Qt (f := QdH) rfl rfl (sq (QT (Qa (Qed (Qe (Qz rfl) (Qz rfl) (QG _ _)) (by lia)) (Qa (QeA rfl (by lia)) rfl)) rfl) (sq (QP rfl e1) (Qg (Qy (Qb rfl (QbY hw m (getc _ _) (Qmw hB _ _) (by rw [QaU]; lia))))))) tk1).trans ?_
 unfold nn
 rw [Qlv hB]
 rw [Nat.pow_add]
 exact Nat.mul_lt_mul'' (Qcd hB a) (Qcd hB b)
end
theorem QiP {k : Nat} {f : Fn} {n : Nat} {vs : List V} {H H1 H2 : Hp} {x : D} (h : tb k = some f) (hl : vs.length = f.np) (hb : exB (Qc tb n) H.length f.body (vs ++ List.replicate (f.ns + f.nx) .unb) H = .ret x H1) (hH : H1.take H.length = H2) : Qc tb (n + 1) k vs H = .ok x H2 := by
 simp only [Qc, h, hl, if_true, hb, fin, hH]
theorem Qqr {cl : Qh} {ρ : Rho} {H H1 H2 : Hp} {e f : PE} {i j : Int} (h : evE cl e ρ H = .ok (.d (.int i)) H1) (h2 : evE cl f ρ H1 = .ok (.d (.int j)) H2) : evE cl (.min e f) ρ H = .ok (.d (.int (if j < i then j else i))) H2 := Qv h (Qv h2 (QN rfl (QN rfl rfl)))
theorem Qml {cl : Qh} {ρ : Rho} {H : Hp} {k w : Nat} (hk : gt ρ k = .d (nd w)) (h : w ≤ 1000) : evE cl (.bin .shl (.kd (.int 1)) (.loc k)) ρ H = .ok (.d (nd (2 ^ w))) H := by
 haveI := QmL (cl := cl) (H := H) hk h
 rw [this, show (1 * 2 ^ w : Int) = ((2 ^ w : Nat) : Int) from by simp]
theorem QnJ (x y : Nat) : cmpD .gt (nd x) (nd y) = some (decide (y < x)) := by
 show some (decide ((y : Int) < x)) = _
 by_cases h : y < x <;> simp [h]
theorem QkF {y : Nat} (x : Nat) (h : 0 < y) (h2 : y ≤ 2 ^ 16) : binD .div (nd x) (nd y) = some (nd (x / y)) := Qgw x h (by lia)
section
variable {w : Nat} (hw : 0 < w) (hw2 : w ≤ 10)
include hw hw2
theorem QgY {B t0 t1 t2 p q T D h : Nat} (hB : B = 2 ^ w) (ht : t0 < B) (hq : q < B) (hD : D = q + B * p) (hT : T = t0 + B * h) (hp : 0 < p) (cl : Qh) (base : Nat) (H : Hp) : ∀ (f l r : Nat), l < f → l < B → r + l * p = h → T < (l + 1) * D →
  ∃ r', Qav (evE cl T_guessed_limb_0) (exB cl base B_guessed_limb_0) f [.d (.list [nd t0, nd t1, nd t2]), .d (nd p), .d (nd q), .d (nd w), .d (nd h), .d (nd B), .d (nd l), .d (nd r)] H =
   .next [.d (.list [nd t0, nd t1, nd t2]), .d (nd p), .d (nd q), .d (nd w), .d (nd h), .d (nd B), .d (nd (T / D)), .d (nd r')] H
 | 0, l, r, hl, _, _, _ => by lia
 | f + 1, l, r, hl, hlB, hr, hm => by
  haveI hBw := Nat.pow_le_pow_right (n := 2) (by lia) hw2
  have hTe : T = t0 + B * r + l * (B * p) := by rw [hT, ← hr]; grind
  have hlD : l * D = l * q + l * (B * p) := by rw [hD]; grind
  have hend : l * D ≤ T → l = T / D := fun hle => by
   haveI hDp : 0 < D := by have := Nat.mul_pos (by lia : 0 < B) hp; lia
   exact (Nat.div_eq_of_lt_le (by rwa [Nat.mul_comm] at hle ⊢; ) (by rwa [Nat.mul_comm] at hm ⊢)).symm
  by_cases h1 : r < B
  ·haveI c1 := (QV r B).trans (congrArg some (decide_eq_true h1))
   have e2 : evE cl (.cmp .gt (.bin .mul (.loc 6) (.loc 2)) (.bin .or (.bin .shl (.loc 7) (.loc 3)) (.idx (.loc 0) (.kd (.int 0))))) [.d (.list [nd t0, nd t1, nd t2]), .d (nd p), .d (nd q), .d (nd w), .d (nd h), .d (nd B), .d (nd l), .d (nd r)] H = .ok (.d (.bool (decide (r * 2 ^ w + t0 < l * q)))) H :=
    Qf (Qe rfl rfl (Qel _ (by lia))) (Qe (Qe rfl rfl (Qgm (by lia) (by lia))) rfl (Qpz _ (by lia))) (QnJ _ _)
   by_cases h2 : r * 2 ^ w + t0 < l * q
   ·have hl0 : 0 < l := by
     refine Nat.pos_of_ne_zero fun q => ?_
     subst q; lia
    have h2' : B * r + t0 < l * q := by rw [hB, Nat.mul_comm]; exact h2
    have hm' : T < l * D := by rw [hlD, hTe]; lia
    obtain ⟨k, rfl⟩ : ∃ k, l = k + 1 := ⟨l - 1, by lia⟩
    obtain ⟨r', e⟩ := QgY hB ht hq hD hT hp cl base H f k (r + p) (by lia) (by lia) (by rw [← hr]; grind) hm'
    exact ⟨r', QaS (Qcl (z := true) (Qf rfl rfl c1) (e2.trans (by rw [decide_eq_true h2]))) (sq (Qcb rfl rfl (Qcf (x := k + 1) (y := 1) (by lia))) (sq (Qcb rfl rfl (QG _ _)) rfl)) e⟩
   ·refine ⟨r, ?_⟩
    haveI h2' : ¬ B * r + t0 < l * q := by rw [hB, Nat.mul_comm]; exact h2
    rw [← hend (by rw [hlD, hTe]; lia)]
    exact QA (Qcl (z := true) (Qf rfl rfl c1) (e2.trans (by rw [decide_eq_false h2])))
  ·refine ⟨r, ?_⟩
   haveI h3 : l * q ≤ B * r := Nat.mul_le_mul (by lia) (by lia)
   rw [← hend (by rw [hlD, hTe]; lia)]
   exact QA (Qcl (z := false) (Qf rfl rfl ((QV r B).trans (congrArg some (decide_eq_false h1)))) rfl)
theorem Qnk {t0 t1 t2 p q T D : Nat} (m : Nat) (H : Hp) (h0 : t0 < 2 ^ w) (h1 : t1 < 2 ^ w) (h2 : t2 < 2 ^ w) (hp : 0 < p) (hp2 : p < 2 ^ w) (hq : q < 2 ^ w) (hD : D = q + 2 ^ w * p) (hT : T = t0 + 2 ^ w * (t2 * 2 ^ w + t1)) (hTD : T < 2 ^ w * D) :
  Qc tb (m + 1) 48 [.d (.list [nd t0, nd t1, nd t2]), .d (nd p), .d (nd q), .d (nd w)] H = .ok (nd (T / D)) H := by
 have hB := QI hw
 have hBw := Nat.pow_le_pow_right (n := 2) (by lia) hw2
 obtain ⟨h, hh⟩ : ∃ h, h = t2 * 2 ^ w + t1 := ⟨_, rfl⟩
 rw [← hh] at hT
 obtain ⟨l, hl⟩ : ∃ l, l = if 2 ^ w - 1 < h / p then 2 ^ w - 1 else h / p := ⟨_, rfl⟩
 have hle : l ≤ h / p := by rw [hl]; split <;> lia
 haveI hlp : l * p ≤ h := Nat.le_trans (Nat.mul_le_mul_right p hle) (Nat.div_mul_le_self h p)
 haveI hm : T < (l + 1) * D := by
  by_cases hc : 2 ^ w - 1 < h / p
  ·rw [if_pos hc] at hl
   rw [hl, show 2 ^ w - 1 + 1 = 2 ^ w from by lia]; exact hTD
  ·rw [if_neg hc] at hl
   haveI h3 : h < (l + 1) * p := by rw [hl, Nat.mul_comm]; exact Nat.lt_mul_div_succ h hp
   have h4 := Nat.mul_le_mul_left (2 ^ w) (Nat.succ_le_of_lt h3)
   rw [hD, hT, Nat.mul_add]
   rw [Nat.mul_succ] at h4
   haveI : 2 ^ w * ((l + 1) * p) = (l + 1) * (2 ^ w * p) := by grind
   lia
 have hlB : l < 2 ^ w := by rw [hl]; split <;> lia
 obtain ⟨r', e⟩ := QgY hw hw2 (t1 := t1) (t2 := t2) (h := h) rfl h0 hq hD hT hp (Qc tb m) H.length H QH l (h - l * p) (by unfold QH; lia) hlB (by lia) hm
 haveI em : ∀ ρ : Rho, ρ = [.d (.list [nd t0, nd t1, nd t2]), .d (nd p), .d (nd q), .d (nd w), .d (nd h), .d (nd (2 ^ w)), .unb, .unb] → evE (Qc tb m) (.min (.bin .div (.loc 4) (.loc 1)) (.bin .sub (.loc 5) (.kd (.int 1)))) ρ H = .ok (.d (nd l)) H := by
  rintro _ rfl
  refine (Qqr (Qe rfl rfl (QkF _ hp (by lia))) (Qe (z := nd (2 ^ w - 1)) rfl rfl (Qcf (y := 1) (by lia)))).trans ?_
  rw [hl]; congr 3; split <;> split <;> lia
 exact Qt (f := Qcj) rfl rfl (sq (QT (Qa (Qe (Qe rfl rfl (Qgm (by lia) (by lia))) rfl (hh ▸ Qpz _ h1)) (Qa (Qml rfl (by lia)) rfl)) rfl) (sq (Qk (em _ rfl)) (sq (Qk (Qe rfl (Qe rfl rfl (Qel _ (by lia))) (Qcf hlp))) (sq (QcE e) (Qg (Qy rfl)))))) tk0
end
theorem borrow {B t r y X Y : Nat} (ht : t < B) (hr : r < B) (hy : y ≤ B) (h : t + B * X = r + y + B * Y) : (t < y ∧ t + B = r + y ∧ X = Y + 1) ∨ (y ≤ t ∧ t = r + y ∧ X = Y) := by
 rcases Nat.lt_trichotomy X Y with g | g | g
 ·haveI := Nat.mul_le_mul_left B (Nat.succ_le_of_lt g)
  rw [Nat.mul_succ] at this; lia
 ·subst g; right; lia
 ·obtain ⟨k, rfl⟩ := Nat.exists_eq_add_of_lt g
  rw [Nat.mul_add, Nat.mul_add, Nat.mul_one] at h
  haveI hk : k = 0 := by as_aux_lemma =>
   refine Nat.eq_zero_of_not_pos fun q => ?_
   haveI := Nat.mul_le_mul_left B q
   lia
  subst hk
  left; lia
theorem get1 (H : Hp) (xs : List D) : (H ++ [xs])[H.length]? = some xs := by simp
theorem get2 (H : Hp) (xs ys : List D) : (H ++ [xs] ++ [ys])[H.length]? = some xs := by simp
theorem set2 (H : Hp) (xs ys : List D) (i : Nat) (x : D) (h : i < xs.length) : QdZ (H ++ [xs] ++ [ys]) H.length (i : Int) x = some (H ++ [xs.set i x] ++ [ys]) := by
 unfold QdZ
 rw [get2]
 simp [h]
theorem dl3 (B T : Nat) : dl B 3 T = [T % B, T / B % B, T / B ^ 2 % B] := by simp [dl, List.range_succ]
theorem Qgv {B n : Nat} (hB : 2 ≤ B) (h0 : 0 < n) (h : n < B) : dg B n = [n] := by
 rw [QbH hB h0, Nat.mod_eq_of_lt h, Nat.div_eq_of_lt h]; rfl
theorem Qob {B n : Nat} (hB : 2 ≤ B) (h0 : B ≤ n) (h : n < B ^ 2) : dg B n = [n % B, n / B] := by
 rw [QbH hB (by lia), Qgv hB (Nat.div_pos h0 (by lia))]
 rw [Nat.div_lt_iff_lt_mul (by lia), ← Nat.pow_two]; exact h
section
variable {w : Nat} (hw : 0 < w) (hw2 : w ≤ 10)
include hw hw2
theorem QkN {T D l Q : Nat} (m : Nat) (H : Hp) (ys : List PyData) (hT : T = Q + l * D) (hR : Q < (2 ^ w) ^ 2) (hT3 : T < (2 ^ w) ^ 3) (hD : (dg (2 ^ w) D).length = 2) (hl : l < 2 ^ w) :
  Qc tb (m + 1) 49 [.cell H.length, .d (nn w D), .d (nd l), .d (nd 0), .d (nd w)] (H ++ [(dl (2 ^ w) 3 T).map nd] ++ [ys]) = .ok (nd 0) (H ++ [(dl (2 ^ w) 3 Q).map nd] ++ [ys]) := by
 haveI hB := QI hw
 haveI hBw := Nat.pow_le_pow_right (n := 2) (by lia) hw2
 obtain ⟨ρ1, H1, e1, v1, v2, v3, c1, q1, rfl, rfl⟩ := Qkf (k := 7) (l := 8) (xs := (dg (2 ^ w) D).map nd) (body := exB (Qc tb m) (H ++ [(dl (2 ^ w) 3 T).map nd] ++ [ys]).length B_take_away_0) (ρ := [.cell H.length, .d (nn w D), .d (nd l), .d (nd 0), .d (nd w), .d (nd 0), .d (nd (2 ^ w)), .unb, .unb, .unb]) (H := H ++ [(mx (fun j => Q / (2 ^ w) ^ j % 2 ^ w) (fun j => T / (2 ^ w) ^ j % 2 ^ w) 3 0).map nd] ++ [ys])
  (fun s ρ H' => Ex4 fun v1 v2 v3 c => c + Q / (2 ^ w) ^ s + l * (D / (2 ^ w) ^ s) = T / (2 ^ w) ^ s ∧ ρ = [.cell H.length, .d (nn w D), .d (nd l), .d (nd 0), .d (nd w), .d (nd c), .d (nd (2 ^ w)), v1, v2, v3] ∧ H' = H ++ [(mx (fun j => Q / (2 ^ w) ^ j % 2 ^ w) (fun j => T / (2 ^ w) ^ j % 2 ^ w) 3 s).map nd] ++ [ys])
  ⟨_, _, _, 0, by rw [hT]; simp, rfl, rfl⟩ (by
   rintro s y _ _ hy ⟨v1, v2, v3, c, q, rfl, rfl⟩
   haveI hi : s < (dg (2 ^ w) D).length := by as_aux_lemma => have := (List.getElem?_eq_some_iff.mp hy).1; simpa using this
   rw [← QaG, QaW hB hi] at hy
   obtain rfl := Option.some.inj hy
   haveI h1 := QaM (B := 2 ^ w) D s
   haveI h2 := QaM (B := 2 ^ w) Q s
   haveI h3 := QaM (B := 2 ^ w) T s
   haveI hm := Nat.mod_add_div (l * (D / (2 ^ w) ^ s % 2 ^ w) + c) (2 ^ w)
   haveI hb := borrow (B := 2 ^ w) (t := T / (2 ^ w) ^ s % 2 ^ w) (r := Q / (2 ^ w) ^ s % 2 ^ w) (y := (l * (D / (2 ^ w) ^ s % 2 ^ w) + c) % 2 ^ w) (X := T / (2 ^ w) ^ (s + 1)) (Y := (l * (D / (2 ^ w) ^ s % 2 ^ w) + c) / 2 ^ w + Q / (2 ^ w) ^ (s + 1) + l * (D / (2 ^ w) ^ (s + 1))) (Nat.mod_lt _ (by lia)) (Nat.mod_lt _ (by lia)) (Nat.le_of_lt (Nat.mod_lt _ (by lia))) (by
    rw [← h3, ← q]
    generalize (l * (D / (2 ^ w) ^ s % 2 ^ w) + c) % 2 ^ w = m1 at *
    generalize (l * (D / (2 ^ w) ^ s % 2 ^ w) + c) / 2 ^ w = m2 at *
    generalize Q / (2 ^ w) ^ s = A1 at *
    generalize D / (2 ^ w) ^ s = A2 at *
    generalize A2 % 2 ^ w = r2 at *
    generalize A1 % 2 ^ w = r1 at *
    rw [h1, h2]; grind)
   haveI hg : idxD ((mx (fun j => Q / (2 ^ w) ^ j % 2 ^ w) (fun j => T / (2 ^ w) ^ j % 2 ^ w) 3 s).map nd) ((0 + s : Nat) : Int) = some (nd (T / (2 ^ w) ^ s % 2 ^ w)) := by
    rw [Nat.zero_add, Qjy, QcA (by lia), if_neg (by lia)]; rfl
   obtain ⟨t, ht⟩ : ∃ t : Int, t = ((T / (2 ^ w) ^ s % 2 ^ w : Nat) : Int) - (((l * (D / (2 ^ w) ^ s % 2 ^ w) + c) % 2 ^ w : Nat) : Int) := ⟨_, rfl⟩
   haveI em := fun v3 => Qe (cl := Qc tb m) (op := .add) (ρ := [.cell H.length, .d (nn w D), .d (nd l), .d (nd 0), .d (nd w), .d (nd c), .d (nd (2 ^ w)), .d (nd s), .d (nd (D / (2 ^ w) ^ s % 2 ^ w)), v3]) (H := H ++ [(mx (fun j => Q / (2 ^ w) ^ j % 2 ^ w) (fun j => T / (2 ^ w) ^ j % 2 ^ w) 3 s).map nd] ++ [ys]) (e := .bin .mul (.loc 2) (.loc 8)) (f := .loc 5) (Qe rfl rfl (Qel _ (by lia))) rfl (QG _ _)
   haveI e9 := Qe (op := .sub) (z := .int t) (Qi (e := .loc 0) (v := .cell H.length) rfl (Qe (e := .loc 3) (f := .loc 7) rfl rfl (QG _ _)) (get2 _ _ _) hg) (Qe (f := .loc 6) (em v3) rfl (Qcy _ (by lia))) (by rw [ht]; rfl)
   haveI st2 := fun x => set2 H ((mx (fun j => Q / (2 ^ w) ^ j % 2 ^ w) (fun j => T / (2 ^ w) ^ j % 2 ^ w) 3 s).map nd) ys (0 + s) x (by rw [List.length_map, QbA]; lia)
   rcases hb with ⟨b1, b2, b3⟩ | ⟨b1, b2, b3⟩
   ·haveI hz := (QaY t).trans (congrArg some (decide_eq_true (by lia)))
    refine ⟨_, _, sq (Qk e9) (sq (Qk (Qe (Qe (em _) rfl (QkF _ (by lia) (by lia))) (QO (z := true) (Qf rfl rfl hz) rfl) (QG _ 1))) (sq (QaJ (x := nd (Q / (2 ^ w) ^ s % 2 ^ w)) (QO (z := true) (Qf rfl rfl hz) (Qe rfl rfl ?_)) rfl (Qe rfl rfl (QG _ _)) (st2 _)) rfl)), _, _, _, _, ?_, rfl, ?_⟩
    ·exact congrArg (fun z => some (PyData.int z)) (by lia)
    ·rw [b3]; lia
    ·rw [Qdd, Nat.zero_add, ← Qmv (k := s)]
   ·haveI hz := (QaY t).trans (congrArg some (decide_eq_false (by lia)))
    refine ⟨_, _, sq (Qk e9) (sq (Qk (Qe (Qe (em _) rfl (QkF _ (by lia) (by lia))) (QO (z := false) (Qf rfl rfl hz) rfl) (QG _ 0))) (sq (QaJ (x := nd (Q / (2 ^ w) ^ s % 2 ^ w)) (QO (z := false) (Qf rfl rfl hz) ?_) rfl (Qe rfl rfl (QG _ _)) (st2 _)) rfl)), _, _, _, _, ?_, rfl, ?_⟩
    ·show R.ok (V.d (.int t)) _ = _
     exact congrArg (fun z => R.ok (V.d (.int z)) _) (by lia)
    ·rw [b3]; lia
    ·rw [Qdd, Nat.zero_add, ← Qmv (k := s)])
 rw [List.length_map, hD] at q1 e1
 haveI d0 : D / (2 ^ w) ^ 2 = 0 := QaZ hB (by lia)
 haveI r0 : Q / (2 ^ w) ^ 2 = 0 := Nat.div_eq_of_lt hR
 rw [d0, r0, Nat.mul_zero, Nat.add_zero] at q1
 haveI hc : T / (2 ^ w) ^ 2 % 2 ^ w = c1 := by
  rw [← q1, Nat.mod_eq_of_lt]
  rw [q1, Nat.div_lt_iff_lt_mul (Nat.pow_pos (by lia)), Nat.mul_comm, ← Nat.pow_succ]; exact hT3
 haveI hg : idxD ((mx (fun j => Q / (2 ^ w) ^ j % 2 ^ w) (fun j => T / (2 ^ w) ^ j % 2 ^ w) 3 2).map nd) ((0 + 2 : Nat) : Int) = some (nd c1) := by
  rw [← hc, Qjy, QcA (by lia), if_neg (by lia)]; rfl
 haveI el : ∀ ρ : Rho, gt ρ 1 = .d (nn w D) → gt ρ 3 = .d (nd 0) → ∀ H, evE (Qc tb m) (.bin .add (.loc 3) (.len (.loc 1))) ρ H = .ok (.d (nd (0 + 2))) H := by
  intro ρ h1 h3 H
  haveI a1 : evE (Qc tb m) (.loc 1) ρ H = .ok (.d (nn w D)) H := QY h1
  haveI a3 : evE (Qc tb m) (.loc 3) ρ H = .ok (.d (nd 0)) H := QY h3
  rw [Qe a3 (Qz a1) (QG _ _), hD]
 haveI hz := (QaY ((c1 : Int) - c1)).trans (congrArg some (decide_eq_false (by lia)))
 haveI hx : R.ok (V.d (.int ((c1 : Int) - c1))) (H ++ [(mx (fun j => Q / (2 ^ w) ^ j % 2 ^ w) (fun j => T / (2 ^ w) ^ j % 2 ^ w) 3 2).map nd] ++ [ys]) = .ok (.d (nd (Q / (2 ^ w) ^ 2 % 2 ^ w))) (H ++ [(mx (fun j => Q / (2 ^ w) ^ j % 2 ^ w) (fun j => T / (2 ^ w) ^ j % 2 ^ w) 3 2).map nd] ++ [ys]) := by
  rw [r0, Int.sub_self]; rfl
 refine QiP (f := QeD) rfl rfl (sq (QT (Qa rfl (Qa (Qml rfl (by lia)) rfl)) rfl) (sq (QP (xs := Qcc 0 ((dg (2 ^ w) D).map nd)) rfl e1) (sq (Qk (Qe (Qi rfl (el _ rfl rfl _) (get2 _ _ _) hg) rfl rfl)) (sq (QaJ (QO (z := false) (Qf rfl rfl hz) hx) rfl (el _ rfl rfl _) (set2 _ _ _ _ _ (by rw [List.length_map, QbA]; lia))) (Qg (Qy (QO (z := false) (Qf rfl rfl hz) rfl))))))) ?_
 rw [Qdd, Qmv (f := fun j => Q / (2 ^ w) ^ j % 2 ^ w) (k := 2), QoH]
 exact List.take_of_length_le (by simp)
omit hw hw2 in
theorem QhT {cl : Qh} {ρ : Rho} {H H1 H2 H3 : Hp} {e f g : PE} {v : V} {i j : Int} {xs : List D} (h : evE cl e ρ H = .ok v H1) (h2 : evE cl f ρ H1 = .ok (.d (.int i)) H2) (h3 : evE cl g ρ H2 = .ok (.d (.int j)) H3) (hv : Qbk H3 v = some xs) (hi : 0 ≤ i ∧ i < 4611686018427387904 ∧ 0 ≤ j ∧ j < 4611686018427387904) : evF cl (.slcLU e f g) ρ H = .ok ((xs.take j.toNat).drop i.toNat) H3 := Qv h (Qv h2 (Qv h3 (QN hv (QN rfl (QN rfl (QhO hi rfl))))))
theorem QhJ {T D : Nat} (m : Nat) (H : Hp) (hD : 2 ^ w ≤ D) (hD2 : D < (2 ^ w) ^ 2) (hT : T < 2 ^ w * D) :
  Qc tb (m + 2) 51 [.cell H.length, .d (nn w D), .d (nd w)] (H ++ [(dl (2 ^ w) 3 T).map nd]) = .ok (nl [T / D]) (H ++ [(dl (2 ^ w) 3 (T % D)).map nd]) := by
 haveI hB := QI hw
 haveI hp : 0 < D / 2 ^ w := Nat.div_pos hD (by lia)
 haveI hp2 : D / 2 ^ w < 2 ^ w := by rw [Nat.div_lt_iff_lt_mul (by lia), ← Nat.pow_two]; exact hD2
 haveI hDp : 0 < D := by lia
 haveI hT3 : T < (2 ^ w) ^ 3 := by
  haveI := Nat.mul_lt_mul_of_pos_left hD2 (by lia : 0 < 2 ^ w)
  rw [Nat.pow_succ, Nat.mul_comm ((2 ^ w) ^ 2)]; lia
 haveI hl : T / D < 2 ^ w := by rw [Nat.div_lt_iff_lt_mul hDp]; exact hT
 haveI hdg := Qob hB hD hD2
 haveI hTe : T = T % 2 ^ w + 2 ^ w * (T / (2 ^ w) ^ 2 % 2 ^ w * 2 ^ w + T / 2 ^ w % 2 ^ w) := by
  haveI h1 := Nat.mod_add_div T (2 ^ w)
  haveI h2 := Nat.mod_add_div (T / 2 ^ w) (2 ^ w)
  haveI h3 : T / (2 ^ w) ^ 2 % 2 ^ w = T / 2 ^ w / 2 ^ w := by
   rw [Nat.pow_two, ← Nat.div_div_eq_div_mul, Nat.mod_eq_of_lt]
   rw [Nat.div_div_eq_div_mul, Nat.div_lt_iff_lt_mul (Nat.mul_pos (by lia) (by lia))]
   rw [Nat.pow_succ, Nat.pow_two, Nat.mul_comm (2 ^ w * 2 ^ w)] at hT3; exact hT3
  rw [h3]
  conv => lhs; rw [← h1, ← h2]
  rw [Nat.mul_comm (2 ^ w) (T / 2 ^ w / 2 ^ w), Nat.add_comm (T / 2 ^ w % 2 ^ w)]
 haveI cg := Qnk hw hw2 (m + 0) (H ++ [(dl (2 ^ w) 3 T).map nd] ++ [[nd 0]]) (Nat.mod_lt T (by lia)) (Nat.mod_lt (T / 2 ^ w) (by lia)) (Nat.mod_lt (T / (2 ^ w) ^ 2) (by lia)) hp hp2 (Nat.mod_lt D (by lia)) (Nat.mod_add_div D (2 ^ w)).symm hTe hT
 haveI ct := QkN hw hw2 (T := T) (D := D) (l := T / D) (Q := T % D) m H [nd 0] (by rw [Nat.mul_comm]; exact (Nat.mod_add_div T D).symm) (Nat.lt_trans (Nat.mod_lt T hDp) hD2) hT3 (by rw [hdg]; rfl) hl
 unfold nn at ct ⊢
 rw [hdg] at ct ⊢
 haveI hb : exB (Qc tb (m + 1)) (H ++ [(dl (2 ^ w) 3 T).map nd]).length B_divide_rows_0 [.cell H.length, .d (nl [D % 2 ^ w, D / 2 ^ w]), .d (nd w), .d (nd 2), .cell (H ++ [(dl (2 ^ w) 3 T).map nd]).length, .d (nd 0), .unb] (H ++ [(dl (2 ^ w) 3 T).map nd] ++ [[nd 0]]) =
   .next [.cell H.length, .d (nl [D % 2 ^ w, D / 2 ^ w]), .d (nd w), .d (nd 2), .cell (H ++ [(dl (2 ^ w) 3 T).map nd]).length, .d (nd 0), .d (nd (T / D))] (H ++ [(dl (2 ^ w) 3 (T % D)).map nd] ++ [[nd (T / D)]]) := by
  refine sq (Qk (Qb (Qa (v := .d (.list [nd (T % 2 ^ w), nd (T / 2 ^ w % 2 ^ w), nd (T / (2 ^ w) ^ 2 % 2 ^ w)])) (Qu ?_) rfl) cg)) (sq (Qr (z := false) (Qf (Qb rfl ct) rfl rfl) rfl) (sq (QaJ rfl rfl rfl ?_) rfl))
  ·refine (QhT (i := 0) (j := 3) rfl rfl rfl (get2 _ _ _) ⟨by decide, by decide, by decide, by decide⟩).trans ?_
   rw [dl3]; rfl
  ·haveI := set1 (H ++ [(dl (2 ^ w) 3 (T % D)).map nd]) [nd 0] 0 (nd (T / D)) (by simp)
   rw [List.length_append] at this ⊢
   exact this
 refine QiP (f := QcD) (H1 := H ++ [(dl (2 ^ w) 3 (T % D)).map nd] ++ [[nd (T / D)]]) rfl rfl (sq (ρ1 := [.cell H.length, .d (nl [D % 2 ^ w, D / 2 ^ w]), .d (nd w), .d (nd 2), .unb, .unb, .unb]) (H1 := H ++ [(dl (2 ^ w) 3 T).map nd]) (Qk (QC (xs := [_, _]) rfl rfl)) (sq (ρ1 := [.cell H.length, .d (nl [D % 2 ^ w, D / 2 ^ w]), .d (nd w), .d (nd 2), .cell (H ++ [(dl (2 ^ w) 3 T).map nd]).length, .unb, .unb]) (H1 := H ++ [(dl (2 ^ w) 3 T).map nd] ++ [[nd 0]]) (Qk (Qed (n := 1) (Qe (QC rfl (get1 _ _)) rfl rfl) (by lia))) (sq (QP (xs := [.int 0]) (H1 := H ++ [(dl (2 ^ w) 3 T).map nd] ++ [[nd 0]]) ?_ (Qq rfl hb Qau)) (Qg (Qgc rfl (Nat.le_refl _) ?_))))) ?_
 ·exact QcL (n := 1) (Qe (Qe (QC rfl (get2 _ _ _)) rfl rfl) rfl rfl) (by lia)
 ·simp
 ·exact List.take_left' (by simp)
end
theorem w0 {w : Nat} (h : 8 ≤ w) : 0 < w := Nat.lt_of_lt_of_le (by decide) h
theorem w16 {w : Nat} (h : w ≤ 10) : w ≤ 16 := Nat.le_trans h (by decide)
theorem QsE {B k n : Nat} (hB : 2 ≤ B) (h : n < B ^ k) : dg B n ++ List.replicate (k - (dg B n).length) 0 = dl B k n := by
 haveI hl := Qlx hB n k h
 refine List.ext_getElem? fun i => ?_
 by_cases hi : i < (dg B n).length
 ·rw [List.getElem?_append_left hi, Qlp (by lia)]
  conv => lhs; rw [QsJ hB n]
  exact Qlp hi
 ·rw [List.getElem?_append_right (by lia)]
  by_cases hk : i < k
  ·rw [Qlp hk, QaZ hB (by lia), Nat.zero_mod, List.getElem?_replicate, if_pos (by lia)]
  ·rw [List.getElem?_eq_none (by simp; lia), List.getElem?_eq_none (by rw [QaU]; lia)]
theorem QeZ {cl : Qh} {ρ : Rho} {H H1 : Hp} {as : PEs} {vs : List V} {xs : List D} (h : evEs cl as ρ H = .ok vs H1) (hx : allD vs = some xs) (hs : small xs.length = true) : evF cl (.list as) ρ H = .ok xs H1 := Qv h (QN hx (QoN hs rfl))
theorem QsL {cl : Qh} {ρ : Rho} {H H1 H2 : Hp} {e f : PE} {v u : V} {xs ys : List D} (h : evE cl e ρ H = .ok v H1) (h2 : evE cl f ρ H1 = .ok u H2) (hv : Qbk H2 v = some xs) (hu : Qbk H2 u = some ys) (hl : xs.length + ys.length ≤ 4000) : evF cl (.cat e f) ρ H = .ok (xs ++ ys) H2 := Qv h (Qv h2 (QN hv (QN hu (QoN (decide_eq_true (by lia)) rfl))))
section
variable {w : Nat} (hw : 8 ≤ w) (hw2 : w ≤ 10)
include hw hw2
theorem QfZ {a b : Nat} (m : Nat) (H : Hp) (ha : fits a) (hb : 0 < b) (hb2 : b < 2 ^ w) : Qc tb (m + 3) 47 [.d (nn w a), .d (nn w b), .d (nd w)] H = .ok (.tuple [nn w (a / b), nn w (a % b)]) H := by
 haveI hB := QI (w0 hw)
 haveI hBw := Nat.pow_le_pow_right (n := 2) (by lia) hw2
 haveI hd := Qgv hB hb hb2
 haveI c := Qia (w0 hw) (w16 hw2) (a := a) m H ha hb (by lia)
 haveI eb : nn w b = .list [nd b] := by unfold nn; rw [hd]; rfl
 rw [eb]
 refine Qt (f := Qci) rfl rfl (sq (QcG (Qb rfl c) rfl) (Qg (Qbd (xs := [nn w (a / b), nn w (a % b)]) (Qa rfl (Qa (v := .d (nn w (a % b))) (QO (Qf rfl rfl (Qcv (a % b))) ?_) rfl)) rfl rfl))) tk0
 by_cases h : 0 < a % b
 ·rw [decide_eq_true h]
  unfold nn
  rw [Qgv hB h (Nat.lt_trans (Nat.mod_lt a hb) hb2)]; rfl
 ·rw [decide_eq_false h, show a % b = 0 from by lia]; rfl
theorem Qpq {a b : Nat} (m : Nat) (H : Hp) (ha : a < 2 ^ 16) (hb : 0 < b) (hb2 : b < 2 ^ 16) : Qc tb (m + 4) 52 [.d (nn w a), .d (nn w b), .d (nd w)] H = .ok (.tuple [nn w (a / b), nn w (a % b)]) H := by
 haveI hw0 : 0 < w := by lia
 haveI hB := QI hw0
 haveI hBw := Nat.pow_le_pow_right (n := 2) (by lia) hw2
 haveI hBl := Nat.pow_le_pow_right (n := 2) (by lia) hw
 haveI hsq := Nat.pow_le_pow_left hBl 2
 haveI fa : fits a := Nat.lt_trans ha (by decide)
 haveI fb : fits b := Nat.lt_trans hb2 (by decide)
 haveI e0 : cmpD .eq (nd (dg (2 ^ w) b).length) (.int 0) = some false := (Qbs _ 0).trans (congrArg some (decide_eq_false (fun q => by rw [List.length_eq_zero_iff, Qjh hB] at q; lia)))
 haveI ec := Qae hw0 (m + 2) H fa fb
 by_cases h : a < b
 ·haveI hc : cmpz a b = -1 := by unfold cmpz; rw [if_pos h]
  rw [hc] at ec
  rw [Nat.div_eq_of_lt h, Nat.mod_eq_of_lt h]
  exact Qt (f := Qar) rfl rfl (sq (Qr (z := false) (Qf (Qz rfl) rfl e0) rfl) (Qg (Qr (z := true) (Qf (Qb rfl ec) rfl rfl) (Qg (Qbd rfl rfl rfl))))) tk0
 haveI hc : cmpD .lt (.int (cmpz a b)) (.int 0) = some false := (QaY _).trans (congrArg some (decide_eq_false (by unfold cmpz; rw [if_neg h]; split <;> lia)))
 by_cases h1 : b < 2 ^ w
 ·haveI hd := Qgv hB hb h1
  haveI c := QfZ hw hw2 m H fa hb h1
  exact Qt (f := Qar) rfl rfl (sq (Qr (z := false) (Qf (Qz rfl) rfl e0) rfl) (sq (Qr (z := false) (Qf (Qb rfl ec) rfl hc) rfl) (Qg (Qr (z := true) (Qf (Qz rfl) rfl (by rw [hd]; rfl)) (Qg (Qy (Qb rfl c))))))) tk0
 haveI hdb := Qob hB (by lia : 2 ^ w ≤ b) (by lia)
 haveI hda := Qob hB (by lia : 2 ^ w ≤ a) (by lia)
 haveI htop : 0 < b / 2 ^ w := Nat.div_pos (by lia) (by lia)
 haveI htop2 : b / 2 ^ w < 2 ^ w := by rw [Nat.div_lt_iff_lt_mul (by lia), ← Nat.pow_two]; lia
 obtain ⟨k, hk⟩ : ∃ k, k = Nat.log2 (b / 2 ^ w) := ⟨_, rfl⟩
 haveI hk1 : 2 ^ k ≤ b / 2 ^ w := hk ▸ Nat.log2_self_le (by lia)
 haveI hk2 : b / 2 ^ w < 2 ^ (k + 1) := hk ▸ Nat.lt_log2_self
 haveI hkw : k < w := (Nat.pow_lt_pow_iff_right (by lia : 1 < 2)).mp (by lia : 2 ^ k < 2 ^ w)
 haveI hbits : Builtin.Int.intBits ((b / 2 ^ w : Nat) : Int) = k + 1 := by
  unfold Builtin.Int.intBits
  rw [if_neg (by rw [beq_iff_eq]; lia), Int.natAbs_natCast, hk]
 obtain ⟨s, hs⟩ : ∃ s, w = s + (k + 1) := ⟨w - (k + 1), by lia⟩
 haveI ps : 0 < 2 ^ s := Nat.pow_pos (by lia)
 haveI hD1 : 2 ^ w ≤ b * 2 ^ s := Nat.le_trans (by lia) (Nat.le_mul_of_pos_right b ps)
 haveI hD2 : b * 2 ^ s < (2 ^ w) ^ 2 := by
  haveI h1 : b < 2 ^ (k + 1) * 2 ^ w := by rw [← Nat.div_lt_iff_lt_mul (by lia)]; exact hk2
  haveI h2 := (Nat.mul_lt_mul_right ps).mpr h1
  haveI : 2 ^ (k + 1) * 2 ^ w * 2 ^ s = (2 ^ w) ^ 2 := by
   rw [Nat.pow_two, Nat.mul_right_comm, ← Nat.pow_add, Nat.add_comm (k + 1), ← hs]
  lia
 haveI hT : a * 2 ^ s < 2 ^ w * (b * 2 ^ s) := by
  rw [← Nat.mul_assoc, Nat.mul_lt_mul_right ps]
  haveI := Nat.mul_le_mul_left (2 ^ w) (by lia : 2 ^ w ≤ b)
  rw [← Nat.pow_two] at this; lia
 haveI hT3 : a * 2 ^ s < (2 ^ w) ^ 3 := by
  haveI := Nat.mul_lt_mul_of_pos_left hD2 (by lia : 0 < 2 ^ w)
  rw [Nat.pow_succ, Nat.mul_comm ((2 ^ w) ^ 2)]; lia
 haveI hp20 : a * 2 ^ s < 2 ^ 200 := Nat.lt_of_lt_of_le hT3 (Nat.le_trans (Nat.pow_le_pow_left hBw 3) (by decide))
 haveI cbits := QtG (w := w) (m + 2) (b / 2 ^ w) H
 rw [hbits] at cbits
 haveI cs1 := QaB hw0 (by lia) (a := b) (f := s) (m + 2) H fb (by lia)
 haveI cs2 := QaB hw0 (by lia) (a := a) (f := s) (m + 2) H fa (by lia)
 haveI cd := QhJ hw0 hw2 (T := a * 2 ^ s) (D := b * 2 ^ s) (m + 1) H hD1 hD2 hT
 haveI hq : a * 2 ^ s / (b * 2 ^ s) = a / b := Nat.mul_div_mul_right _ _ ps
 haveI hr : a * 2 ^ s % (b * 2 ^ s) = a % b * 2 ^ s := Nat.mul_mod_mul_right _ _ _
 rw [hq, hr] at cd
 haveI hqlt : a / b < 2 ^ w := by
  rw [Nat.div_lt_iff_lt_mul hb]
  haveI := Nat.mul_le_mul_left (2 ^ w) (by lia : 2 ^ w ≤ b)
  rw [← Nat.pow_two] at this; lia
 haveI cn1 := QbY hw0 (m + 2) (v := .d (nl [a / b])) (l := [a / b]) (H := H ++ [(dl (2 ^ w) 3 (a % b * 2 ^ s)).map nd]) rfl (by intro x hx; simp at hx; lia) (by simp)
 haveI cn2 := QbY hw0 (m + 2) (v := .cell H.length) (l := dl (2 ^ w) 3 (a % b * 2 ^ s)) (H := H ++ [(dl (2 ^ w) 3 (a % b * 2 ^ s)).map nd]) (getc _ _) (Qmw hB _ _) (by rw [QaU]; lia)
 haveI hrl : a % b * 2 ^ s ≤ a * 2 ^ s := Nat.mul_le_mul_right _ (Nat.mod_le a b)
 rw [show val (2 ^ w) [a / b] = a / b from by simp [val]] at cn1
 rw [QoF hB, Nat.mod_eq_of_lt (Nat.lt_of_le_of_lt hrl hT3)] at cn2
 haveI cr := Qif hw0 (by lia) (a := a % b * 2 ^ s) (f := s) (m + 1) (H ++ [(dl (2 ^ w) 3 (a % b * 2 ^ s)).map nd]) (by unfold fits; lia) (by lia)
 rw [Nat.mul_div_cancel _ ps] at cr
 haveI e1 : cmpD .eq (nd (dg (2 ^ w) b).length) (.int 1) = some false := by rw [hdb]; rfl
 haveI ei : evE (Qc tb (m + 3)) (.idx (.loc 1) (.neg (.kd (.int 1)))) [.d (nn w a), .d (nn w b), .d (nd w), .unb, .unb, .unb, .unb] H = .ok (.d (nd (b / 2 ^ w))) H := by
  unfold nn; rw [hdb]; rfl
 haveI hle3 : (dg (2 ^ w) (a * 2 ^ s)).length ≤ 3 := Qlx hB _ 3 hT3
 haveI ecat : evE (Qc tb (m + 3)) (.mk true (.cat (.loc 5) (.mk false (.rep (.mk false (.list (.cons (.kd (.int 0)) .nil))) (.bin .sub (.bin .add (.len (.loc 0)) (.kd (.int 1))) (.len (.loc 5))))))) [.d (nn w a), .d (nn w b), .d (nd w), .d (nd s), .d (nn w (b * 2 ^ s)), .d (nn w (a * 2 ^ s)), .unb] H = .ok (.cell H.length) (H ++ [(dl (2 ^ w) 3 (a * 2 ^ s)).map nd]) := by
  rw [← QsE hB hT3, List.map_append, List.map_replicate]
  refine QbC (QsL rfl (Qu (Qni (i := ((3 - (dg (2 ^ w) (a * 2 ^ s)).length : Nat) : Int)) (x := nd 0) rfl (Qe (Qe (Qz rfl) rfl (QG _ 1)) (Qz rfl) ?_) rfl (by lia))) rfl ?_ ?_)
  ·rw [hda]; exact Qcf hle3
  ·rw [Int.toNat_natCast]; rfl
  ·simp; lia
 exact Qt (f := Qar) (H1 := H ++ [(dl (2 ^ w) 3 (a % b * 2 ^ s)).map nd]) rfl rfl (sq (Qr (z := false) (Qf (Qz rfl) rfl e0) rfl) (sq (Qr (z := false) (Qf (Qb rfl ec) rfl hc) rfl) (sq (Qr (z := false) (Qf (Qz rfl) rfl e1) rfl) (sq (Qk (Qe (z := nd s) rfl (Qb (Qa (v := .d (.list [nd (b / 2 ^ w)])) (Qu (QeZ (Qa ei rfl) rfl rfl)) rfl) cbits) ((Qcf (by lia)).trans (by rw [hs, Nat.add_sub_cancel])))) (sq (Qk (Qb rfl cs1)) (sq (Qk (Qb rfl cs2)) (sq (Qk ecat) (sq (Qk (Qb rfl cd)) (Qg (Qbd (Qa (Qb rfl cn1) (Qa (Qb (Qa (Qb rfl cn2) rfl) cr) rfl)) rfl rfl)))))))))) tk1
end
noncomputable def ofS (b : Bool) (n : Nat) : Int := if b then -(n : Int) else n
theorem QbS (z : Int) : ofS (decide (z < 0)) z.natAbs = z := by
 unfold ofS; by_cases h : z < 0 <;> simp [h] <;> lia
theorem Qrx (a b : Int) : ofS (decide (a < 0) != decide (b < 0)) (a.natAbs * b.natAbs) = a * b := by
 conv => rhs; rw [← QbS a, ← QbS b]
 unfold ofS
 by_cases h : a < 0 <;> by_cases g : b < 0 <;> simp [h, g, Int.neg_mul, Int.mul_neg]
theorem Qpm (a b : Int) : ofS (decide (a < 0) != decide (b < 0)) (a.natAbs / b.natAbs) = a.tdiv b := by
 conv => rhs; rw [← QbS a, ← QbS b]
 unfold ofS
 by_cases h : a < 0 <;> by_cases g : b < 0 <;> simp only [h, g, decide_true, decide_false, if_true, Int.neg_tdiv, Int.tdiv_neg, Int.neg_neg] <;> rfl
theorem Qpp (a b : Int) : ofS (decide (a < 0)) (a.natAbs % b.natAbs) = a.tmod b := by
 conv => rhs; rw [← QbS a, ← QbS b]
 unfold ofS
 by_cases h : a < 0 <;> by_cases g : b < 0 <;> simp only [h, g, decide_true, decide_false, if_true, Int.neg_tmod, Int.tmod_neg] <;> rfl
theorem Qqa (a b : Bool) : cmpD .eq (.bool a) (.bool b) = some (a == b) := rfl
theorem sg0 (w : Nat) : sg w 0 = Qdg false := rfl
theorem sg1 {w : Nat} (hw : 0 < w) : sg w 1 = Qdg true := by
 haveI : dg (2 ^ w) 1 = [1] := Qgv (QI hw) (by lia) (QI hw)
 unfold sg nl
 rw [show (1 : Int).natAbs = 1 from rfl, this]; rfl
section
variable {w : Nat} (hw : 8 ≤ w) (hw2 : w ≤ 10)
include hw
theorem QlM (m : Nat) (z : Int) (H : Hp) : Qc tb (m + 1) 13 [.d (sg w z)] H = .ok (.int z.sign) H := by
 by_cases h0 : z = 0
 ·subst h0
  exact Qt (f := QhL) (H1 := H) rfl rfl (Qg (Qr (z := true) rfl (Qg (Qy rfl)))) tk0
 haveI e0 : cmpD .eq (nd (dg (2 ^ w) z.natAbs).length) (.int 0) = some false := (Qbs _ 0).trans (congrArg some (decide_eq_false (fun q => by rw [List.length_eq_zero_iff, Qjh (QI (by lia))] at q; lia)))
 refine Qt (f := QhL) (H1 := H) rfl rfl (sq (Qr (z := false) (Qf (Qz rfl) rfl e0) rfl) (Qg (Qy (QO (z := decide (z < 0)) rfl ?_)))) tk0
 by_cases h : z < 0
 ·rw [decide_eq_true h, Int.sign_eq_neg_one_of_neg h]; rfl
 ·rw [decide_eq_false h, Int.sign_eq_one_of_pos (by lia)]; rfl
theorem QhC (m : Nat) (b : Bool) (n : Nat) (H : Hp) : Qc tb (m + 1) 10 [.d (.bool b), .d (nn w n)] H = .ok (sg w (ofS b n)) H :=
 QmE (by lia) m b n H
include hw2
theorem Qsi (m : Nat) (z : Int) (H : Hp) (hz : fits z.natAbs) : Qc tb (m + 2) 11 [.d (.int z), .d (nd w)] H = .ok (sg w z) H := by
 haveI c := QkQ (w0 hw) (w16 hw2) m z.natAbs H (Nat.le_trans (QQ (by lia) hz) (by lia))
 exact Qt (f := Qqs) rfl rfl (Qg (Qbd (Qa (Qf rfl rfl rfl) (Qa (Qb rfl c) rfl)) rfl rfl)) tk0
theorem Qow {a b : Int} (m : Nat) (H : Hp) (ha : fits a.natAbs) (hb : fits b.natAbs) : Qc tb (m + 3) 14 [.d (sg w a), .d (sg w b), .d (nd w)] H = .ok (sg w (a + b)) H := by
 by_cases h : decide (a < 0) = decide (b < 0)
 ·haveI c1 := Qpj (w0 hw) (w16 hw2) (m + 1) H ha hb
  haveI c2 := QhC hw (m + 1) (decide (a < 0)) (a.natAbs + b.natAbs) H
  rw [show ofS (decide (a < 0)) (a.natAbs + b.natAbs) = a + b from by
   rw [decide_eq_decide] at h
   unfold ofS; by_cases g : a < 0 <;> simp [g] <;> lia] at c2
  exact Qt (f := Qhw) rfl rfl (Qg (Qr (z := true) (Qf rfl rfl ((Qqa _ _).trans (congrArg some (beq_iff_eq.mpr h)))) (Qg (Qy (Qb (Qa rfl (Qa (Qb rfl c1) rfl)) c2))))) tk0
 ·haveI hz := (Qqa (decide (a < 0)) (decide (b < 0))).trans (congrArg some (beq_eq_false_iff_ne.mpr h))
  haveI cc := Qae (w0 hw) (m + 1) H ha hb
  rw [decide_eq_decide] at h
  by_cases g : a.natAbs < b.natAbs
  ·haveI c1 := Qrp (w0 hw) (w16 hw2) m H hb (Nat.le_of_lt g)
   haveI c2 := QhC hw (m + 1) (decide (b < 0)) (b.natAbs - a.natAbs) H
   rw [show ofS (decide (b < 0)) (b.natAbs - a.natAbs) = a + b from by
    unfold ofS; by_cases g : b < 0 <;> simp [g] <;> lia] at c2
   exact Qt (f := Qhw) rfl rfl (sq (Qr (z := false) (Qf rfl rfl hz) rfl) (Qg (Qr (z := true) (Qf (Qb rfl cc) rfl ((QaY _).trans (congrArg some (decide_eq_true (by unfold cmpz; rw [if_pos g]; lia))))) (Qg (Qy (Qb (Qa rfl (Qa (Qb rfl c1) rfl)) c2)))))) tk0
  ·haveI c1 := Qrp (w0 hw) (w16 hw2) m H ha (Nat.le_of_not_lt g)
   haveI c2 := QhC hw (m + 1) (decide (a < 0)) (a.natAbs - b.natAbs) H
   rw [show ofS (decide (a < 0)) (a.natAbs - b.natAbs) = a + b from by
    unfold ofS; by_cases g : a < 0 <;> simp [g] <;> lia] at c2
   exact Qt (f := Qhw) rfl rfl (sq (Qr (z := false) (Qf rfl rfl hz) rfl) (sq (Qr (z := false) (Qf (Qb rfl cc) rfl ((QaY _).trans (congrArg some (decide_eq_false (by unfold cmpz; rw [if_neg g]; split <;> lia))))) rfl) (Qg (Qy (Qb (Qa rfl (Qa (Qb rfl c1) rfl)) c2))))) tk0
theorem Qre (m : Nat) (z : Int) (H : Hp) : Qc tb (m + 2) 12 [.d (sg w z)] H = .ok (sg w (-z)) H := by
 haveI c := QhC hw m (!decide (z < 0)) z.natAbs H
 rw [show ofS (!decide (z < 0)) z.natAbs = -z from by unfold ofS; by_cases h : z < 0 <;> simp [h] <;> lia] at c
 exact Qt (f := Qok) rfl rfl (Qg (Qy (Qb rfl c))) tk0
theorem Qdh {a b : Int} (m : Nat) (H : Hp) (ha : fits a.natAbs) (hb : fits b.natAbs) : Qc tb (m + 4) 15 [.d (sg w a), .d (sg w b), .d (nd w)] H = .ok (sg w (a - b)) H := by
 haveI c1 := Qre hw hw2 (m + 1) b H
 haveI c2 := Qow hw hw2 (a := a) (b := -b) m H ha (by rwa [Int.natAbs_neg])
 rw [← Int.sub_eq_add_neg] at c2
 exact Qt (f := Qog) rfl rfl (Qg (Qy (Qb (Qa rfl (Qa (Qb rfl c1) rfl)) c2))) tk0
theorem QcV {a b : Int} (m : Nat) (H : Hp) (ha : fits a.natAbs) (hb : fits b.natAbs) : Qc tb (m + 3) 16 [.d (sg w a), .d (sg w b), .d (nd w), .fn 46] H = .ok (sg w (a * b)) H := by
 haveI c1 := QhH (w0 hw) (w16 hw2) m H ha hb
 haveI c2 := QhC hw (m + 1) (decide (a < 0) != decide (b < 0)) (a.natAbs * b.natAbs) H
 rw [Qrx] at c2
 exact Qt (f := Qnd) rfl rfl (Qg (Qy (Qb (Qa (Qf rfl rfl rfl) (Qa (Qap rfl rfl c1) rfl)) c2))) tk0
theorem Qqh {a b : Int} (m : Nat) (H : Hp) (ha : a.natAbs < 2 ^ 16) (hb : b ≠ 0) (hb2 : b.natAbs < 2 ^ 16) : Qc tb (m + 5) 17 [.d (sg w a), .d (sg w b), .d (nd w), .fn 52] H = .ok (.tuple [sg w (a.tdiv b), sg w (a.tmod b)]) H := by
 haveI c1 := Qpq hw hw2 (a := a.natAbs) (b := b.natAbs) m H ha (by lia) hb2
 haveI c2 := QhC hw (m + 3) (decide (a < 0) != decide (b < 0)) (a.natAbs / b.natAbs) H
 haveI c3 := QhC hw (m + 3) (decide (a < 0)) (a.natAbs % b.natAbs) H
 rw [Qpm] at c2
 rw [Qpp] at c3
 haveI e0 : cmpD .eq (nd (dg (2 ^ w) b.natAbs).length) (.int 0) = some false := (Qbs _ 0).trans (congrArg some (decide_eq_false (fun q => by rw [List.length_eq_zero_iff, Qjh (QI (by lia))] at q; lia)))
 exact Qt (f := Qqu) rfl rfl (sq (Qr (z := false) (Qf (Qz rfl) rfl e0) rfl) (sq (QcG (Qap rfl rfl c1) rfl) (Qg (Qbd (Qa (Qb (Qa (Qf rfl rfl rfl) rfl) c2) (Qa (Qb rfl c3) rfl)) rfl rfl)))) tk0
theorem Qfo {a b : Int} (m : Nat) (H : Hp) (ha : a.natAbs < 2 ^ 16) (hb : b ≠ 0) (hb2 : b.natAbs < 2 ^ 16) : Qc tb (m + 6) 24 [.d (sg w a), .d (sg w b), .d (nd w), .fn 52] H = .ok (sg w (a.tdiv b)) H :=
 Qt (f := Qnr) rfl rfl (sq (QcG (Qb rfl (Qqh hw hw2 m H ha hb hb2)) rfl) (Qg (Qy rfl))) tk0
theorem Qsu {a b : Nat} (m : Nat) (H : Hp) (ha : a < 2 ^ 16) (hb : 0 < b) (hb2 : b < 2 ^ 16) : Qc tb (m + 6) 18 [.d (sg w a), .d (sg w b), .d (nd w), .fn 52] H = .ok (.tuple [sg w (a / b : Nat), sg w (a % b : Nat)]) H := by
 haveI c := Qqh hw hw2 (a := a) (b := b) m H (by rwa [Int.natAbs_natCast]) (by lia) (by rwa [Int.natAbs_natCast])
 haveI e : evE (Qc tb (m + 5)) (.and (.cmp .gt (.len (.idx (.loc 5) (.kd (.int 1)))) (.kd (.int 0))) (.cmp .ne (.idx (.loc 0) (.kd (.int 0))) (.idx (.loc 1) (.kd (.int 0))))) [.d (sg w a), .d (sg w b), .d (nd w), .fn 52, .d (sg w (a / b : Nat)), .d (sg w (a % b : Nat))] H = .ok (.d (.bool false)) H := by
  refine Qcl (Qf (Qz (a := a % b) rfl) rfl (Qcv _)) ?_
  by_cases h : 0 < (dg (2 ^ w) (a % b)).length
  ·rw [decide_eq_true h]
   refine (Qf rfl rfl rfl).trans ?_
   rw [decide_eq_false (by lia : ¬ (a : Int) < 0), decide_eq_false (by lia : ¬ (b : Int) < 0)]; rfl
  ·rw [decide_eq_false h]; rfl
 exact Qt (f := Qqx) rfl rfl (sq (QcG (Qb rfl c) rfl) (sq (Qr e rfl) (Qg (Qbd rfl rfl rfl)))) tk0
end
noncomputable def rw' (w : Nat) (zs : List Int) : D := .list (zs.map (sg w))
noncomputable def mt (w : Nat) (rows : List (List Int)) : D := .list (rows.map (rw' w))
noncomputable def dotF : Int → List Int → List Int → Int
 | acc, x :: xs, y :: ys => dotF (acc + x * y) xs ys
 | acc, _, _ => acc
noncomputable def clrF (p o b : Int) : List Int → List Int → List Int
 | x :: xs, h :: hs => (x * p - o * h).tdiv b :: clrF p o b xs hs
 | _, _ => []
noncomputable def pivF (c : Nat) : List (List Int) → Nat → Option Nat
 | [], _ => none
 | r :: rs, i => if r.getD c 0 = 0 then pivF c rs (i + 1) else some i
theorem Qkl {α : Type} {f : α → D} (pre : List α) (y : α) (ys : List α) : idxD ((pre ++ y :: ys).map f) (pre.length : Int) = some (f y) := by
 rw [QaG, List.getElem?_map, List.getElem?_append_right (Nat.le_refl _), Nat.sub_self]; rfl
theorem Qaz {α : Type} {f : α → D} {l : List α} {i : Nat} (d : α) (h : i < l.length) : idxD (l.map f) (i : Int) = some (f (l.getD i d)) := by
 rw [QaG, List.getElem?_map, List.getD_eq_getElem?_getD, List.getElem?_eq_getElem h]; rfl
theorem QB {a b : Int} {p q : Nat} (ha : a.natAbs ≤ p) (hb : b.natAbs ≤ q) : (a * b).natAbs ≤ p * q := by
 rw [Int.natAbs_mul]; exact Nat.mul_le_mul ha hb
theorem Qj {n p : Nat} (h : n ≤ p) (hp : p < 2 ^ 100) : fits n := Nat.lt_of_le_of_lt h (Nat.lt_trans hp (by decide))
section
variable {w : Nat} (hw : 8 ≤ w) (hw2 : w ≤ 10)
include hw hw2
theorem Qgo (m base : Nat) (H : Hp) (ys0 : List Int) (one : D) : ∀ (zs pre ys : List Int) (acc : Int) (v1 v2 : V), ys0 = pre ++ ys → zs.length ≤ ys.length → zs.length ≤ 10 → (∀ z ∈ zs, z.natAbs ≤ 2 ^ 20) → (∀ z ∈ ys, z.natAbs ≤ 2 ^ 20) → acc.natAbs + zs.length * 2 ^ 40 ≤ 2 ^ 50 →
  Ex2 fun v1' v2' => Qaf (Tgt.two 5 6).bd (exB (Qc tb (m + 3)) base B_inner_0) (Qcc pre.length (zs.map (sg w))) [.d one, .d (rw' w ys0), .d (nd w), .fn 46, .d (sg w acc), v1, v2] H =
   .next [.d one, .d (rw' w ys0), .d (nd w), .fn 46, .d (sg w (dotF acc zs ys)), v1', v2'] H
 | [], pre, ys, acc, v1, v2, _, _, _, _, _, _ => ⟨v1, v2, by cases ys <;> rfl⟩
 | z :: zs, pre, [], acc, v1, v2, _, h, _, _, _, _ => by simp at h
 | z :: zs, pre, y :: ys, acc, v1, v2, e, h, h10, hz, hy, hb => by
  simp only [List.length_cons] at h h10 hb
  haveI hzy := QB (hz z List.mem_cons_self) (hy y List.mem_cons_self)
  haveI hz1 := hz z List.mem_cons_self
  haveI hy1 := hy y List.mem_cons_self
  haveI hadd := Int.natAbs_add_le acc (z * y)
  obtain ⟨u1, u2, ih⟩ := Qgo m base H ys0 one zs (pre ++ [y]) ys (acc + z * y) (.d (nd pre.length)) (.d (sg w z)) (by rw [e]; simp) (by lia) (by lia) (fun x hx => hz x (List.mem_cons_of_mem _ hx)) (fun x hx => hy x (List.mem_cons_of_mem _ hx)) (by lia)
  refine ⟨u1, u2, Qq rfl (sq (Qk (Qb (Qa rfl (Qa (Qb (Qa rfl (Qa (Qi (z := sg w y) rfl rfl rfl (by rw [e]; exact Qkl _ _ _)) rfl)) (QcV hw hw2 m H (Qj hz1 (by decide)) (Qj hy1 (by decide)))) rfl)) (Qow hw hw2 m H (Qj (p := 2 ^ 50) (by lia) (by decide)) (Qj hzy (by decide))))) rfl) ?_⟩
  rw [show (pre ++ [y]).length = pre.length + 1 from by simp] at ih
  exact ih
theorem Qfl {zs ys : List Int} (m : Nat) (H : Hp) (hl : zs.length ≤ ys.length) (h10 : zs.length ≤ 10) (hz : ∀ z ∈ zs, z.natAbs ≤ 2 ^ 20) (hy : ∀ z ∈ ys, z.natAbs ≤ 2 ^ 20) : Qc tb (m + 4) 21 [.d (rw' w zs), .d (rw' w ys), .d (nd w), .fn 46] H = .ok (sg w (dotF 0 zs ys)) H := by
 obtain ⟨u1, u2, e⟩ := Qgo hw hw2 m H.length H ys (rw' w zs) zs [] ys 0 .unb .unb rfl hl h10 hz hy (by rw [Int.natAbs_zero]; lia)
 exact Qt (f := QoE) rfl rfl (sq (Qk rfl) (sq (QP rfl e) (Qg (Qy rfl)))) tk0
theorem Qmg (m : Nat) (H : Hp) (row : D) (hd0 : List Int) (col : D) {p o b : Int} (hp : p.natAbs ≤ 181) (ho : o.natAbs ≤ 181) (hb : b ≠ 0) (hb2 : b.natAbs < 2 ^ 16) : ∀ (zs pre hs : List Int) (acc : List D) (v1 v2 v3 : V), hd0 = pre ++ hs → zs.length = hs.length → acc.length + zs.length ≤ 4000 → (∀ z ∈ zs, z.natAbs ≤ 181) → (∀ z ∈ hs, z.natAbs ≤ 181) →
  Ex3 fun v1' v2' v3' => Qaf (Tgt.two 10 11).bd (exB (Qc tb (m + 6)) H.length B_cleared_0) (Qcc pre.length (zs.map (sg w))) [.d row, .d (rw' w hd0), .d col, .d (sg w b), .d (nd w), .fn 46, .fn 52, .d (sg w p), .d (sg w o), .cell H.length, v1, v2, v3] (H ++ [acc]) =
   .next [.d row, .d (rw' w hd0), .d col, .d (sg w b), .d (nd w), .fn 46, .fn 52, .d (sg w p), .d (sg w o), .cell H.length, v1', v2', v3'] (H ++ [acc ++ (clrF p o b zs hs).map (sg w)])
 | [], pre, hs, acc, v1, v2, v3, _, _, _, _, _ => ⟨v1, v2, v3, by rw [show clrF p o b [] hs = [] from by cases hs <;> rfl, List.map_nil, List.append_nil]; rfl⟩
 | z :: zs, pre, [], acc, v1, v2, v3, _, h, _, _, _ => by simp at h
 | z :: zs, pre, y :: ys, acc, v1, v2, v3, e, h, h10, hz, hy => by
  simp only [List.length_cons] at h h10
  haveI m1 := QB (hz z List.mem_cons_self) hp
  haveI m2 := QB ho (hy y List.mem_cons_self)
  haveI hz1 := hz z List.mem_cons_self
  haveI hy1 := hy y List.mem_cons_self
  haveI hsub := Int.natAbs_sub_le (z * p) (o * y)
  obtain ⟨u1, u2, u3, ih⟩ := Qmg m H row hd0 col hp ho hb hb2 zs (pre ++ [y]) ys (acc ++ [sg w ((z * p - o * y).tdiv b)]) (.d (nd pre.length)) (.d (sg w z)) (.d (sg w (z * p - o * y))) (by rw [e]; simp) (by lia) (by simp; lia) (fun x hx => hz x (List.mem_cons_of_mem _ hx)) (fun x hx => hy x (List.mem_cons_of_mem _ hx))
  rw [show (pre ++ [y]).length = pre.length + 1 from by simp] at ih
  refine ⟨u1, u2, u3, Qq rfl (sq (Qk (Qb (Qa (Qb rfl (QcV hw hw2 (m + 3) _ (Qj hz1 (by decide)) (Qj hp (by decide)))) (Qa (Qb (Qa rfl (Qa (Qi (z := sg w y) rfl rfl rfl (by rw [e]; exact Qkl _ _ _)) rfl)) (QcV hw hw2 (m + 3) _ (Qj ho (by decide)) (Qj hy1 (by decide)))) rfl)) (Qdh hw hw2 (m + 2) _ (Qj m1 (by decide)) (Qj m2 (by decide))))) (sq (Qcn (Qb rfl (Qfo hw hw2 m _ (by lia) hb hb2)) rfl (appc _ _ _ (by lia))) rfl)) (ih.trans ?_)⟩
  simp [clrF]
theorem QoP {row head : List Int} {c : Nat} {b : Int} (m : Nat) (H : Hp) (hl : row.length = head.length) (hc : c < row.length) (h100 : row.length ≤ 100) (hr : ∀ z ∈ row, z.natAbs ≤ 181) (hh : ∀ z ∈ head, z.natAbs ≤ 181) (hb : b ≠ 0) (hb2 : b.natAbs < 2 ^ 16) :
  Qc tb (m + 7) 26 [.d (rw' w row), .d (rw' w head), .d (nd c), .d (sg w b), .d (nd w), .fn 46, .fn 52] H = .ok (rw' w (clrF (head.getD c 0) (row.getD c 0) b row head)) H := by
 haveI mem : ∀ {l : List Int}, c < l.length → l.getD c 0 ∈ l := fun h => by rw [List.getD_eq_getElem?_getD, List.getElem?_eq_getElem h]; exact List.getElem_mem h
 obtain ⟨u1, u2, u3, e⟩ := Qmg hw hw2 m H (rw' w row) head (nd c) (p := head.getD c 0) (o := row.getD c 0) (hh _ (mem (by lia))) (hr _ (mem hc)) hb hb2 row [] head [] .unb .unb .unb rfl hl (by simp; lia) hr hh
 exact Qt (f := QiG) rfl rfl (sq (QT (Qa (Qi rfl rfl rfl (Qaz 0 (by lia))) (Qa (Qi rfl rfl rfl (Qaz 0 hc)) rfl)) rfl) (sq (Qk (QbC rfl)) (sq (QP rfl e) (Qg (Qgc rfl (Nat.le_refl _) (getc _ _)))))) tk1
omit hw2 in
theorem Qmf (m base n : Nat) (H : Hp) (rows0 : List (List Int)) (hH : H[n]? = some (rows0.map (rw' w))) (t c : Nat) : ∀ (rs pre : List (List Int)) (v : V), rows0 = pre ++ rs → (∀ r ∈ rs, c < r.length) →
  (Qaf (Tgt.one 3).bd (exB (Qc tb (m + 1)) base B_pivot_row_0) (Qbc pre.length rs.length) [.cell n, .d (nd t), .d (nd c), v] H).bind (fun ρ H => exB (Qc tb (m + 1)) base (.cons (.ret (.neg (.kd (.int 1)))) .nil) ρ H) = .ret (match pivF c rs pre.length with | some s => nd s | none => .int (-1)) H
 | [], pre, v, _, _ => rfl
 | r :: rs, pre, v, e, hr => by
  haveI hc := hr r List.mem_cons_self
  haveI ih := Qmf m base n H rows0 hH t c rs (pre ++ [r]) (.d (nd pre.length)) (by rw [e]; simp) (fun x hx => hr x (List.mem_cons_of_mem _ hx))
  rw [show (pre ++ [r]).length = pre.length + 1 from by simp] at ih
  haveI es : evE (Qc tb (m + 1)) (.cmp .ne (.call 13 (.cons (.idx (.idx (.loc 0) (.loc 3)) (.loc 2)) .nil)) (.kd (.int 0))) [.cell n, .d (nd t), .d (nd c), .d (nd pre.length)] H = .ok (.d (.bool (decide (r.getD c 0 ≠ 0)))) H := by
   refine Qf (Qb (Qa (Qi (Qi (v := .cell n) rfl rfl hH (by rw [e]; exact Qkl _ _ _)) rfl rfl (Qaz 0 hc)) rfl) (QlM hw m _ H)) rfl ?_
   show some ((r.getD c 0).sign != (0 : Int)) = _
   by_cases h : r.getD c 0 = 0
   ·rw [h]; rfl
   ·rw [decide_eq_true h, bne_iff_ne.mpr (fun q => h (Int.sign_eq_zero_iff_zero.mp q))]
  simp only [List.length_cons, Qbc, pivF]
  by_cases h : r.getD c 0 = 0
  ·haveI hb : exB (Qc tb (m + 1)) base B_pivot_row_0 [.cell n, .d (nd t), .d (nd c), .d (nd pre.length)] H = .next [.cell n, .d (nd t), .d (nd c), .d (nd pre.length)] H := sq (Qr (z := false) (es.trans (by rw [h]; rfl)) rfl) rfl
   rw [Qq (ρ1 := [.cell n, .d (nd t), .d (nd c), .d (nd pre.length)]) rfl hb rfl, if_pos h]
   exact ih
  ·haveI hb : exB (Qc tb (m + 1)) base B_pivot_row_0 [.cell n, .d (nd t), .d (nd c), .d (nd pre.length)] H = .ret (nd pre.length) H := Qg (Qr (z := true) (es.trans (by rw [decide_eq_true h])) (Qg (Qy rfl)))
   rw [Qbw (ρ1 := [.cell n, .d (nd t), .d (nd c), .d (nd pre.length)]) rfl hb, if_neg h]; rfl
omit hw2 in
theorem Qrl {rows : List (List Int)} {n t c : Nat} (m : Nat) (H : Hp) (hH : H[n]? = some (rows.map (rw' w))) (ht : t ≤ rows.length) (hn : rows.length ≤ 100) (hr : ∀ r ∈ rows, c < r.length) : Qc tb (m + 2) 25 [.cell n, .d (nd t), .d (nd c)] H = .ok (match pivF c (rows.drop t) t with | some s => nd s | none => .int (-1)) H := by
 haveI e := Qmf hw m H.length n H rows hH t c (rows.drop t) (rows.take t) .unb (List.take_append_drop t rows).symm (fun r h => hr r (List.mem_of_mem_drop h))
 rw [List.length_take, Nat.min_eq_left ht, List.length_drop] at e
 haveI hf := QP (cl := Qc tb (m + 1)) (b := H.length) (t := .one 3) (s := B_pivot_row_0) (Qag (cl := Qc tb (m + 1)) (ρ := [.cell n, .d (nd t), .d (nd c), .unb]) (H := H) (e := .loc 1) (f := .len (.loc 0)) (k := t) (n := rows.length) rfl ((QC (v := .cell n) rfl hH).trans (by rw [List.length_map])) (by lia) (by lia)) rfl
 exact Qt (f := QfP) (H1 := H) rfl rfl ((congrArg (fun o : O => o.bind _) hf).trans e) tk0
end
structure Stp where
 rows : List (List Int)
 pl : List Nat
 odd : Bool
 bf : Int
noncomputable def swpF (rows : List (List Int)) (i j : Nat) : List (List Int) := (rows.set i (rows.getD j [])).set j (rows.getD i [])
noncomputable def clrR (c t : Nat) (b : Int) (rows : List (List Int)) (j : Nat) : List Int :=
 if j < t + 1 then rows.getD j [] else clrF ((rows.getD t []).getD c 0) ((rows.getD j []).getD c 0) b (rows.getD j []) (rows.getD t [])
noncomputable def QbJ (c t : Nat) (b : Int) (rows : List (List Int)) : List (List Int) := (List.range rows.length).map (clrR c t b rows)
noncomputable def Qcw (c : Nat) (s : Stp) : Stp :=
 match pivF c (s.rows.drop s.pl.length) s.pl.length with
 | none => s
 | some k =>
  let rs := if k = s.pl.length then s.rows else swpF s.rows s.pl.length k
  ⟨QbJ c s.pl.length s.bf rs, s.pl ++ [c], if k = s.pl.length then s.odd else !s.odd, (rs.getD s.pl.length []).getD c 0⟩
noncomputable def stF (rows : List (List Int)) : Nat → Stp
 | 0 => ⟨rows, [], false, 1⟩
 | k + 1 => Qcw k (stF rows k)
noncomputable def Good (L c : Nat) (s : Stp) : Prop :=
 (∀ r ∈ s.rows, r.length = L) ∧ c < L ∧ L ≤ 100 ∧ s.rows.length ≤ 100 ∧ s.pl.length ≤ s.rows.length ∧ (s.pl.length + 1 < s.rows.length → s.bf ≠ 0 ∧ s.bf.natAbs < 2 ^ 16 ∧ ∀ r ∈ s.rows, ∀ z ∈ r, z.natAbs ≤ 181)
theorem QfL {c k : Nat} : ∀ {rs : List (List Int)} {i : Nat}, pivF c rs i = some k → i ≤ k ∧ k < i + rs.length
 | [], i, h => by cases h
 | r :: rs, i, h => by
  simp only [pivF] at h
  split at h
  ·haveI := QfL h; simp; lia
  ·cases h; simp
theorem QmG {α β : Type} (f : α → β) (d : α) (l : List α) : (List.range l.length).map (fun j => f (l.getD j d)) = l.map f := by
 refine List.ext_getElem (by simp) fun i h1 h2 => ?_
 simp at h1 h2
 simp [List.getD_eq_getElem?_getD, h1]
theorem getP {H : Hp} {X P : List D} {n : Nat} (hn : n = H.length + 1) : (H ++ [X] ++ [P])[n]? = some P := by subst hn; simp
theorem appP {H : Hp} {X P : List D} {n : Nat} (hn : n = H.length + 1) (x : D) (hl : P.length ≤ 4000) : QeW (H ++ [X] ++ [P]) n x = some (H ++ [X] ++ [P ++ [x]]) := by
 unfold QeW
 rw [getP hn]
 subst hn
 show (if small (P.length + 1) = true then _ else _) = _
 rw [if_pos (show small _ = true from decide_eq_true (by lia))]; simp
theorem Qjo {cl : Qh} {base k n : Nat} {ρ : Rho} {H H1 H2 H3 H4 H5 H6 : Hp} {i j e f : PE} {x y : D} {p q : Int} (he : evE cl e ρ H = .ok (.d x) H1) (hf : evE cl f ρ H1 = .ok (.d y) H2) (hk : gt ρ k = .cell n) (hi : evE cl i ρ H2 = .ok (.d (.int p)) H3) (h1 : QdZ H3 n p x = some H4) (hj : evE cl j ρ H4 = .ok (.d (.int q)) H5) (h2 : QdZ H5 n q y = some H6) : exS cl base (.set2 k i j e f) ρ H = .next ρ H6 := Qca he (Qca hf (Qdj rfl (Qdj rfl (by rw [hk]; exact Qca hi (Qdj rfl (Qdj h1 (Qca hj (Qdj rfl (Qdj h2 rfl)))))))))
section
variable {w : Nat} (hw : 8 ≤ w) (hw2 : w ≤ 10)
include hw hw2
theorem QoY (m base n : Nat) (H : Hp) (P : List D) (hn : n = H.length + 1) (a C : D) (od : V) {rows : List (List Int)} {L c t : Nat} {b : Int} (v12 v13 : V) (sp : V) (hc : c < L) (hL : L ≤ 100) (hr : ∀ r ∈ rows, r.length = L) (ht : t < rows.length) (hn100 : rows.length ≤ 100) (hb : t + 1 < rows.length → b ≠ 0 ∧ b.natAbs < 2 ^ 16 ∧ ∀ r ∈ rows, ∀ z ∈ r, z.natAbs ≤ 181) :
  ∃ v12', Qaf (Tgt.one 12).bd (exB (Qc tb (m + 7)) base B_steps_down_0) (Qbc (t + 1 : Nat) (rows.length - (t + 1))) [.d a, .d C, .d (nd w), .fn 46, .fn 52, .cell H.length, .cell n, od, .d (sg w b), .d (nd c), .d (nd t), sp, v12, v13] (H ++ [rows.map (rw' w)] ++ [P]) =
   .next [.d a, .d C, .d (nd w), .fn 46, .fn 52, .cell H.length, .cell n, od, .d (sg w b), .d (nd c), .d (nd t), sp, v12', v13] (H ++ [(QbJ c t b rows).map (rw' w)] ++ [P]) := by
 haveI mem : ∀ {i}, i < rows.length → rows.getD i [] ∈ rows := fun h => by rw [List.getD_eq_getElem?_getD, List.getElem?_eq_getElem h]; exact List.getElem_mem h
 obtain ⟨ρ1, H1, e1, v1, rfl, rfl⟩ := Qmu (k := 12) (lo := t + 1) (n := rows.length - (t + 1)) (body := exB (Qc tb (m + 7)) base B_steps_down_0) (ρ := [.d a, .d C, .d (nd w), .fn 46, .fn 52, .cell H.length, .cell n, od, .d (sg w b), .d (nd c), .d (nd t), sp, v12, v13]) (H := H ++ [rows.map (rw' w)] ++ [P])
  (fun i ρ H' => ∃ v, ρ = [.d a, .d C, .d (nd w), .fn 46, .fn 52, .cell H.length, .cell n, od, .d (sg w b), .d (nd c), .d (nd t), sp, v, v13] ∧ H' = H ++ [mx (fun j => rw' w (clrR c t b rows j)) (fun j => rw' w (rows.getD j [])) rows.length (t + 1 + i)] ++ [P])
  ⟨_, rfl, by rw [Nat.add_zero, mx_g (fun j hj => by simp only [clrR, if_pos hj]), QmG]⟩ (by
   rintro i _ _ hi ⟨v, rfl, rfl⟩
   haveI HH8 := hb (by lia)
   haveI hb0 := HH8.1
   haveI hb1 := HH8.2.1
   haveI hM := HH8.2.2
   haveI g1 : idxD (mx (fun j => rw' w (clrR c t b rows j)) (fun j => rw' w (rows.getD j [])) rows.length (t + 1 + i)) ((t + 1 + i : Nat) : Int) = some (rw' w (rows.getD (t + 1 + i) [])) := by
    rw [QaG, QcA (by lia), if_neg (by lia)]
   haveI g2 : idxD (mx (fun j => rw' w (clrR c t b rows j)) (fun j => rw' w (rows.getD j [])) rows.length (t + 1 + i)) (t : Int) = some (rw' w (rows.getD t [])) := by
    rw [QaG, QcA (by lia), if_pos (by lia)]
    simp only [clrR, if_pos (Nat.lt_succ_self t)]
   haveI cc := QoP hw hw2 (row := rows.getD (t + 1 + i) []) (head := rows.getD t []) (c := c) (b := b) m (H ++ [mx (fun j => rw' w (clrR c t b rows j)) (fun j => rw' w (rows.getD j [])) rows.length (t + 1 + i)] ++ [P]) (by rw [hr _ (mem (by lia)), hr _ (mem ht)]) (by rw [hr _ (mem (by lia))]; exact hc) (by rw [hr _ (mem (by lia))]; exact hL) (hM _ (mem (by lia))) (hM _ (mem ht)) hb0 hb1
   refine ⟨_, _, sq (QaJ (Qb (Qa (Qi rfl rfl (get2 _ _ _) g1) (Qa (Qi rfl rfl (get2 _ _ _) g2) rfl)) cc) rfl rfl (set2 _ _ _ _ _ (by rw [QbA]; lia))) rfl, _, rfl, ?_⟩
   haveI := Qmv (f := fun j => rw' w (clrR c t b rows j)) (g := fun j => rw' w (rows.getD j [])) (n := rows.length) (k := t + 1 + i)
   rw [← Nat.add_assoc, ← this]
   simp only [clrR]
   rw [if_neg (by lia)])
 refine ⟨v1, e1.trans ?_⟩
 rw [show t + 1 + (rows.length - (t + 1)) = rows.length from by lia, QoH]
 unfold QbJ
 rw [List.map_map]; rfl
theorem Qrj (m base n : Nat) (H : Hp) (hn : n = H.length + 1) (a C : D) (s : Stp) {L c : Nat} (hg : Good L c s) (v10 v11 v12 v13 v9 : V) (hv9 : v9 = .d (nd c)) :
  Ex3 fun v10' v11' v12' => exB (Qc tb (m + 7)) base B_steps_down_1 [.d a, .d C, .d (nd w), .fn 46, .fn 52, .cell H.length, .cell n, .d (.bool s.odd), .d (sg w s.bf), v9, v10, v11, v12, v13] (H ++ [s.rows.map (rw' w)] ++ [s.pl.map nd]) =
   .next [.d a, .d C, .d (nd w), .fn 46, .fn 52, .cell H.length, .cell n, .d (.bool (Qcw c s).odd), .d (sg w (Qcw c s).bf), v9, v10', v11', v12', v13] (H ++ [(Qcw c s).rows.map (rw' w)] ++ [(Qcw c s).pl.map nd]) := by
 subst hv9
 obtain ⟨rows, pl, odd, bf⟩ := s
 haveI HH5 := hg
 haveI hr := HH5.1
 haveI hc := HH5.2.1
 haveI hL := HH5.2.2.1
 haveI hn100 := HH5.2.2.2.1
 haveI ht := HH5.2.2.2.2.1
 haveI hb := HH5.2.2.2.2.2
 simp only at hr hc hL hn100 ht hb ⊢
 have cp := Qrl hw (rows := rows) (n := H.length) (t := pl.length) (c := c) (m + 5) (H ++ [rows.map (rw' w)] ++ [pl.map nd]) (get2 _ _ _) ht hn100 (fun r h => by rw [hr r h]; exact hc)
 have el : ∀ ρ : Rho, gt ρ 6 = .cell n → evE (Qc tb (m + 7)) (.len (.loc 6)) ρ (H ++ [rows.map (rw' w)] ++ [pl.map nd]) = .ok (.d (nd pl.length)) (H ++ [rows.map (rw' w)] ++ [pl.map nd]) := by
  intro ρ hρ
  haveI e6 : evE (Qc tb (m + 7)) (.loc 6) ρ (H ++ [rows.map (rw' w)] ++ [pl.map nd]) = .ok (.cell n) (H ++ [rows.map (rw' w)] ++ [pl.map nd]) := Qku hρ
  exact (QC e6 (getP hn)).trans (by rw [List.length_map])
 cases hp : pivF c (rows.drop pl.length) pl.length with
 | none =>
  rw [hp] at cp
  simp only [Qcw, hp]
  exact ⟨_, _, _, sq (Qk (el _ rfl)) (sq (Qk (Qb rfl cp)) (sq (Qr (z := false) (Qf rfl rfl rfl) rfl) rfl))⟩
 | some k =>
  rw [hp] at cp
  simp only [Qcw, hp]
  obtain ⟨hk1, hk2⟩ := QfL hp
  rw [List.length_drop] at hk2
  have hk : k < rows.length := by lia
  have mem : ∀ {i}, i < rows.length → rows.getD i [] ∈ rows := fun h => by rw [List.getD_eq_getElem?_getD, List.getElem?_eq_getElem h]; exact List.getElem_mem h
  haveI hge : cmpD .ge (nd k) (.int 0) = some true := (congrArg some (decide_eq_true (Int.natCast_nonneg k)) : some (decide ((0 : Int) ≤ (k : Int))) = some true)
  obtain ⟨rs, hrs⟩ : ∃ rs, rs = if k = pl.length then rows else swpF rows pl.length k := ⟨_, rfl⟩
  rw [← hrs]
  have hswp : ∀ r ∈ rs, r ∈ rows := by
   intro r h
   rw [hrs] at h
   split at h
   ·exact h
   ·unfold swpF at h
    rcases List.mem_or_eq_of_mem_set h with h | rfl
    ·rcases List.mem_or_eq_of_mem_set h with h | rfl
     ·exact h
     ·exact mem hk
    ·exact mem (by lia)
  have hlen : rs.length = rows.length := by rw [hrs]; split; rfl; simp [swpF]
  haveI hsw : ∃ o : V, o = .d (.bool (if k = pl.length then odd else !odd)) ∧ exS (Qc tb (m + 7)) base (.ite (.cmp .ne (.loc 11) (.loc 10)) (.cons (.set2 5 (.loc 10) (.loc 11) (.idx (.loc 5) (.loc 11)) (.idx (.loc 5) (.loc 10))) (.cons (.asg 7 (.not (.loc 7))) .nil)) .nil) [.d a, .d C, .d (nd w), .fn 46, .fn 52, .cell H.length, .cell n, .d (.bool odd), .d (sg w bf), .d (nd c), .d (nd pl.length), .d (nd k), v12, v13] (H ++ [rows.map (rw' w)] ++ [pl.map nd]) =
    .next [.d a, .d C, .d (nd w), .fn 46, .fn 52, .cell H.length, .cell n, o, .d (sg w bf), .d (nd c), .d (nd pl.length), .d (nd k), v12, v13] (H ++ [rs.map (rw' w)] ++ [pl.map nd]) := by
   refine ⟨_, rfl, ?_⟩
   by_cases h : k = pl.length
   ·rw [if_pos h] at hrs ⊢
    rw [hrs]
    exact Qr (z := false) (Qf rfl rfl ((QS _ _).trans (congrArg some (decide_eq_false (fun q => q h))))) rfl
   ·rw [if_neg h] at hrs ⊢
    rw [hrs]
    refine Qr (z := true) (Qf rfl rfl ((QS _ _).trans (congrArg some (decide_eq_true h)))) (sq (Qjo (Qi rfl rfl (get2 _ _ _) (Qaz [] hk)) (Qi rfl rfl (get2 _ _ _) (Qaz [] (by lia))) rfl rfl (set2 _ _ _ _ _ (by rw [List.length_map]; lia)) rfl (set2 _ _ _ _ _ (by rw [List.length_set, List.length_map]; lia))) ?_)
    unfold swpF
    rw [List.map_set, List.map_set]; rfl
  obtain ⟨o, rfl, hsw⟩ := hsw
  obtain ⟨v12', hcl⟩ := QoY hw hw2 m base n H (pl.map nd) hn a C (.d (.bool (if k = pl.length then odd else !odd))) (rows := rs) (L := L) (c := c) (t := pl.length) (b := bf) v12 v13 (.d (nd k)) hc hL (fun r h => hr r (hswp r h)) (by lia) (by lia) (fun h => by
   haveI HH59 := hb (by lia)
   haveI h1 := HH59.1
   haveI h2 := HH59.2.1
   haveI h3 := HH59.2.2
   exact ⟨h1, h2, fun r h => h3 r (hswp r h)⟩)
  haveI hcl2 : (QbJ c pl.length bf rs).length = rs.length := by simp [QbJ]
  haveI hhead : (QbJ c pl.length bf rs).getD pl.length [] = rs.getD pl.length [] := by
   haveI : pl.length < rs.length := by lia
   simp [QbJ, clrR, List.getD_eq_getElem?_getD, this]
  haveI hL2 : (rs.getD pl.length []).length = L := hr _ (hswp _ (by rw [List.getD_eq_getElem?_getD, List.getElem?_eq_getElem (by lia)]; exact List.getElem_mem _))
  have i1 : idxD ((QbJ c pl.length bf rs).map (rw' w)) (pl.length : Int) = some (rw' w (rs.getD pl.length [])) := by
   rw [Qaz [] (by lia), hhead]
  refine ⟨.d (nd pl.length), .d (nd k), v12', sq (Qk (el _ rfl)) (sq (Qk (Qb rfl cp)) (sq (Qr (z := true) (Qf rfl rfl hge) (sq hsw (sq (QP (Qag (k := pl.length + 1) (n := rs.length) (Qe rfl rfl (QG _ 1)) ((QC rfl (get2 _ _ _)).trans (by rw [List.length_map])) (by lia) (by lia)) hcl) (sq (Qk (Qi (Qi rfl rfl (get2 _ _ _) i1) rfl rfl (Qaz 0 (by lia)))) (sq (Qcn rfl rfl (appP hn _ (by rw [List.length_map]; lia))) rfl))))) ?_))⟩
  rw [List.map_append]; rfl
end
theorem Qux (ρ : Rho) (k : Nat) (v u : V) : st (st ρ k v) k u = st ρ k u := by
 induction ρ generalizing k with
 | nil => rfl
 | cons a r ih => cases k with | zero => rfl | succ k => simp only [st, ih]
theorem Qam {α : Type} {k : Nat} {el : Rho → Hp → R V} {H : Hp} (f : α → D) (g : α → D) : ∀ (xs : List α) (ρ : Rho), (∀ x ∈ xs, el (st ρ k (.d (f x))) H = .ok (.d (g x)) H) → QU (Tgt.one k).bd el QaE (xs.map f) ρ H = .ok (xs.map g) H
 | [], _, _ => rfl
 | x :: r, ρ, h => Qd rfl (h x List.mem_cons_self) (Qam f g r (st ρ k (.d (f x))) (fun y hy => by rw [Qux]; exact h y (List.mem_cons_of_mem _ hy)))
theorem QlR (p o b : Int) : ∀ (xs hs : List Int), xs.length = hs.length → (clrF p o b xs hs).length = xs.length
 | [], [], _ => rfl
 | _ :: xs, _ :: hs, h => by simp only [clrF, List.length_cons]; rw [QlR p o b xs hs (by simpa using h)]
theorem QpK {rows : List (List Int)} {i j : Nat} (hi : i < rows.length) (hj : j < rows.length) : ∀ r ∈ swpF rows i j, r ∈ rows := by
 have mem : ∀ {i}, i < rows.length → rows.getD i [] ∈ rows := fun h => by rw [List.getD_eq_getElem?_getD, List.getElem?_eq_getElem h]; exact List.getElem_mem h
 intro r h
 unfold swpF at h
 rcases List.mem_or_eq_of_mem_set h with h | rfl
 ·rcases List.mem_or_eq_of_mem_set h with h | rfl
  ·exact h
  ·exact mem hj
 ·exact mem hi
theorem QE {c : Nat} {s : Stp} (h : pivF c (s.rows.drop s.pl.length) s.pl.length = none) : Qcw c s = s := by simp only [Qcw, h]
theorem Qbi {c k : Nat} {s : Stp} (h : pivF c (s.rows.drop s.pl.length) s.pl.length = some k) : Qcw c s = ⟨QbJ c s.pl.length s.bf (if k = s.pl.length then s.rows else swpF s.rows s.pl.length k), s.pl ++ [c], if k = s.pl.length then s.odd else !s.odd, ((if k = s.pl.length then s.rows else swpF s.rows s.pl.length k).getD s.pl.length []).getD c 0⟩ := by simp only [Qcw, h]
theorem QJ {c k : Nat} {s s' : Stp} (h : pivF c (s.rows.drop s.pl.length) s.pl.length = some k) (h2 : (⟨QbJ c s.pl.length s.bf (if k = s.pl.length then s.rows else swpF s.rows s.pl.length k), s.pl ++ [c], if k = s.pl.length then s.odd else !s.odd, ((if k = s.pl.length then s.rows else swpF s.rows s.pl.length k).getD s.pl.length []).getD c 0⟩ : Stp) = s') : Qcw c s = s' := (Qbi h).trans h2
theorem Qec {c : Nat} {s : Stp} (h : pivF c (s.rows.drop s.pl.length) s.pl.length = none) (h2 : s.pl.length < 2) : (Qcw c s).pl.length < 2 := by rwa [QE h]
noncomputable def Shp (n L : Nat) (s : Stp) : Prop := s.rows.length = n ∧ (∀ r ∈ s.rows, r.length = L) ∧ s.pl.length ≤ n
theorem Qot {n L c : Nat} {s : Stp} (h : Shp n L s) : Shp n L (Qcw c s) := by
 cases hp : pivF c (s.rows.drop s.pl.length) s.pl.length with
 | none => rwa [QE hp]
 | some k =>
  haveI HH4 := h
  haveI h1 := HH4.1
  haveI h2 := HH4.2.1
  haveI h3 := HH4.2.2
  obtain ⟨hk1, hk2⟩ := QfL hp
  rw [List.length_drop] at hk2
  rw [Qbi hp]
  obtain ⟨rs, hrs⟩ : ∃ rs, rs = if k = s.pl.length then s.rows else swpF s.rows s.pl.length k := ⟨_, rfl⟩
  rw [← hrs]
  have hl : rs.length = s.rows.length := by rw [hrs]; split; rfl; simp [swpF]
  have hm : ∀ r ∈ rs, r.length = L := by
   intro r h
   rw [hrs] at h
   split at h
   ·exact h2 r h
   ·exact h2 r (QpK (by lia) (by lia) r h)
  have mem : ∀ {i}, i < rs.length → rs.getD i [] ∈ rs := fun h => by rw [List.getD_eq_getElem?_getD, List.getElem?_eq_getElem h]; exact List.getElem_mem h
  refine ⟨by simp [QbJ]; lia, ?_, by simp; lia⟩
  intro r h
  obtain ⟨j, hj, rfl⟩ := List.mem_map.mp h
  rw [List.mem_range] at hj
  unfold clrR
  split
  ·exact hm _ (mem hj)
  ·rw [QlR _ _ _ _ _ (by rw [hm _ (mem hj), hm _ (mem (by lia))])]; exact hm _ (mem hj)
theorem Qic {rows : List (List Int)} {L : Nat} (h : ∀ r ∈ rows, r.length = L) : ∀ k, Shp rows.length L (stF rows k)
 | 0 => ⟨rfl, h, Nat.zero_le _⟩
 | k + 1 => Qot (Qic h k)
theorem QjR {rows : List (List Int)} : ∀ k, (stF rows k).pl = [] → stF rows k = ⟨rows, [], false, 1⟩
 | 0, _ => rfl
 | k + 1, h => by
  cases hp : pivF k ((stF rows k).rows.drop (stF rows k).pl.length) (stF rows k).pl.length with
  | none => rw [stF, QE hp] at h ⊢; exact QjR k h
  | some j => rw [stF, Qbi hp] at h; simp at h
theorem QrO {P : Int → Prop} {a b c d : Int} (h : ∀ r ∈ [[a, b], [c, d]], ∀ z ∈ r, P z) : P a ∧ P b ∧ P c ∧ P d :=
 haveI h1 := h _ List.mem_cons_self
 haveI h2 := h _ (List.mem_cons_of_mem _ List.mem_cons_self)
 ⟨h1 _ List.mem_cons_self, h1 _ (List.mem_cons_of_mem _ List.mem_cons_self), h2 _ List.mem_cons_self, h2 _ (List.mem_cons_of_mem _ List.mem_cons_self)⟩
theorem Qts {P : Int → Prop} {a b c d e f : Int} (h : ∀ r ∈ [[a, b, c], [d, e, f]], ∀ z ∈ r, P z) : P a ∧ P b ∧ P c ∧ P d ∧ P e ∧ P f :=
 haveI h1 := h _ List.mem_cons_self
 haveI h2 := h _ (List.mem_cons_of_mem _ List.mem_cons_self)
 ⟨h1 _ List.mem_cons_self, h1 _ (List.mem_cons_of_mem _ List.mem_cons_self), h1 _ (List.mem_cons_of_mem _ (List.mem_cons_of_mem _ List.mem_cons_self)), h2 _ List.mem_cons_self, h2 _ (List.mem_cons_of_mem _ List.mem_cons_self), h2 _ (List.mem_cons_of_mem _ (List.mem_cons_of_mem _ List.mem_cons_self))⟩
theorem Qth {P : Int → Prop} {a b c d e f : Int} (h : ∀ r ∈ [[a, b], [c, d], [e, f]], ∀ z ∈ r, P z) : P a ∧ P b ∧ P c ∧ P d ∧ P e ∧ P f :=
 haveI h1 := h _ List.mem_cons_self
 haveI h2 := QrO (P := P) (a := c) (b := d) (c := e) (d := f) (fun r hr => h r (List.mem_cons_of_mem _ hr))
 ⟨h1 _ List.mem_cons_self, h1 _ (List.mem_cons_of_mem _ List.mem_cons_self), h2⟩
noncomputable def Bnd (M : Nat) (rows : List (List Int)) : Prop := ∀ r ∈ rows, ∀ z ∈ r, z.natAbs ≤ M
theorem Bnd.m22 {M : Nat} {a b c d : Int} (h : Bnd M [[a, b], [c, d]]) : a.natAbs ≤ M ∧ b.natAbs ≤ M ∧ c.natAbs ≤ M ∧ d.natAbs ≤ M := QrO (P := fun z => z.natAbs ≤ M) h
theorem Bnd.m23 {M : Nat} {a b c d e f : Int} (h : Bnd M [[a, b, c], [d, e, f]]) : a.natAbs ≤ M ∧ b.natAbs ≤ M ∧ c.natAbs ≤ M ∧ d.natAbs ≤ M ∧ e.natAbs ≤ M ∧ f.natAbs ≤ M := Qts (P := fun z => z.natAbs ≤ M) h
theorem Bnd.m32 {M : Nat} {a b c d e f : Int} (h : Bnd M [[a, b], [c, d], [e, f]]) : a.natAbs ≤ M ∧ b.natAbs ≤ M ∧ c.natAbs ≤ M ∧ d.natAbs ≤ M ∧ e.natAbs ≤ M ∧ f.natAbs ≤ M := Qth (P := fun z => z.natAbs ≤ M) h
theorem QpM {r0 r1 : List Int} {L k : Nat} (h0 : r0.length = L) (h1 : r1.length = L) (hL : L ≤ 100) (hk : k < L) (hb : Bnd 181 [r0, r1]) : Good L k (stF [r0, r1] k) := by
 have HH1 := Qic (rows := [r0, r1]) (L := L) (by simp [h0, h1]) k
 haveI s1 := HH1.1
 haveI s2 := HH1.2.1
 haveI s3 := HH1.2.2
 refine ⟨s2, hk, hL, by rw [s1]; simp, by rw [s1]; exact s3, fun h => ?_⟩
 rw [s1] at h
 rw [QjR k (List.eq_nil_of_length_eq_zero (by simp at h; lia))]
 exact ⟨by simp, by simp, hb⟩
section
variable {w : Nat} (hw : 8 ≤ w) (hw2 : w ≤ 10)
include hw hw2
theorem QaQ {rows : List (List Int)} {C L : Nat} (m : Nat) (H : Hp) (hC : C ≤ 100) (hg : ∀ k, k < C → Good L k (stF rows k)) : Qc tb (m + 8) 27 [.d (mt w rows), .d (nd C), .d (nd w), .fn 46, .fn 52] H = .ok (.tuple [mt w (stF rows C).rows, .list ((stF rows C).pl.map nd), .bool (stF rows C).odd]) H := by
 obtain ⟨n, hn⟩ : ∃ n, n = (H ++ [rows.map (rw' w)]).length := ⟨_, rfl⟩
 haveI hn' : n = H.length + 1 := by as_aux_lemma => rw [hn]; simp
 obtain ⟨ρ1, H1, e1, v9, v10, v11, v12, v13, rfl, rfl⟩ := Qmu (k := 9) (lo := 0) (n := C) (body := exB (Qc tb (m + 7)) H.length B_steps_down_1) (ρ := [.d (mt w rows), .d (nd C), .d (nd w), .fn 46, .fn 52, .cell H.length, .cell n, .d (.bool false), .d (sg w 1), .unb, .unb, .unb, .unb, .unb]) (H := H ++ [rows.map (rw' w)] ++ [[]])
  (fun i ρ H' => Ex5 fun v9 v10 v11 v12 v13 => ρ = [.d (mt w rows), .d (nd C), .d (nd w), .fn 46, .fn 52, .cell H.length, .cell n, .d (.bool (stF rows i).odd), .d (sg w (stF rows i).bf), v9, v10, v11, v12, v13] ∧ H' = H ++ [(stF rows i).rows.map (rw' w)] ++ [(stF rows i).pl.map nd])
  ⟨_, _, _, _, _, rfl, rfl⟩ (by
   rintro i _ _ hi ⟨v9, v10, v11, v12, v13, rfl, rfl⟩
   rw [Nat.zero_add]
   obtain ⟨u10, u11, u12, e⟩ := Qrj hw hw2 m H.length n H hn' (mt w rows) (nd C) (stF rows i) (hg i hi) v10 v11 v12 v13 _ rfl
   exact ⟨_, _, e, _, _, _, _, _, rfl, rfl⟩)
 haveI ht : toDs H.length (H ++ [(stF rows C).rows.map (rw' w)] ++ [(stF rows C).pl.map nd]) [.cell H.length, .cell n, .d (.bool (stF rows C).odd)] = some [mt w (stF rows C).rows, .list ((stF rows C).pl.map nd), .bool (stF rows C).odd] := by
  simp only [toDs, toD]
  rw [if_pos (Nat.le_refl _), if_pos (by lia), get2, getP hn']; rfl
 haveI hg1 : Qdg true = sg w 1 := (sg1 (by lia)).symm
 haveI ecomp : evE (Qc tb (m + 7)) (.mk true (.comp E_steps_down_0 (.one 13) (.seq (.loc 0)))) [.d (mt w rows), .d (nd C), .d (nd w), .fn 46, .fn 52, .unb, .unb, .unb, .unb, .unb, .unb, .unb, .unb, .unb] H = .ok (.cell H.length) (H ++ [rows.map (rw' w)]) :=
  QbC (Qo (xs := rows.map (rw' w)) rfl (Qam (rw' w) (rw' w) rows _ (fun x _ => rfl)))
 haveI epar : evEs (Qc tb (m + 7)) (.cons (.mk true (.comp E_steps_down_0 (.one 13) (.seq (.loc 0)))) (.cons (.mk true (.list .nil)) (.cons (.kd (.bool false)) (.cons (.glob true) .nil)))) [.d (mt w rows), .d (nd C), .d (nd w), .fn 46, .fn 52, .unb, .unb, .unb, .unb, .unb, .unb, .unb, .unb, .unb] H = .ok [.cell H.length, .cell n, .d (.bool false), .d (sg w 1)] (H ++ [rows.map (rw' w)] ++ [[]]) := by
  rw [← hg1, hn]; exact Qa ecomp rfl
 exact Qt (f := Qdn) rfl rfl (sq (QT epar rfl) (sq (QP (QM rfl (by lia)) e1) (Qg (Qbd rfl ht rfl)))) tk2
theorem Qqc {r0 : List Int} {rs : List (List Int)} {L : Nat} (m : Nat) (H : Hp) (hL : r0.length = L) (hC : L ≤ 100) (hg : ∀ k, k < L → Good L k (stF (r0 :: rs) k)) : Qc tb (m + 9) 28 [.d (mt w (r0 :: rs)), .d (nd w), .fn 46, .fn 52] H = .ok (nd (stF (r0 :: rs) L).pl.length) H := by
 haveI c := QaQ hw hw2 (rows := r0 :: rs) m H hC hg
 haveI e0 : evE (Qc tb (m + 8)) (.cmp .eq (.len (.loc 0)) (.kd (.int 0))) [.d (mt w (r0 :: rs)), .d (nd w), .fn 46, .fn 52] H = .ok (.d (.bool false)) H :=
  Qf (QC rfl rfl) rfl ((Qbs _ 0).trans (congrArg some (decide_eq_false (by simp))))
 haveI el : evE (Qc tb (m + 8)) (.len (.idx (.loc 0) (.kd (.int 0)))) [.d (mt w (r0 :: rs)), .d (nd w), .fn 46, .fn 52] H = .ok (.d (nd L)) H := by
  refine (QC (xs := r0.map (sg w)) rfl rfl).trans ?_
  rw [List.length_map, hL]
 haveI ei : evE (Qc tb (m + 8)) (.len (.idx (.call 27 (.cons (.loc 0) (.cons (.len (.idx (.loc 0) (.kd (.int 0)))) (.cons (.loc 1) (.cons (.loc 2) (.cons (.loc 3) .nil)))))) (.kd (.int 1)))) [.d (mt w (r0 :: rs)), .d (nd w), .fn 46, .fn 52] H = .ok (.d (nd (stF (r0 :: rs) L).pl.length)) H := by
  refine (QC (Qi (Qb (Qa rfl (Qa el rfl)) c) rfl rfl rfl) rfl).trans ?_
  rw [List.length_map]
 exact Qt (f := Qqw) rfl rfl (sq (Qr e0 rfl) (Qg (Qy ei))) tk0
theorem Quf {a b c d : Int} (m : Nat) (H : Hp) (hb : Bnd 181 [[a, b], [c, d]]) : Qc tb (m + 9) 29 [.d (mt w [[a, b], [c, d]]), .d (nd w), .fn 46, .fn 52] H = .ok (sg w (a * d - b * c)) H := by
 have cs := QaQ hw hw2 (rows := [[a, b], [c, d]]) (C := 2) (L := 2) m H (by lia) (fun k hk => QpM rfl rfl (by lia) hk hb)
 have few : (stF [[a, b], [c, d]] 2).pl.length < 2 → a * d - b * c = 0 → Qc tb (m + 9) 29 [.d (mt w [[a, b], [c, d]]), .d (nd w), .fn 46, .fn 52] H = .ok (sg w (a * d - b * c)) H := by
  intro h h0
  rw [h0]
  exact Qt (f := Qbq) rfl rfl (sq (Qr (z := false) rfl rfl) (sq (QcG (Qb rfl cs) rfl) (Qg (Qr (z := true) (Qf (QC rfl rfl) (QC (xs := [_, _]) rfl rfl) ((QV _ 2).trans (congrArg some (decide_eq_true (by rw [List.length_map]; exact h))))) (Qg (Qy rfl)))))) tk0
 have full : ∀ {x y z u : Int} {od : Bool} {bf : Int}, stF [[a, b], [c, d]] 2 = ⟨[[x, y], [z, u]], [0, 1], od, bf⟩ → (if od then -u else u) = a * d - b * c → Qc tb (m + 9) 29 [.d (mt w [[a, b], [c, d]]), .d (nd w), .fn 46, .fn 52] H = .ok (sg w (a * d - b * c)) H := by
  intro x y z u od bf h h0
  rw [h] at cs
  rw [← h0]
  refine Qt (f := Qbq) rfl rfl (sq (Qr (z := false) rfl rfl) (sq (QcG (Qb rfl cs) rfl) (sq (Qr (z := false) rfl rfl) (sq (Qk rfl) (Qg (Qy (QO (z := od) rfl ?_))))))) tk0
  cases od
  ·rfl
  ·exact Qb rfl (Qre hw hw2 (m + 6) u H)
 by_cases ha : a = 0
 ·subst ha
  by_cases hc : c = 0
  ·subst hc
   refine few ?_ (by simp)
   haveI h1 : stF [[0, b], [0, d]] 1 = ⟨[[0, b], [0, d]], [], false, 1⟩ := QE rfl
   rw [stF, h1]
   cases hp : pivF 1 [[0, b], [0, d]] 0 with
   | none => rw [QE hp]; simp
   | some k => rw [Qbi hp]; simp
  ·haveI h1 : stF [[0, b], [c, d]] 1 = ⟨[[c, d], [(0 * c - 0 * c).tdiv 1, (b * c - 0 * d).tdiv 1]], [0], true, c⟩ := QJ (c := 0) (s := ⟨[[0, b], [c, d]], [], false, 1⟩) (k := 1) ((if_pos rfl).trans (if_neg hc)) rfl
   haveI e : (b * c - 0 * d).tdiv 1 = b * c := by simp
   rw [e] at h1
   by_cases h0 : b * c = 0
   ·refine few ?_ (by rw [h0]; simp)
    rw [stF, h1]
    refine Qec (if_pos h0) (by simp)
   ·refine full (x := c) (y := d) (z := (0 * c - 0 * c).tdiv 1) (u := b * c) (od := true) (bf := b * c) ?_ (by simp)
    rw [stF, h1]
    exact QJ (k := 1) (if_neg h0) rfl
 ·haveI h1 : stF [[a, b], [c, d]] 1 = ⟨[[a, b], [(c * a - c * a).tdiv 1, (d * a - c * b).tdiv 1]], [0], false, a⟩ := QJ (c := 0) (s := ⟨[[a, b], [c, d]], [], false, 1⟩) (k := 0) (if_neg ha) rfl
  haveI e : (d * a - c * b).tdiv 1 = a * d - b * c := by rw [Int.tdiv_one, Int.mul_comm d, Int.mul_comm c]
  rw [e] at h1
  by_cases h0 : a * d - b * c = 0
  ·refine few ?_ h0
   rw [stF, h1]
   refine Qec (if_pos h0) (by simp)
  ·refine full (x := a) (y := b) (z := (c * a - c * a).tdiv 1) (u := a * d - b * c) (od := false) (bf := a * d - b * c) ?_ rfl
   rw [stF, h1]
   exact QJ (k := 1) (if_neg h0) rfl
end
theorem QrB {bd : D → Rho → Option Rho} {body : Rho → Hp → O} {x : D} {r : List D} {ρ ρ1 ρ2 : Rho} {H H1 : Hp} (hd : bd x ρ = some ρ1) (hb : body ρ1 H = .exc ρ2 H1) : Qaf bd body (x :: r) ρ H = .exc ρ2 H1 := by
 simp only [Qaf, hd, hb, O.bind_exc]
theorem Qne {cl : Qh} {ρ : Rho} {H : Hp} {f : PE} {n : Nat} (h2 : evE cl f ρ H = .ok (.d (nd n)) H) (hi : n ≤ 4000) : evE cl (.mk true (.rep (.mk false (.list (.cons (.glob false) .nil))) f)) ρ H = .ok (.cell H.length) (H ++ [List.replicate n (Qdg false)]) :=
 QbC (Qni (v := .d (.list [Qdg false])) rfl h2 rfl (by lia))
theorem QsP {H H0 : Hp} {xs : List D} {x : D} (h : H[H0.length]? = some xs) : toDs H0.length H [.cell H0.length, .d x] = some [.list xs, x] := by
 simp only [toDs, toD, h, if_pos (Nat.le_refl _), Option.map_some]
noncomputable def sgm (a : Int) : Int := if a = 0 then -1 else 1
section
variable {w : Nat} (hw : 8 ≤ w) (hw2 : w ≤ 10)
include hw hw2
theorem Qdv {a b c d e f p q r z u v x0 bf : Int} {od : Bool} (m : Nat) (H : Hp) (hb : Bnd 181 [[a, b, e], [c, d, f]]) (hs : stF [[a, b, e], [c, d, f]] 2 = ⟨[[p, q, r], [z, u, v]], [0, 1], od, bf⟩) (hp : p ≠ 0) (hu : u ≠ 0) (hp2 : p.natAbs ≤ 3) (hq : q.natAbs ≤ 3) (hr : r.natAbs ≤ 12) (hu2 : u.natAbs ≤ 18) (hv : v.natAbs ≤ 72) (hx : u * r - q * v = p * x0) :
  Qc tb (m + 9) 30 [.d (mt w [[a, b], [c, d]]), .d (rw' w [e, f]), .d (nd w), .fn 46, .fn 52] H = .ok (.tuple [rw' w [x0, v], sg w u]) H := by
 haveI cs := QaQ hw hw2 (rows := [[a, b, e], [c, d, f]]) (C := 2) (L := 3) m H (by lia) (fun k hk => QpM rfl rfl (by lia) (by lia) hb)
 rw [hs] at cs
 haveI huv := QB hu2 hv
 haveI hur := QB hu2 hr
 haveI hqv := QB hq hv
 haveI hpx : (p * x0).natAbs ≤ 18 * 12 + 3 * 72 := by
  rw [← hx]; exact Nat.le_trans (Int.natAbs_sub_le _ _) (by lia)
 haveI b1 : exB (Qc tb (m + 8)) H.length B_solve_bareiss_0 [.d (mt w [[a, b], [c, d]]), .d (rw' w [e, f]), .d (nd w), .fn 46, .fn 52, .d (nd 2), .d (mt w [[a, b, e], [c, d, f]]), .d (mt w [[p, q, r], [z, u, v]]), .d (.list [nd 0, nd 1]), .d (.bool od), .d (sg w u), .cell H.length, .d (nd 1), .unb, .unb, .unb] (H ++ [[sg w 0, sg w 0]]) =
   .next [.d (mt w [[a, b], [c, d]]), .d (rw' w [e, f]), .d (nd w), .fn 46, .fn 52, .d (nd 2), .d (mt w [[a, b, e], [c, d, f]]), .d (mt w [[p, q, r], [z, u, v]]), .d (.list [nd 0, nd 1]), .d (.bool od), .d (sg w u), .cell H.length, .d (nd 1), .d (sg w (u * v - dotF 0 [] [])), .unb, .unb] (H ++ [[sg w 0, sg w v]]) := by
  haveI ex := Qfo hw hw2 (a := u * v - dotF 0 [] []) (b := u) (m + 2) (H ++ [[sg w 0, sg w 0]]) (by simp only [dotF, Int.sub_zero]; lia) hu (by lia)
  rw [show (u * v - dotF 0 [] []).tdiv u = v from by simp only [dotF, Int.sub_zero]; exact Int.mul_tdiv_cancel_left _ hu] at ex
  exact sq (Qk (Qb rfl (QcV hw hw2 (m + 5) _ (Qj hu2 (by decide)) (Qj hv (by decide))))) (sq (Qk (Qb (Qa rfl (Qa (Qb (Qa (Qu (QhT (xs := [sg w z, sg w u, sg w v]) (i := 2) (j := 2) rfl rfl rfl rfl ⟨by decide, by decide, by decide, by decide⟩)) (Qa (Qu (Qhx (i := 2) rfl rfl (getc _ _) ⟨by decide, by decide⟩)) rfl)) (Qfl hw hw2 (zs := []) (ys := []) (m + 4) _ (by simp) (by simp) (by simp) (by simp))) rfl)) (Qdh hw hw2 (m + 4) _ (Qj huv (by decide)) (Qj (p := 0) (by simp [dotF]) (by decide))))) (sq (QaJ (Qb rfl ex) rfl rfl (set1 _ _ 1 _ (by simp))) rfl))
 haveI b0 : exB (Qc tb (m + 8)) H.length B_solve_bareiss_0 [.d (mt w [[a, b], [c, d]]), .d (rw' w [e, f]), .d (nd w), .fn 46, .fn 52, .d (nd 2), .d (mt w [[a, b, e], [c, d, f]]), .d (mt w [[p, q, r], [z, u, v]]), .d (.list [nd 0, nd 1]), .d (.bool od), .d (sg w u), .cell H.length, .d (nd 0), .d (sg w (u * v - dotF 0 [] [])), .unb, .unb] (H ++ [[sg w 0, sg w v]]) =
   .next [.d (mt w [[a, b], [c, d]]), .d (rw' w [e, f]), .d (nd w), .fn 46, .fn 52, .d (nd 2), .d (mt w [[a, b, e], [c, d, f]]), .d (mt w [[p, q, r], [z, u, v]]), .d (.list [nd 0, nd 1]), .d (.bool od), .d (sg w u), .cell H.length, .d (nd 0), .d (sg w (u * r - dotF 0 [q] [v])), .unb, .unb] (H ++ [[sg w x0, sg w v]]) := by
  haveI hd : u * r - dotF 0 [q] [v] = p * x0 := by rw [← hx]; simp only [dotF, Int.zero_add]
  haveI ex := Qfo hw hw2 (a := u * r - dotF 0 [q] [v]) (b := p) (m + 2) (H ++ [[sg w 0, sg w v]]) (by rw [hd]; lia) hp (by lia)
  rw [show (u * r - dotF 0 [q] [v]).tdiv p = x0 from by rw [hd]; exact Int.mul_tdiv_cancel_left _ hp] at ex
  exact sq (Qk (Qb rfl (QcV hw hw2 (m + 5) _ (Qj hu2 (by decide)) (Qj hr (by decide))))) (sq (Qk (Qb (Qa rfl (Qa (Qb (Qa (Qu (QhT (xs := [sg w p, sg w q, sg w r]) (i := 1) (j := 2) rfl rfl rfl rfl ⟨by decide, by decide, by decide, by decide⟩)) (Qa (Qu (Qhx (i := 1) rfl rfl (getc _ _) ⟨by decide, by decide⟩)) rfl)) (Qfl hw hw2 (zs := [q]) (ys := [v]) (m + 4) _ (by simp) (by simp) (by simp; lia) (by simp; lia))) rfl)) (Qdh hw hw2 (m + 4) _ (Qj hur (by decide)) (Qj (p := 3 * 72) (by simp only [dotF, Int.zero_add]; exact hqv) (by decide))))) (sq (QaJ (Qb rfl ex) rfl rfl (set1 _ _ 0 _ (by simp))) rfl))
 exact Qt (f := QaK) (H1 := H ++ [[sg w x0, sg w v]]) rfl rfl (sq (Qk rfl) (sq (Qk (Qu (Qo (ys := [rw' w [a, b, e], rw' w [c, d, f]]) rfl (Qd rfl rfl (Qd rfl rfl Ql))))) (sq (QcG (Qb rfl cs) rfl) (sq (Qr (z := false) rfl rfl) (sq (Qr (z := false) rfl rfl) (sq (Qk rfl) (sq (Qk (Qne (n := 2) rfl (by lia))) (sq (QP (QcL (n := 2) rfl (by lia)) (Qq rfl b1 (Qq rfl b0 Qau))) (Qg (Qbd rfl (QsP (getc _ _)) rfl)))))))))) tk1
theorem QbO {a b c d e f : Int} (m : Nat) (H : Hp) (hb : Bnd 181 [[a, b, e], [c, d, f]]) (hs : (stF [[a, b, e], [c, d, f]] 2).pl.length < 2) :
  Qc tb (m + 9) 30 [.d (mt w [[a, b], [c, d]]), .d (rw' w [e, f]), .d (nd w), .fn 46, .fn 52] H = .exc H := by
 haveI cs := QaQ hw hw2 (rows := [[a, b, e], [c, d, f]]) (C := 2) (L := 3) m H (by lia) (fun k hk => QpM rfl rfl (by lia) (by lia) hb)
 exact QiV (f := QaK) (H1 := H) rfl rfl (sq (Qk rfl) (sq (Qk (Qu (Qo (ys := [rw' w [a, b, e], rw' w [c, d, f]]) rfl (Qd rfl rfl (Qd rfl rfl Ql))))) (sq (QcG (Qb rfl cs) rfl) (QfA (Qr (z := true) (Qf (QC rfl rfl) rfl ((QV _ 2).trans (congrArg some (decide_eq_true (by rw [List.length_map]; exact hs))))) (QfA rfl)))))) tk0
omit hw hw2 in
theorem QsC {a b c d e f : Int} {M : Nat} (ha : a.natAbs ≤ M) (hb : b.natAbs ≤ M) (hc : c.natAbs ≤ M) (hd : d.natAbs ≤ M) (he : e.natAbs ≤ M) (hf : f.natAbs ≤ M) : Bnd M [[a, b, e], [c, d, f]] := by
 intro r hr z hz
 simp only [List.mem_cons, List.not_mem_nil, or_false] at hr
 rcases hr with rfl | rfl <;> (simp only [List.mem_cons, List.not_mem_nil, or_false] at hz; rcases hz with rfl | rfl | rfl <;> assumption)
theorem QhW {a b c d e f : Int} (m : Nat) (H : Hp) (ha : a.natAbs ≤ 3) (hb : b.natAbs ≤ 3) (hc : c.natAbs ≤ 3) (hd : d.natAbs ≤ 3) (he : e.natAbs ≤ 12) (hf : f.natAbs ≤ 12) :
  Qc tb (m + 9) 30 [.d (mt w [[a, b], [c, d]]), .d (rw' w [e, f]), .d (nd w), .fn 46, .fn 52] H = if a * d - b * c = 0 then .exc H else .ok (.tuple [rw' w [sgm a * (d * e - b * f), sgm a * (a * f - c * e)], sg w (sgm a * (a * d - b * c))]) H := by
 haveI hB : Bnd 181 [[a, b, e], [c, d, f]] := QsC (by lia) (by lia) (by lia) (by lia) (by lia) (by lia)
 haveI had := QB ha hd
 haveI hbc := QB hb hc
 haveI haf := QB ha hf
 haveI hce := QB hc he
 haveI s1 := Int.natAbs_sub_le (a * d) (b * c)
 haveI s2 := Int.natAbs_sub_le (a * f) (c * e)
 by_cases h0 : a = 0
 ·subst h0
  by_cases hc0 : c = 0
  ·subst hc0
   rw [if_pos (by simp)]
   refine QbO hw hw2 m H hB ?_
   haveI h1 : stF [[0, b, e], [0, d, f]] 1 = ⟨[[0, b, e], [0, d, f]], [], false, 1⟩ := QE rfl
   rw [stF, h1]
   cases hp : pivF 1 [[0, b, e], [0, d, f]] 0 with
   | none => rw [QE hp]; simp
   | some k => rw [Qbi hp]; simp
  ·haveI h1 : stF [[0, b, e], [c, d, f]] 1 = ⟨[[c, d, f], [(0 * c - 0 * c).tdiv 1, (b * c - 0 * d).tdiv 1, (e * c - 0 * f).tdiv 1]], [0], true, c⟩ := QJ (c := 0) (s := ⟨[[0, b, e], [c, d, f]], [], false, 1⟩) (k := 1) ((if_pos rfl).trans (if_neg hc0)) rfl
   rw [show (b * c - 0 * d).tdiv 1 = b * c from by simp, show (e * c - 0 * f).tdiv 1 = e * c from by simp] at h1
   by_cases hD : b * c = 0
   ·rw [if_pos (by rw [hD]; simp)]
    refine QbO hw hw2 m H hB ?_
    rw [stF, h1]
    exact Qec (if_pos hD) (by simp)
   ·rw [if_neg (by simpa using hD)]
    haveI h2 : stF [[0, b, e], [c, d, f]] 2 = ⟨[[c, d, f], [(0 * c - 0 * c).tdiv 1, b * c, e * c]], [0, 1], true, b * c⟩ := by
     rw [stF, h1]; exact QJ (k := 1) (if_neg hD) rfl
    haveI := Qdv hw hw2 (x0 := b * f - d * e) m H hB h2 hc0 hD hc hd hf (by lia) (by rw [Int.mul_comm e]; lia) (by grind)
    rw [this]
    unfold sgm
    rw [if_pos rfl, show -1 * (d * e - b * f) = b * f - d * e from by lia, show -1 * (0 * f - c * e) = e * c from by rw [Int.mul_comm e]; lia, show -1 * (0 * d - b * c) = b * c from by lia]
 ·haveI h1 : stF [[a, b, e], [c, d, f]] 1 = ⟨[[a, b, e], [(c * a - c * a).tdiv 1, (d * a - c * b).tdiv 1, (f * a - c * e).tdiv 1]], [0], false, a⟩ := QJ (c := 0) (s := ⟨[[a, b, e], [c, d, f]], [], false, 1⟩) (k := 0) (if_neg h0) rfl
  rw [show (d * a - c * b).tdiv 1 = a * d - b * c from by rw [Int.tdiv_one, Int.mul_comm d, Int.mul_comm c], show (f * a - c * e).tdiv 1 = a * f - c * e from by rw [Int.tdiv_one, Int.mul_comm f]] at h1
  by_cases hD : a * d - b * c = 0
  ·rw [if_pos hD]
   refine QbO hw hw2 m H hB ?_
   rw [stF, h1]
   exact Qec (if_pos hD) (by simp)
  ·rw [if_neg hD]
   haveI h2 : stF [[a, b, e], [c, d, f]] 2 = ⟨[[a, b, e], [(c * a - c * a).tdiv 1, a * d - b * c, a * f - c * e]], [0, 1], false, a * d - b * c⟩ := by
    rw [stF, h1]; exact QJ (k := 1) (if_neg hD) rfl
   haveI := Qdv hw hw2 (x0 := d * e - b * f) m H hB h2 h0 hD ha hb he (by lia) (by lia) (by grind)
   rw [this]
   unfold sgm
   rw [if_neg h0, Int.one_mul, Int.one_mul, Int.one_mul]
end
theorem QhK {cl : Qh} {ρ : Rho} {H H1 : Hp} {e : PE} {t : Tgt} {k n : Nat} {xs ys : List D} (hk : gt ρ k = .cell n) (hn : H[n]? = some xs) (hc : QU t.bd (evE cl e) QaE xs (ρ.map QcQ) [] = .ok ys H1) : evF cl (.compC e t k) ρ H = .ok ys H := QN (by rw [hk]; exact hn) (by rw [hc])
theorem Qcp {cl : Qh} {ρ : Rho} {H H1 : Hp} {e : PE} {xs : List D} (h : evE cl e ρ H = .ok (.d (.list xs)) H1) : evI cl (.seq e) ρ H = .ok xs H1 := Qv h rfl
noncomputable def il (zs : List Int) : D := .list (zs.map .int)
noncomputable def ml (rows : List (List Int)) : D := .list (rows.map il)
theorem QpY (m : Nat) (H : Hp) : Qc tb (m + 1) 19 [.d (nd 2)] H = .ok (.list [.list [Qdg true, Qdg false], .list [Qdg false, Qdg true]]) H := by
 haveI e0 : ∀ ρ : Rho, gt ρ 0 = .d (nd 2) → evI (Qc tb m) (.range1 (.loc 0)) ρ H = .ok [nd 0, nd 1] H := fun ρ h => (QM (n := 2) (QY h) (by lia)).trans rfl
 exact Qt (f := QlB) (H1 := H) rfl rfl (Qg (Qy (Qu (Qo (e0 _ rfl) (Qd rfl (Qu (Qo (e0 _ rfl) (Qd rfl rfl (Qd rfl rfl Ql)))) (Qd rfl (Qu (Qo (e0 _ rfl) (Qd rfl rfl (Qd rfl rfl Ql)))) Ql)))))) tk0
theorem Qoo (m : Nat) (H : Hp) (x y z u : D) : Qc tb (m + 1) 64 [.cell H.length] (H ++ [[.list [x, y], .list [z, u]]]) = .ok (.list [.list [x, z], .list [y, u]]) (H ++ [[.list [x, y], .list [z, u]]]) := by
 haveI e1 : evI (Qc tb m) (.range1 (.len (.idx (.loc 0) (.kd (.int 0))))) [.cell H.length, .unb, .unb] (H ++ [[.list [x, y], .list [z, u]]]) = .ok [nd 0, nd 1] (H ++ [[.list [x, y], .list [z, u]]]) :=
  (QM (n := 2) (QC (xs := [x, y]) (Qi rfl rfl (getc _ _) rfl) rfl) (by lia)).trans rfl
 exact QiP (f := QfD) (H1 := H ++ [[.list [x, y], .list [z, u]]]) rfl rfl (Qg (Qy (QO (z := true) (Qf (QC rfl (getc _ _)) rfl rfl) (Qu (Qo e1 (Qd rfl (Qu (QhK rfl (getc _ _) (H1 := []) (Qd rfl rfl (Qd rfl rfl Ql)))) (Qd rfl (Qu (QhK rfl (getc _ _) (H1 := []) (Qd rfl rfl (Qd rfl rfl Ql)))) Ql))))))) List.take_length
theorem QnO (m : Nat) (H : Hp) (x y z u s t : D) : Qc tb (m + 1) 20 [.d (.list [.list [x, y], .list [z, u], .list [s, t]])] H = .ok (.list [.list [x, z, s], .list [y, u, t]]) H := by
 haveI e1 : evI (Qc tb m) (.range1 (.len (.idx (.loc 0) (.kd (.int 0))))) [.d (.list [.list [x, y], .list [z, u], .list [s, t]]), .unb, .unb] H = .ok [nd 0, nd 1] H :=
  (QM (n := 2) (QC (xs := [x, y]) rfl rfl) (by lia)).trans rfl
 exact Qt (f := QgJ) (H1 := H) rfl rfl (Qg (Qy (QO (z := true) rfl (Qu (Qo e1 (Qd rfl (Qu (Qo rfl (Qd rfl rfl (Qd rfl rfl (Qd rfl rfl Ql))))) (Qd rfl (Qu (Qo rfl (Qd rfl rfl (Qd rfl rfl (Qd rfl rfl Ql))))) Ql))))))) tk0
section
variable {w : Nat} (hw : 8 ≤ w) (hw2 : w ≤ 10)
include hw hw2
theorem Qoh {a b c d : Int} (m : Nat) (H : Hp) (ha : a.natAbs ≤ 3) (hb : b.natAbs ≤ 3) (hc : c.natAbs ≤ 3) (hd : d.natAbs ≤ 3) (hD : a * d - b * c ≠ 0) :
  Qc tb (m + 10) 31 [.d (mt w [[a, b], [c, d]]), .d (nd w), .fn 46, .fn 52] H = .ok (.tuple [mt w [[sgm a * d, sgm a * -b], [sgm a * -c, sgm a * a]], sg w (sgm a * (a * d - b * c))]) H := by
 haveI c1 := QhW hw hw2 (e := 1) (f := 0) m (H ++ [[]]) ha hb hc hd (by simp) (by simp)
 rw [if_neg hD, show d * 1 - b * 0 = d from by simp, show a * 0 - c * 1 = -c from by simp] at c1
 haveI c2 := QhW hw hw2 (e := 0) (f := 1) m (H ++ [[rw' w [sgm a * d, sgm a * -c]]]) ha hb hc hd (by simp) (by simp)
 rw [if_neg hD, show d * 0 - b * 1 = -b from by simp, show a * 1 - c * 0 = a from by simp] at c2
 haveI cu : Qc tb (m + 9) 19 [.d (nd 2)] (H ++ [[]]) = .ok (.list [rw' w [1, 0], rw' w [0, 1]]) (H ++ [[]]) := by
  rw [QpY (m + 8)]; simp only [rw', List.map_cons, List.map_nil, sg1 (w0 hw), sg0]
 haveI ct := Qoo (m + 8) H (sg w (sgm a * d)) (sg w (sgm a * -c)) (sg w (sgm a * -b)) (sg w (sgm a * a))
 exact Qt (f := Qfv) (H1 := H ++ [[rw' w [sgm a * d, sgm a * -c], rw' w [sgm a * -b, sgm a * a]]]) rfl rfl (sq (QT (Qa (QbC rfl) rfl) rfl) (sq (QP (xs := [rw' w [1, 0], rw' w [0, 1]]) (Qcp (Qb (Qa (QC (xs := [_, _]) rfl rfl) rfl) cu)) (Qq rfl (sq (QcG (Qb rfl c1) rfl) (sq (Qcn rfl rfl (appc _ _ _ (by simp))) rfl)) (Qq rfl (sq (QcG (Qb rfl c2) rfl) (sq (Qcn rfl rfl (appc _ _ _ (by simp))) rfl)) Qau))) (Qg (Qbd (Qa (Qb rfl ct) rfl) rfl rfl)))) tk1
theorem QfS {a b c d : Int} (m : Nat) (H : Hp) (ha : a.natAbs ≤ 3) (hb : b.natAbs ≤ 3) (hc : c.natAbs ≤ 3) (hd : d.natAbs ≤ 3) (hD : a * d - b * c = 0) :
  Qc tb (m + 10) 31 [.d (mt w [[a, b], [c, d]]), .d (nd w), .fn 46, .fn 52] H = .exc H := by
 haveI c1 := QhW hw hw2 (e := 1) (f := 0) m (H ++ [[]]) ha hb hc hd (by simp) (by simp)
 rw [if_pos hD] at c1
 haveI cu : Qc tb (m + 9) 19 [.d (nd 2)] (H ++ [[]]) = .ok (.list [rw' w [1, 0], rw' w [0, 1]]) (H ++ [[]]) := by as_aux_lemma =>
  rw [QpY (m + 8)]; simp only [rw', List.map_cons, List.map_nil, sg1 (w0 hw), sg0]
 exact QiV (f := Qfv) (H1 := H ++ [[]]) rfl rfl (sq (QT (Qa (QbC rfl) rfl) rfl) (QfA (QP (xs := [rw' w [1, 0], rw' w [0, 1]]) (Qcp (Qb (Qa (QC (xs := [_, _]) rfl rfl) rfl) cu)) (QrB rfl (QfA (Qqo (Qef rfl c1))))))) tk1
theorem QtD {a b c d x y : Int} (m : Nat) (H : Hp) (hb : Bnd (2 ^ 20) [[a, b], [c, d], [x, y]]) :
  Qc tb (m + 5) 23 [.d (mt w [[a, b], [c, d]]), .d (rw' w [x, y]), .d (nd w), .fn 46] H = .ok (rw' w [0 + a * x + b * y, 0 + c * x + d * y]) H := by
 haveI c1 := Qfl hw hw2 (zs := [a, b]) (ys := [x, y]) m H (by simp) (by simp) (hb _ (by simp)) (hb _ (by simp))
 haveI c2 := Qfl hw hw2 (zs := [c, d]) (ys := [x, y]) m H (by simp) (by simp) (hb _ (by simp)) (hb _ (by simp))
 exact Qt (f := QoG) (H1 := H) rfl rfl (Qg (Qy (Qu (Qo rfl (Qd rfl (Qb rfl c1) (Qd rfl (Qb rfl c2) Ql)))))) tk0
theorem Qrg {a b c d e f g h i j k l : Int} (m : Nat) (H : Hp) (hb : Bnd (2 ^ 20) [[a, b, c], [d, e, f], [g, i, k], [h, j, l]]) :
  Qc tb (m + 5) 22 [.d (mt w [[a, b, c], [d, e, f]]), .d (mt w [[g, h], [i, j], [k, l]]), .d (nd w), .fn 46] H = .ok (mt w [[0 + a * g + b * i + c * k, 0 + a * h + b * j + c * l], [0 + d * g + e * i + f * k, 0 + d * h + e * j + f * l]]) H := by
 haveI ci : ∀ {zs ys}, zs ∈ [[a, b, c], [d, e, f]] → ys ∈ [[g, i, k], [h, j, l]] → Qc tb (m + 4) 21 [.d (rw' w zs), .d (rw' w ys), .d (nd w), .fn 46] H = .ok (sg w (dotF 0 zs ys)) H := by
  intro zs ys h1 h2
  haveI e1 : zs.length = 3 := by simp at h1; rcases h1 with rfl | rfl <;> rfl
  haveI e2 : ys.length = 3 := by simp at h2; rcases h2 with rfl | rfl <;> rfl
  refine Qfl hw hw2 m H (by lia) (by lia) (hb _ ?_) (hb _ ?_)
  ·simp at h1 ⊢; rcases h1 with rfl | rfl <;> simp
  ·simp at h2 ⊢; rcases h2 with rfl | rfl <;> simp
 haveI ct := QnO (m + 3) H (sg w g) (sg w h) (sg w i) (sg w j) (sg w k) (sg w l)
 exact Qt (f := QoJ) (H1 := H) rfl rfl (sq (Qk (Qb rfl ct)) (Qg (Qy (Qu (Qo rfl (Qd rfl (Qu (Qo rfl (Qd rfl (Qb rfl (ci (zs := [a, b, c]) (ys := [g, i, k]) (by simp) (by simp))) (Qd rfl (Qb rfl (ci (zs := [a, b, c]) (ys := [h, j, l]) (by simp) (by simp))) Ql)))) (Qd rfl (Qu (Qo rfl (Qd rfl (Qb rfl (ci (zs := [d, e, f]) (ys := [g, i, k]) (by simp) (by simp))) (Qd rfl (Qb rfl (ci (zs := [d, e, f]) (ys := [h, j, l]) (by simp) (by simp))) Ql)))) Ql))))))) tk0
theorem Qbe {rows : List (List Int)} (m : Nat) (H : Hp) (hb : Bnd (2 ^ 60) rows) : Qc tb (m + 2) 55 [.d (ml rows), .d (nd w)] H = .ok (mt w rows) H :=
 Qt (f := QgQ) (H1 := H) rfl rfl (Qg (Qy (Qu (Qo rfl (Qam il (rw' w) rows _ (fun r hr => Qu (Qo rfl (Qam PyData.int (sg w) r _ (fun z hz => Qb rfl (QbN (by lia) (by lia) m z H (Qj (hb r hr z hz) (by decide)))))))))))) tk0
end
theorem Qah {a b : Int} (h : a.natAbs ≤ 2 ^ 60) : binD .mul (.int a) (.int b) = some (.int (a * b)) := by
 show Option.map PyData.int (if _ then _ else _) = _; rw [if_pos (.inl (by lia))]; rfl
noncomputable def pr (p : Nat × Nat) : D := .tuple [nd p.1, nd p.2]
noncomputable def mnr (rows : List (List Int)) (t l : Nat × Nat) : Int :=
 (rows.getD t.1 []).getD l.1 0 * (rows.getD t.2 []).getD l.2 0 - (rows.getD t.1 []).getD l.2 0 * (rows.getD t.2 []).getD l.1 0
noncomputable def Ins (n : Nat) (p : Nat × Nat) : Prop := p.1 < n ∧ p.2 < n
theorem Qay {α : Type} {l : List α} {i : Nat} (d : α) (h : i < l.length) : l.getD i d ∈ l := by
 rw [List.getD_eq_getElem?_getD, List.getElem?_eq_getElem h]; exact List.getElem_mem h
theorem QhA {rows : List (List Int)} {L : Nat} {t l : Nat × Nat} (m : Nat) (H : Hp) (hb : Bnd (2 ^ 60) rows) (hL : ∀ r ∈ rows, r.length = L) (ht : Ins rows.length t) (hl : Ins L l) :
  Qc tb (m + 1) 57 [.d (ml rows), .d (pr t), .d (pr l)] H = .ok (.int (mnr rows t l)) H := by
 obtain ⟨i, j⟩ := t
 obtain ⟨k, l⟩ := l
 haveI HH4 := ht
 haveI h1 := HH4.1
 haveI h2 := HH4.2
 haveI HH7 := hl
 haveI h3 := HH7.1
 haveI h4 := HH7.2
 simp only at h1 h2 h3 h4
 haveI l1 := hL _ (Qay [] h1)
 haveI l2 := hL _ (Qay [] h2)
 haveI e : ∀ {n q : Nat} {e f : PE}, n < rows.length → q < L → evE (Qc tb m) e [.d (ml rows), .d (pr (i, j)), .d (pr (k, l))] H = .ok (.d (nd n)) H → evE (Qc tb m) f [.d (ml rows), .d (pr (i, j)), .d (pr (k, l))] H = .ok (.d (nd q)) H → evE (Qc tb m) (.idx (.idx (.loc 0) e) f) [.d (ml rows), .d (pr (i, j)), .d (pr (k, l))] H = .ok (.d (.int ((rows.getD n []).getD q 0))) H :=
  fun hn hq he hf => Qi (Qi rfl he rfl (Qaz [] hn)) hf rfl (Qaz 0 (by rw [hL _ (Qay [] hn)]; exact hq))
 exact Qt (f := QeB) rfl rfl (Qg (Qy (Qe (Qe (e h1 h3 rfl rfl) (e h2 h4 rfl rfl) (Qah (hb _ (Qay [] h1) _ (Qay 0 (by lia))))) (Qe (e h1 h4 rfl rfl) (e h2 h3 rfl rfl) (Qah (hb _ (Qay [] h1) _ (Qay 0 (by lia))))) rfl))) tk0
theorem Qek (m : Nat) (H : Hp) : Qc tb (m + 1) 58 [.d (nd 2)] H = .ok (.list ([(0, 1)].map pr)) H := by
 rw [Qih (f := Qcr) rfl _ _ _ rfl]; exact Qij H _
theorem Qhu (m : Nat) (H : Hp) : Qc tb (m + 1) 58 [.d (nd 3)] H = .ok (.list ([(0, 1), (0, 2), (1, 2)].map pr)) H := by
 rw [Qih (f := Qcr) rfl _ _ _ rfl]; exact Qij H _
theorem QlN {rows : List (List Int)} {L : Nat} (m base : Nat) (H : Hp) (hb : Bnd (2 ^ 60) rows) (hL : ∀ r ∈ rows, r.length = L) {t : Nat × Nat} (ht : Ins rows.length t) (u1 u2 : V) : ∀ (ls : List (Nat × Nat)) (v : V), (∀ l ∈ ls, Ins L l) →
  ((∃ l ∈ ls, mnr rows t l ≠ 0) ∧ Qaf (Tgt.one 2).bd (exB (Qc tb (m + 1)) base B_law_rank_0) (ls.map pr) [.d (ml rows), .d (pr t), v, u1, u2] H = .ret (nd 2) H) ∨
  ((∀ l ∈ ls, mnr rows t l = 0) ∧ ∃ v', Qaf (Tgt.one 2).bd (exB (Qc tb (m + 1)) base B_law_rank_0) (ls.map pr) [.d (ml rows), .d (pr t), v, u1, u2] H = .next [.d (ml rows), .d (pr t), v', u1, u2] H)
 | [], v, _ => .inr ⟨fun _ h => (by cases h), v, rfl⟩
 | l :: ls, v, hl => by
  haveI c := QhA m H hb hL ht (hl l List.mem_cons_self)
  by_cases h : mnr rows t l = 0
  ·have e : exB (Qc tb (m + 1)) base B_law_rank_0 [.d (ml rows), .d (pr t), .d (pr l), u1, u2] H = .next [.d (ml rows), .d (pr t), .d (pr l), u1, u2] H := sq (Qr (z := false) (Qf (Qb rfl c) rfl (by rw [h]; rfl)) rfl) rfl
   rcases QlN m base H hb hL ht u1 u2 ls (.d (pr l)) (fun x hx => hl x (List.mem_cons_of_mem _ hx)) with ⟨⟨x, hx, hx2⟩, h2⟩ | ⟨h1, v', h2⟩
   ·exact .inl ⟨⟨x, List.mem_cons_of_mem _ hx, hx2⟩, Qq (ρ1 := [.d (ml rows), .d (pr t), .d (pr l), u1, u2]) rfl e h2⟩
   ·refine .inr ⟨fun x hx => ?_, v', Qq (ρ1 := [.d (ml rows), .d (pr t), .d (pr l), u1, u2]) rfl e h2⟩
    rcases List.mem_cons.mp hx with rfl | hx
    ·exact h
    ·exact h1 x hx
  ·exact .inl ⟨⟨l, List.mem_cons_self, h⟩, Qbw (ρ1 := [.d (ml rows), .d (pr t), .d (pr l), u1, u2]) rfl (Qg (Qr (z := true) (Qf (Qb rfl c) rfl (congrArg some (bne_iff_ne.mpr h))) (Qg (Qy rfl))))⟩
theorem QlF {rows : List (List Int)} {L : Nat} (m base : Nat) (H : Hp) (hb : Bnd (2 ^ 60) rows) (hL : ∀ r ∈ rows, r.length = L) (h0 : 0 < rows.length) (u1 u2 : V) {ls : List (Nat × Nat)} (hl : ∀ l ∈ ls, Ins L l) (hp : Qc tb (m + 1) 58 [.d (nd L)] H = .ok (.list (ls.map pr)) H) : ∀ (ts : List (Nat × Nat)) (v1 v2 : V), (∀ t ∈ ts, Ins rows.length t) →
  ((∃ t ∈ ts, ∃ l ∈ ls, mnr rows t l ≠ 0) ∧ Qaf (Tgt.one 1).bd (exB (Qc tb (m + 1)) base B_law_rank_1) (ts.map pr) [.d (ml rows), v1, v2, u1, u2] H = .ret (nd 2) H) ∨
  ((∀ t ∈ ts, ∀ l ∈ ls, mnr rows t l = 0) ∧ Ex2 fun v1' v2' => Qaf (Tgt.one 1).bd (exB (Qc tb (m + 1)) base B_law_rank_1) (ts.map pr) [.d (ml rows), v1, v2, u1, u2] H = .next [.d (ml rows), v1', v2', u1, u2] H)
 | [], v1, v2, _ => .inr ⟨fun _ h => (by cases h), v1, v2, rfl⟩
 | t :: ts, v1, v2, ht => by
  have ei : evI (Qc tb (m + 1)) (.seq (.call 58 (.cons (.len (.idx (.loc 0) (.kd (.int 0)))) .nil))) [.d (ml rows), .d (pr t), v2, u1, u2] H = .ok (ls.map pr) H := by
   refine Qcp (Qb (Qa (v := .d (nd L)) ((QC (Qi rfl rfl rfl (Qaz (i := 0) [] h0)) rfl).trans ?_) rfl) hp)
   rw [List.length_map, hL _ (Qay [] h0)]
  rcases QlN m base H hb hL (ht t List.mem_cons_self) u1 u2 ls v2 hl with ⟨⟨x, hx, hx2⟩, h2⟩ | ⟨h1, v', h2⟩
  ·exact .inl ⟨⟨t, List.mem_cons_self, x, hx, hx2⟩, Qbw rfl (Qg (QP ei h2))⟩
  ·rcases QlF m base H hb hL h0 u1 u2 hl hp ts (.d (pr t)) v' (fun x hx => ht x (List.mem_cons_of_mem _ hx)) with ⟨⟨y, hy, x, hx, hx2⟩, h4⟩ | ⟨h3, w1, w2, h4⟩
   ·exact .inl ⟨⟨y, List.mem_cons_of_mem _ hy, x, hx, hx2⟩, Qq rfl (sq (QP ei h2) rfl) h4⟩
   ·refine .inr ⟨fun y hy => ?_, w1, w2, Qq rfl (sq (QP ei h2) rfl) h4⟩
    rcases List.mem_cons.mp hy with rfl | hy
    ·exact h1
    ·exact h3 y hy
theorem QfE : ∀ ys : List Bool, Qcs (ys.map PyData.bool) = some ys
 | [] => rfl
 | y :: r => by simp [Qcs, QfE r]
noncomputable def nz (z : Int) : Bool := z != 0
theorem Qqz (cl : Qh) (H : Hp) (v1 v2 : V) (a : D) : ∀ (rows : List (List Int)) (u1 u2 : V), QbB (Tgt.one 3).bd (evI cl (.seq (.loc 3))) (Tgt.one 4).bd (evE cl E_law_rank_0) (rows.map il) [.d a, v1, v2, u1, u2] H = .ok ((rows.flatMap (fun r => r.map nz)).map PyData.bool) H
 | [], _, _ => rfl
 | r :: rows, u1, u2 => by
  haveI hc : ∀ u2, QU (Tgt.one 4).bd (evE cl E_law_rank_0) QaE (r.map PyData.int) [.d a, v1, v2, .d (il r), u2] H = .ok (r.map (fun z => PyData.bool (nz z))) H := fun u2 => Qam PyData.int (fun z => .bool (nz z)) r _ (fun z _ => rfl)
  haveI ih := Qqz cl H v1 v2 a rows (.d (il r)) u2
  show ((R.ok (r.map PyData.int) H).noexc.bind fun zs H => (QU _ _ QaE zs [.d a, v1, v2, .d (il r), u2] H).bind fun ys H => (QbB _ _ _ _ (rows.map il) [.d a, v1, v2, .d (il r), u2] H).bind fun ws H => .ok (ys ++ ws) H) = _
  exact Qv (a := r.map PyData.int) rfl (Qv (hc _) (Qv ih (by rw [List.flatMap_cons, List.map_append, List.map_map]; rfl)))
theorem QoT {cl : Qh} {ρ : Rho} {H H1 H2 : Hp} {e : PE} {t t2 : Tgt} {i i2 : PI} {xs ys : List D} (hi : evI cl i ρ H = .ok xs H1) (hc : QbB t.bd (evI cl i2) t2.bd (evE cl e) xs ρ H1 = .ok ys H2) (hs : small ys.length = true) : evF cl (.comp2 e t i t2 i2) ρ H = .ok ys H2 := Qv hi (Qv hc (QoN hs rfl))
theorem QcW {rows : List (List Int)} {L : Nat} {ts ls : List (Nat × Nat)} (m : Nat) (H : Hp) (hb : Bnd (2 ^ 60) rows) (hL : ∀ r ∈ rows, r.length = L) (h0 : 0 < rows.length) (hs : (rows.flatMap (fun r => r.map nz)).length ≤ 4000) (ht : ∀ t ∈ ts, Ins rows.length t) (hl : ∀ l ∈ ls, Ins L l) (hp : Qc tb (m + 1) 58 [.d (nd L)] H = .ok (.list (ls.map pr)) H) (hq : Qc tb (m + 1) 58 [.d (nd rows.length)] H = .ok (.list (ts.map pr)) H) :
  Qc tb (m + 2) 59 [.d (ml rows)] H = .ok (nd (if ∃ t ∈ ts, ∃ l ∈ ls, mnr rows t l ≠ 0 then 2 else if (rows.flatMap (fun r => r.map nz)).any id = true then 1 else 0)) H := by
 have ei : evI (Qc tb (m + 1)) (.seq (.call 58 (.cons (.len (.loc 0)) .nil))) [.d (ml rows), .unb, .unb, .unb, .unb] H = .ok (ts.map pr) H := by
  refine Qcp (Qb (Qa (v := .d (nd rows.length)) ((QC rfl rfl).trans ?_) rfl) hq)
  rw [List.length_map]
 rcases QlF m H.length H hb hL h0 .unb .unb hl hp ts .unb .unb ht with ⟨h1, h2⟩ | ⟨h1, w1, w2, h2⟩
 ·rw [if_pos h1]
  exact Qt (f := Qda) rfl rfl (Qg (QP ei h2)) tk0
 ·rw [if_neg (fun ⟨t, h3, l, h4, h5⟩ => h5 (h1 t h3 l h4))]
  haveI ea : ∀ ρ : Rho, ρ = [.d (ml rows), w1, w2, .unb, .unb] → evE (Qc tb (m + 1)) (.any (.mk false (.comp2 E_law_rank_0 (.one 3) (.seq (.loc 0)) (.one 4) (.seq (.loc 3))))) ρ H = .ok (.d (.bool ((rows.flatMap (fun r => r.map nz)).any id))) H := by
   rintro _ rfl
   exact Qv (Qu (QoT (xs := rows.map il) rfl (Qqz ..) (decide_eq_true (by rw [List.length_map]; lia)))) (QN (QfE _) rfl)
  refine Qt (f := Qda) rfl rfl (sq (QP ei h2) (Qg (Qy (QO (ea _ rfl) ?_)))) tk0
  cases (rows.flatMap (fun r => r.map nz)).any id <;> rfl
theorem Qld {p o b : Int} {j : Nat} : ∀ {xs hs : List Int}, xs.length = hs.length → j < xs.length → (clrF p o b xs hs).getD j 0 = (xs.getD j 0 * p - o * hs.getD j 0).tdiv b := by
 intro xs
 induction xs generalizing j with
 | nil => intro hs _ h; cases h
 | cons x xs ih =>
  intro hs h hj
  cases hs with
  | nil => cases h
  | cons y hs =>
   cases j with
   | zero => rfl
   | succ j => exact ih (by simpa using h) (by simpa using hj)
theorem Qtq {r0 r1 : List Int} {L : Nat} (h0 : r0.length = L) (h1 : r1.length = L) : ∀ k, k ≤ L →
  ((stF [r0, r1] k).pl = [] ∧ ∀ j, j < k → r0.getD j 0 = 0 ∧ r1.getD j 0 = 0) ∨
  (Ex3 fun c h q => (stF [r0, r1] k).pl = [c] ∧ (stF [r0, r1] k).rows = [h, q] ∧ c < k ∧ (∀ j, j < c → r0.getD j 0 = 0 ∧ r1.getD j 0 = 0) ∧ (r0.getD c 0 ≠ 0 ∨ r1.getD c 0 ≠ 0) ∧ (∀ j, j < L → (q.getD j 0 = 0 ↔ mnr [r0, r1] (0, 1) (c, j) = 0)) ∧ ∀ j, c < j → j < k → mnr [r0, r1] (0, 1) (c, j) = 0) ∨
  ((stF [r0, r1] k).pl.length = 2 ∧ Ex2 fun c j => c < j ∧ j < L ∧ mnr [r0, r1] (0, 1) (c, j) ≠ 0)
 | 0, _ => .inl ⟨rfl, fun _ h => (by lia)⟩
 | k + 1, hk => by
  rcases Qtq h0 h1 k (by lia) with ⟨e, hz⟩ | ⟨c, h, q, e, e2, hc, hz, hn, hq, hm⟩ | ⟨e, hx⟩
  ·haveI e3 := QjR k e
   rw [stF, e3]
   by_cases a0 : r0.getD k 0 = 0
   ·by_cases a1 : r1.getD k 0 = 0
    ·rw [QE (s := ⟨[r0, r1], [], false, 1⟩) ((if_pos a0).trans (if_pos a1))]
     refine .inl ⟨rfl, fun j hj => ?_⟩
     by_cases hjk : j = k
     ·subst hjk; exact ⟨a0, a1⟩
     ·exact hz j (by lia)
    ·refine .inr (.inl ⟨k, r1, clrF (r1.getD k 0) (r0.getD k 0) 1 r0 r1, ?_, ?_, by lia, hz, .inr a1, fun j hj => ?_, fun j h1 h2 => by lia⟩)
     ·exact congrArg Stp.pl (QJ (s := ⟨[r0, r1], [], false, 1⟩) (k := 1) ((if_pos a0).trans (if_neg a1)) rfl)
     ·exact congrArg Stp.rows (QJ (s := ⟨[r0, r1], [], false, 1⟩) (k := 1) ((if_pos a0).trans (if_neg a1)) rfl)
     ·rw [Qld (by lia) (by lia), Int.tdiv_one]
      show _ ↔ r0.getD k 0 * r1.getD j 0 - r0.getD j 0 * r1.getD k 0 = 0
      rw [a0, Int.zero_mul]; lia
   ·refine .inr (.inl ⟨k, r0, clrF (r0.getD k 0) (r1.getD k 0) 1 r1 r0, ?_, ?_, by lia, hz, .inl a0, fun j hj => ?_, fun j h1 h2 => by lia⟩)
    ·exact congrArg Stp.pl (QJ (s := ⟨[r0, r1], [], false, 1⟩) (k := 0) (if_neg a0) rfl)
    ·exact congrArg Stp.rows (QJ (s := ⟨[r0, r1], [], false, 1⟩) (k := 0) (if_neg a0) rfl)
    ·rw [Qld (by lia) (by lia), Int.tdiv_one]
     show _ ↔ r0.getD k 0 * r1.getD j 0 - r0.getD j 0 * r1.getD k 0 = 0
     rw [Int.mul_comm (r1.getD j 0), Int.mul_comm (r1.getD k 0)]
  ·rw [stF]
   generalize stF [r0, r1] k = s at *
   obtain ⟨rows, pl, od, bf⟩ := s
   simp only at e e2
   subst e; subst e2
   by_cases a1 : q.getD k 0 = 0
   ·rw [QE (s := ⟨[h, q], [c], od, bf⟩) (if_pos a1)]
    refine .inr (.inl ⟨c, h, q, rfl, rfl, by lia, hz, hn, hq, fun j h1 h2 => ?_⟩)
    by_cases hjk : j = k
    ·subst hjk; exact (hq j (by lia)).mp a1
    ·exact hm j h1 (by lia)
   ·exact .inr (.inr ⟨congrArg (fun s : Stp => s.pl.length) (QJ (s := ⟨[h, q], [c], od, bf⟩) (k := 1) (if_neg a1) rfl), c, k, hc, by lia, fun g => a1 ((hq k (by lia)).mpr g)⟩)
  ·refine .inr (.inr ⟨?_, hx⟩)
   haveI sh := (Qic (rows := [r0, r1]) (L := L) (by simp [h0, h1]) k).1
   rw [stF, QE]
   ·exact e
   ·rw [e, List.drop_of_length_le (by rw [sh]; simp)]; rfl
theorem Qoi {r0 r1 : List Int} {L : Nat} (h0 : r0.length = L) (h1 : r1.length = L) {ls : List (Nat × Nat)} (hls : ∀ i j, (i, j) ∈ ls ↔ i < j ∧ j < L) :
  (stF [r0, r1] L).pl.length = if ∃ t ∈ [((0 : Nat), (1 : Nat))], ∃ l ∈ ls, mnr [r0, r1] t l ≠ 0 then 2 else if ([r0, r1].flatMap (fun r => r.map nz)).any id = true then 1 else 0 := by
 haveI hany : ([r0, r1].flatMap (fun r => r.map nz)).any id = true ↔ ∃ j, j < L ∧ (r0.getD j 0 ≠ 0 ∨ r1.getD j 0 ≠ 0) := by as_aux_lemma =>
  simp only [List.flatMap_cons, List.flatMap_nil, List.append_nil, List.any_append, List.any_map, Bool.or_eq_true, List.any_eq_true, Function.comp, id, nz, bne_iff_ne]
  constructor
  ·rintro (⟨z, hz, h⟩ | ⟨z, hz, h⟩)
   ·obtain ⟨j, hj, rfl⟩ := List.getElem_of_mem hz
    exact ⟨j, by lia, .inl (by simpa [List.getD_eq_getElem?_getD, hj] using h)⟩
   ·obtain ⟨j, hj, rfl⟩ := List.getElem_of_mem hz
    exact ⟨j, by lia, .inr (by simpa [List.getD_eq_getElem?_getD, hj] using h)⟩
  ·rintro ⟨j, hj, h | h⟩
   ·exact .inl ⟨_, Qay 0 (by lia), h⟩
   ·exact .inr ⟨_, Qay 0 (by lia), h⟩
 have hex : (∃ t ∈ [((0 : Nat), (1 : Nat))], ∃ l ∈ ls, mnr [r0, r1] t l ≠ 0) ↔ Ex2 fun i j => i < j ∧ j < L ∧ mnr [r0, r1] (0, 1) (i, j) ≠ 0 := by
  constructor
  ·rintro ⟨t, ht, ⟨i, j⟩, hl, h⟩
   rw [List.mem_singleton] at ht; subst ht
   haveI HH17 := (hls i j).mp hl
   haveI h1 := HH17.1
   haveI h2 := HH17.2
   exact ⟨i, j, h1, h2, h⟩
  ·rintro ⟨i, j, h1, h2, h⟩
   exact ⟨(0, 1), List.mem_singleton.mpr rfl, (i, j), (hls i j).mpr ⟨h1, h2⟩, h⟩
 have hM : ∀ i j, mnr [r0, r1] (0, 1) (i, j) = r0.getD i 0 * r1.getD j 0 - r0.getD j 0 * r1.getD i 0 := fun _ _ => rfl
 rcases Qtq h0 h1 L (Nat.le_refl _) with ⟨e, hz⟩ | ⟨c, h, q, e, _, hc, hz, hn, _, hm⟩ | ⟨e, c, j, hcj, hj, hx⟩
 ·rw [e, if_neg, if_neg]; rfl
  ·rw [hany]; rintro ⟨j, hj, h | h⟩
   ·exact h (hz j hj).1
   ·exact h (hz j hj).2
  ·rw [hex]; rintro ⟨i, j, h1, h2, h⟩
   exact h (by rw [hM, (hz i (by lia)).1, (hz j h2).1]; simp)
 ·rw [e, if_neg, if_pos]; rfl
  ·exact hany.mpr ⟨c, hc, hn⟩
  ·rw [hex]; rintro ⟨i, j, h1, h2, h⟩
   refine h ?_
   rcases Nat.lt_trichotomy i c with g | g | g
   ·rw [hM, (hz i g).1, (hz i g).2]; simp
   ·subst g; exact hm j h1 h2
   ·haveI k1 := hm i g (by lia)
    haveI k2 := hm j (by lia) h2
    rw [hM] at k1 k2 ⊢
    rcases hn with hn | hn
    ·refine (Int.mul_eq_zero.mp (?_ : r0.getD c 0 * _ = 0)).resolve_left hn
     grind
    ·refine (Int.mul_eq_zero.mp (?_ : r1.getD c 0 * _ = 0)).resolve_left hn
     grind
 ·rw [e, if_pos (hex.mpr ⟨c, j, hcj, hj, hx⟩)]
noncomputable def s3 (p q x y u v : Int) (od : Bool) : Stp := ⟨[[p, q], [(x * p - x * p).tdiv 1, (y * p - x * q).tdiv 1], [(u * p - u * p).tdiv 1, (v * p - u * q).tdiv 1]], [0], od, p⟩
theorem Qtk {p q x y u v : Int} {od : Bool} : (Qcw 1 (s3 p q x y u v od)).pl.length = if y * p - x * q = 0 ∧ v * p - u * q = 0 then 1 else 2 := by
 haveI e1 : (y * p - x * q).tdiv 1 = y * p - x * q := Int.tdiv_one _
 haveI e2 : (v * p - u * q).tdiv 1 = v * p - u * q := Int.tdiv_one _
 by_cases h1 : y * p - x * q = 0
 ·by_cases h2 : v * p - u * q = 0
  ·rw [if_pos ⟨h1, h2⟩, QE (c := 1) (s := s3 p q x y u v od) ((if_pos (e1.trans h1)).trans (if_pos (e2.trans h2)))]; rfl
  ·rw [if_neg (fun h => h2 h.2)]
   exact congrArg (fun s : Stp => s.pl.length) (QJ (c := 1) (s := s3 p q x y u v od) (k := 2) ((if_pos (e1.trans h1)).trans (if_neg (fun h => h2 (e2.symm.trans h)))) rfl)
 ·rw [if_neg (fun h => h1 h.1)]
  exact congrArg (fun s : Stp => s.pl.length) (QJ (c := 1) (s := s3 p q x y u v od) (k := 1) (if_neg (fun h => h1 (e1.symm.trans h))) rfl)
theorem Qsx {p q x y u v : Int} {od : Bool} (hp : p ≠ 0) (h1 : p.natAbs ≤ 3) (h2 : q.natAbs ≤ 3) (h3 : x.natAbs ≤ 3) (h4 : y.natAbs ≤ 3) (h5 : u.natAbs ≤ 3) (h6 : v.natAbs ≤ 3) : (s3 p q x y u v od).bf ≠ 0 ∧ (s3 p q x y u v od).bf.natAbs < 2 ^ 16 ∧ Bnd 181 (s3 p q x y u v od).rows := by
 haveI b : ∀ {y p x q : Int}, y.natAbs ≤ 3 → p.natAbs ≤ 3 → x.natAbs ≤ 3 → q.natAbs ≤ 3 → ((y * p - x * q).tdiv 1).natAbs ≤ 181 := by
  intro y p x q g1 g2 g3 g4
  rw [Int.tdiv_one]
  exact Nat.le_trans (Int.natAbs_sub_le _ _) (by have := QB g1 g2; have := QB g3 g4; lia)
 refine ⟨hp, Nat.lt_of_le_of_lt h1 (by decide), ?_⟩
 intro r hr z hz
 simp only [s3, List.mem_cons, List.not_mem_nil, or_false] at hr
 rcases hr with rfl | rfl | rfl <;> simp only [List.mem_cons, List.not_mem_nil, or_false] at hz <;> rcases hz with rfl | rfl
 ·lia
 ·lia
 ·exact b h3 h1 h3 h1
 ·exact b h4 h1 h3 h2
 ·exact b h5 h1 h5 h1
 ·exact b h6 h1 h5 h2
theorem QkS (a b c d e f : Int) : (Ex7 fun p q x y u v od => stF [[a, b], [c, d], [e, f]] 1 = s3 p q x y u v od ∧ p ≠ 0 ∧ (∀ M : Nat, Bnd M [[a, b], [c, d], [e, f]] → p.natAbs ≤ M ∧ q.natAbs ≤ M ∧ x.natAbs ≤ M ∧ y.natAbs ≤ M ∧ u.natAbs ≤ M ∧ v.natAbs ≤ M) ∧ (a ≠ 0 ∨ c ≠ 0 ∨ e ≠ 0) ∧
   (y * p - x * q = 0 ∧ v * p - u * q = 0 ↔ a * d - b * c = 0 ∧ a * f - b * e = 0 ∧ c * f - d * e = 0)) ∨
  (stF [[a, b], [c, d], [e, f]] 1 = ⟨[[a, b], [c, d], [e, f]], [], false, 1⟩ ∧ a = 0 ∧ c = 0 ∧ e = 0) := by
 haveI mm : ∀ {M : Nat}, Bnd M [[a, b], [c, d], [e, f]] → a.natAbs ≤ M ∧ b.natAbs ≤ M ∧ c.natAbs ≤ M ∧ d.natAbs ≤ M ∧ e.natAbs ≤ M ∧ f.natAbs ≤ M := by
  intro M h
  exact h.m32
 haveI third : ∀ {p X : Int}, p ≠ 0 → p * X = 0 → X = 0 := fun hp h => (Int.mul_eq_zero.mp h).resolve_left hp
 by_cases ha : a = 0
 ·by_cases hc : c = 0
  ·by_cases he : e = 0
   ·exact .inr ⟨QE (s := ⟨[[a, b], [c, d], [e, f]], [], false, 1⟩) ((if_pos ha).trans ((if_pos hc).trans (if_pos he))), ha, hc, he⟩
   ·refine .inl ⟨e, f, c, d, a, b, true, QJ (s := ⟨[[a, b], [c, d], [e, f]], [], false, 1⟩) (k := 2) ((if_pos ha).trans ((if_pos hc).trans (if_neg he))) rfl, he, fun M h => ?_, .inr (.inr he), ?_⟩
    ·haveI HH12 := mm h
     haveI h1 := HH12.1
     haveI h2 := HH12.2.1
     haveI h3 := HH12.2.2.1
     haveI h4 := HH12.2.2.2.1
     haveI h5 := HH12.2.2.2.2.1
     haveI h6 := HH12.2.2.2.2.2
     exact ⟨h5, h6, h3, h4, h1, h2⟩
    ·subst ha; subst hc
     constructor
     ·rintro ⟨h1, h2⟩; refine ⟨by simp, by grind, by grind⟩
     ·rintro ⟨h1, h2, h3⟩; exact ⟨by grind, by grind⟩
  ·refine .inl ⟨c, d, a, b, e, f, true, QJ (s := ⟨[[a, b], [c, d], [e, f]], [], false, 1⟩) (k := 1) ((if_pos ha).trans (if_neg hc)) rfl, hc, fun M h => ?_, .inr (.inl hc), ?_⟩
   ·haveI HH25 := mm h
    haveI h1 := HH25.1
    haveI h2 := HH25.2.1
    haveI h3 := HH25.2.2.1
    haveI h4 := HH25.2.2.2.1
    haveI h5 := HH25.2.2.2.2.1
    haveI h6 := HH25.2.2.2.2.2
    exact ⟨h3, h4, h1, h2, h5, h6⟩
   ·subst ha
    constructor
    ·rintro ⟨h1, h2⟩
     refine ⟨by grind, third hc (by grind), by grind⟩
    ·rintro ⟨h1, h2, h3⟩; exact ⟨by grind, by grind⟩
 ·refine .inl ⟨a, b, c, d, e, f, false, QJ (s := ⟨[[a, b], [c, d], [e, f]], [], false, 1⟩) (k := 0) (if_neg ha) rfl, ha, fun M h => mm h, .inl ha, ?_⟩
  constructor
  ·rintro ⟨h1, h2⟩
   exact ⟨by grind, by grind, third ha (by grind)⟩
  ·rintro ⟨h1, h2, h3⟩; exact ⟨by grind, by grind⟩
theorem QuA {a b c d e f : Int} (hb : Bnd 3 [[a, b], [c, d], [e, f]]) (k : Nat) (hk : k < 2) : Good 2 k (stF [[a, b], [c, d], [e, f]] k) := by
 have sh := Qic (rows := [[a, b], [c, d], [e, f]]) (L := 2) (by simp) k
 refine ⟨sh.2.1, hk, by lia, by rw [sh.1]; simp, by rw [sh.1]; exact sh.2.2, fun _ => ?_⟩
 have h181 : Bnd 181 [[a, b], [c, d], [e, f]] := fun r hr z hz => Nat.le_trans (hb r hr z hz) (by decide)
 haveI : k = 0 ∨ k = 1 := by lia
 rcases this with rfl | rfl
 ·exact ⟨(by decide : (1 : Int) ≠ 0), (by decide : (1 : Int).natAbs < 2 ^ 16), h181⟩
 ·rcases QkS a b c d e f with ⟨p, q, x, y, u, v, od, e1, hp, hM, _⟩ | ⟨e1, _⟩
  ·rw [e1]
   haveI HH9 := hM 3 hb
   haveI h1 := HH9.1
   haveI h2 := HH9.2.1
   haveI h3 := HH9.2.2.1
   haveI h4 := HH9.2.2.2.1
   haveI h5 := HH9.2.2.2.2.1
   haveI h6 := HH9.2.2.2.2.2
   exact Qsx hp h1 h2 h3 h4 h5 h6
  ·rw [e1]; exact ⟨(by decide : (1 : Int) ≠ 0), (by decide : (1 : Int).natAbs < 2 ^ 16), h181⟩
theorem QoQ (a b c d e f : Int) : (stF [[a, b], [c, d], [e, f]] 2).pl.length = if ∃ t ∈ [((0 : Nat), (1 : Nat)), (0, 2), (1, 2)], ∃ l ∈ [((0 : Nat), (1 : Nat))], mnr [[a, b], [c, d], [e, f]] t l ≠ 0 then 2 else if ([[a, b], [c, d], [e, f]].flatMap (fun r => r.map nz)).any id = true then 1 else 0 := by
 have hex : (∃ t ∈ [((0 : Nat), (1 : Nat)), (0, 2), (1, 2)], ∃ l ∈ [((0 : Nat), (1 : Nat))], mnr [[a, b], [c, d], [e, f]] t l ≠ 0) ↔ ¬ (a * d - b * c = 0 ∧ a * f - b * e = 0 ∧ c * f - d * e = 0) := by
  simp only [List.mem_cons, List.not_mem_nil, or_false, exists_eq_or_imp, exists_eq_left, mnr]
  show (a * d - b * c ≠ 0 ∨ a * f - b * e ≠ 0 ∨ c * f - d * e ≠ 0) ↔ _
  simp only [Classical.not_and_iff_not_or_not]
 have hany : ([[a, b], [c, d], [e, f]].flatMap (fun r => r.map nz)).any id = true ↔ (a ≠ 0 ∨ b ≠ 0 ∨ c ≠ 0 ∨ d ≠ 0 ∨ e ≠ 0 ∨ f ≠ 0) := by
  simp [nz]
 simp only [hex, hany]
 rw [stF]
 rcases QkS a b c d e f with ⟨p, q, x, y, u, v, od, e1, hp, _, hn, hi⟩ | ⟨e1, rfl, rfl, rfl⟩
 ·rw [e1, Qtk]
  by_cases h : y * p - x * q = 0 ∧ v * p - u * q = 0
  ·rw [if_pos h, if_neg (fun g => g (hi.mp h)), if_pos (by rcases hn with h | h | h <;> simp [h])]
  ·rw [if_neg h, if_pos (fun g => h (hi.mpr g))]
 ·rw [e1, if_neg (by simp)]
  by_cases h : b = 0
  ·by_cases h2 : d = 0
   ·by_cases h3 : f = 0
    ·rw [QE (c := 1) (s := ⟨[[0, b], [0, d], [0, f]], [], false, 1⟩) ((if_pos h).trans ((if_pos h2).trans (if_pos h3))), if_neg (by simp [h, h2, h3])]; rfl
    ·rw [if_pos (by simp [h3])]
     exact congrArg (fun s : Stp => s.pl.length) (QJ (c := 1) (s := ⟨[[0, b], [0, d], [0, f]], [], false, 1⟩) (k := 2) ((if_pos h).trans ((if_pos h2).trans (if_neg h3))) rfl)
   ·rw [if_pos (by simp [h2])]
    exact congrArg (fun s : Stp => s.pl.length) (QJ (c := 1) (s := ⟨[[0, b], [0, d], [0, f]], [], false, 1⟩) (k := 1) ((if_pos h).trans (if_neg h2)) rfl)
  ·rw [if_pos (by simp [h])]
   exact congrArg (fun s : Stp => s.pl.length) (QJ (c := 1) (s := ⟨[[0, b], [0, d], [0, f]], [], false, 1⟩) (k := 0) (if_neg h) rfl)
noncomputable def nxt (p : Nat) : Nat := if p < 149 then 149 else if p < 151 then 151 else if p < 157 then 157 else 163
theorem Qqf {p : Nat} {b : Bool} (m : Nat) (H : Hp) (h : exB (Qc tb m) H.length QR.body [.d (.int p), .unb] H = .ret (.bool b) H) : Qc tb (m + 1) 33 [.d (nd p)] H = .ok (.bool b) H :=
 Qt (f := QR) rfl rfl h tk0
theorem QjF {m f p : Nat} {H : Hp} (h : exB (Qc tb m) H.length QR.body [.d (.int p), .unb] H = .ret (.bool true) H) : Qav (evE (Qc tb (m + 1)) T_next_plain_prime_0) (exB (Qc tb (m + 1)) H.length B_next_plain_prime_0) (f + 1) [.d (nd p)] H = .next [.d (nd p)] H :=
 QA (QlK (Qb rfl (Qqf m H h)))
theorem Qff {m f p q : Nat} {H : Hp} (h : exB (Qc tb m) H.length QR.body [.d (.int p), .unb] H = .ret (.bool false) H) (ih : Qav (evE (Qc tb (m + 1)) T_next_plain_prime_0) (exB (Qc tb (m + 1)) H.length B_next_plain_prime_0) f [.d (nd (p + 1))] H = .next [.d (nd q)] H) : Qav (evE (Qc tb (m + 1)) T_next_plain_prime_0) (exB (Qc tb (m + 1)) H.length B_next_plain_prime_0) (f + 1) [.d (nd p)] H = .next [.d (nd q)] H :=
 QaS (QlK (Qb rfl (Qqf m H h))) (sq (Qcb rfl rfl (QG _ 1)) rfl) ih
theorem Qqd {p : Nat} (m : Nat) (H : Hp) (h : p = 148 ∨ p = 149 ∨ p = 150 ∨ p = 151 ∨ p = 157) : Qc tb (m + 2) 34 [.d (nd p)] H = .ok (nd (nxt p)) H := by
 haveI e : Qav (evE (Qc tb (m + 1)) T_next_plain_prime_0) (exB (Qc tb (m + 1)) H.length B_next_plain_prime_0) (4085 + 11) [.d (nd (p + 1))] H = .next [.d (nd (nxt p))] H := by
  rcases h with rfl | rfl | rfl | rfl | rfl
  ·exact QjF rfl
  ·exact Qff rfl (QjF rfl)
  ·exact QjF rfl
  ·exact Qff rfl (Qff rfl (Qff rfl (Qff rfl (Qff rfl (QjF rfl)))))
  ·exact Qff rfl (Qff rfl (Qff rfl (Qff rfl (Qff rfl (QjF rfl)))))
 exact Qt (f := QaN) rfl rfl (sq (Qcb rfl rfl (QG _ 1)) (sq (QcE e) (Qg (Qy rfl)))) tk0
noncomputable def inv (p x : Nat) : Nat := Builtin.powMod x (p - 2) p
noncomputable def Pm (p : Nat) : Prop := p = 149 ∨ p = 151 ∨ p = 157 ∨ p = 163
theorem QqX : (([149, 151, 157, 163] : List Nat).all fun p => (List.range p).all fun x => x == 0 || (x * inv p x % p == 1 && decide (inv p x < p))) = true := by decide +kernel
theorem Qtv {p x : Nat} (hp : Pm p) (hx : x < p) (h0 : x ≠ 0) : x * inv p x % p = 1 ∧ inv p x < p := by
 haveI h := QqX
 rw [List.all_eq_true] at h
 haveI h1 := h p (by rcases hp with rfl | rfl | rfl | rfl <;> simp)
 rw [List.all_eq_true] at h1
 haveI h2 := h1 x (List.mem_range.mpr hx)
 simp only [Bool.or_eq_true, Bool.and_eq_true, beq_iff_eq, decide_eq_true_eq] at h2
 exact h2.resolve_left h0
theorem Qck {p : Nat} (z : Int) (h : 0 < p) : binD .mod (.int z) (nd p) = some (.int (z % (p : Int))) := by
 show Option.map PyData.int (if _ then _ else _) = _; rw [if_neg (by lia), Int.fmod_eq_emod_of_nonneg _ (by lia)]; rfl
theorem QmC {p a b k : Int} (h : a = b + p * k) : a % p = b % p := by rw [h, Int.add_mul_emod_self_left]
section
variable {cl : Qh} {ρ ρ1 : Rho} {H H1 H2 : Hp}
noncomputable def tst (cl : Qh) (c : PE) : Rho → Hp → R Bool := fun ρ H => (evE cl c ρ H).bind fun v H => Qp (Qaq v) H
theorem QcJ {e t i c xs ys} (hi : evI cl i ρ H = .ok xs H1) (hc : QU t.bd (evE cl e) (tst cl c) xs ρ H1 = .ok ys H2) : evF cl (.compIf e t i c) ρ H = .ok ys H2 := by
 exact Qv hi hc
theorem Qax {bd el c x r y ys} (hd : bd x ρ = some ρ1) (ht : evE cl c ρ1 H = .ok (.d (.bool true)) H) (he : el ρ1 H = .ok (.d y) H) (hr : QU bd el (tst cl c) r ρ1 H = .ok ys H) : QU bd el (tst cl c) (x :: r) ρ H = .ok (y :: ys) H := by
 haveI h : tst cl c ρ1 H = .ok true H := Qv ht rfl
 rw [QbV, hd]; exact Qv (a := true) (by rw [h]; rfl) (Qv (by rw [he]; rfl) (QN rfl (Qv hr rfl)))
theorem Qba {bd el c x r ys} (hd : bd x ρ = some ρ1) (ht : evE cl c ρ1 H = .ok (.d (.bool false)) H) (hr : QU bd el (tst cl c) r ρ1 H = .ok ys H) : QU bd el (tst cl c) (x :: r) ρ H = .ok ys H := by
 haveI h : tst cl c ρ1 H = .ok false H := Qv ht rfl
 rw [QbV, hd]; exact Qv (a := false) (by rw [h]; rfl) hr
theorem QcR {e : PE} {x : Int} {p k : Nat} (he : evE cl e ρ H = .ok (.d (.int x)) H) (hk : gt ρ k = .d (nd p)) (hp : 2 ≤ p) : evE cl (.powm e (.bin .sub (.loc k) (.kd (.int 2))) (.loc k)) ρ H = .ok (.d (nd (inv p (x % (p : Int)).toNat))) H := by
 haveI ek : evE cl (.loc k) ρ H = .ok (.d (nd p)) H := QY hk
 haveI e2 : evE cl (.bin .sub (.loc k) (.kd (.int 2))) ρ H = .ok (.d (nd (p - 2))) H := Qe ek rfl (Qcf (y := 2) hp)
 show ((evE cl e ρ H).bind fun x H => (evE cl (.bin .sub (.loc k) (.kd (.int 2))) ρ H).bind fun y H => (evE cl (.loc k) ρ H).bind fun z H => (Qp (QaC x) H).bind fun x H => (Qp (QaC y) H).bind fun y H => (Qp (QaC z) H).bind fun z H => if 0 ≤ y ∧ 1 < z then R.ok (V.d (.int (Builtin.powMod (x % z).toNat y.natAbs z.natAbs))) H else .stuck) = _
 rw [he, R.bind_ok, e2, R.bind_ok, ek]
 show (if 0 ≤ ((p - 2 : Nat) : Int) ∧ 1 < (p : Int) then _ else _) = _
 rw [if_pos ⟨by lia, by lia⟩, Int.natAbs_natCast, Int.natAbs_natCast]; rfl
end
noncomputable def rs (p : Nat) (z : Int) : Nat := (z % (p : Int)).toNat
theorem QjT {p : Nat} (hp : 0 < p) (z : Int) : ((rs p z : Nat) : Int) = z % (p : Int) := Int.toNat_of_nonneg (Int.emod_nonneg _ (by lia))
theorem Qsd {p : Nat} (hp : 0 < p) (z : Int) : rs p z < p := by have := QjT hp z; have := Int.emod_lt_of_pos z (by lia : (0 : Int) < p); lia
theorem Qfg {p : Nat} (hp : Pm p) {z : Int} (h0 : z % (p : Int) ≠ 0) : ∃ k, z * (inv p (z % (p : Int)).toNat : Int) = 1 + p * k ∧ inv p (z % (p : Int)).toNat < p := by
 have pp : 0 < p := by rcases hp with rfl | rfl | rfl | rfl <;> lia
 haveI h1 := QjT pp z
 obtain ⟨h, hl⟩ := Qtv hp (Qsd pp z) (fun q => h0 (by rw [← h1, q]; rfl))
 haveI h2 := Int.emod_add_mul_ediv z p
 obtain ⟨K, hK⟩ : ∃ K : Nat, rs p z * inv p (rs p z) = 1 + p * K := ⟨rs p z * inv p (rs p z) / p, by have := Nat.mod_add_div (rs p z * inv p (rs p z)) p; lia⟩
 haveI h3 : (rs p z : Int) * (inv p (rs p z) : Int) = 1 + p * (K : Int) := by exact_mod_cast hK
 refine ⟨(K : Int) + (z / p) * (inv p (rs p z) : Int), ?_, hl⟩
 show z * (inv p (rs p z) : Int) = _
 rw [← h1] at h2
 generalize (inv p (rs p z) : Int) = i at *
 rw [← h2]
 grind
theorem Qcx (z : Int) : cmpD .ne (.int z) (.int 0) = some (decide (z ≠ 0)) := by
 show some (z != 0) = _
 by_cases h : z = 0 <;> simp [h]
theorem Qcq {cl : Qh} {ρ : Rho} {H H1 : Hp} {e : PE} {xs : List D} (h : evE cl e ρ H = .ok (.d (.list xs)) H1) : evI cl (.enum e) ρ H = .ok (Qcc 0 xs) H1 := by
 exact Qv h rfl
theorem Qid {p : Nat} (hp : 0 < p) (hp2 : p ≤ 163) (z : Int) : (z % (p : Int)).natAbs ≤ 2 ^ 60 := by
 haveI := Int.emod_nonneg z (by lia : (p : Int) ≠ 0)
 haveI := Int.emod_lt_of_pos z (by lia : (0 : Int) < p)
 lia
theorem Pm.pos {p : Nat} (h : Pm p) : 0 < p ∧ 2 ≤ p ∧ p ≤ 163 := by rcases h with rfl | rfl | rfl | rfl <;> lia
section
variable {p : Nat} (hp : Pm p)
include hp
theorem Qsa (m base : Nat) (H : Hp) (x y z u : Int) (F sp v7 v8 v9 : V) (t : Nat) (hz : z.natAbs ≤ 2 ^ 60) : Ex3 fun v7' v8' v9' => exB (Qc tb m) base B_det_rest_0 [.cell H.length, .d (nd p), F, .d (nd 0), sp, .d (nd t), .d (nd 1), v7, v8, v9] (H ++ [[il [x, y], il [z, u]]]) =
  .next [.cell H.length, .d (nd p), F, .d (nd 0), sp, .d (nd t), .d (nd 1), v7', v8', v9'] (H ++ [[il [x, y], il [(z - z * t % p * x) % p, (u - z * t % p * y) % p]]]) := by
 haveI HH2 := hp.pos
 haveI p0 := HH2.1
 haveI p1 := HH2.2.1
 haveI p2 := HH2.2.2
 haveI hP := Qid p0 p2 (z * t)
 exact ⟨_, _, _, sq (Qk (Qe (Qe (Qi (Qi rfl rfl (getc _ _) rfl) rfl rfl rfl) rfl (Qah hz)) rfl (Qck _ p0))) (sq (QaJ (Qu (Qo (Qcq (Qi (z := il [z, u]) rfl rfl (getc _ _) rfl)) (Qd rfl (Qe (Qe rfl (Qe rfl (Qi (Qi (z := il [x, y]) rfl rfl (getc _ _) rfl) rfl rfl rfl) (Qah hP)) rfl) rfl (Qck _ p0)) (Qd rfl (Qe (Qe rfl (Qe rfl (Qi (Qi (z := il [x, y]) rfl rfl (getc _ _) rfl) rfl rfl rfl) (Qah hP)) rfl) rfl (Qck _ p0)) Ql)))) rfl rfl (set1 _ _ 1 _ (by simp))) rfl)⟩
noncomputable def spt (z : Int) (i : Nat) : List D := if z = 0 then [] else [nd i]
omit hp in
theorem Qrr (cl : Qh) (H : Hp) (x y z u : Int) (P F v4 v5 v6 v7 v8 v9 : V) : evE cl (.mk false (.compIf E_det_rest_1 (.one 8) (.range2 (.loc 3) (.len (.loc 0))) (.cmp .ne (.idx (.idx (.loc 0) (.loc 8)) (.loc 3)) (.kd (.int 0))))) [.cell H.length, P, F, .d (nd 0), v4, v5, v6, v7, v8, v9] (H ++ [[il [x, y], il [z, u]]]) = .ok (.d (.list (spt x 0 ++ spt z 1))) (H ++ [[il [x, y], il [z, u]]]) := by
 haveI er : evI cl (.range2 (.loc 3) (.len (.loc 0))) [.cell H.length, P, F, .d (nd 0), v4, v5, v6, v7, v8, v9] (H ++ [[il [x, y], il [z, u]]]) = .ok [nd 0, nd 1] (H ++ [[il [x, y], il [z, u]]]) := (Qag (k := 0) (n := 2) rfl (QC (xs := [_, _]) rfl (getc _ _)) (by lia) (by lia)).trans rfl
 haveI t0 : ∀ v, evE cl (.cmp .ne (.idx (.idx (.loc 0) (.loc 8)) (.loc 3)) (.kd (.int 0))) [.cell H.length, P, F, .d (nd 0), v4, v5, v6, v7, .d (nd 0), v] (H ++ [[il [x, y], il [z, u]]]) = .ok (.d (.bool (decide (x ≠ 0)))) (H ++ [[il [x, y], il [z, u]]]) := fun v => Qf (Qi (Qi (z := il [x, y]) rfl rfl (getc _ _) rfl) rfl rfl rfl) rfl (Qcx x)
 haveI t1 : ∀ v, evE cl (.cmp .ne (.idx (.idx (.loc 0) (.loc 8)) (.loc 3)) (.kd (.int 0))) [.cell H.length, P, F, .d (nd 0), v4, v5, v6, v7, .d (nd 1), v] (H ++ [[il [x, y], il [z, u]]]) = .ok (.d (.bool (decide (z ≠ 0)))) (H ++ [[il [x, y], il [z, u]]]) := fun v => Qf (Qi (Qi (z := il [z, u]) rfl rfl (getc _ _) rfl) rfl rfl rfl) rfl (Qcx z)
 refine Qu (QcJ er ?_)
 unfold spt
 by_cases hx : x = 0 <;> by_cases hz : z = 0
 ·rw [if_pos hx, if_pos hz]
  exact Qba rfl ((t0 _).trans (by rw [decide_eq_false (fun h => h hx)])) (Qba rfl ((t1 _).trans (by rw [decide_eq_false (fun h => h hz)])) rfl)
 ·rw [if_pos hx, if_neg hz]
  exact Qba rfl ((t0 _).trans (by rw [decide_eq_false (fun h => h hx)])) (Qax rfl ((t1 _).trans (by rw [decide_eq_true hz])) rfl rfl)
 ·rw [if_neg hx, if_pos hz]
  exact Qax rfl ((t0 _).trans (by rw [decide_eq_true hx])) rfl (Qba rfl ((t1 _).trans (by rw [decide_eq_false (fun h => h hz)])) rfl)
 ·rw [if_neg hx, if_neg hz]
  exact Qax rfl ((t0 _).trans (by rw [decide_eq_true hx])) rfl (Qax rfl ((t1 _).trans (by rw [decide_eq_true hz])) rfl rfl)
omit hp in
theorem Qrk (cl : Qh) (H : Hp) (x y z u : Int) (P F v4 v5 v6 v7 v8 v9 : V) : evE cl (.mk false (.compIf E_det_rest_1 (.one 8) (.range2 (.loc 3) (.len (.loc 0))) (.cmp .ne (.idx (.idx (.loc 0) (.loc 8)) (.loc 3)) (.kd (.int 0))))) [.cell H.length, P, F, .d (nd 1), v4, v5, v6, v7, v8, v9] (H ++ [[il [x, y], il [z, u]]]) = .ok (.d (.list (spt u 1))) (H ++ [[il [x, y], il [z, u]]]) := by
 haveI er : evI cl (.range2 (.loc 3) (.len (.loc 0))) [.cell H.length, P, F, .d (nd 1), v4, v5, v6, v7, v8, v9] (H ++ [[il [x, y], il [z, u]]]) = .ok [nd 1] (H ++ [[il [x, y], il [z, u]]]) := (Qag (k := 1) (n := 2) rfl (QC (xs := [_, _]) rfl (getc _ _)) (by lia) (by lia)).trans rfl
 haveI t1 : ∀ v, evE cl (.cmp .ne (.idx (.idx (.loc 0) (.loc 8)) (.loc 3)) (.kd (.int 0))) [.cell H.length, P, F, .d (nd 1), v4, v5, v6, v7, .d (nd 1), v] (H ++ [[il [x, y], il [z, u]]]) = .ok (.d (.bool (decide (u ≠ 0)))) (H ++ [[il [x, y], il [z, u]]]) := fun v => Qf (Qi (Qi (z := il [z, u]) rfl rfl (getc _ _) rfl) rfl rfl rfl) rfl (Qcx u)
 refine Qu (QcJ er ?_)
 unfold spt
 by_cases hu : u = 0
 ·rw [if_pos hu]; exact Qba rfl ((t1 _).trans (by rw [decide_eq_false (fun h => h hu)])) rfl
 ·rw [if_neg hu]; exact Qax rfl ((t1 _).trans (by rw [decide_eq_true hu])) rfl rfl
theorem Qrc (m base : Nat) (H : Hp) (x y z u F : Int) (v4 v5 v6 v7 v8 v9 : V) (hF : F.natAbs ≤ 2 ^ 60) :
  (u = 0 ∧ exB (Qc tb m) base B_det_rest_1 [.cell H.length, .d (nd p), .d (.int F), .d (nd 1), v4, v5, v6, v7, v8, v9] (H ++ [[il [x, y], il [z, u]]]) = .ret (nd 0) (H ++ [[il [x, y], il [z, u]]])) ∨
  (u ≠ 0 ∧ Ex3 fun v4' v5' v6' => exB (Qc tb m) base B_det_rest_1 [.cell H.length, .d (nd p), .d (.int F), .d (nd 1), v4, v5, v6, v7, v8, v9] (H ++ [[il [x, y], il [z, u]]]) = .next [.cell H.length, .d (nd p), .d (.int (F * u % p)), .d (nd 1), v4', v5', v6', v7, v8, v9] (H ++ [[il [x, y], il [z, u]]])) := by
 haveI HH3 := hp.pos
 haveI p0 := HH3.1
 haveI p1 := HH3.2.1
 haveI p2 := HH3.2.2
 haveI es := Qrk (Qc tb m) H x y z u (.d (nd p)) (.d (.int F)) v4 v5 v6 v7 v8 v9
 by_cases hu : u = 0
 ·rw [spt, if_pos hu] at es
  exact .inl ⟨hu, sq (Qk es) (Qg (Qr (z := true) rfl (Qg (Qy rfl))))⟩
 ·rw [spt, if_neg hu] at es
  exact .inr ⟨hu, _, _, _, sq (Qk es) (sq (Qr (z := false) rfl rfl) (sq (Qr (z := false) rfl rfl) (sq (Qk (Qe (Qe rfl (Qi (Qi (z := il [z, u]) rfl rfl (getc _ _) rfl) rfl rfl rfl) (Qah hF)) rfl (Qck _ p0))) (sq (Qk (QcR (x := u) (Qi (Qi (z := il [z, u]) rfl rfl (getc _ _) rfl) rfl rfl rfl) rfl p1)) (sq (QP (Qag (k := 2) (n := 2) rfl (QC (xs := [_, _]) rfl (getc _ _)) (by lia) (by lia)) Qau) rfl)))))⟩
theorem Qiy (m base : Nat) (H : Hp) (x y z u F : Int) (v4 v5 v6 v7 v8 v9 : V) (hF : F.natAbs ≤ 2 ^ 60) (hz : z.natAbs ≤ 2 ^ 60) :
  Ex5 fun v5' v6' v7' v8' v9' => exB (Qc tb m) base B_det_rest_1.tl.tl.tl [.cell H.length, .d (nd p), .d (.int F), .d (nd 0), v4, v5, v6, v7, v8, v9] (H ++ [[il [x, y], il [z, u]]]) = .next [.cell H.length, .d (nd p), .d (.int (F * x % p)), .d (nd 0), v4, v5', v6', v7', v8', v9'] (H ++ [[il [x, y], il [(z - z * (inv p (x % (p : Int)).toNat : Nat) % p * x) % p, (u - z * (inv p (x % (p : Int)).toNat : Nat) % p * y) % p]]]) := by
 haveI HH2 := hp.pos
 haveI p0 := HH2.1
 haveI p1 := HH2.2.1
 haveI p2 := HH2.2.2
 obtain ⟨v7', v8', v9', e⟩ := Qsa hp m base H x y z u (.d (.int (F * x % p))) v4 v7 v8 v9 (inv p (x % (p : Int)).toNat) hz
 exact ⟨_, _, _, _, _, sq (Qk (Qe (Qe rfl (Qi (Qi (z := il [x, y]) rfl rfl (getc _ _) rfl) rfl rfl rfl) (Qah hF)) rfl (Qck _ p0))) (sq (Qk (QcR (x := x) (Qi (Qi (z := il [x, y]) rfl rfl (getc _ _) rfl) rfl rfl rfl) rfl p1)) (sq (QP (xs := [nd 1]) ((Qag (k := 1) (n := 2) rfl (QC (xs := [_, _]) rfl (getc _ _)) (by lia) (by lia)).trans rfl) (Qq rfl e Qau)) rfl))⟩
theorem QrN (m base : Nat) (H : Hp) (x y z u : Int) (v4 v5 v6 v7 v8 v9 : V) (hx : x.natAbs ≤ 2 ^ 60) (hz : z.natAbs ≤ 2 ^ 60) :
  (x = 0 ∧ z = 0 ∧ exB (Qc tb m) base B_det_rest_1 [.cell H.length, .d (nd p), .d (nd 1), .d (nd 0), v4, v5, v6, v7, v8, v9] (H ++ [[il [x, y], il [z, u]]]) = .ret (nd 0) (H ++ [[il [x, y], il [z, u]]])) ∨
  (Ex5 fun (s a b c d : Int) => ((s = 1 ∧ a = x ∧ b = y ∧ c = z ∧ d = u) ∨ (x = 0 ∧ s = -1 % p ∧ a = z ∧ b = u ∧ c = x ∧ d = y)) ∧ a ≠ 0 ∧ Ex6 fun v4' v5' v6' v7' v8' v9' => exB (Qc tb m) base B_det_rest_1 [.cell H.length, .d (nd p), .d (nd 1), .d (nd 0), v4, v5, v6, v7, v8, v9] (H ++ [[il [x, y], il [z, u]]]) = .next [.cell H.length, .d (nd p), .d (.int (s * a % p)), .d (nd 0), v4', v5', v6', v7', v8', v9'] (H ++ [[il [a, b], il [(c - c * (inv p (a % (p : Int)).toNat : Nat) % p * a) % p, (d - c * (inv p (a % (p : Int)).toNat : Nat) % p * b) % p]]])) := by
 haveI HH3 := hp.pos
 haveI p0 := HH3.1
 haveI p1 := HH3.2.1
 haveI p2 := HH3.2.2
 haveI es := Qrr (Qc tb m) H x y z u (.d (nd p)) (.d (nd 1)) v4 v5 v6 v7 v8 v9
 by_cases h1 : x = 0
 ·by_cases h2 : z = 0
  ·rw [spt, spt, if_pos h1, if_pos h2] at es
   exact .inl ⟨h1, h2, sq (Qk es) (Qg (Qr (z := true) rfl (Qg (Qy rfl))))⟩
  ·rw [spt, spt, if_pos h1, if_neg h2] at es
   obtain ⟨v5', v6', v7', v8', v9', e⟩ := Qiy hp m base H z u x y (-1 % p) (.d (.list [nd 1])) v5 v6 v7 v8 v9 (Qid p0 p2 _) hx
   refine .inr ⟨-1 % p, z, u, x, y, .inr ⟨h1, rfl, rfl, rfl, rfl, rfl⟩, h2, _, _, _, _, _, _, sq (Qk es) (sq (Qr (z := false) rfl rfl) (sq (Qr (z := true) rfl (sq (Qjo (x := il [z, u]) (y := il [x, y]) (Qi rfl rfl (getc _ _) rfl) (Qi rfl rfl (getc _ _) rfl) rfl rfl (set1 _ _ 0 _ (by simp)) rfl (set1 _ _ 1 _ (by simp))) (sq (Qk (Qe rfl rfl (Qck (-1) p0))) rfl))) e))⟩
 ·rw [spt, if_neg h1] at es
  obtain ⟨v5', v6', v7', v8', v9', e⟩ := Qiy hp m base H x y z u 1 (.d (.list ([nd 0] ++ spt z 1))) v5 v6 v7 v8 v9 (by decide) hz
  refine .inr ⟨1, x, y, z, u, .inl ⟨rfl, rfl, rfl, rfl, rfl⟩, h1, _, _, _, _, _, _, sq (Qk es) (sq (Qr (z := false) ?_ rfl) (sq (Qr (z := false) rfl rfl) e))⟩
  refine Qf (QC rfl rfl) rfl ((Qbs _ 0).trans (congrArg some (decide_eq_false (by simp))))
end
theorem Qjj {p a b : Int} (h : ∃ k, a = b + p * k) : a % p = b % p := by obtain ⟨k, h⟩ := h; exact QmC h
theorem QqR {p x y z u s a b c d i k : Int} (h : (s = 1 ∧ a = x ∧ b = y ∧ c = z ∧ d = u) ∨ (x = 0 ∧ s = -1 % p ∧ a = z ∧ b = u ∧ c = x ∧ d = y)) (hi : a * i = 1 + p * k) : (s * a % p * ((d - c * i % p * b) % p)) % p = (x * u - y * z) % p := by
 haveI e1 := Int.emod_def (s * a) p
 haveI e2 := Int.emod_def (c * i) p
 haveI e3 := Int.emod_def (d - c * i % p * b) p
 rw [e2] at e3 ⊢
 rw [e1, e3]
 generalize s * a / p = k1
 generalize c * i / p = k2
 generalize (d - (c * i - p * k2) * b) / p = k3
 rcases h with ⟨rfl, rfl, rfl, rfl, rfl⟩ | ⟨hx, hs, rfl, rfl, rfl, rfl⟩
 ·refine Qjj ⟨-k * (c * b) + a * k2 * b - a * k3 - k1 * (d - (c * i - p * k2) * b - p * k3), ?_⟩
  haveI : a * (d - c * i * b) = a * d - c * b - p * (k * (c * b)) := by
   haveI : a * (d - c * i * b) = a * d - (a * i) * (c * b) := by grind
   rw [this, hi]; grind
  grind
 ·rw [Int.emod_def (-1) p] at hs
  generalize -1 / p = k4 at hs
  subst hx
  refine Qjj ⟨-(a * d) * k4 - k1 * (d - p * k3) - s * a * k3 + k1 * 0 + (s * a - p * k1) * k2 * b, ?_⟩
  subst hs
  grind
section
variable {p : Nat} (hp : Pm p)
include hp
theorem Qmo {x y z u : Int} (m : Nat) (H : Hp) (hx : 0 ≤ x ∧ x < p) (hz : 0 ≤ z ∧ z < p) : Qc tb (m + 1) 35 [.d (ml [[x, y], [z, u]]), .d (nd p)] H = .ok (.int ((x * u - y * z) % p)) H := by
 haveI HH1 := hp.pos
 haveI p0 := HH1.1
 haveI p1 := HH1.2.1
 haveI p2 := HH1.2.2
 have epar : evEs (Qc tb m) (.cons (.mk true (.comp E_det_rest_0 (.one 8) (.seq (.loc 0)))) (.cons (.kd (.int 1)) .nil)) [.d (ml [[x, y], [z, u]]), .d (nd p), .unb, .unb, .unb, .unb, .unb, .unb, .unb, .unb] H = .ok [.cell H.length, .d (nd 1)] (H ++ [[il [x, y], il [z, u]]]) :=
  Qa (QbC (Qo (xs := [il [x, y], il [z, u]]) rfl (Qd rfl rfl (Qd rfl rfl Ql)))) rfl
 have er : evI (Qc tb m) (.range1 (.len (.loc 0))) [.cell H.length, .d (nd p), .d (nd 1), .unb, .unb, .unb, .unb, .unb, .unb, .unb] (H ++ [[il [x, y], il [z, u]]]) = .ok [nd 0, nd 1] (H ++ [[il [x, y], il [z, u]]]) := (QM (n := 2) (QC (xs := [_, _]) rfl (getc _ _)) (by lia)).trans rfl
 rcases QrN hp m H.length H x y z u .unb .unb .unb .unb .unb .unb (by lia) (by lia) with ⟨h1, h2, e⟩ | ⟨s, a, b, c, d, h, ha, v4, v5, v6, v7, v8, v9, e⟩
 ·rw [h1, h2, Int.zero_mul, Int.mul_zero]
  subst h1; subst h2
  exact Qt (f := QbT) rfl rfl (sq (QT epar rfl) (Qg (QP er (Qbw rfl e)))) tk1
 ·obtain ⟨k, hi, _⟩ := Qfg hp (z := a) (by
   haveI : 0 ≤ a ∧ a < p := by rcases h with ⟨_, rfl, _⟩ | ⟨_, _, rfl, _⟩ <;> assumption
   rw [Int.emod_eq_of_lt this.1 this.2]; exact ha)
  rw [← QqR h hi]
  rcases Qrc hp m H.length H a b _ ((d - c * (inv p (a % (p : Int)).toNat : Nat) % p * b) % p) (s * a % p) v4 v5 v6 v7 v8 v9 (Qid p0 p2 _) with ⟨hu, e2⟩ | ⟨_, w4, w5, w6, e2⟩
  ·have r : s * a % p * ((d - c * (inv p (a % (p : Int)).toNat : Nat) % p * b) % p) % p = 0 := by rw [hu]; simp
   rw [r]
   exact Qt (f := QbT) rfl rfl (sq (QT epar rfl) (Qg (QP er (Qq rfl e (Qbw rfl e2))))) tk1
  ·exact Qt (f := QbT) rfl rfl (sq (QT epar rfl) (sq (QP er (Qq rfl e (Qq rfl e2 Qau))) (Qg (Qy rfl)))) tk1
end
noncomputable def sumA : Nat → List Int → Nat
 | acc, [] => acc
 | acc, z :: zs => sumA (acc + z.natAbs) zs
section
variable {w : Nat} (hw : 8 ≤ w) (hw2 : w ≤ 10)
include hw hw2
omit hw2 in
theorem nn1 : nn w 1 = .list [.int 1] := by unfold nn; rw [Qgv (QI (by lia)) (by lia) (QI (by lia))]; rfl
theorem QnX (m base : Nat) (H : Hp) (r : D) : ∀ (zs : List Int) (acc : Nat) (v : V), (∀ z ∈ zs, z.natAbs ≤ 2 ^ 20) → acc + zs.length * 2 ^ 20 ≤ 2 ^ 40 → ∃ v', Qaf (Tgt.one 3).bd (exB (Qc tb (m + 1)) base B_row_bound_0) (zs.map (sg w)) [.d r, .d (nd w), .d (nn w acc), v] H = .next [.d r, .d (nd w), .d (nn w (sumA acc zs)), v'] H
 | [], acc, v, _, _ => ⟨v, rfl⟩
 | z :: zs, acc, v, hz, h => by
  simp only [List.length_cons] at h
  have h1 := hz z List.mem_cons_self
  obtain ⟨v', e⟩ := QnX m base H r zs (acc + z.natAbs) (.d (sg w z)) (fun x hx => hz x (List.mem_cons_of_mem _ hx)) (by lia)
  exact ⟨v', Qq rfl (sq (Qk (Qb rfl (Qpj (by lia) (by lia) m H (Qj (p := 2 ^ 40) (by lia) (by decide)) (Qj h1 (by decide))))) rfl) e⟩
theorem Qfr {zs : List Int} (m : Nat) (H : Hp) (hz : ∀ z ∈ zs, z.natAbs ≤ 2 ^ 20) (hl : zs.length ≤ 10) : Qc tb (m + 2) 36 [.d (rw' w zs), .d (nd w)] H = .ok (nn w (sumA 0 zs)) H := by
 obtain ⟨v, e⟩ := QnX hw hw2 m H.length H (rw' w zs) zs 0 .unb hz (by lia)
 exact Qt (f := Qfu) rfl rfl (sq (Qk rfl) (sq (QP rfl e) (Qg (Qy rfl)))) tk0
theorem Qcu {r0 r1 : List Int} (m : Nat) (H : Hp) (hb : Bnd (2 ^ 20) [r0, r1]) (h0 : r0.length ≤ 10) (h1 : r1.length ≤ 10) (hs0 : sumA 0 r0 ≤ 2 ^ 30) (hs1 : sumA 0 r1 ≤ 2 ^ 30) : Qc tb (m + 3) 37 [.d (mt w [r0, r1]), .d (nd w), .fn 46] H = .ok (nn w (1 * sumA 0 r0 * sumA 0 r1)) H := by
 haveI c0 := Qfr hw hw2 m H (hb r0 (by simp)) h0
 haveI c1 := Qfr hw hw2 m H (hb r1 (by simp)) h1
 haveI p1 := QhH (w0 hw) (w16 hw2) (a := 1) (b := sumA 0 r0) m H (Qj (Nat.le_refl 1) (by decide)) (Qj hs0 (by decide))
 rw [nn1 hw] at p1
 haveI p2 := QhH (w0 hw) (w16 hw2) (a := 1 * sumA 0 r0) (b := sumA 0 r1) m H (by rw [Nat.one_mul]; exact Qj hs0 (by decide)) (Qj hs1 (by decide))
 exact Qt (f := Qew) rfl rfl (sq (Qk rfl) (sq (QP (xs := [rw' w r0, rw' w r1]) rfl (Qq rfl (sq (Qk (Qap rfl (Qa rfl (Qa (Qb rfl c0) rfl)) p1)) rfl) (Qq rfl (sq (Qk (Qap rfl (Qa rfl (Qa (Qb rfl c1) rfl)) p2)) rfl) Qau))) (Qg (Qy rfl)))) tk0
end
theorem Qho (a b : Nat) : cmpD .gt (.int (cmpz a b)) (.int 0) = some (decide (b < a)) := by
 show some (decide (0 < cmpz a b)) = _
 congr 1; rw [decide_eq_decide]; unfold cmpz; split
 ·lia
 ·split <;> lia
theorem QhQ (a b : Nat) : cmpD .le (.int (cmpz a b)) (.int 0) = some (decide (a ≤ b)) := by
 show some (decide (cmpz a b ≤ 0)) = _
 congr 1; rw [decide_eq_decide]; unfold cmpz; split
 ·lia
 ·split <;> lia
theorem QcM {M x : Int} (h : M ∣ x) (h1 : -M < x) (h2 : x < M) : x = 0 := by
 obtain ⟨k, rfl⟩ := h
 haveI hM : 0 < M := by lia
 haveI k1 : k < 1 := Int.lt_of_mul_lt_mul_left (by rwa [Int.mul_one]) (by lia : 0 ≤ M)
 haveI k2 : -1 < k := Int.lt_of_mul_lt_mul_left (by rwa [Int.mul_neg, Int.mul_one]) (by lia : 0 ≤ M)
 rw [show k = 0 from by lia, Int.mul_zero]
theorem Qms {M q : Nat} {x : Int} (hc : Nat.Coprime M q) (h1 : (M : Int) ∣ x) (h2 : (q : Int) ∣ x) : ((M * q : Nat) : Int) ∣ x := by
 rw [← Int.natAbs_dvd_natAbs] at *
 exact Nat.Coprime.mul_dvd_of_dvd_of_dvd hc h1 h2
section
variable {w : Nat} (hw : 8 ≤ w) (hw2 : w ≤ 10)
include hw hw2
theorem QaI {n : Nat} (m : Nat) (H : Hp) (h : fits n) : Qc tb (m + 1) 1 [.d (nd n), .d (nd w)] H = .ok (nn w n) H :=
 QkQ (w0 hw) (w16 hw2) m n H (Nat.le_trans (QQ (by lia) h) (by lia))
theorem QpI {V M p : Nat} {r : Int} (m : Nat) (H : Hp) (hp : Pm p) (hV : V ≤ 2 ^ 40) (hM : M ≤ 2 ^ 40) (hr : 0 ≤ r ∧ r < p) (h0 : (M : Int) % p ≠ 0) :
  ∃ t, t < p ∧ (p : Int) ∣ ((V + M * t : Nat) : Int) - r ∧ Qc tb (m + 3) 38 [.d (nn w V), .d (nn w M), .d (.int r), .d (nd p), .d (nd w), .fn 46] H = .ok (nn w (V + M * t)) H := by
 obtain ⟨p0, p1, p2⟩ := hp.pos
 obtain ⟨k, HH3⟩ := Qfg hp h0
 haveI hi := HH3.1
 haveI hil := HH3.2
 haveI c1 := QaF (w0 hw) (w16 hw2) (z := (V : Int)) (p := p) (m + 1) H (by rw [Int.natAbs_natCast]; exact Qj hV (by decide)) p0 (by lia)
 haveI c2 := QaF (w0 hw) (w16 hw2) (z := (M : Int)) (p := p) (m + 1) H (by rw [Int.natAbs_natCast]; exact Qj hM (by decide)) p0 (by lia)
 rw [QlY] at c1 c2
 obtain ⟨i, hi'⟩ : ∃ i, i = inv p (((M : Int) % p) % p).toNat := ⟨_, rfl⟩
 haveI hii : i = inv p ((M : Int) % p).toNat := by rw [hi', Int.emod_emod_of_dvd _ (Int.dvd_refl _)]
 rw [← hii] at hi hil
 obtain ⟨t, ht⟩ : ∃ t, t = rs p ((r - (V : Int) % p) * i) := ⟨_, rfl⟩
 haveI htc : (t : Int) = (r - (V : Int) % p) * i % p := by rw [ht]; exact QjT p0 _
 haveI htl : t < p := ht ▸ Qsd p0 _
 haveI hmt : M * t ≤ 2 ^ 40 * 163 := Nat.mul_le_mul hM (by lia)
 haveI c3 := QaI hw hw2 (n := t) (m + 1) H (Qj (p := 163) (by lia) (by decide))
 haveI c4 := QhH (w0 hw) (w16 hw2) (a := M) (b := t) m H (Qj hM (by decide)) (Qj (p := 163) (by lia) (by decide))
 haveI c5 := Qpj (w0 hw) (w16 hw2) (a := V) (b := M * t) (m + 1) H (Qj hV (by decide)) (Qj hmt (by decide))
 haveI hv := Int.emod_nonneg (V : Int) (by lia : (p : Int) ≠ 0)
 haveI hv2 := Int.emod_lt_of_pos (V : Int) (by lia : (0 : Int) < p)
 haveI et : ∀ ρ : Rho, ρ = [.d (nn w V), .d (nn w M), .d (.int r), .d (nd p), .d (nd w), .fn 46, .d (.int ((V : Int) % p)), .d (.int ((M : Int) % p)), .unb] → evE (Qc tb (m + 2)) (.bin .mod (.bin .mul (.bin .sub (.loc 2) (.loc 6)) (.powm (.loc 7) (.bin .sub (.loc 3) (.kd (.int 2))) (.loc 3))) (.loc 3)) ρ H = .ok (.d (nd t)) H := by
  rintro _ rfl
  refine (Qe (Qe (Qe rfl rfl rfl) (QcR (x := (M : Int) % p) rfl rfl p1) (Qah (by lia))) rfl (Qck _ p0)).trans ?_
  rw [← hi', ← htc]
 refine ⟨t, htl, ?_, Qt (f := QcO) rfl rfl (sq (QT (Qa (Qb rfl c1) (Qa (Qb rfl c2) rfl)) rfl) (sq (Qk (et _ rfl)) (Qg (Qy (Qb (Qa rfl (Qa (Qap rfl (Qa rfl (Qa (Qb rfl c3) rfl)) c4) rfl)) c5))))) tk0⟩
 rw [Int.emod_def] at htc
 generalize (r - (V : Int) % p) * i / p = k1 at htc
 haveI e2 := Int.emod_def (V : Int) p
 rw [e2] at htc
 generalize (V : Int) / p = k2 at htc
 refine ⟨(r - (V - p * k2)) * k - M * k1 + k2, ?_⟩
 push_cast
 rw [htc]
 haveI : (M : Int) * ((r - (V - p * k2)) * i - p * k1) = (M * i) * (r - (V - p * k2)) - M * p * k1 := by grind
 rw [this, hi]; grind
end
noncomputable def Fst (f : Nat) : Prop := f = 148 ∨ f = 149 ∨ f = 150 ∨ f = 151
theorem QfI {f : Nat} (h : Fst f) : Pm (nxt f) ∧ Pm (nxt (nxt f)) ∧ Nat.Coprime (nxt f) (nxt (nxt f)) ∧ ((nxt f : Nat) : Int) % (nxt (nxt f) : Nat) ≠ 0 ∧ (f = 148 ∨ f = 149 ∨ f = 150 ∨ f = 151 ∨ f = 157) ∧ (nxt f = 148 ∨ nxt f = 149 ∨ nxt f = 150 ∨ nxt f = 151 ∨ nxt f = 157) ∧ 22499 ≤ nxt f * nxt (nxt f) ∧ nxt f ≤ 157 := by
 rcases h with rfl | rfl | rfl | rfl
 ·exact ⟨.inl rfl, .inr (.inl rfl), by decide, by decide, by decide, by decide, by decide, by decide⟩
 ·exact ⟨.inr (.inl rfl), .inr (.inr (.inl rfl)), by decide, by decide, by decide, by decide, by decide, by decide⟩
 ·exact ⟨.inr (.inl rfl), .inr (.inr (.inl rfl)), by decide, by decide, by decide, by decide, by decide, by decide⟩
 ·exact ⟨.inr (.inr (.inl rfl)), .inr (.inr (.inr rfl)), by decide, by decide, by decide, by decide, by decide, by decide⟩
theorem Qs (q z : Int) : q ∣ z % q - z := ⟨-(z / q), by rw [Int.emod_def]; grind⟩
theorem QiJ {q a b c d : Int} : q ∣ ((a % q) * (d % q) - (b % q) * (c % q)) % q - (a * d - b * c) := by
 rw [Int.emod_def (_ - _), Int.emod_def a, Int.emod_def b, Int.emod_def c, Int.emod_def d]
 generalize a / q = k1
 generalize b / q = k2
 generalize c / q = k3
 generalize d / q = k4
 generalize ((a - q * k1) * (d - q * k4) - (b - q * k2) * (c - q * k3)) / q = k0
 exact ⟨-k0 - k1 * d - a * k4 + q * k1 * k4 + k2 * c + b * k3 - q * k2 * k3, by grind⟩
section
variable {w : Nat} (hw : 8 ≤ w) (hw2 : w ≤ 10)
include hw hw2
theorem QlW {a b c d : Int} {q : Nat} (m : Nat) (H : Hp) {ρ : Rho} {e e1 : PE} {k k2 kp kw : Nat} (he : evI (Qc tb (m + 1)) (.seq e) ρ H = .ok [rw' w [a, b], rw' w [c, d]] H) (hb : Bnd (2 ^ 20) [[a, b], [c, d]]) (p0 : 0 < q) (p2 : q ≤ 163) (h1 : ∀ r : D, evI (Qc tb (m + 1)) (.seq e1) (st ρ k (.d r)) H = evI (Qc tb (m + 1)) (.seq (.kd r)) ρ H) (hel : ∀ (r z : D), evEs (Qc tb (m + 1)) (.cons (.loc k2) (.cons (.loc kp) (.cons (.loc kw) .nil))) (st (st ρ k (.d r)) k2 (.d z)) H = .ok [.d z, .d (nd q), .d (nd w)] H) :
  evE (Qc tb (m + 1)) (.mk false (.comp (.mk false (.comp (.call 32 (.cons (.loc k2) (.cons (.loc kp) (.cons (.loc kw) .nil)))) (.one k2) (.seq e1))) (.one k) (.seq e))) ρ H = .ok (.d (ml [[a % q, b % q], [c % q, d % q]])) H := by
 haveI hr : ∀ r : List Int, r ∈ [[a, b], [c, d]] → evE (Qc tb (m + 1)) (.mk false (.comp (.call 32 (.cons (.loc k2) (.cons (.loc kp) (.cons (.loc kw) .nil)))) (.one k2) (.seq e1))) (st ρ k (.d (rw' w r))) H = .ok (.d (.list (r.map (fun z => .int (z % (q : Int)))))) H := by
  intro r hr
  exact Qu (Qo (xs := r.map (sg w)) (by rw [h1]; rfl) (Qam (sg w) (fun z => .int (z % (q : Int))) r _ (fun z hz => Qb (hel _ _) (QaF (by lia) (by lia) m H (Qj (hb r hr z hz) (by decide)) p0 (by lia)))))
 exact (Qu (Qo (xs := [[a, b], [c, d]].map (rw' w)) he (Qam (rw' w) (fun r => .list (r.map (fun z => .int (z % (q : Int))))) [[a, b], [c, d]] _ hr)))
theorem QoB {a b c d D : Int} {V M pp q f W : Nat} (m base : Nat) (H : Hp) (hD : D = a * d - b * c) (hb : Bnd (2 ^ 20) [[a, b], [c, d]]) (hq : q = nxt pp) (hpp : pp = 148 ∨ pp = 149 ∨ pp = 150 ∨ pp = 151 ∨ pp = 157) (hP : Pm q) (h0 : (M : Int) % q ≠ 0) (hc : Nat.Coprime M q) (hV : V < M) (hM : M ≤ 2 ^ 20) (hd : (M : Int) ∣ V - D) (v8 v9 v10 : Mine.V) :
  Ex4 fun V' v8' v9' v10' => V' < M * q ∧ ((M * q : Nat) : Int) ∣ V' - D ∧ exB (Qc tb (m + 4)) base B_det_primes_0 [.d (mt w [[a, b], [c, d]]), .d (nd w), .fn 46, .d (nd f), .d (nn w W), .d (nn w V), .d (nn w M), .d (nd pp), v8, v9, v10] H =
   .next [.d (mt w [[a, b], [c, d]]), .d (nd w), .fn 46, .d (nd f), .d (nn w W), .d (nn w V'), .d (nn w (M * q)), .d (nd q), v8', v9', v10'] H := by
 haveI HH3 := hP.pos
 haveI p0 := HH3.1
 haveI p1 := HH3.2.1
 haveI p2 := HH3.2.2
 haveI hm := fun z : Int => And.intro (Int.emod_nonneg z (by lia : (q : Int) ≠ 0)) (Int.emod_lt_of_pos z (by lia : (0 : Int) < q))
 haveI c1 := Qqd (p := pp) (m + 2) H hpp
 rw [← hq] at c1
 haveI c2 := Qmo hP (x := a % q) (y := b % q) (z := c % q) (u := d % q) (m + 3) H (hm a) (hm c)
 obtain ⟨t, HH11⟩ := QpI hw hw2 (V := V) (M := M) (r := (a % q * (d % q) - b % q * (c % q)) % q) (m + 1) H hP (by lia) (by lia) (hm _) h0
 haveI ht := HH11.1
 haveI hdv := HH11.2.1
 haveI c3 := HH11.2.2
 haveI c4 := QaI hw hw2 (n := q) (m + 3) H (Qj p2 (by decide))
 haveI c5 := QhH (w0 hw) (w16 hw2) (a := M) (b := q) (m + 2) H (Qj hM (by decide)) (Qj p2 (by decide))
 haveI er := QlW hw hw2 (a := a) (b := b) (c := c) (d := d) (q := q) (m + 3) H (ρ := [.d (mt w [[a, b], [c, d]]), .d (nd w), .fn 46, .d (nd f), .d (nn w W), .d (nn w V), .d (nn w M), .d (nd q), v8, v9, v10]) (e := .loc 0) (e1 := .loc 9) (k := 9) (k2 := 10) (kp := 7) (kw := 1) rfl hb p0 p2 (fun _ => rfl) (fun _ _ => rfl)
 refine ⟨V + M * t, _, _, _, ?_, ?_, sq (Qk (Qb rfl c1)) (sq (Qk (Qb (Qa er rfl) c2)) (sq (Qk (Qb rfl c3)) (sq (Qk (Qap rfl (Qa rfl (Qa (Qb rfl c4) rfl)) c5)) rfl)))⟩
 ·haveI := Nat.mul_le_mul_left M (Nat.succ_le_of_lt ht)
  rw [Nat.mul_succ] at this; lia
 ·refine Qms hc ?_ ?_
  ·haveI : ((V + M * t : Nat) : Int) - D = (V - D) + M * t := by push_cast; lia
   rw [this]; exact Int.dvd_add hd (Int.dvd_mul_right _ _)
  ·haveI h2 := Int.dvd_add hdv (QiJ (q := q) (a := a) (b := b) (c := c) (d := d))
   rw [hD]
   rwa [show ∀ x y z : Int, x - y + (y - z) = x - z from fun x y z => by lia] at h2
theorem QiS {a b c d : Int} {f B : Nat} (m : Nat) (H : Hp) (hb : Bnd 27 [[a, b], [c, d]]) (hf : Fst f) :
  Qc tb (m + 5) 39 [.d (mt w [[a, b], [c, d]]), .d (nd w), .fn 46, .d (nd f)] H = .ok (sg w (a * d - b * c)) H := by
 have hb20 : Bnd (2 ^ 20) [[a, b], [c, d]] := fun r hr z hz => Nat.le_trans (hb r hr z hz) (by decide)
 haveI HH3 := QfI hf
 haveI P1 := HH3.1
 haveI P2 := HH3.2.1
 haveI co := HH3.2.2.1
 haveI nz1 := HH3.2.2.2.1
 haveI hf1 := HH3.2.2.2.2.1
 haveI hf2 := HH3.2.2.2.2.2.1
 haveI hp12 := HH3.2.2.2.2.2.2.1
 haveI hp1 := HH3.2.2.2.2.2.2.2
 have ba := hb.m22.1
 have bb := hb.m22.2.1
 have bc := hb.m22.2.2.1
 have bd := hb.m22.2.2.2
 obtain ⟨s0, hs0⟩ : ∃ s, s = sumA 0 [a, b] := ⟨_, rfl⟩
 obtain ⟨s1, hs1⟩ : ∃ s, s = sumA 0 [c, d] := ⟨_, rfl⟩
 haveI es0 : s0 = 0 + a.natAbs + b.natAbs := hs0
 haveI es1 : s1 = 0 + c.natAbs + d.natAbs := hs1
 haveI cb := Qcu hw hw2 (r0 := [a, b]) (r1 := [c, d]) (m + 1) H hb20 (by simp) (by simp) (by lia) (by lia)
 rw [← hs0, ← hs1] at cb
 have hWle : 1 * s0 * s1 ≤ 54 * 54 := by rw [Nat.one_mul]; exact Nat.mul_le_mul (by lia) (by lia)
 haveI cw := QaB (w0 hw) (w16 hw2) (a := 1 * s0 * s1) (f := 1) (m + 3) H (Qj hWle (by decide)) (by lia)
 obtain ⟨D, hD⟩ : ∃ D, D = a * d - b * c := ⟨_, rfl⟩
 obtain ⟨W, hW⟩ : ∃ W, W = 1 * s0 * s1 * 2 ^ 1 := ⟨_, rfl⟩
 haveI hDW : 2 * D.natAbs ≤ W := by
  haveI h1 := Int.natAbs_sub_le (a * d) (b * c)
  rw [Int.natAbs_mul, Int.natAbs_mul] at h1
  haveI h2 : s0 * s1 = a.natAbs * c.natAbs + a.natAbs * d.natAbs + (b.natAbs * c.natAbs + b.natAbs * d.natAbs) := by rw [es0, es1]; grind
  rw [hD, hW, Nat.one_mul]; lia
 rw [← hW] at cw
 rw [← hD]
 have ct : ∀ {V M pp : Nat} {v8 v9 v10 : Mine.V}, M ≤ 2 ^ 20 → evE (Qc tb (m + 4)) T_det_primes_0 [.d (mt w [[a, b], [c, d]]), .d (nd w), .fn 46, .d (nd f), .d (nn w W), .d (nn w V), .d (nn w M), .d (nd pp), v8, v9, v10] H = .ok (.d (.bool (decide (M ≤ W)))) H := fun hM => Qf (Qb rfl (Qae (by lia) (m + 3) H (Qj hM (by decide)) (Qj (p := 2 ^ 20) (by lia) (by decide)))) rfl (QhQ _ _)
 haveI loop : Ex6 fun V M pp v8 v9 v10 => Qav (evE (Qc tb (m + 4)) T_det_primes_0) (exB (Qc tb (m + 4)) H.length B_det_primes_0) (4093 + 3) [.d (mt w [[a, b], [c, d]]), .d (nd w), .fn 46, .d (nd f), .d (nn w W), .d (nn w 0), .d (nn w 1), .d (nd f), .unb, .unb, .unb] H = .next [.d (mt w [[a, b], [c, d]]), .d (nd w), .fn 46, .d (nd f), .d (nn w W), .d (nn w V), .d (nn w M), .d (nd pp), v8, v9, v10] H ∧ W < M ∧ V < M ∧ (M : Int) ∣ V - D ∧ M ≤ 2 ^ 20 := by
  by_cases h1 : 1 ≤ W
  ·obtain ⟨V1, u8, u9, u10, HH36⟩ := QoB hw hw2 (V := 0) (M := 1) (f := f) (W := W) m H.length H hD hb20 rfl hf1 P1 (by rcases P1 with h | h | h | h <;> rw [h] <;> decide) (Nat.coprime_one_left _) (by lia) (by lia) ⟨0 - D, by lia⟩ .unb .unb .unb
   haveI l1 := HH36.1
   haveI d1 := HH36.2.1
   haveI e1 := HH36.2.2
   rw [Nat.one_mul] at l1 d1 e1
   by_cases h2 : nxt f ≤ W
   ·obtain ⟨V2, x8, x9, x10, HH42⟩ := QoB hw hw2 (V := V1) (M := nxt f) (f := f) (W := W) m H.length H hD hb20 rfl hf2 P2 nz1 co l1 (by lia) d1 u8 u9 u10
    haveI l2 := HH42.1
    haveI d2 := HH42.2.1
    haveI e2 := HH42.2.2
    haveI HH46 := P2.pos
    haveI q2 := HH46.2.2
    haveI hmm : nxt f * nxt (nxt f) ≤ 157 * 163 := Nat.mul_le_mul hp1 q2
    refine ⟨V2, _, _, _, _, _, QaS ((ct (by lia)).trans (by rw [decide_eq_true h1])) e1 (QaS ((ct (by lia)).trans (by rw [decide_eq_true h2])) e2 (QA ((ct (by lia)).trans (by rw [decide_eq_false (by lia)])))), by lia, l2, d2, by lia⟩
   ·exact ⟨V1, _, _, _, _, _, QaS ((ct (by lia)).trans (by rw [decide_eq_true h1])) e1 (QA ((ct (by lia)).trans (by rw [decide_eq_false h2]))), by lia, l1, d1, by lia⟩
  ·exact ⟨0, 1, f, _, _, _, QA ((ct (by lia)).trans (by rw [decide_eq_false h1])), by lia, by lia, ⟨0 - D, by lia⟩, by lia⟩
 obtain ⟨V, M, pp, v8, v9, v10, e, hWM, hVM, hdv, hM⟩ := loop
 have e0 : nn w 0 = .list [] := rfl
 rw [nn1 hw, e0] at e
 haveI cs := QaB (w0 hw) (w16 hw2) (a := V) (f := 1) (m + 3) H (Qj (p := 2 ^ 20) (by lia) (by decide)) (by lia)
 haveI cc := Qae (w0 hw) (a := V * 2 ^ 1) (b := M) (m + 3) H (Qj (p := 2 ^ 30) (by lia) (by decide)) (Qj hM (by decide))
 by_cases h : M < V * 2 ^ 1
 ·have hz : D = ofS true (M - V) := by
   have := QcM (M := M) (x := V - M - D) (by rw [show (V : Int) - M - D = (V - D) - M from by lia]; exact Int.dvd_sub hdv (Int.dvd_refl _)) (by lia) (by lia)
   unfold ofS; rw [if_pos rfl]; lia
  rw [hz]
  exact Qt (f := QbQ) rfl rfl (sq (Qk (Qb (Qa (Qb rfl cb) rfl) cw)) (sq (QT rfl rfl) (sq (QcE e) (Qg (Qr (z := true) (Qf (Qb (Qa (Qb rfl cs) rfl) cc) rfl ((Qho _ _).trans (congrArg some (decide_eq_true h)))) (Qg (Qy (Qb (Qa rfl (Qa (Qb rfl (Qrp (w0 hw) (w16 hw2) (a := M) (b := V) (m + 2) H (Qj hM (by decide)) (by lia))) rfl)) (QhC hw (m + 3) true (M - V) H))))))))) tk0
 ·have hz : D = ofS false V := by
   have := QcM (M := M) (x := V - D) hdv (by lia) (by lia)
   unfold ofS; rw [if_neg (by decide)]; lia
  rw [hz]
  exact Qt (f := QbQ) rfl rfl (sq (Qk (Qb (Qa (Qb rfl cb) rfl) cw)) (sq (QT rfl rfl) (sq (QcE e) (sq (Qr (z := false) (Qf (Qb (Qa (Qb rfl cs) rfl) cc) rfl ((Qho _ _).trans (congrArg some (decide_eq_false h)))) rfl) (Qg (Qy (Qb rfl (QhC hw (m + 3) false V H)))))))) tk0
end
theorem QqD {cl : Qh} {ρ : Rho} {H H1 : Hp} {e : PE} {xs : List Int} (h : evE cl e ρ H = .ok (.d (il xs)) H1) : evI cl (.seq e) ρ H = .ok (xs.map .int) H1 := Qcp h
section
variable {p : Nat} (hp : Pm p)
include hp
theorem QlU {R : List D} {at' sp n : Nat} {h0 h1 h2 h3 b0 b1 b2 b3 q : Int} (m base : Nat) (H : Hp) (hn : R.length = 2) (hs2 : sp < 2) (hs : idxD R (sp : Int) = some (il [b0, b1, b2, b3])) (ha : idxD R (at' : Int) = some (il [h0, h1, h2, h3])) (hq : idxD ([b0, b1, b2, b3].map PyData.int) (at' : Int) = some (.int q)) (hne : sp ≠ at') (hq2 : q.natAbs ≤ 2 ^ 60)
  (hb : (0 ≤ b0 ∧ b0 < p) ∧ (0 ≤ b1 ∧ b1 < p) ∧ (0 ≤ b2 ∧ b2 < p) ∧ (0 ≤ b3 ∧ b3 < p)) (A SZ v5 v6 v8 v9 v10 v11 : V) :
  Ex4 fun (c0 c1 c2 c3 : Int) => ((0 ≤ c0 ∧ c0 < p) ∧ (0 ≤ c1 ∧ c1 < p) ∧ (0 ≤ c2 ∧ c2 < p) ∧ (0 ≤ c3 ∧ c3 < p)) ∧ ((p : Int) ∣ c0 - (b0 - q * h0) ∧ (p : Int) ∣ c1 - (b1 - q * h1) ∧ (p : Int) ∣ c2 - (b2 - q * h2) ∧ (p : Int) ∣ c3 - (b3 - q * h3)) ∧
  Ex3 fun v8' v9' v10' => exB (Qc tb m) base B_inverse_rests_0 [A, .d (nd p), SZ, .cell H.length, .d (nd at'), v5, v6, .d (nd sp), v8, v9, v10, v11] (H ++ [R]) = .next [A, .d (nd p), SZ, .cell H.length, .d (nd at'), v5, v6, .d (nd sp), v8', v9', v10', v11] (H ++ [R.set sp (il [c0, c1, c2, c3])]) := by
 haveI HH4 := hp.pos
 haveI p0 := HH4.1
 haveI p1 := HH4.2.1
 haveI p2 := HH4.2.2
 haveI hm := fun z : Int => And.intro (Int.emod_nonneg z (by lia : (p : Int) ≠ 0)) (Int.emod_lt_of_pos z (by lia : (0 : Int) < p))
 haveI eq1 : evE (Qc tb m) (.idx (.idx (.loc 3) (.loc 7)) (.loc 4)) [A, .d (nd p), SZ, .cell H.length, .d (nd at'), v5, v6, .d (nd sp), v8, v9, v10, v11] (H ++ [R]) = .ok (.d (.int q)) (H ++ [R]) := Qi (Qi (v := .cell H.length) rfl rfl (getc _ _) hs) rfl rfl hq
 haveI et : evE (Qc tb m) (.and (.cmp .ne (.loc 7) (.loc 4)) (.cmp .ne (.idx (.idx (.loc 3) (.loc 7)) (.loc 4)) (.kd (.int 0)))) [A, .d (nd p), SZ, .cell H.length, .d (nd at'), v5, v6, .d (nd sp), v8, v9, v10, v11] (H ++ [R]) = .ok (.d (.bool (decide (q ≠ 0)))) (H ++ [R]) :=
  Qcl (z := true) (Qf rfl rfl ((QS _ _).trans (congrArg some (decide_eq_true hne)))) (Qf eq1 rfl (Qcx q))
 by_cases h : q = 0
 ·subst h
  haveI HH14 := hb
  haveI g0 := HH14.1
  haveI g1 := HH14.2.1
  haveI g2 := HH14.2.2.1
  haveI g3 := HH14.2.2.2
  refine ⟨b0, b1, b2, b3, ⟨g0, g1, g2, g3⟩, ⟨⟨0, by simp⟩, ⟨0, by simp⟩, ⟨0, by simp⟩, ⟨0, by simp⟩⟩, v8, v9, v10, ?_⟩
  haveI : R.set sp (il [b0, b1, b2, b3]) = R := by
   rw [QaG] at hs
   haveI HH22 := List.getElem?_eq_some_iff.mp hs
   haveI h1 := HH22.1
   haveI h2 := HH22.2
   rw [← h2, List.set_getElem_self]
  rw [this]
  exact sq (Qr (z := false) (et.trans (by rw [decide_eq_false (fun g => g rfl)])) rfl) rfl
 ·haveI es : ∀ (w8 v9 v10 : V) (j : Nat) (x hj : Int), idxD ([h0, h1, h2, h3].map PyData.int) (j : Int) = some (.int hj) → evE (Qc tb m) E_inverse_rests_4 [A, .d (nd p), SZ, .cell H.length, .d (nd at'), v5, v6, .d (nd sp), .d (.int q), .d (nd j), .d (.int x), v11] (H ++ [R]) = .ok (.d (.int ((x - q * hj) % p))) (H ++ [R]) := fun w8 v9 v10 j x hj hh => Qe (Qe rfl (Qe rfl (Qi (Qi (v := .cell H.length) rfl rfl (getc _ _) ha) rfl rfl hh) (Qah hq2)) rfl) rfl (Qck _ p0)
  refine ⟨(b0 - q * h0) % p, (b1 - q * h1) % p, (b2 - q * h2) % p, (b3 - q * h3) % p, ⟨hm _, hm _, hm _, hm _⟩, ⟨Qs _ _, Qs _ _, Qs _ _, Qs _ _⟩, _, _, _, sq (Qr (z := true) (et.trans (by rw [decide_eq_true h])) (sq (Qk eq1) (sq (QaJ (Qu (Qo (Qcq (Qi (v := .cell H.length) rfl rfl (getc _ _) hs)) (Qd rfl (es v8 v9 v10 0 b0 h0 rfl) (Qd rfl (es v8 v9 v10 1 b1 h1 rfl) (Qd rfl (es v8 v9 v10 2 b2 h2 rfl) (Qd rfl (es v8 v9 v10 3 b3 h3 rfl) Ql)))))) rfl rfl (set1 _ _ _ _ (by lia))) rfl))) rfl⟩
omit hp in
theorem Qoz (m base : Nat) (H : Hp) (R : List D) (k : Nat) (A P SZ v5 v6 v8 v9 v10 v11 : V) : exB (Qc tb m) base B_inverse_rests_0 [A, P, SZ, .cell H.length, .d (nd k), v5, v6, .d (nd k), v8, v9, v10, v11] (H ++ [R]) = .next [A, P, SZ, .cell H.length, .d (nd k), v5, v6, .d (nd k), v8, v9, v10, v11] (H ++ [R]) :=
 sq (Qr (z := false) (Qcl (z := false) (Qf rfl rfl ((QS k k).trans (congrArg some (decide_eq_false (fun h => h rfl))))) rfl) rfl) rfl
end
noncomputable def Rg (p : Nat) (z : Int) : Prop := 0 ≤ z ∧ z < p
noncomputable def Rg4 (p : Nat) (a b c d : Int) : Prop := Rg p a ∧ Rg p b ∧ Rg p c ∧ Rg p d
noncomputable def Cg4 (p : Nat) (a b c d a' b' c' d' : Int) : Prop := (p : Int) ∣ a - a' ∧ (p : Int) ∣ b - b' ∧ (p : Int) ∣ c - c' ∧ (p : Int) ∣ d - d'
noncomputable def r24 (a b c d e f g h : Int) : List D := [il [a, b, c, d], il [e, f, g, h]]
section
variable {p : Nat} (hp : Pm p)
include hp
theorem Qlw (m : Nat) (H : Hp) {R : List D} {k t : Nat} {a0 a1 a2 a3 : Int} (hr : idxD R (k : Int) = some (il [a0, a1, a2, a3])) (h0 : a0.natAbs ≤ 2 ^ 60) (h1 : a1.natAbs ≤ 2 ^ 60) (h2 : a2.natAbs ≤ 2 ^ 60) (h3 : a3.natAbs ≤ 2 ^ 60) (A SZ v5 v7 v8 v9 v10 v11 : V) :
  evE (Qc tb m) (.mk false (.comp E_inverse_rests_3 (.one 9) (.seq (.idx (.loc 3) (.loc 4))))) [A, .d (nd p), SZ, .cell H.length, .d (nd k), v5, .d (nd t), v7, v8, v9, v10, v11] (H ++ [R]) = .ok (.d (il [a0 * t % p, a1 * t % p, a2 * t % p, a3 * t % p])) (H ++ [R]) := by
 haveI HH2 := hp.pos
 haveI p0 := HH2.1
 haveI p1 := HH2.2.1
 haveI p2 := HH2.2.2
 haveI e : ∀ {z : Int} (h : z.natAbs ≤ 2 ^ 60), evE (Qc tb m) E_inverse_rests_3 [A, .d (nd p), SZ, .cell H.length, .d (nd k), v5, .d (nd t), v7, v8, .d (.int z), v10, v11] (H ++ [R]) = .ok (.d (.int (z * t % p))) (H ++ [R]) := fun h => Qe (Qe rfl rfl (Qah h)) rfl (Qck _ p0)
 exact Qu (Qo (QqD (Qi (v := .cell H.length) rfl rfl (getc _ _) hr)) (Qd rfl (e h0) (Qd rfl (e h1) (Qd rfl (e h2) (Qd rfl (e h3) Ql)))))
omit hp in
theorem Qbz {z : Int} (h : Rg p z) (p2 : p ≤ 163) : z.natAbs ≤ 2 ^ 60 := by obtain ⟨h1, h2⟩ := h; lia
theorem Qmk (m base : Nat) (H : Hp) {a0 a1 a2 a3 b0 b1 b2 b3 : Int} (ha : Rg4 p a0 a1 a2 a3) (hb : Rg4 p b0 b1 b2 b3) (A v5 v6 v7 v8 v9 v10 v11 : V) :
  ∃ t : Nat, t = inv p (a0 % (p : Int)).toNat ∧ Ex4 fun (c0 c1 c2 c3 : Int) => Rg4 p c0 c1 c2 c3 ∧ Cg4 p c0 c1 c2 c3 (b0 - b0 * (a0 * t % p)) (b1 - b0 * (a1 * t % p)) (b2 - b0 * (a2 * t % p)) (b3 - b0 * (a3 * t % p)) ∧
  Ex5 fun v6' v7' v8' v9' v10' => exB (Qc tb m) base B_inverse_rests_1.tl.tl.tl [A, .d (nd p), .d (nd 2), .cell H.length, .d (nd 0), v5, v6, v7, v8, v9, v10, v11] (H ++ [r24 a0 a1 a2 a3 b0 b1 b2 b3]) = .next [A, .d (nd p), .d (nd 2), .cell H.length, .d (nd 0), v5, v6', v7', v8', v9', v10', v11] (H ++ [r24 (a0 * t % p) (a1 * t % p) (a2 * t % p) (a3 * t % p) c0 c1 c2 c3]) := by
 haveI HH3 := hp.pos
 haveI p0 := HH3.1
 haveI p1 := HH3.2.1
 haveI p2 := HH3.2.2
 haveI HH7 := ha
 haveI g0 := HH7.1
 haveI g1 := HH7.2.1
 haveI g2 := HH7.2.2.1
 haveI g3 := HH7.2.2.2
 haveI hb' := hb
 haveI HH13 := hb'
 haveI f0 := HH13.1
 haveI f1 := HH13.2.1
 haveI f2 := HH13.2.2.1
 haveI f3 := HH13.2.2.2
 obtain ⟨t, ht⟩ : ∃ t, t = inv p (a0 % (p : Int)).toNat := ⟨_, rfl⟩
 haveI es := Qlw hp m H (R := r24 a0 a1 a2 a3 b0 b1 b2 b3) (k := 0) (t := t) (a0 := a0) (a1 := a1) (a2 := a2) (a3 := a3) rfl (Qbz g0 p2) (Qbz g1 p2) (Qbz g2 p2) (Qbz g3 p2) A (.d (nd 2)) v5 v7 v8 v9 v10 v11
 haveI ep := QcR (cl := Qc tb m) (ρ := [A, .d (nd p), .d (nd 2), .cell H.length, .d (nd 0), v5, v6, v7, v8, v9, v10, v11]) (H := H ++ [r24 a0 a1 a2 a3 b0 b1 b2 b3]) (e := .idx (.idx (.loc 3) (.loc 4)) (.loc 4)) (x := a0) (k := 1) (Qi (Qi (v := .cell H.length) (z := il [a0, a1, a2, a3]) rfl rfl (getc _ _) rfl) rfl rfl rfl) rfl p1
 rw [← ht] at ep
 obtain ⟨c0, c1, c2, c3, hc, hd, w8, w9, w10, ec⟩ := QlU hp (R := r24 (a0 * t % p) (a1 * t % p) (a2 * t % p) (a3 * t % p) b0 b1 b2 b3) (at' := 0) (sp := 1) (h0 := a0 * t % p) (h1 := a1 * t % p) (h2 := a2 * t % p) (h3 := a3 * t % p) (b0 := b0) (b1 := b1) (b2 := b2) (b3 := b3) (q := b0) (n := 0) m base H rfl (by lia) rfl rfl rfl (by lia) (Qbz f0 p2) hb A (.d (nd 2)) v5 (.d (nd t)) v8 v9 v10 v11
 exact ⟨t, ht, c0, c1, c2, c3, hc, hd, _, _, _, _, _, sq (Qk ep) (sq (QaJ es rfl rfl (set1 _ _ 0 _ (by simp [r24]))) (sq (QP (xs := [nd 0, nd 1]) ((QM (n := 2) rfl (by lia)).trans rfl) (Qq rfl (Qoz m base H (r24 (a0 * t % p) (a1 * t % p) (a2 * t % p) (a3 * t % p) b0 b1 b2 b3) 0 A (.d (nd p)) (.d (nd 2)) v5 (.d (nd t)) v8 v9 v10 v11) (Qq rfl ec Qau))) rfl))⟩
theorem QoZ (m base : Nat) (H : Hp) {g0 g1 g2 g3 c0 c1 c2 c3 : Int} (hg : Rg4 p g0 g1 g2 g3) (hc : Rg4 p c0 c1 c2 c3) (A v5 v6 v7 v8 v9 v10 v11 : V) :
  ∃ t : Nat, t = inv p (c1 % (p : Int)).toNat ∧ Ex4 fun (k0 k1 k2 k3 : Int) => Cg4 p k0 k1 k2 k3 (g0 - g1 * (c0 * t % p)) (g1 - g1 * (c1 * t % p)) (g2 - g1 * (c2 * t % p)) (g3 - g1 * (c3 * t % p)) ∧ Rg4 p k0 k1 k2 k3 ∧
  Ex5 fun v6' v7' v8' v9' v10' => exB (Qc tb m) base B_inverse_rests_1.tl.tl.tl [A, .d (nd p), .d (nd 2), .cell H.length, .d (nd 1), v5, v6, v7, v8, v9, v10, v11] (H ++ [r24 g0 g1 g2 g3 c0 c1 c2 c3]) = .next [A, .d (nd p), .d (nd 2), .cell H.length, .d (nd 1), v5, v6', v7', v8', v9', v10', v11] (H ++ [r24 k0 k1 k2 k3 (c0 * t % p) (c1 * t % p) (c2 * t % p) (c3 * t % p)]) := by
 haveI HH3 := hp.pos
 haveI p0 := HH3.1
 haveI p1 := HH3.2.1
 haveI p2 := HH3.2.2
 haveI hg' := hg
 haveI HH8 := hg'
 haveI f0 := HH8.1
 haveI f1 := HH8.2.1
 haveI f2 := HH8.2.2.1
 haveI f3 := HH8.2.2.2
 haveI HH13 := hc
 haveI q0 := HH13.1
 haveI q1 := HH13.2.1
 haveI q2 := HH13.2.2.1
 haveI q3 := HH13.2.2.2
 obtain ⟨t, ht⟩ : ∃ t, t = inv p (c1 % (p : Int)).toNat := ⟨_, rfl⟩
 haveI es := Qlw hp m H (R := r24 g0 g1 g2 g3 c0 c1 c2 c3) (k := 1) (t := t) (a0 := c0) (a1 := c1) (a2 := c2) (a3 := c3) rfl (Qbz q0 p2) (Qbz q1 p2) (Qbz q2 p2) (Qbz q3 p2) A (.d (nd 2)) v5 v7 v8 v9 v10 v11
 haveI ep := QcR (cl := Qc tb m) (ρ := [A, .d (nd p), .d (nd 2), .cell H.length, .d (nd 1), v5, v6, v7, v8, v9, v10, v11]) (H := H ++ [r24 g0 g1 g2 g3 c0 c1 c2 c3]) (e := .idx (.idx (.loc 3) (.loc 4)) (.loc 4)) (x := c1) (k := 1) (Qi (Qi (v := .cell H.length) (z := il [c0, c1, c2, c3]) rfl rfl (getc _ _) rfl) rfl rfl rfl) rfl p1
 rw [← ht] at ep
 obtain ⟨k0, k1, k2, k3, hk, hd, w8, w9, w10, ec⟩ := QlU hp (R := r24 g0 g1 g2 g3 (c0 * t % p) (c1 * t % p) (c2 * t % p) (c3 * t % p)) (at' := 1) (sp := 0) (h0 := c0 * t % p) (h1 := c1 * t % p) (h2 := c2 * t % p) (h3 := c3 * t % p) (b0 := g0) (b1 := g1) (b2 := g2) (b3 := g3) (q := g1) (n := 0) m base H rfl (by lia) rfl rfl rfl (by lia) (Qbz f1 p2) hg A (.d (nd 2)) v5 (.d (nd t)) v8 v9 v10 v11
 exact ⟨t, ht, k0, k1, k2, k3, hd, hk, _, _, _, _, _, sq (Qk ep) (sq (QaJ es rfl rfl (set1 _ _ 1 _ (by simp [r24]))) (sq (QP (xs := [nd 0, nd 1]) ((QM (n := 2) rfl (by lia)).trans rfl) (Qq rfl ec (Qq rfl (Qoz m base H (r24 k0 k1 k2 k3 (c0 * t % p) (c1 * t % p) (c2 * t % p) (c3 * t % p)) 1 A (.d (nd p)) (.d (nd 2)) v5 (.d (nd t)) w8 w9 w10 v11) Qau))) rfl))⟩
end
inductive IrE (p : Nat) (g0 g1 g2 g3 c0 c1 c2 c3 : Int) (run : O) (A C v11 : V) (H : Hp) : Prop
 | mk (j e0 e1 e2 e3 k0 k1 k2 k3 : Int) (w5 w6 w7 w8 w9 w10 : V) (hj : (p : Int) ∣ c1 * j - 1) (he : Cg4 p e0 e1 e2 e3 (c0 * j) (c1 * j) (c2 * j) (c3 * j)) (hk : Cg4 p k0 k1 k2 k3 (g0 - g1 * e0) (g1 - g1 * e1) (g2 - g1 * e2) (g3 - g1 * e3)) (re : Rg4 p e0 e1 e2 e3) (rk : Rg4 p k0 k1 k2 k3)
  (e : run = .next [A, .d (nd p), .d (nd 2), C, .d (nd 1), w5, w6, w7, w8, w9, w10, v11] (H ++ [r24 k0 k1 k2 k3 e0 e1 e2 e3]))
inductive Sw (a0 a1 a2 a3 b0 b1 b2 b3 : Int) : Int → Int → Int → Int → Int → Int → Int → Int → Prop
 | same : Sw a0 a1 a2 a3 b0 b1 b2 b3 a0 a1 a2 a3 b0 b1 b2 b3
 | swap (h : a0 = 0) : Sw a0 a1 a2 a3 b0 b1 b2 b3 b0 b1 b2 b3 a0 a1 a2 a3
inductive IrS (p : Nat) (a0 a1 a2 a3 b0 b1 b2 b3 : Int) (run : O) (A C v11 : V) (H : Hp) : Prop
 | mk (s0 s1 s2 s3 q0 q1 q2 q3 i g0 g1 g2 g3 c0 c1 c2 c3 : Int) (w5 w6 w7 w8 w9 w10 : V) (hs : Sw a0 a1 a2 a3 b0 b1 b2 b3 s0 s1 s2 s3 q0 q1 q2 q3) (hi : (p : Int) ∣ s0 * i - 1) (hg : Cg4 p g0 g1 g2 g3 (s0 * i) (s1 * i) (s2 * i) (s3 * i)) (hc : Cg4 p c0 c1 c2 c3 (q0 - q0 * g0) (q1 - q0 * g1) (q2 - q0 * g2) (q3 - q0 * g3)) (rg : Rg4 p g0 g1 g2 g3) (rc : Rg4 p c0 c1 c2 c3)
  (e : run = .next [A, .d (nd p), .d (nd 2), C, .d (nd 0), w5, w6, w7, w8, w9, w10, v11] (H ++ [r24 g0 g1 g2 g3 c0 c1 c2 c3]))
noncomputable def Undo (p : Nat) (x y z u i j k l : Int) : Prop := (p : Int) ∣ x * i + y * k - 1 ∧ (p : Int) ∣ x * j + y * l ∧ (p : Int) ∣ z * i + u * k ∧ (p : Int) ∣ z * j + u * l - 1
theorem lin1 {p k g h e y i s : Int} (h1 : p ∣ k - (g - h * e)) (h2 : p ∣ g - s * i) (h3 : p ∣ h - y * i) : ∃ A, k = s * i - y * i * e + p * A := by
 obtain ⟨a, h1⟩ := h1
 obtain ⟨b, h2⟩ := h2
 obtain ⟨c, h3⟩ := h3
 refine ⟨a + b - e * c, ?_⟩
 obtain rfl : k = g - h * e + p * a := by lia
 obtain rfl : g = s * i + p * b := by lia
 obtain rfl : h = y * i + p * c := by lia
 grind
theorem lin2 {p e c j g s z t i : Int} (h1 : p ∣ e - c * j) (h2 : p ∣ c - (s - z * g)) (h3 : p ∣ g - t * i) : ∃ A, e = (s - z * (t * i)) * j + p * A := by
 obtain ⟨a, h1⟩ := h1
 obtain ⟨b, h2⟩ := h2
 obtain ⟨d, h3⟩ := h3
 refine ⟨a + j * b - z * j * d, ?_⟩
 obtain rfl : e = c * j + p * a := by lia
 obtain rfl : c = s - z * g + p * b := by lia
 obtain rfl : g = t * i + p * d := by lia
 grind
theorem lin3 {p c j g u z y i : Int} (h1 : p ∣ c * j - 1) (h2 : p ∣ c - (u - z * g)) (h3 : p ∣ g - y * i) : ∃ A, (u - z * (y * i)) * j = 1 + p * A := by
 obtain ⟨a, h1⟩ := h1
 obtain ⟨b, h2⟩ := h2
 obtain ⟨d, h3⟩ := h3
 refine ⟨a - j * b + z * j * d, ?_⟩
 obtain rfl : c = u - z * g + p * b := by lia
 obtain rfl : g = y * i + p * d := by lia
 haveI : (u - z * (y * i + p * d) + p * b) * j = 1 + p * a := by lia
 grind
theorem finA {p x y z u i j A B C E F i' : Int} {k2 k3 e2 e3 : Int} (hi : x * i = 1 + p * i') (h2 : k2 = 1 * i - y * i * e2 + p * A) (h3 : k3 = 0 * i - y * i * e3 + p * B) (h4 : e2 = (0 - z * (1 * i)) * j + p * C) (h5 : e3 = (1 - z * (0 * i)) * j + p * E) (h6 : (u - z * (y * i)) * j = 1 + p * F) :
  x * k2 + y * e2 - 1 = p * (x * A + (1 - y * e2) * i') ∧ x * k3 + y * e3 = p * (x * B - y * e3 * i') ∧ z * k2 + u * e2 = p * (z * A + (u - z * (y * i)) * C - z * i * F) ∧ z * k3 + u * e3 - 1 = p * (z * B + (u - z * (y * i)) * E + F) := by
 refine ⟨?_, ?_, ?_, ?_⟩
 ·clear h3 h4 h5 h6; subst h2; grind
 ·clear h2 h4 h5 h6; subst h3; grind
 ·clear h3 h5 hi; subst h2
  haveI e1 : z * (1 * i - y * i * e2 + p * A) + u * e2 = z * i + (u - z * (y * i)) * e2 + p * (z * A) := by clear h4 h6; grind
  rw [e1]
  generalize u - z * (y * i) = G at *
  subst h4
  grind
 ·clear h2 h4 hi; subst h3
  haveI e1 : z * (0 * i - y * i * e3 + p * B) + u * e3 - 1 = (u - z * (y * i)) * e3 - 1 + p * (z * B) := by clear h5 h6; grind
  rw [e1]
  generalize u - z * (y * i) = G at *
  subst h5
  grind
theorem QuC {p : Nat} {x y z u i j g0 g1 g2 g3 c0 c1 c2 c3 e0 e1 e2 e3 k0 k1 k2 k3 : Int} (hi : (p : Int) ∣ x * i - 1) (hg : Cg4 p g0 g1 g2 g3 (x * i) (y * i) (1 * i) (0 * i)) (hc : Cg4 p c0 c1 c2 c3 (z - z * g0) (u - z * g1) (0 - z * g2) (1 - z * g3)) (hj : (p : Int) ∣ c1 * j - 1) (he : Cg4 p e0 e1 e2 e3 (c0 * j) (c1 * j) (c2 * j) (c3 * j)) (hk : Cg4 p k0 k1 k2 k3 (g0 - g1 * e0) (g1 - g1 * e1) (g2 - g1 * e2) (g3 - g1 * e3)) : Undo p x y z u k2 k3 e2 e3 := by
 obtain ⟨i', hi⟩ := hi
 obtain ⟨A, hA⟩ := lin1 hk.2.2.1 hg.2.2.1 hg.2.1
 obtain ⟨B, hB⟩ := lin1 hk.2.2.2 hg.2.2.2 hg.2.1
 obtain ⟨C, hC⟩ := lin2 he.2.2.1 hc.2.2.1 hg.2.2.1
 obtain ⟨E, hE⟩ := lin2 he.2.2.2 hc.2.2.2 hg.2.2.2
 obtain ⟨F, hF⟩ := lin3 hj hc.2.1 hg.2.1
 haveI HH7 := finA (i' := i') (x := x) (i := i) (by lia) hA hB hC hE hF
 haveI f1 := HH7.1
 haveI f2 := HH7.2.1
 haveI f3 := HH7.2.2.1
 haveI f4 := HH7.2.2.2
 exact ⟨⟨_, f1⟩, ⟨_, f2⟩, ⟨_, f3⟩, ⟨_, f4⟩⟩
theorem finB {p y z u i j A B C E F i' : Int} {k2 k3 e2 e3 : Int} (hi : z * i = 1 + p * i') (h2 : k2 = 0 * i - u * i * e2 + p * A) (h3 : k3 = 1 * i - u * i * e3 + p * B) (h4 : e2 = (1 - 0 * (0 * i)) * j + p * C) (h5 : e3 = (0 - 0 * (1 * i)) * j + p * E) (h6 : (y - 0 * (u * i)) * j = 1 + p * F) :
  0 * k2 + y * e2 - 1 = p * (y * C + F) ∧ 0 * k3 + y * e3 = p * (y * E) ∧ z * k2 + u * e2 = p * (z * A - u * e2 * i') ∧ z * k3 + u * e3 - 1 = p * (z * B + i' - u * e3 * i') := by
 refine ⟨?_, ?_, ?_, ?_⟩
 ·clear h2 h3 h5 hi; subst h4; grind
 ·clear h2 h3 h4 h6 hi; subst h5; grind
 ·clear h3 h4 h5 h6; subst h2; grind
 ·clear h2 h4 h5 h6; subst h3; grind
theorem Que {p : Nat} {y z u i j g0 g1 g2 g3 c0 c1 c2 c3 e0 e1 e2 e3 k0 k1 k2 k3 : Int} (hi : (p : Int) ∣ z * i - 1) (hg : Cg4 p g0 g1 g2 g3 (z * i) (u * i) (0 * i) (1 * i)) (hc : Cg4 p c0 c1 c2 c3 (0 - 0 * g0) (y - 0 * g1) (1 - 0 * g2) (0 - 0 * g3)) (hj : (p : Int) ∣ c1 * j - 1) (he : Cg4 p e0 e1 e2 e3 (c0 * j) (c1 * j) (c2 * j) (c3 * j)) (hk : Cg4 p k0 k1 k2 k3 (g0 - g1 * e0) (g1 - g1 * e1) (g2 - g1 * e2) (g3 - g1 * e3)) : Undo p 0 y z u k2 k3 e2 e3 := by
 obtain ⟨i', hi⟩ := hi
 obtain ⟨A, hA⟩ := lin1 hk.2.2.1 hg.2.2.1 hg.2.1
 obtain ⟨B, hB⟩ := lin1 hk.2.2.2 hg.2.2.2 hg.2.1
 obtain ⟨C, hC⟩ := lin2 he.2.2.1 hc.2.2.1 hg.2.2.1
 obtain ⟨E, hE⟩ := lin2 he.2.2.2 hc.2.2.2 hg.2.2.2
 obtain ⟨F, hF⟩ := lin3 hj hc.2.1 hg.2.1
 haveI HH7 := finB (i' := i') (z := z) (i := i) (by lia) hA hB hC hE hF
 haveI f1 := HH7.1
 haveI f2 := HH7.2.1
 haveI f3 := HH7.2.2.1
 haveI f4 := HH7.2.2.2
 exact ⟨⟨_, f1⟩, ⟨_, f2⟩, ⟨_, f3⟩, ⟨_, f4⟩⟩
theorem QhX (p : Nat) (a b c d : Int) : Cg4 p (a % p) (b % p) (c % p) (d % p) a b c d := ⟨Qs _ _, Qs _ _, Qs _ _, Qs _ _⟩
section
variable {p : Nat} (hp : Pm p)
include hp
omit hp in
theorem Qtj (cl : Qh) (H : Hp) (a0 a1 a2 a3 b0 b1 b2 b3 : Int) (A P v5 v6 v7 v8 v9 v10 v11 : V) : evE cl (.mk false (.compIf E_inverse_rests_2 (.one 9) (.range2 (.loc 4) (.loc 2)) (.cmp .ne (.idx (.idx (.loc 3) (.loc 9)) (.loc 4)) (.kd (.int 0))))) [A, P, .d (nd 2), .cell H.length, .d (nd 0), v5, v6, v7, v8, v9, v10, v11] (H ++ [r24 a0 a1 a2 a3 b0 b1 b2 b3]) = .ok (.d (.list (spt a0 0 ++ spt b0 1))) (H ++ [r24 a0 a1 a2 a3 b0 b1 b2 b3]) := by
 haveI t0 : evE cl (.cmp .ne (.idx (.idx (.loc 3) (.loc 9)) (.loc 4)) (.kd (.int 0))) [A, P, .d (nd 2), .cell H.length, .d (nd 0), v5, v6, v7, v8, .d (nd 0), v10, v11] (H ++ [r24 a0 a1 a2 a3 b0 b1 b2 b3]) = .ok (.d (.bool (decide (a0 ≠ 0)))) (H ++ [r24 a0 a1 a2 a3 b0 b1 b2 b3]) := Qf (Qi (Qi (v := .cell H.length) (z := il [a0, a1, a2, a3]) rfl rfl (getc _ _) rfl) rfl rfl rfl) rfl (Qcx a0)
 haveI t1 : evE cl (.cmp .ne (.idx (.idx (.loc 3) (.loc 9)) (.loc 4)) (.kd (.int 0))) [A, P, .d (nd 2), .cell H.length, .d (nd 0), v5, v6, v7, v8, .d (nd 1), v10, v11] (H ++ [r24 a0 a1 a2 a3 b0 b1 b2 b3]) = .ok (.d (.bool (decide (b0 ≠ 0)))) (H ++ [r24 a0 a1 a2 a3 b0 b1 b2 b3]) := Qf (Qi (Qi (v := .cell H.length) (z := il [b0, b1, b2, b3]) rfl rfl (getc _ _) rfl) rfl rfl rfl) rfl (Qcx b0)
 refine Qu (QcJ ((Qag (k := 0) (n := 2) rfl rfl (by lia) (by lia)).trans rfl : _ = R.ok [nd 0, nd 1] _) ?_)
 unfold spt
 by_cases hx : a0 = 0 <;> by_cases hz : b0 = 0
 ·rw [if_pos hx, if_pos hz]
  exact Qba rfl (t0.trans (by rw [decide_eq_false (fun h => h hx)])) (Qba rfl (t1.trans (by rw [decide_eq_false (fun h => h hz)])) rfl)
 ·rw [if_pos hx, if_neg hz]
  exact Qba rfl (t0.trans (by rw [decide_eq_false (fun h => h hx)])) (Qax rfl (t1.trans (by rw [decide_eq_true hz])) rfl rfl)
 ·rw [if_neg hx, if_pos hz]
  exact Qax rfl (t0.trans (by rw [decide_eq_true hx])) rfl (Qba rfl (t1.trans (by rw [decide_eq_false (fun h => h hz)])) rfl)
 ·rw [if_neg hx, if_neg hz]
  exact Qax rfl (t0.trans (by rw [decide_eq_true hx])) rfl (Qax rfl (t1.trans (by rw [decide_eq_true hz])) rfl rfl)
omit hp in
theorem Qss (cl : Qh) (H : Hp) (a0 a1 a2 a3 b0 b1 b2 b3 : Int) (A P v5 v6 v7 v8 v9 v10 v11 : V) : evE cl (.mk false (.compIf E_inverse_rests_2 (.one 9) (.range2 (.loc 4) (.loc 2)) (.cmp .ne (.idx (.idx (.loc 3) (.loc 9)) (.loc 4)) (.kd (.int 0))))) [A, P, .d (nd 2), .cell H.length, .d (nd 1), v5, v6, v7, v8, v9, v10, v11] (H ++ [r24 a0 a1 a2 a3 b0 b1 b2 b3]) = .ok (.d (.list (spt b1 1))) (H ++ [r24 a0 a1 a2 a3 b0 b1 b2 b3]) := by
 haveI t1 : evE cl (.cmp .ne (.idx (.idx (.loc 3) (.loc 9)) (.loc 4)) (.kd (.int 0))) [A, P, .d (nd 2), .cell H.length, .d (nd 1), v5, v6, v7, v8, .d (nd 1), v10, v11] (H ++ [r24 a0 a1 a2 a3 b0 b1 b2 b3]) = .ok (.d (.bool (decide (b1 ≠ 0)))) (H ++ [r24 a0 a1 a2 a3 b0 b1 b2 b3]) := Qf (Qi (Qi (v := .cell H.length) (z := il [b0, b1, b2, b3]) rfl rfl (getc _ _) rfl) rfl rfl rfl) rfl (Qcx b1)
 refine Qu (QcJ ((Qag (k := 1) (n := 2) rfl rfl (by lia) (by lia)).trans rfl : _ = R.ok [nd 1] _) ?_)
 unfold spt
 by_cases hu : b1 = 0
 ·rw [if_pos hu]; exact Qba rfl (t1.trans (by rw [decide_eq_false (fun h => h hu)])) rfl
 ·rw [if_neg hu]; exact Qax rfl (t1.trans (by rw [decide_eq_true hu])) rfl rfl
theorem Qse (m : Nat) (H : Hp) {g0 g1 g2 g3 c0 c1 c2 c3 : Int} (hg : Rg4 p g0 g1 g2 g3) (hc : Rg4 p c0 c1 c2 c3) (A v5 v6 v7 v8 v9 v10 v11 : V) :
  (c1 = 0 ∧ exB (Qc tb m) H.length B_inverse_rests_1 [A, .d (nd p), .d (nd 2), .cell H.length, .d (nd 1), v5, v6, v7, v8, v9, v10, v11] (H ++ [r24 g0 g1 g2 g3 c0 c1 c2 c3]) = .ret .none (H ++ [r24 g0 g1 g2 g3 c0 c1 c2 c3])) ∨
  IrE p g0 g1 g2 g3 c0 c1 c2 c3 (exB (Qc tb m) H.length B_inverse_rests_1 [A, .d (nd p), .d (nd 2), .cell H.length, .d (nd 1), v5, v6, v7, v8, v9, v10, v11] (H ++ [r24 g0 g1 g2 g3 c0 c1 c2 c3])) A (.cell H.length) v11 H := by
 haveI HH4 := hp.pos
 haveI p0 := HH4.1
 haveI p1 := HH4.2.1
 haveI p2 := HH4.2.2
 haveI es := Qss (Qc tb m) H g0 g1 g2 g3 c0 c1 c2 c3 A (.d (nd p)) v5 v6 v7 v8 v9 v10 v11
 by_cases h : c1 = 0
 ·rw [spt, if_pos h] at es
  exact .inl ⟨h, sq (Qk es) (Qg (Qr (z := true) rfl (Qg (Qy rfl))))⟩
 ·rw [spt, if_neg h] at es
  obtain ⟨t, ht, k0, k1, k2, k3, hk, hkr, w6, w7, w8, w9, w10, e⟩ := QoZ hp m H.length H hg hc A (.d (.list [nd 1])) v6 v7 v8 v9 v10 v11
  obtain ⟨K, HH14⟩ := Qfg hp (z := c1) (by rw [Int.emod_eq_of_lt hc.2.1.1 hc.2.1.2]; exact h)
  haveI hK := HH14.1
  rw [← ht] at hK
  haveI hm := fun z : Int => (⟨Int.emod_nonneg z (by lia : (p : Int) ≠ 0), Int.emod_lt_of_pos z (by lia : (0 : Int) < p)⟩ : Rg p (z % p))
  exact .inr ⟨t, _, _, _, _, k0, k1, k2, k3, _, _, _, _, _, _, ⟨K, by lia⟩, QhX p _ _ _ _, hk, ⟨hm _, hm _, hm _, hm _⟩, hkr, sq (Qk es) (sq (Qr (z := false) rfl rfl) (sq (Qjo (x := il [c0, c1, c2, c3]) (y := il [c0, c1, c2, c3]) (Qi rfl rfl (getc _ _) rfl) (Qi rfl rfl (getc _ _) rfl) rfl rfl (set1 _ _ 1 _ (by simp [r24])) rfl (set1 _ _ 1 _ (by simp [r24]))) e))⟩
end
section
variable {p : Nat} (hp : Pm p)
include hp
theorem QpL (m : Nat) (H : Hp) {a0 a1 a2 a3 b0 b1 b2 b3 : Int} (ha : Rg4 p a0 a1 a2 a3) (hb : Rg4 p b0 b1 b2 b3) (A v5 v6 v7 v8 v9 v10 v11 : V) :
  (a0 = 0 ∧ b0 = 0 ∧ exB (Qc tb m) H.length B_inverse_rests_1 [A, .d (nd p), .d (nd 2), .cell H.length, .d (nd 0), v5, v6, v7, v8, v9, v10, v11] (H ++ [r24 a0 a1 a2 a3 b0 b1 b2 b3]) = .ret .none (H ++ [r24 a0 a1 a2 a3 b0 b1 b2 b3])) ∨
  IrS p a0 a1 a2 a3 b0 b1 b2 b3 (exB (Qc tb m) H.length B_inverse_rests_1 [A, .d (nd p), .d (nd 2), .cell H.length, .d (nd 0), v5, v6, v7, v8, v9, v10, v11] (H ++ [r24 a0 a1 a2 a3 b0 b1 b2 b3])) A (.cell H.length) v11 H := by
 haveI HH5 := hp.pos
 haveI p0 := HH5.1
 haveI p1 := HH5.2.1
 haveI p2 := HH5.2.2
 haveI hm := fun z : Int => (⟨Int.emod_nonneg z (by lia : (p : Int) ≠ 0), Int.emod_lt_of_pos z (by lia : (0 : Int) < p)⟩ : Rg p (z % p))
 haveI es := Qtj (Qc tb m) H a0 a1 a2 a3 b0 b1 b2 b3 A (.d (nd p)) v5 v6 v7 v8 v9 v10 v11
 by_cases h1 : a0 = 0
 ·by_cases h2 : b0 = 0
  ·rw [spt, spt, if_pos h1, if_pos h2] at es
   exact .inl ⟨h1, h2, sq (Qk es) (Qg (Qr (z := true) rfl (Qg (Qy rfl))))⟩
  ·rw [spt, spt, if_pos h1, if_neg h2] at es
   obtain ⟨t, ht, c0, c1, c2, c3, hc, hcc, w6, w7, w8, w9, w10, e⟩ := Qmk hp m H.length H hb ha A (.d (.list [nd 1])) v6 v7 v8 v9 v10 v11
   obtain ⟨K, hK, _⟩ := Qfg hp (z := b0) (by rw [Int.emod_eq_of_lt hb.1.1 hb.1.2]; exact h2)
   rw [← ht] at hK
   exact .inr ⟨b0, b1, b2, b3, a0, a1, a2, a3, t, _, _, _, _, c0, c1, c2, c3, _, _, _, _, _, _, .swap h1, ⟨K, by lia⟩, QhX p _ _ _ _, hcc, ⟨hm _, hm _, hm _, hm _⟩, hc, sq (Qk es) (sq (Qr (z := false) rfl rfl) (sq (Qjo (x := il [b0, b1, b2, b3]) (y := il [a0, a1, a2, a3]) (Qi rfl rfl (getc _ _) rfl) (Qi rfl rfl (getc _ _) rfl) rfl rfl (set1 _ _ 0 _ (by simp [r24])) rfl (set1 _ _ 1 _ (by simp [r24]))) e))⟩
 ·rw [spt, if_neg h1] at es
  generalize spt b0 1 = T at es
  obtain ⟨t, ht, c0, c1, c2, c3, hc, hcc, w6, w7, w8, w9, w10, e⟩ := Qmk hp m H.length H ha hb A (.d (.list (nd 0 :: T))) v6 v7 v8 v9 v10 v11
  have e1 : exS (Qc tb m) H.length (.set2 3 (.loc 4) (.idx (.loc 5) (.kd (.int 0))) (.idx (.loc 3) (.idx (.loc 5) (.kd (.int 0)))) (.idx (.loc 3) (.loc 4))) [A, .d (nd p), .d (nd 2), .cell H.length, .d (nd 0), .d (.list (nd 0 :: T)), v6, v7, v8, v9, v10, v11] (H ++ [r24 a0 a1 a2 a3 b0 b1 b2 b3]) = .next [A, .d (nd p), .d (nd 2), .cell H.length, .d (nd 0), .d (.list (nd 0 :: T)), v6, v7, v8, v9, v10, v11] (H ++ [r24 a0 a1 a2 a3 b0 b1 b2 b3]) :=
   Qjo (x := il [a0, a1, a2, a3]) (y := il [a0, a1, a2, a3]) (p := 0) (q := 0) (n := H.length) (Qi (v := .cell H.length) (j := 0) rfl rfl (getc _ _) rfl) (Qi (v := .cell H.length) (j := 0) rfl rfl (getc _ _) rfl) rfl rfl (set1 _ (r24 a0 a1 a2 a3 b0 b1 b2 b3) 0 _ (by simp [r24])) rfl (set1 _ (r24 a0 a1 a2 a3 b0 b1 b2 b3) 0 _ (by simp [r24]))
  obtain ⟨K, hK, _⟩ := Qfg hp (z := a0) (by rw [Int.emod_eq_of_lt ha.1.1 ha.1.2]; exact h1)
  rw [← ht] at hK
  refine .inr ⟨a0, a1, a2, a3, b0, b1, b2, b3, t, _, _, _, _, c0, c1, c2, c3, _, _, _, _, _, _, .same, ⟨K, by lia⟩, QhX p _ _ _ _, hcc, ⟨hm _, hm _, hm _, hm _⟩, hc, sq (Qk es) (sq (Qr (z := false) ?_ rfl) (sq e1 e))⟩
  exact Qf (QC rfl rfl) rfl ((Qbs _ 0).trans (congrArg some (decide_eq_false (by simp))))
omit hp in
theorem Qtu {x y z u s0 s1 s2 s3 q0 q1 q2 q3 i a0 a1 a2 a3 c0 c1 c2 c3 : Int} (hs : Sw x y 1 0 z u 0 1 s0 s1 s2 s3 q0 q1 q2 q3) (hi : (p : Int) ∣ s0 * i - 1) (ha : Cg4 p a0 a1 a2 a3 (s0 * i) (s1 * i) (s2 * i) (s3 * i)) (hc : Cg4 p c0 c1 c2 c3 (q0 - q0 * a0) (q1 - q0 * a1) (q2 - q0 * a2) (q3 - q0 * a3)) (h0 : c1 = 0) : (p : Int) ∣ x * u - y * z := by
 have hc1 := hc.2.1
 have ha1 := ha.2.1
 rw [h0] at hc1
 obtain ⟨kc, hc1⟩ := hc1
 obtain ⟨ka, ha1⟩ := ha1
 obtain ⟨ki, hi⟩ := hi
 clear ha hc
 cases hs with
 | same =>
  obtain rfl : a1 = y * i + p * ka := by lia
  refine ⟨-(x * kc) + x * z * ka + y * z * ki, ?_⟩
  haveI : x * (u - z * (y * i + p * ka)) = -(x * (p * kc)) := by rw [← Int.mul_neg]; congr 1; lia
  haveI h2 : x * i = 1 + p * ki := by lia
  clear hi hc1
  haveI h3 : x * (u - z * (y * i + p * ka)) = x * u - (x * i) * (z * y) - x * z * p * ka := by clear this h2; grind
  rw [h2] at h3
  clear h2
  grind
 | swap hx =>
  subst hx
  refine ⟨z * kc, ?_⟩
  have : y = -(p * kc) := by lia
  subst this
  clear hc1 ha1 hi
  grind
omit hp in
theorem QqS {x y z u s0 s1 s2 s3 q0 q1 q2 q3 i j g0 g1 g2 g3 c0 c1 c2 c3 e0 e1 e2 e3 k0 k1 k2 k3 : Int} (hs : Sw x y 1 0 z u 0 1 s0 s1 s2 s3 q0 q1 q2 q3) (hi : (p : Int) ∣ s0 * i - 1) (hg : Cg4 p g0 g1 g2 g3 (s0 * i) (s1 * i) (s2 * i) (s3 * i)) (hc : Cg4 p c0 c1 c2 c3 (q0 - q0 * g0) (q1 - q0 * g1) (q2 - q0 * g2) (q3 - q0 * g3)) (hj : (p : Int) ∣ c1 * j - 1) (he : Cg4 p e0 e1 e2 e3 (c0 * j) (c1 * j) (c2 * j) (c3 * j)) (hk : Cg4 p k0 k1 k2 k3 (g0 - g1 * e0) (g1 - g1 * e1) (g2 - g1 * e2) (g3 - g1 * e3)) : Undo p x y z u k2 k3 e2 e3 := by
 cases hs with
 | same => exact QuC hi hg hc hj he hk
 | swap hx => subst hx; exact Que hi hg hc hj he hk
theorem QmQ {x y z u : Int} (m : Nat) (H : Hp) (hr : Rg4 p x y z u) :
  ((p : Int) ∣ x * u - y * z ∧ Qc tb (m + 1) 40 [.d (ml [[x, y], [z, u]]), .d (nd p)] H = .ok .none H) ∨
  (Ex4 fun i j k l => Undo p x y z u i j k l ∧ Rg4 p i j k l ∧ Qc tb (m + 1) 40 [.d (ml [[x, y], [z, u]]), .d (nd p)] H = .ok (ml [[i, j], [k, l]]) H) := by
 haveI HH3 := hp.pos
 haveI p0 := HH3.1
 haveI p1 := HH3.2.1
 haveI p2 := HH3.2.2
 obtain ⟨r1, r2, r3, r4⟩ := hr
 haveI g1 : Rg p 1 := ⟨by lia, by lia⟩
 have g0 : Rg p 0 := ⟨by lia, by lia⟩
 have ew : evE (Qc tb m) (.mk true (.comp E_inverse_rests_1 (.two 9 10) (.enum (.loc 0)))) [.d (ml [[x, y], [z, u]]), .d (nd p), .d (nd 2), .unb, .unb, .unb, .unb, .unb, .unb, .unb, .unb, .unb] H = .ok (.cell H.length) (H ++ [r24 x y 1 0 z u 0 1]) :=
  QbC (Qo (Qcq (xs := [il [x, y], il [z, u]]) rfl) (Qd rfl rfl (Qd rfl rfl Ql)))
 have er : ∀ ρ : Rho, gt ρ 2 = .d (nd 2) → ∀ H, evI (Qc tb m) (.range1 (.loc 2)) ρ H = .ok [nd 0, nd 1] H := fun ρ h H => (QM (n := 2) (QY h) (by lia)).trans rfl
 rcases QpL hp m H (a2 := 1) (a3 := 0) (b2 := 0) (b3 := 1) ⟨r1, r2, g1, g0⟩ ⟨r3, r4, g0, g1⟩ (.d (ml [[x, y], [z, u]])) .unb .unb .unb .unb .unb .unb .unb with ⟨h1, h2, e⟩ | ⟨s0, s1, s2, s3, q0, q1, q2, q3, i, a0, a1, a2, a3, c0, c1, c2, c3, v5, v6, v7, v8, v9, v10, hs, hi, ha, hc, har, hcr, e⟩
 ·refine .inl ⟨⟨0, by rw [h1, h2]; simp⟩, ?_⟩
  exact Qt (f := Qat) rfl rfl (sq (Qk (QC (xs := [_, _]) rfl rfl)) (sq (Qk ew) (Qg (QP (er _ rfl _) (Qbw rfl e))))) tk1
 ·rcases Qse hp m H har hcr (.d (ml [[x, y], [z, u]])) v5 v6 v7 v8 v9 v10 .unb with ⟨h0, e2⟩ | ⟨j, e0, e1, e2, e3, k0, k1, k2, k3, w5, w6, w7, w8, w9, w10, hj, he, hk, her, hkr, ee⟩
  ·exact .inl ⟨Qtu hs hi ha hc h0, Qt (f := Qat) rfl rfl (sq (Qk (QC (xs := [_, _]) rfl rfl)) (sq (Qk ew) (Qg (QP (er _ rfl _) (Qq rfl e (Qbw rfl e2)))))) tk1⟩
  ·exact .inr ⟨k2, k3, e2, e3, QqS hs hi ha hc hj he hk, ⟨hkr.2.2.1, hkr.2.2.2, her.2.2.1, her.2.2.2⟩, Qt (f := Qat) rfl rfl (sq (Qk (QC (xs := [_, _]) rfl rfl)) (sq (Qk ew) (sq (QP (er _ rfl _) (Qq rfl e (Qq rfl ee Qau))) (Qg (Qy (Qu (QhK rfl (getc _ _) (H1 := []) (Qd rfl (Qu (Qhx (i := 2) (xs := [.int k0, .int k1, .int k2, .int k3]) rfl rfl rfl ⟨by decide, by decide⟩)) (Qd rfl (Qu (Qhx (i := 2) (xs := [.int e0, .int e1, .int e2, .int e3]) rfl rfl rfl ⟨by decide, by decide⟩)) Ql))))))))) tk1⟩
end
theorem Qnq {p : Nat} {a b c d i j k l : Int} (h : Undo p (a % p) (b % p) (c % p) (d % p) i j k l) : Undo p a b c d i j k l := by
 haveI e : ∀ {x y s t r : Int}, (p : Int) ∣ (x % p) * s + (y % p) * t - r → (p : Int) ∣ x * s + y * t - r := by as_aux_lemma =>
  intro x y s t r h
  haveI := Int.dvd_sub h (Int.dvd_add (Int.dvd_mul_of_dvd_left (c := s) (Qs p x)) (Int.dvd_mul_of_dvd_left (c := t) (Qs p y)))
  haveI e2 : (x % p) * s + (y % p) * t - r - ((x % p - x) * s + (y % p - y) * t) = x * s + y * t - r := by grind
  rwa [e2] at this
 haveI e0 : ∀ {x y s t : Int}, (p : Int) ∣ (x % p) * s + (y % p) * t → (p : Int) ∣ x * s + y * t := fun h => by
  haveI := e (r := 0) (by rw [Int.sub_zero]; exact h)
  rwa [Int.sub_zero] at this
 exact ⟨e h.1, e0 h.2.1, e0 h.2.2.1, e h.2.2.2⟩
theorem QpU {p : Nat} {a b c d i j k l : Int} (h : Undo p a b c d i j k l) (hp : 1 < p) : ¬ (p : Int) ∣ a * d - b * c := by
 rintro ⟨q, hq⟩
 obtain ⟨⟨k1, h1⟩, ⟨k2, h2⟩, ⟨k3, h3⟩, ⟨k4, h4⟩⟩ := h
 haveI e1 : a * i + b * k = 1 + p * k1 := by lia
 haveI e4 : c * j + d * l = 1 + p * k4 := by lia
 haveI : (a * i + b * k) * (c * j + d * l) - (a * j + b * l) * (c * i + d * k) = (a * d - b * c) * (i * l - j * k) := by grind
 rw [e1, e4, h2, h3, hq] at this
 haveI h5 : (p : Int) ∣ 1 := ⟨q * (i * l - j * k) - k1 - k4 - p * k1 * k4 + p * k2 * k3, by grind⟩
 haveI := Int.le_of_dvd (by lia) h5
 lia
theorem Qmz {cl : Qh} {ρ : Rho} {H H1 : Hp} {e : PE} {xs : List D} (h : evE cl e ρ H = .ok (.d (.list xs)) H1) : evE cl (.notNone e) ρ H = .ok (.d (.bool true)) H1 := by
 exact Qv h rfl
section
variable {w : Nat} (hw : 8 ≤ w) (hw2 : w ≤ 10)
include hw hw2
theorem Qjn {a b c d : Int} {f : Nat} (m : Nat) (H : Hp) (hb : Bnd 3 [[a, b], [c, d]]) (hf : Fst f) :
  (a * d - b * c = 0 → Qc tb (m + 5) 41 [.d (mt w [[a, b], [c, d]]), .d (nd f), .d (nd w), .fn 46] H = .exc H) ∧
  (a * d - b * c ≠ 0 → Ex4 fun i j k l => Undo (nxt f) a b c d i j k l ∧ Rg4 (nxt f) i j k l ∧ Qc tb (m + 5) 41 [.d (mt w [[a, b], [c, d]]), .d (nd f), .d (nd w), .fn 46] H = .ok (.tuple [nd (nxt f), ml [[i, j], [k, l]]]) H) := by
 have hb20 : Bnd (2 ^ 20) [[a, b], [c, d]] := fun r hr z hz => Nat.le_trans (hb r hr z hz) (by decide)
 haveI HH4 := QfI hf
 haveI P1 := HH4.1
 haveI hf1 := HH4.2.2.2.2.1
 obtain ⟨q, hq⟩ : ∃ q, q = nxt f := ⟨_, rfl⟩
 rw [← hq] at P1 ⊢
 obtain ⟨p0, p1, p2⟩ := P1.pos
 have p149 : 149 ≤ q := by rcases P1 with h | h | h | h <;> lia
 have ba := hb.m22.1
 have bb := hb.m22.2.1
 have bc := hb.m22.2.2.1
 have bd := hb.m22.2.2.2
 obtain ⟨B, hB⟩ : ∃ B, B = 1 * sumA 0 [a, b] * sumA 0 [c, d] := ⟨_, rfl⟩
 have eB : B = (0 + a.natAbs + b.natAbs) * (0 + c.natAbs + d.natAbs) := by rw [hB, Nat.one_mul]; rfl
 have hBle : B ≤ 6 * 6 := by rw [eB]; exact Nat.mul_le_mul (by lia) (by lia)
 have hDB : (a * d - b * c).natAbs ≤ B := by
  haveI h1 := Int.natAbs_sub_le (a * d) (b * c)
  rw [Int.natAbs_mul, Int.natAbs_mul] at h1
  haveI h2 : B = a.natAbs * c.natAbs + a.natAbs * d.natAbs + (b.natAbs * c.natAbs + b.natAbs * d.natAbs) := by rw [eB]; grind
  lia
 haveI s0 : sumA 0 [a, b] ≤ 2 ^ 30 := by show 0 + a.natAbs + b.natAbs ≤ _; lia
 haveI s1 : sumA 0 [c, d] ≤ 2 ^ 30 := by show 0 + c.natAbs + d.natAbs ≤ _; lia
 have cb := Qcu hw hw2 (r0 := [a, b]) (r1 := [c, d]) (m + 1) H hb20 (by simp) (by simp) s0 s1
 rw [← hB] at cb
 haveI n1 := nn1 (w := w) hw
 clear s0 s1 hB eB
 haveI cc := Qae (w0 hw) (a := 1) (b := B) (m + 3) H (Qj (Nat.le_refl 1) (by decide)) (Qj hBle (by decide))
 rw [n1] at cc
 haveI cc2 := Qae (w0 hw) (a := 1 * q) (b := B) (m + 3) H (Qj (p := 163) (by lia) (by decide)) (Qj hBle (by decide))
 haveI hm := fun z : Int => (⟨Int.emod_nonneg z (by lia : (q : Int) ≠ 0), Int.emod_lt_of_pos z (by lia : (0 : Int) < q)⟩ : Rg q (z % q))
 have c1 := Qqd (p := f) (m + 2) H hf1
 rw [← hq] at c1
 haveI er := QlW hw hw2 (a := a) (b := b) (c := c) (d := d) (q := q) (m + 3) H (ρ := [.d (mt w [[a, b], [c, d]]), .d (nd f), .d (nd w), .fn 46, .d (nn w B), .d (.list [.int 1]), .d (nd q), .unb, .unb, .unb]) (e := .loc 0) (e1 := .loc 8) (k := 8) (k2 := 9) (kp := 6) (kw := 2) rfl hb20 p0 p2 (fun _ => rfl) (fun _ _ => rfl)
 haveI c4 := QaI hw hw2 (n := q) (m + 3) H (Qj p2 (by decide))
 haveI c5 := QhH (w0 hw) (w16 hw2) (a := 1) (b := q) (m + 2) H (Qj (Nat.le_refl 1) (by decide)) (Qj p2 (by decide))
 rw [n1] at c5
 have hdiff : (q : Int) ∣ a % q * (d % q) - b % q * (c % q) ↔ (q : Int) ∣ a * d - b * c := by
  haveI h1 := QiJ (q := q) (a := a) (b := b) (c := c) (d := d)
  haveI h2 := Qs q (a % q * (d % q) - b % q * (c % q))
  constructor
  ·intro h; have := Int.dvd_sub (Int.dvd_add h2 h) h1; rwa [show ∀ x y z : Int, x - y + y - (x - z) = z from fun x y z => by lia] at this
  ·intro h; have := Int.dvd_sub (Int.dvd_add h1 h) h2; rwa [show ∀ x y z : Int, x - z + z - (x - y) = y from fun x y z => by lia] at this
 have ci := QmQ P1 (x := a % q) (y := b % q) (z := c % q) (u := d % q) (m + 3) H ⟨hm _, hm _, hm _, hm _⟩
 have t1 : evE (Qc tb (m + 4)) T_lifting_prime_0 [.d (mt w [[a, b], [c, d]]), .d (nd f), .d (nd w), .fn 46, .d (nn w B), .d (.list [.int 1]), .d (nd f), .unb, .unb, .unb] H = .ok (.d (.bool (decide (1 ≤ B)))) H := Qf (Qb rfl cc) rfl (QhQ _ _)
 constructor
 ·intro hD
  by_cases h1 : 1 ≤ B
  ·rcases ci with ⟨_, ci⟩ | ⟨i, j, k, l, hu, _, ci⟩
   ·haveI e1 : exB (Qc tb (m + 4)) H.length B_lifting_prime_0 [.d (mt w [[a, b], [c, d]]), .d (nd f), .d (nd w), .fn 46, .d (nn w B), .d (.list [.int 1]), .d (nd f), .unb, .unb, .unb] H = .next [.d (mt w [[a, b], [c, d]]), .d (nd f), .d (nd w), .fn 46, .d (nn w B), .d (nn w (1 * q)), .d (nd q), .d .none, .unb, .unb] H :=
     sq (Qk (Qb rfl c1)) (sq (Qk (Qb (Qa er rfl) ci)) (sq (Qr (z := false) rfl rfl) (sq (Qk (Qap rfl (Qa rfl (Qa (Qb rfl c4) rfl)) c5)) rfl)))
    exact QiV (f := Qan) rfl rfl (sq (QT (Qa (Qb rfl cb) rfl) rfl) (sq (QcE (QaS (n := 4095) (t1.trans (by rw [decide_eq_true h1])) e1 (QA (n := 4094) (Qf (Qb rfl cc2) rfl ((QhQ _ _).trans (congrArg some (decide_eq_false (by lia)))))))) (QfA rfl))) tk0
   ·exact absurd (hdiff.mpr (by rw [hD]; exact Int.dvd_zero _)) (QpU hu (by lia))
  ·exact QiV (f := Qan) rfl rfl (sq (QT (Qa (Qb rfl cb) rfl) rfl) (sq (QcE (QA (n := 4095) (t1.trans (by rw [decide_eq_false h1])))) (QfA rfl))) tk0
 ·intro hD
  rcases ci with ⟨hd, _⟩ | ⟨i, j, k, l, hu, hr, ci⟩
  ·exact absurd (QcM (hdiff.mp hd) (by lia) (by lia)) hD
  ·refine ⟨i, j, k, l, Qnq hu, hr, ?_⟩
   exact Qt (f := Qan) rfl rfl (sq (QT (Qa (Qb rfl cb) rfl) rfl) (Qg (QcE (QrD (n := 4095) (t1.trans (by rw [decide_eq_true (by lia)])) (sq (Qk (Qb rfl c1)) (sq (Qk (Qb (Qa er rfl) ci)) (Qg (Qr (z := true) (Qmz rfl) (Qg (Qbd rfl rfl rfl)))))))))) tk0
end
theorem Qqe {r x y t : Int} (h : r - (0 + x + y) = t) : r = x + y + t := by lia
theorem Qnn {p a b i j k l t0 t1 r0 r1 d0 d1 s : Int} (h1 : p ∣ a * i + b * k - s) (h2 : p ∣ a * j + b * l - (1 - s)) (e0 : p ∣ d0 - (i * t0 + (j * t1 + 0))) (e1 : p ∣ d1 - (k * t0 + (l * t1 + 0))) (f0 : p ∣ t0 - r0) (f1 : p ∣ t1 - r1) : p ∣ s * r0 + (1 - s) * r1 - (0 + a * d0 + b * d1) := by
 obtain ⟨x1, h1⟩ := h1
 obtain ⟨x2, h2⟩ := h2
 obtain ⟨x3, e0⟩ := e0
 obtain ⟨x4, e1⟩ := e1
 obtain ⟨x5, f0⟩ := f0
 obtain ⟨x6, f1⟩ := f1
 obtain rfl : d0 = i * t0 + j * t1 + p * x3 := by lia
 obtain rfl : d1 = k * t0 + l * t1 + p * x4 := by lia
 obtain rfl : r0 = t0 - p * x5 := by lia
 obtain rfl : r1 = t1 - p * x6 := by lia
 clear e0 e1 f0 f1
 refine ⟨-(s * x5) - (1 - s) * x6 - a * x3 - b * x4 - x1 * t0 - x2 * t1, ?_⟩
 haveI g1 : a * (i * t0 + j * t1 + p * x3) + b * (k * t0 + l * t1 + p * x4) = (a * i + b * k) * t0 + (a * j + b * l) * t1 + p * (a * x3 + b * x4) := by clear h1 h2; grind
 rw [Int.zero_add, g1, show a * i + b * k = s + p * x1 from by lia, show a * j + b * l = 1 - s + p * x2 from by lia]
 clear h1 h2 g1
 grind
section
variable {w : Nat} (hw : 8 ≤ w) (hw2 : w ≤ 10)
include hw hw2
theorem Qka {a b c d i j k l r0 r1 : Int} {p : Nat} (m : Nat) (H : Hp) (hP : Pm p) (hb : Bnd 3 [[a, b], [c, d]]) (hu : Undo p a b c d i j k l) (hr : Rg4 p i j k l) (h0 : r0.natAbs ≤ 8) (h1 : r1.natAbs ≤ 8) (C N : D) (acc : List D) (hacc : acc.length ≤ 100) (v11 v12 v13 v14 v15 v16 v17 : V) :
  Ex4 fun (d0 d1 s0 s1 : Int) => (Rg p d0 ∧ Rg p d1) ∧ (r0 = a * d0 + b * d1 + p * s0 ∧ r1 = c * d0 + d * d1 + p * s1) ∧ (s0.natAbs ≤ 8 ∧ s1.natAbs ≤ 8) ∧
  Ex6 fun v12' v13' v14' v15' v16' v17' => exB (Qc tb (m + 7)) H.length B_lifted_digits_0 [.d (mt w [[a, b], [c, d]]), .d C, .d (ml [[i, j], [k, l]]), .d (nd p), .d N, .d (nd w), .fn 46, .fn 52, .d (rw' w [r0, r1]), .cell H.length, .d (sg w p), v11, v12, v13, v14, v15, v16, v17] (H ++ [acc]) =
   .next [.d (mt w [[a, b], [c, d]]), .d C, .d (ml [[i, j], [k, l]]), .d (nd p), .d N, .d (nd w), .fn 46, .fn 52, .d (rw' w [s0, s1]), .cell H.length, .d (sg w p), v11, v12', v13', v14', v15', v16', v17'] (H ++ [acc ++ [il [d0, d1]]]) := by
 haveI HH4 := hP.pos
 haveI p0 := HH4.1
 haveI p1 := HH4.2.1
 haveI p2 := HH4.2.2
 have p149 : 149 ≤ p := by rcases hP with h | h | h | h <;> lia
 obtain ⟨⟨i0, i1⟩, ⟨j0, j1⟩, ⟨k0, k1⟩, ⟨l0, l1⟩⟩ := hr
 have hm := fun z : Int => (⟨Int.emod_nonneg z (by lia : (p : Int) ≠ 0), Int.emod_lt_of_pos z (by lia : (0 : Int) < p)⟩ : Rg p (z % p))
 obtain ⟨d0, hd0⟩ : ∃ z, z = (i * (r0 % p) + (j * (r1 % p) + 0)) % p := ⟨_, rfl⟩
 obtain ⟨d1, hd1⟩ : ∃ z, z = (k * (r0 % p) + (l * (r1 % p) + 0)) % p := ⟨_, rfl⟩
 have g0 : Rg p d0 := hd0 ▸ hm _
 have g1 : Rg p d1 := hd1 ▸ hm _
 haveI q0 := Qs p (i * (r0 % p) + (j * (r1 % p) + 0))
 haveI q1 := Qs p (k * (r0 % p) + (l * (r1 % p) + 0))
 rw [← hd0] at q0
 rw [← hd1] at q1
 obtain ⟨s0, hs0⟩ := Qnn (s := 1) hu.1 (by simpa using hu.2.1) q0 q1 (Qs p r0) (Qs p r1)
 obtain ⟨s1, hs1⟩ := Qnn (s := 0) (by simpa using hu.2.2.1) (by simpa using hu.2.2.2) q0 q1 (Qs p r0) (Qs p r1)
 rw [Int.one_mul, Int.sub_self, Int.zero_mul, Int.add_zero] at hs0
 rw [Int.zero_mul, Int.sub_zero, Int.one_mul, Int.zero_add r1] at hs1
 clear q0 q1
 have made : ∀ {x y : Int}, x.natAbs ≤ 3 → y.natAbs ≤ 3 → (0 + x * d0 + y * d1).natAbs ≤ 3 * 163 + 3 * 163 := by
  intro x y hx hy
  rw [Int.zero_add]
  haveI e1 := QB hx (by obtain ⟨_, _⟩ := g0; lia : d0.natAbs ≤ 163)
  haveI e2 := QB hy (by obtain ⟨_, _⟩ := g1; lia : d1.natAbs ≤ 163)
  exact Nat.le_trans (Int.natAbs_add_le _ _) (by lia)
 have m0 := made (hb [a, b] (by simp) a (by simp)) (hb [a, b] (by simp) b (by simp))
 have m1 := made (hb [c, d] (by simp) c (by simp)) (hb [c, d] (by simp) d (by simp))
 have small : ∀ {r M s : Int}, r.natAbs ≤ 8 → M.natAbs ≤ 3 * 163 + 3 * 163 → r - M = p * s → s.natAbs ≤ 8 ∧ (r - M).natAbs < 2 ^ 16 := by
  intro r M s hr hM h
  haveI h2 : (r - M).natAbs ≤ 986 := Nat.le_trans (Int.natAbs_sub_le _ _) (Nat.add_le_add hr hM)
  refine ⟨?_, by lia⟩
  rw [h, Int.natAbs_mul, Int.natAbs_natCast] at h2
  refine Nat.le_of_not_lt fun q => ?_
  haveI := Nat.mul_le_mul p149 q
  lia
 haveI HH40 := small h0 m0 hs0
 haveI b0 := HH40.1
 haveI c0 := HH40.2
 haveI HH43 := small h1 m1 hs1
 haveI b1 := HH43.1
 haveI c1 := HH43.2
 have pne : (p : Int) ≠ 0 := by lia
 haveI x0 := Qfo hw hw2 (a := r0 - (0 + a * d0 + b * d1)) (b := p) (m + 1) (H ++ [acc ++ [il [d0, d1]]]) c0 pne (by rw [Int.natAbs_natCast]; lia)
 rw [show (r0 - (0 + a * d0 + b * d1)).tdiv p = s0 from by rw [hs0]; exact Int.mul_tdiv_cancel_left _ pne] at x0
 haveI x1 := Qfo hw hw2 (a := r1 - (0 + c * d0 + d * d1)) (b := p) (m + 1) (H ++ [acc ++ [il [d0, d1]]]) c1 pne (by rw [Int.natAbs_natCast]; lia)
 rw [show (r1 - (0 + c * d0 + d * d1)).tdiv p = s1 from by rw [hs1]; exact Int.mul_tdiv_cancel_left _ pne] at x1
 haveI z0 := Qdh hw hw2 (a := r0) (b := 0 + a * d0 + b * d1) (m + 3) (H ++ [acc ++ [il [d0, d1]]]) (Qj h0 (by decide)) (Qj m0 (by decide))
 haveI z1 := Qdh hw hw2 (a := r1) (b := 0 + c * d0 + d * d1) (m + 3) (H ++ [acc ++ [il [d0, d1]]]) (Qj h1 (by decide)) (Qj m1 (by decide))
 haveI rp0 := QaF (w0 hw) (w16 hw2) (z := r0) (p := p) (m + 6) (H ++ [acc]) (Qj h0 (by decide)) p0 (by lia)
 haveI rp1 := QaF (w0 hw) (w16 hw2) (z := r1) (p := p) (m + 6) (H ++ [acc]) (Qj h1 (by decide)) p0 (by lia)
 have so := fun (z : Int) (hz : Rg p z) => Qsi hw hw2 (m + 5) z (H ++ [acc ++ [il [d0, d1]]]) (Qj (p := 163) (by obtain ⟨_, _⟩ := hz; lia) (by decide))
 haveI cl := QtD hw hw2 (a := a) (b := b) (c := c) (d := d) (x := d0) (y := d1) (m + 2) (H ++ [acc ++ [il [d0, d1]]]) (by
  intro r hr z hz
  simp only [List.mem_cons, List.not_mem_nil, or_false] at hr
  rcases hr with rfl | rfl | rfl
  ·exact Nat.le_trans (hb _ (by simp) z hz) (by decide)
  ·exact Nat.le_trans (hb _ (by simp) z hz) (by decide)
  ·simp only [List.mem_cons, List.not_mem_nil, or_false] at hz
   obtain ⟨_, _⟩ := g0; obtain ⟨_, _⟩ := g1
   rcases hz with rfl | rfl <;> lia)
 have dig : ∀ (x y : Int) (v13 v14 v16 v17 : V), Rg p x → Rg p y → evE (Qc tb (m + 7)) E_lifted_digits_2 [.d (mt w [[a, b], [c, d]]), .d C, .d (ml [[i, j], [k, l]]), .d (nd p), .d N, .d (nd w), .fn 46, .fn 52, .d (rw' w [r0, r1]), .cell H.length, .d (sg w p), v11, .d (il [r0 % p, r1 % p]), v13, v14, .d (il [x, y]), v16, v17] (H ++ [acc]) = .ok (.d (.int ((x * (r0 % p) + (y * (r1 % p) + 0)) % p))) (H ++ [acc]) := fun x y v13 v14 v16 v17 hx hy =>
  Qe (Qnb (ys := [x * (r0 % p), y * (r1 % p)]) (Qu (Qo (Qcq (xs := [.int (r0 % p), .int (r1 % p)]) rfl) (Qd rfl (Qe (Qi rfl rfl rfl rfl) rfl (Qah (Qbz hx p2))) (Qd rfl (Qe (Qi rfl rfl rfl rfl) rfl (Qah (Qbz hy p2))) Ql))))) rfl (Qck _ p0)
 haveI dg0 := fun v13 v14 v16 v17 => dig i j v13 v14 v16 v17 ⟨i0, i1⟩ ⟨j0, j1⟩
 haveI dg1 := fun v13 v14 v16 v17 => dig k l v13 v14 v16 v17 ⟨k0, k1⟩ ⟨l0, l1⟩
 rw [← hd0] at dg0
 rw [← hd1] at dg1
 haveI ap := appc H acc (il [d0, d1]) (by lia)
 refine ⟨d0, d1, s0, s1, ⟨g0, g1⟩, ⟨Qqe hs0, Qqe hs1⟩, ⟨b0, b1⟩, _, _, _, _, _, _, sq (Qk (Qu (Qo rfl (Qd rfl (Qb rfl rp0) (Qd rfl (Qb rfl rp1) Ql))))) (sq (Qk (Qu (Qo (xs := [il [i, j], il [k, l]]) rfl (Qd rfl (dg0 _ _ _ _) (Qd rfl (dg1 _ _ _ _) Ql))))) (sq (Qcn rfl rfl ap) (sq (Qk (Qb (Qa rfl (Qa (Qu (Qo (xs := [.int d0, .int d1]) rfl (Qd rfl (Qb rfl (so d0 g0)) (Qd rfl (Qb rfl (so d1 g1)) Ql)))) rfl)) cl)) (sq (Qk (Qu (Qo (Qcq (xs := [sg w r0, sg w r1]) rfl) (Qd rfl (Qb (Qa (Qb rfl z0) rfl) x0) (Qd rfl (Qb (Qa (Qb rfl z1) rfl) x1) Ql))))) rfl))))⟩
end
theorem Qnv {M N r0 r1 e T0 T1 : Nat} {s v z : Int} (hs : s * s = 1) (hN : 2 * (N * N) < M) (hr : N < r0) (hr1 : r1 ≤ N) (hdet : r0 * T1 + r1 * T0 = M) (h0 : (M : Int) ∣ r0 + s * T0 * v) (h1 : (M : Int) ∣ r1 - s * T1 * v) (hz : (M : Int) ∣ z - e * v) (hn : z.natAbs ≤ N) (he : 0 < e) (heN : e ≤ N) (hc : Nat.Coprime z.natAbs e) :
  T1 = e ∧ z = s * r1 := by
 obtain ⟨y, hy⟩ : ∃ y, y = s * z := ⟨_, rfl⟩
 haveI hzy : z = s * y := by rw [hy, ← Int.mul_assoc, hs, Int.one_mul]
 have hyn : y.natAbs = z.natAbs := by
  haveI : s.natAbs = 1 := by
   haveI := congrArg Int.natAbs hs
   rw [Int.natAbs_mul] at this
   exact Nat.eq_one_of_mul_eq_one_left this
  rw [hy, Int.natAbs_mul, this, Nat.one_mul]
 haveI hA : (M : Int) ∣ y * T1 - e * r1 := by
  haveI := Int.dvd_sub (Int.dvd_mul_of_dvd_left (c := s * T1) hz) (Int.dvd_mul_of_dvd_left (c := e) h1)
  rwa [show (z - e * v) * (s * T1) - (r1 - s * T1 * v) * e = (s * z) * T1 - e * r1 from by grind, ← hy] at this
 haveI hB : (M : Int) ∣ y * T0 + e * r0 := by
  haveI := Int.dvd_add (Int.dvd_mul_of_dvd_left (c := s * T0) hz) (Int.dvd_mul_of_dvd_left (c := e) h0)
  rwa [show (z - e * v) * (s * T0) + (r0 + s * T0 * v) * e = (s * z) * T0 + e * r0 from by grind, ← hy] at this
 clear h0 h1 hz hy
 have hM : (0 : Int) < M := by lia
 have hdet' : (r0 : Int) * T1 + r1 * T0 = M := by rw [← hdet]; push_cast; rfl
 obtain ⟨α, hα⟩ := hA
 obtain ⟨β, hβ⟩ := hB
 have e1 : y = r0 * α + r1 * β := by
  refine Int.eq_of_mul_eq_mul_left (Int.ne_of_gt hM) ?_
  haveI : (M : Int) * y = r0 * (y * T1 - e * r1) + r1 * (y * T0 + e * r0) := by rw [← hdet']; clear hα hβ hdet'; grind
  rw [this, hα, hβ]; clear hα hβ hdet' this; grind
 have e2 : (e : Int) = T1 * β - T0 * α := by
  refine Int.eq_of_mul_eq_mul_left (Int.ne_of_gt hM) ?_
  haveI : (M : Int) * e = T1 * (y * T0 + e * r0) - T0 * (y * T1 - e * r1) := by rw [← hdet']; clear hα hβ hdet' e1; grind
  rw [this, hα, hβ]; clear hα hβ hdet' this e1; grind
 clear hβ hdet' hdet
 haveI a0 : α = 0 := by
  rcases Int.lt_trichotomy α 0 with g | g | g
  ·haveI hr0 := Int.mul_le_mul_of_nonneg_left (by lia : α ≤ -1) (by lia : (0 : Int) ≤ r0)
   haveI hb : 0 < β := by
    refine Int.not_le.mp fun q => ?_
    haveI := Int.mul_le_mul_of_nonneg_left q (by lia : (0 : Int) ≤ r1)
    lia
   have h1 := Int.mul_le_mul_of_nonneg_left (by lia : 1 ≤ β) (by lia : (0 : Int) ≤ T1)
   have h2 := Int.mul_le_mul_of_nonneg_left (by lia : α ≤ 0) (by lia : (0 : Int) ≤ T0)
   have hT : T1 ≤ N := by lia
   haveI hA : (y * T1 - e * r1).natAbs ≤ N * N + N * N := by
    refine Nat.le_trans (Int.natAbs_sub_le _ _) (Nat.add_le_add ?_ ?_)
    ·rw [Int.natAbs_mul, hyn]; exact Nat.mul_le_mul hn hT
    ·rw [Int.natAbs_mul]; exact Nat.mul_le_mul heN hr1
   haveI := QcM ⟨α, hα⟩ (by lia) (by lia)
   rw [this] at hα
   rcases Int.mul_eq_zero.mp hα.symm with h | h <;> lia
  ·exact g
  ·have hr0 := Int.mul_le_mul_of_nonneg_left (by lia : 1 ≤ α) (by lia : (0 : Int) ≤ r0)
   have hb : β < 0 := by
    refine Int.not_le.mp fun q => ?_
    have := Int.mul_le_mul_of_nonneg_left q (by lia : (0 : Int) ≤ r1)
    lia
   have h1 := Int.mul_le_mul_of_nonneg_left (by lia : β ≤ 0) (by lia : (0 : Int) ≤ T1)
   haveI h2 := Int.mul_le_mul_of_nonneg_left (by lia : 0 ≤ α) (by lia : (0 : Int) ≤ T0)
   lia
 subst a0
 rw [Int.mul_zero, Int.zero_add] at e1
 rw [Int.mul_zero, Int.sub_zero] at e2
 have b1 : β = 1 := by
  have hb : 0 < β := by
   refine Int.not_le.mp fun q => ?_
   haveI := Int.mul_le_mul_of_nonneg_left q (by lia : (0 : Int) ≤ T1)
   lia
  have d1 : β.natAbs ∣ z.natAbs := by rw [← hyn, e1, Int.natAbs_mul]; exact Nat.dvd_mul_left _ _
  haveI d2 : β.natAbs ∣ e := ⟨T1, by have := congrArg Int.natAbs e2; rw [Int.natAbs_mul] at this; rw [Nat.mul_comm]; exact this⟩
  haveI := Nat.eq_one_of_dvd_one (hc ▸ Nat.dvd_gcd d1 d2)
  lia
 subst b1
 exact ⟨by lia, by rw [hzy, e1, Int.mul_one]⟩
theorem Qtd {cl : Qh} {ρ : Rho} {H H1 H2 : Hp} {e f : PE} {z y : Bool} (h : evE cl e ρ H = .ok (.d (.bool z)) H1) (h2 : evE cl (bif z then .kd (.bool true) else f) ρ H1 = .ok (.d (.bool y)) H2) : evE cl (.or e f) ρ H = .ok (.d (.bool y)) H2 := by
 exact Qv h (QN rfl (by
  cases z with
  | true => cases h2; rfl
  | false => exact Qv h2 rfl))
structure FrI (M N : Nat) (v : Int) (r0 r1 T0 T1 : Nat) (s : Int) : Prop where
 hs : s * s = 1
 hr : N < r0
 h10 : r1 ≤ r0
 hM : r0 ≤ M
 det : r0 * T1 + r1 * T0 = M
 h0 : (M : Int) ∣ r0 + s * T0 * v
 h1 : (M : Int) ∣ r1 - s * T1 * v
theorem FrI.step {M N r0 r1 T0 T1 : Nat} {v s : Int} (h : FrI M N v r0 r1 T0 T1 s) (h1 : N < r1) : FrI M N v r1 (r0 % r1) T1 (T0 + r0 / r1 * T1) (-s) := by
 haveI hd := Nat.div_add_mod r0 r1
 haveI hd' : (r1 : Int) * ((r0 / r1 : Nat) : Int) + ((r0 % r1 : Nat) : Int) = r0 := by exact_mod_cast hd
 refine ⟨by rw [Int.neg_mul_neg]; exact h.hs, h1, Nat.le_of_lt (Nat.mod_lt _ (by lia)), Nat.le_trans h.h10 h.hM, ?_, ?_, ?_⟩
 ·rw [← h.det]
  generalize r0 / r1 = q at *
  generalize r0 % r1 = r2 at *
  rw [← hd]; clear hd hd'; grind
 ·haveI := h.h1
  rwa [Int.sub_eq_add_neg, ← Int.neg_mul, ← Int.neg_mul] at this
 ·haveI := Int.dvd_sub h.h0 (Int.dvd_mul_of_dvd_left (c := ((r0 / r1 : Nat) : Int)) h.h1)
  push_cast
  push_cast at this hd'
  generalize (r0 : Int) / (r1 : Int) = q at *
  generalize (r0 : Int) % (r1 : Int) = r2 at *
  haveI e : (r0 : Int) + s * T0 * v - (r1 - s * T1 * v) * q = r2 - -s * (T0 + q * T1) * v := by rw [← hd']; clear this hd hd'; grind
  rwa [e] at this
section
variable {w : Nat} (hw : 8 ≤ w) (hw2 : w ≤ 10)
include hw hw2
omit hw2 in
theorem QjS {N r1 : Nat} (m : Nat) (H : Hp) (hr1 : r1 < 2 ^ 16) (hN : N < 2 ^ 16) (a b c d e f g h i j : V) : evE (Qc tb (m + 7)) T_fraction_of_0 [a, b, .d (nn w N), c, d, e, f, .d (sg w r1), g, h, i, j] H = .ok (.d (.bool (decide (N < r1)))) H :=
 Qf (Qb rfl (Qae (a := r1) (b := N) (by lia) (m + 6) H (Qj (Nat.le_of_lt hr1) (by decide)) (Qj (Nat.le_of_lt hN) (by decide)))) rfl (Qho _ _)
theorem QqB {M N r0 r1 T0 T1 : Nat} {v s : Int} (m base : Nat) (H : Hp) (hM : M < 2 ^ 16) (hI : FrI M N v r0 r1 T0 T1 s) (h1 : N < r1) (A B C v10 v11 : V) :
  exB (Qc tb (m + 7)) base B_fraction_of_0 [A, B, C, .d (nd w), .fn 46, .fn 52, .d (sg w r0), .d (sg w r1), .d (sg w (-(s * T0))), .d (sg w (s * T1)), v10, v11] H = .next [A, B, C, .d (nd w), .fn 46, .fn 52, .d (sg w r1), .d (sg w (r0 % r1 : Nat)), .d (sg w (s * T1)), .d (sg w (-s * (T0 + r0 / r1 * T1 : Nat))), .d (sg w (r0 / r1 : Nat)), .d (sg w (r0 % r1 : Nat))] H := by
 haveI ha : s.natAbs = 1 := by
  haveI := congrArg Int.natAbs hI.hs
  rw [Int.natAbs_mul] at this
  exact Nat.eq_one_of_mul_eq_one_left this
 haveI hr0 : r0 < 2 ^ 16 := Nat.lt_of_le_of_lt hI.hM hM
 haveI hr1 : r1 < 2 ^ 16 := Nat.lt_of_le_of_lt hI.h10 hr0
 haveI hT1 : T1 ≤ M := hI.det ▸ Nat.le_trans (Nat.le_mul_of_pos_left T1 (Nat.lt_of_le_of_lt (Nat.zero_le N) hI.hr)) (Nat.le_add_right _ _)
 haveI hT0 : T0 ≤ M := hI.det ▸ Nat.le_trans (Nat.le_mul_of_pos_left T0 (Nat.lt_of_le_of_lt (Nat.zero_le N) h1)) (Nat.le_add_left _ _)
 haveI n0 : (-(s * (T0 : Int))).natAbs ≤ 2 ^ 16 := by rw [Int.natAbs_neg, Int.natAbs_mul, ha, Int.natAbs_natCast, Nat.one_mul]; exact Nat.le_trans hT0 (Nat.le_of_lt hM)
 haveI n1 : (s * (T1 : Int)).natAbs ≤ 2 ^ 16 := by rw [Int.natAbs_mul, ha, Int.natAbs_natCast, Nat.one_mul]; exact Nat.le_trans hT1 (Nat.le_of_lt hM)
 haveI nq : (((r0 / r1 : Nat) : Int)).natAbs ≤ 2 ^ 16 := by rw [Int.natAbs_natCast]; exact Nat.le_trans (Nat.div_le_self _ _) (Nat.le_of_lt hr0)
 haveI cs := Qdh hw hw2 (a := -(s * T0)) (b := ((r0 / r1 : Nat) : Int) * (s * T1)) (m + 3) H (Qj n0 (by decide)) (Qj (QB nq n1) (by decide))
 rw [show -(s * (T0 : Int)) - ((r0 / r1 : Nat) : Int) * (s * T1) = -s * ((T0 + r0 / r1 * T1 : Nat) : Int) from by push_cast; grind] at cs
 exact sq (QcG (Qb rfl (Qsu hw hw2 (a := r0) (b := r1) (m + 1) H hr0 (Nat.lt_of_le_of_lt (Nat.zero_le N) h1) hr1)) rfl) (sq (QT rfl rfl) (sq (QT (Qa rfl (Qa (Qb (Qa rfl (Qa (Qb rfl (QcV hw hw2 (a := ((r0 / r1 : Nat) : Int)) (b := s * T1) (m + 4) H (Qj nq (by decide)) (Qj n1 (by decide)))) rfl)) cs) rfl)) rfl) rfl))
omit hw hw2 in
theorem QrV {r0 r1 g : Nat} (h10 : r1 ≤ r0) (h0 : 0 < r1) (hf : r0 * r1 < 2 ^ (g + 1)) : r1 * (r0 % r1) < 2 ^ g := by
 haveI hmod := Nat.mod_lt r0 h0
 haveI hdm := Nat.div_add_mod r0 r1
 haveI := Nat.le_mul_of_pos_right r1 (Nat.div_pos h10 h0)
 haveI h2 := Nat.mul_le_mul_left r1 (by lia : 2 * (r0 % r1) ≤ r0)
 rw [Nat.pow_succ] at hf
 rw [Nat.mul_left_comm, Nat.mul_comm r1 r0] at h2
 clear hdm this hmod
 lia
theorem Qop {M N : Nat} {v : Int} (m base : Nat) (H : Hp) (hM : M < 2 ^ 16) (hN : N < 2 ^ 16) (A B : D) : ∀ (f r0 r1 T0 T1 : Nat) (s : Int) (v10 v11 : V), FrI M N v r0 r1 T0 T1 s → r0 * r1 < 2 ^ f →
  Ex7 fun (r0' r1' T0' T1' : Nat) (s' : Int) (v10' v11' : V) => FrI M N v r0' r1' T0' T1' s' ∧ r1' ≤ N ∧ Qav (evE (Qc tb (m + 7)) T_fraction_of_0) (exB (Qc tb (m + 7)) base B_fraction_of_0) (f + 1) [.d A, .d B, .d (nn w N), .d (nd w), .fn 46, .fn 52, .d (sg w r0), .d (sg w r1), .d (sg w (-(s * T0))), .d (sg w (s * T1)), v10, v11] H =
   .next [.d A, .d B, .d (nn w N), .d (nd w), .fn 46, .fn 52, .d (sg w r0'), .d (sg w r1'), .d (sg w (-(s' * T0'))), .d (sg w (s' * T1')), v10', v11'] H
 | 0, r0, r1, T0, T1, s, v10, v11, hI, hf => by
  haveI h0 : r1 = 0 := by
   refine Nat.eq_zero_of_not_pos fun q => ?_
   haveI := Nat.mul_pos (Nat.lt_of_le_of_lt (Nat.zero_le N) hI.hr) q
   rw [Nat.pow_zero] at hf; lia
  subst h0
  exact ⟨r0, 0, T0, T1, s, v10, v11, hI, Nat.zero_le _, QA ((QjS hw m H (by decide) hN ..).trans (by rw [decide_eq_false (Nat.not_lt_zero N)]))⟩
 | g + 1, r0, r1, T0, T1, s, v10, v11, hI, hf => by
  haveI hr1 : r1 < 2 ^ 16 := Nat.lt_of_le_of_lt hI.h10 (Nat.lt_of_le_of_lt hI.hM hM)
  by_cases h1 : N < r1
  ·obtain ⟨a0, a1, b0, b1, s', w10, w11, HH13⟩ := Qop m base H hM hN A B g r1 (r0 % r1) T1 (T0 + r0 / r1 * T1) (-s) (.d (sg w ((r0 / r1 : Nat) : Int))) (.d (sg w ((r0 % r1 : Nat) : Int))) (hI.step h1) (QrV hI.h10 (Nat.lt_of_le_of_lt (Nat.zero_le N) h1) hf)
   haveI i1 := HH13.1
   haveI i2 := HH13.2.1
   haveI e := HH13.2.2
   rw [show -(-s * (T1 : Int)) = s * T1 from by rw [Int.neg_mul, Int.neg_neg]] at e
   exact ⟨a0, a1, b0, b1, s', w10, w11, i1, i2, QaS ((QjS hw m H hr1 hN ..).trans (by rw [decide_eq_true h1])) (QqB hw hw2 m base H hM hI h1 (.d A) (.d B) (.d (nn w N)) v10 v11) e⟩
  ·exact ⟨r0, r1, T0, T1, s, v10, v11, hI, Nat.le_of_not_lt h1, QA ((QjS hw m H hr1 hN ..).trans (by rw [decide_eq_false h1]))⟩
theorem Qhj {M N V e : Nat} {z : Int} (m : Nat) (H : Hp) (hM : M < 2 ^ 16) (hV : V < M) (hN : 2 * (N * N) < M) (hN2 : N < M) (hz : (M : Int) ∣ z - e * V) (hn : z.natAbs ≤ N) (he : 0 < e) (heN : e ≤ N) (hc : Nat.Coprime z.natAbs e) :
  Qc tb (m + 8) 43 [.d (nn w V), .d (nn w M), .d (nn w N), .d (nd w), .fn 46, .fn 52] H = .ok (.tuple [sg w z, nn w e]) H := by
 haveI hVM : M * V < 2 ^ 4095 := by
  haveI := Nat.mul_le_mul (Nat.le_of_lt hM) (Nat.le_of_lt (Nat.lt_trans hV hM))
  exact Nat.lt_of_le_of_lt this (Nat.lt_of_le_of_lt (by decide : 2 ^ 16 * 2 ^ 16 ≤ 2 ^ 32) (Nat.pow_lt_pow_right (by lia) (by lia)))
 obtain ⟨r0, r1, T0, T1, s, v10, v11, hI, h1, el⟩ := Qop hw hw2 (v := (V : Int)) m H.length H hM (by lia) (nn w V) (nn w M) 4095 M V 0 1 1 .unb .unb ⟨rfl, hN2, Nat.le_of_lt hV, Nat.le_refl _, by lia, ⟨1, by simp⟩, ⟨0, by simp⟩⟩ hVM
 obtain ⟨f1, f2⟩ := Qnv hI.hs hN hI.hr h1 hI.det hI.h0 hI.h1 hz hn he heN hc
 subst f1
 haveI e0 : sg w (-(1 * ((0 : Nat) : Int))) = Qdg false := rfl
 have e1 : sg w (1 * ((1 : Nat) : Int)) = Qdg true := sg1 (by lia)
 rw [e0, e1, QlY, QlY] at el
 have hsv : s = 1 ∨ s = -1 := by
  haveI := congrArg Int.natAbs hI.hs
  rw [Int.natAbs_mul] at this
  haveI := Nat.eq_one_of_mul_eq_one_left this
  lia
 have hab : (s * (T1 : Int)).natAbs = T1 := by rcases hsv with rfl | rfl <;> lia
 haveI cs := QlM hw (m + 6) (s * (T1 : Int)) H
 haveI cc := Qae (w0 hw) (a := T1) (b := N) (m + 6) H (Qj (p := 2 ^ 16) (by lia) (by decide)) (Qj (p := 2 ^ 16) (by lia) (by decide))
 have hnn : ∀ {x : D}, sg w (s * (T1 : Int)) = .tuple [.bool (decide (s * (T1 : Int) < 0)), nn w T1] := by intro _; unfold sg nn; rw [hab]
 haveI hne : cmpD .eq (.int (s * (T1 : Int)).sign) (.int 0) = some false := by as_aux_lemma =>
  show some ((s * (T1 : Int)).sign == 0) = _
  rw [beq_eq_false_iff_ne.mpr (fun q => by have := Int.sign_eq_zero_iff_zero.mp q; lia)]
 have eor : ∀ ρ : Rho, ρ = [.d (nn w V), .d (nn w M), .d (nn w N), .d (nd w), .fn 46, .fn 52, .d (sg w r0), .d (sg w r1), .d (sg w (-(s * T0))), .d (sg w (s * T1)), v10, v11] → evE (Qc tb (m + 7)) (.or (.cmp .eq (.call 13 (.cons (.loc 9) .nil)) (.kd (.int 0))) (.cmp .gt (.call 2 (.cons (.idx (.loc 9) (.kd (.int 1))) (.cons (.loc 2) .nil))) (.kd (.int 0)))) ρ H = .ok (.d (.bool false)) H := by
  rintro _ rfl
  refine Qtd (z := false) (Qf (Qb rfl cs) rfl hne) ?_
  rw [hnn (x := .none)]
  exact Qf (Qb rfl cc) rfl ((Qho _ _).trans (congrArg some (decide_eq_false (by lia))))
 have e7 : ∀ ρ : Rho, ρ = [.d (nn w V), .d (nn w M), .d (nn w N), .d (nd w), .fn 46, .fn 52, .d (sg w r0), .d (sg w r1), .d (sg w (-(s * T0))), .d (sg w (s * T1)), v10, v11] → evE (Qc tb (m + 7)) (.ite (.idx (.loc 9) (.kd (.int 0))) (.call 12 (.cons (.loc 7) .nil)) (.loc 7)) ρ H = .ok (.d (sg w z)) H := by
  rintro _ rfl
  refine QO (z := decide (s * (T1 : Int) < 0)) (H1 := H) rfl ?_
  rcases hsv with rfl | rfl
  ·rw [decide_eq_false (by lia), show z = (r1 : Int) from by lia]; rfl
  ·rw [decide_eq_true (by lia), show z = -(r1 : Int) from by lia]
   exact Qb rfl (Qre hw hw2 (m + 5) r1 H)
 have e8 : ∀ ρ : Rho, ρ = [.d (nn w V), .d (nn w M), .d (nn w N), .d (nd w), .fn 46, .fn 52, .d (sg w r0), .d (sg w r1), .d (sg w (-(s * T0))), .d (sg w (s * T1)), v10, v11] → evE (Qc tb (m + 7)) (.idx (.loc 9) (.kd (.int 1))) ρ H = .ok (.d (nn w T1)) H := by
  rintro _ rfl
  rw [hnn (x := .none)]; rfl
 exact Qt (f := QcS) (H1 := H) rfl rfl (sq (QT rfl rfl) (sq (QcE el) (sq (Qr (eor _ rfl) rfl) (Qg (Qbd (Qa (e7 _ rfl) (Qa (e8 _ rfl) rfl)) rfl rfl))))) tk0
end
theorem QrL : (([149, 151, 157, 163] : List Nat).all fun p => (List.range 19).all fun k => k == 0 || Nat.gcd k p == 1) = true := by decide +kernel
theorem QsT {p k : Nat} (hp : Pm p) (h0 : k ≠ 0) (hk : k ≤ 18) : Nat.Coprime k p := by
 haveI h := QrL
 rw [List.all_eq_true] at h
 haveI h1 := h p (by rcases hp with rfl | rfl | rfl | rfl <;> simp)
 rw [List.all_eq_true] at h1
 haveI h2 := h1 k (List.mem_range.mpr (by lia))
 simp only [Bool.or_eq_true, beq_iff_eq] at h2
 exact h2.resolve_left h0
theorem Qkn {M : Nat} {D x : Int} (hc : Nat.Coprime D.natAbs M) (h : (M : Int) ∣ D * x) : (M : Int) ∣ x := by
 rw [← Int.natAbs_dvd_natAbs] at *
 rw [Int.natAbs_mul] at h
 exact Nat.Coprime.dvd_of_dvd_mul_left (Nat.coprime_comm.mp hc) h
section
variable {w : Nat} (hw : 8 ≤ w) (hw2 : w ≤ 10)
include hw hw2
theorem Qlc {a b c d i j k l r0 r1 : Int} {p n : Nat} {L : List D} {ρ1 : Rho} (m : Nat) (H : Hp) (hP : Pm p)
  (e : Qaf (Tgt.one 11).bd (exB (Qc tb (m + 7)) H.length B_lifted_digits_0) (Qbc (0 : Nat) n) [.d (mt w [[a, b], [c, d]]), .d (rw' w [r0, r1]), .d (ml [[i, j], [k, l]]), .d (nd p), .d (nd n), .d (nd w), .fn 46, .fn 52, .d (rw' w [r0, r1]), .cell H.length, .d (sg w p), .unb, .unb, .unb, .unb, .unb, .unb, .unb] (H ++ [[]]) = .next ρ1 (H ++ [L])) (h9 : gt ρ1 9 = .cell H.length) (hn : n ≤ 2) :
  Qc tb (m + 8) 42 [.d (mt w [[a, b], [c, d]]), .d (rw' w [r0, r1]), .d (ml [[i, j], [k, l]]), .d (nd p), .d (nd n), .d (nd w), .fn 46, .fn 52] H = .ok (.list L) H := by
 haveI HH3 := hP.pos
 haveI p0 := HH3.1
 haveI p1 := HH3.2.1
 haveI p2 := HH3.2.2
 haveI cn := QaI hw hw2 (n := p) (m + 6) (H ++ [[]]) (Qj p2 (by decide))
 haveI e9 : evE (Qc tb (m + 7)) (.loc 9) ρ1 (H ++ [L]) = .ok (.cell H.length) (H ++ [L]) := Qku h9
 haveI et : evE (Qc tb (m + 7)) (.tup (.cons (.kd (.bool false)) (.cons (.call 1 (.cons (.loc 3) (.cons (.loc 5) .nil))) .nil))) [.d (mt w [[a, b], [c, d]]), .d (rw' w [r0, r1]), .d (ml [[i, j], [k, l]]), .d (nd p), .d (nd n), .d (nd w), .fn 46, .fn 52, .unb, .unb, .unb, .unb, .unb, .unb, .unb, .unb, .unb, .unb] (H ++ [[]]) = .ok (.d (sg w p)) (H ++ [[]]) := by
  rw [QlY]
  exact Qv (Qa rfl (Qa (Qb (Qa (v := .d (nd p)) rfl (Qa (v := .d (nd w)) rfl rfl)) cn) rfl)) rfl
 exact Qt (f := QbI) rfl rfl (sq (QT (Qa rfl (Qa (QbC rfl) (Qa et rfl))) rfl) (sq (QP (QM rfl (by lia)) e) (Qg (Qgc e9 (Nat.le_refl _) (getc _ _))))) tk1
theorem QnH {a b c d i j k l r0 r1 : Int} {p : Nat} (m : Nat) (H : Hp) (hP : Pm p) (hb : Bnd 3 [[a, b], [c, d]]) (hu : Undo p a b c d i j k l) (hr : Rg4 p i j k l) (h0 : r0.natAbs ≤ 8) (h1 : r1.natAbs ≤ 8) :
  Ex4 fun (x0 x1 : Nat) (s0 s1 : Int) => (x0 < p ∧ x1 < p) ∧ (r0 = a * x0 + b * x1 + p * s0 ∧ r1 = c * x0 + d * x1 + p * s1) ∧ Qc tb (m + 8) 42 [.d (mt w [[a, b], [c, d]]), .d (rw' w [r0, r1]), .d (ml [[i, j], [k, l]]), .d (nd p), .d (nd 1), .d (nd w), .fn 46, .fn 52] H = .ok (.list [il [(x0 : Int), (x1 : Int)]]) H := by
 obtain ⟨d0, d1, s0, s1, ⟨g0, g1⟩, he, _, _, _, _, _, _, _, e⟩ := Qka hw hw2 m H hP hb hu hr h0 h1 (rw' w [r0, r1]) (nd 1) [] (by simp) (.d (nd 0)) .unb .unb .unb .unb .unb .unb
 obtain ⟨x0, rfl⟩ : ∃ x : Nat, d0 = x := ⟨d0.toNat, by obtain ⟨_, _⟩ := g0; lia⟩
 obtain ⟨x1, rfl⟩ : ∃ x : Nat, d1 = x := ⟨d1.toNat, by obtain ⟨_, _⟩ := g1; lia⟩
 exact ⟨x0, x1, s0, s1, ⟨by obtain ⟨_, _⟩ := g0; lia, by obtain ⟨_, _⟩ := g1; lia⟩, he, Qlc hw hw2 m H hP (n := 1) (Qq rfl e Qau) rfl (by lia)⟩
theorem QoM {a b c d i j k l r0 r1 : Int} {p : Nat} (m : Nat) (H : Hp) (hP : Pm p) (hb : Bnd 3 [[a, b], [c, d]]) (hu : Undo p a b c d i j k l) (hr : Rg4 p i j k l) (h0 : r0.natAbs ≤ 8) (h1 : r1.natAbs ≤ 8) :
  Ex6 fun (x0 x1 y0 y1 : Nat) (s0 s1 : Int) => (x0 < p ∧ x1 < p ∧ y0 < p ∧ y1 < p) ∧ (r0 = a * (y0 * p + x0) + b * (y1 * p + x1) + p * p * s0 ∧ r1 = c * (y0 * p + x0) + d * (y1 * p + x1) + p * p * s1) ∧ Qc tb (m + 8) 42 [.d (mt w [[a, b], [c, d]]), .d (rw' w [r0, r1]), .d (ml [[i, j], [k, l]]), .d (nd p), .d (nd 2), .d (nd w), .fn 46, .fn 52] H = .ok (.list [il [(x0 : Int), (x1 : Int)], il [(y0 : Int), (y1 : Int)]]) H := by
 obtain ⟨d0, d1, s0, s1, ⟨g0, g1⟩, ⟨he0, he1⟩, ⟨b0, b1⟩, v2, v3, v4, v5, v6, v7, e⟩ := Qka hw hw2 m H hP hb hu hr h0 h1 (rw' w [r0, r1]) (nd 2) [] (by simp) (.d (nd 0)) .unb .unb .unb .unb .unb .unb
 obtain ⟨f0, f1, u0, u1, ⟨k0, k1⟩, ⟨hf0, hf1⟩, _, _, _, _, _, _, _, e'⟩ := Qka hw hw2 m H hP hb hu hr b0 b1 (rw' w [r0, r1]) (nd 2) ([] ++ [il [d0, d1]]) (by simp) (.d (nd 1)) v2 v3 v4 v5 v6 v7
 obtain ⟨x0, rfl⟩ : ∃ x : Nat, d0 = x := ⟨d0.toNat, by obtain ⟨_, _⟩ := g0; lia⟩
 obtain ⟨x1, rfl⟩ : ∃ x : Nat, d1 = x := ⟨d1.toNat, by obtain ⟨_, _⟩ := g1; lia⟩
 obtain ⟨y0, rfl⟩ : ∃ x : Nat, f0 = x := ⟨f0.toNat, by obtain ⟨_, _⟩ := k0; lia⟩
 obtain ⟨y1, rfl⟩ : ∃ x : Nat, f1 = x := ⟨f1.toNat, by obtain ⟨_, _⟩ := k1; lia⟩
 refine ⟨x0, x1, y0, y1, u0, u1, ⟨by obtain ⟨_, _⟩ := g0; lia, by obtain ⟨_, _⟩ := g1; lia, by obtain ⟨_, _⟩ := k0; lia, by obtain ⟨_, _⟩ := k1; lia⟩, ⟨?_, ?_⟩, Qlc hw hw2 m H hP (n := 2) (Qq rfl e (Qq rfl e' Qau)) rfl (by lia)⟩
 ·rw [he0, hf0]; clear he0 he1 hf0 hf1 e e' hu; grind
 ·rw [he1, hf1]; clear he0 he1 hf0 hf1 e e' hu; grind
end
theorem Qsb {cl : Qh} {ρ : Rho} {H H1 : Hp} {e : PE} {xs : List D} (h : evE cl e ρ H = .ok (.d (.list xs)) H1) : evI cl (.rev e) ρ H = .ok xs.reverse H1 := by
 exact Qv h rfl
noncomputable def DxW (cl : Qh) (base : Nat) (H : Hp) (A E I : V) (st w p N W M n : Nat) : Prop := Qav (evE cl T_solve_dixon_0) (exB cl base B_solve_dixon_0) QH [A, E, .d (nd st), .d (nd w), .fn 46, .fn 52, .d (nd p), I, .d (nn w N), .d (nn w W), .d (nn w 1), .d (nd 0), .unb, .unb, .unb, .unb] H = .next [A, E, .d (nd st), .d (nd w), .fn 46, .fn 52, .d (nd p), I, .d (nn w N), .d (nn w W), .d (nn w M), .d (nd n), .unb, .unb, .unb, .unb] H
noncomputable def DxF (cl : Qh) (base : Nat) (H : Hp) (A E I : V) (st w p N W M n : Nat) (L : List D) (V0 V1 : Nat) (v13 v14 v15 : V) : Prop := Qaf (Tgt.one 13).bd (exB cl base B_solve_dixon_1) L.reverse [A, E, .d (nd st), .d (nd w), .fn 46, .fn 52, .d (nd p), I, .d (nn w N), .d (nn w W), .d (nn w M), .d (nd n), .d (.list [nn w 0, nn w 0]), .unb, .unb, .unb] H = .next [A, E, .d (nd st), .d (nd w), .fn 46, .fn 52, .d (nd p), I, .d (nn w N), .d (nn w W), .d (nn w M), .d (nd n), .d (.list [nn w V0, nn w V1]), v13, v14, v15] H
inductive DxM (cl : Qh) (base : Nat) (H : Hp) (A E I : V) (st w p N W : Nat) (a b c d e f : Int) : Prop
 | mk (M V0 V1 n : Nat) (L : List D) (v13 v14 v15 : V) (hW : W < M) (hM : M < 2 ^ 16) (h0 : V0 < M) (h1 : V1 < M) (hc : Nat.Coprime (a * d - b * c).natAbs M) (d0 : (M : Int) ∣ e - (a * V0 + b * V1)) (d1 : (M : Int) ∣ f - (c * V0 + d * V1))
  (ew : DxW cl base H A E I st w p N W M n) (c42 : cl 42 [A, E, I, .d (nd p), .d (nd n), .d (nd w), .fn 46, .fn 52] H = .ok (.list L) H) (ef : DxF cl base H A E I st w p N W M n L V0 V1 v13 v14 v15)
theorem zdvd {a b c d e f z : Int} {V0 V1 q M : Nat} (hcM : Nat.Coprime (a * d - b * c).natAbs M) (hd0 : (M : Int) ∣ e - (a * V0 + b * V1)) (hd1 : (M : Int) ∣ f - (c * V0 + d * V1)) (h0 : z * (a * d - b * c) = (d * e - b * f) * q) : (M : Int) ∣ z - q * V0 := by
 refine Qkn hcM ?_
 haveI := Int.dvd_sub (Int.dvd_mul_of_dvd_right (b := d) hd0) (Int.dvd_mul_of_dvd_right (b := b) hd1)
 haveI h2 := Int.dvd_mul_of_dvd_left (c := (q : Int)) this
 rwa [show (d * (e - (a * V0 + b * V1)) - b * (f - (c * V0 + d * V1))) * (q : Int) = (d * e - b * f) * q - (a * d - b * c) * (q * V0) from by clear h0 hd0 hd1 this h2; grind, ← h0, show z * (a * d - b * c) - (a * d - b * c) * (q * V0) = (a * d - b * c) * (z - q * V0) from by clear h0 hd0 hd1 this h2; grind] at h2
section
variable {w : Nat} (hw : 8 ≤ w) (hw2 : w ≤ 10)
include hw hw2
theorem QrM {p x0 x1 V0 V1 : Nat} (m base : Nat) (H : Hp) (hP : Pm p) (h0 : x0 < p) (h1 : x1 < p) (g0 : V0 ≤ 2 ^ 16) (g1 : V1 ≤ 2 ^ 16) (a b c n : V) (q i B W M : V) (v14 v15 : V) :
  Ex2 fun v14' v15' => exB (Qc tb (m + 3)) base B_solve_dixon_1 [a, b, c, .d (nd w), .fn 46, q, .d (nd p), i, B, W, M, n, .d (.list [nn w V0, nn w V1]), .d (il [(x0 : Int), (x1 : Int)]), v14, v15] H =
   .next [a, b, c, .d (nd w), .fn 46, q, .d (nd p), i, B, W, M, n, .d (.list [nn w (V0 * p + x0), nn w (V1 * p + x1)]), .d (il [(x0 : Int), (x1 : Int)]), v14', v15'] H := by
 haveI HH3 := hP.pos
 haveI p0 := HH3.1
 haveI p1 := HH3.2.1
 haveI p2 := HH3.2.2
 haveI cp := QaI hw hw2 (n := p) (m + 2) H (Qj p2 (by decide))
 haveI cx := fun {x : Nat} (hx : x < p) => QaI hw hw2 (n := x) (m + 2) H (Qj (p := 163) (by lia) (by decide))
 haveI cm := fun {V : Nat} (hV : V ≤ 2 ^ 16) => QhH (w0 hw) (w16 hw2) (a := V) (b := p) (m + 1) H (Qj hV (by decide)) (Qj p2 (by decide))
 haveI ca := fun {V x : Nat} (hV : V ≤ 2 ^ 16) (hx : x < p) => Qpj (w0 hw) (w16 hw2) (a := V * p) (b := x) (m + 2) H (Qj (Nat.mul_le_mul hV p2) (by decide)) (Qj (p := 163) (by lia) (by decide))
 exact ⟨_, _, sq (Qk (Qu (Qo (Qcq (xs := [nn w V0, nn w V1]) rfl) (Qd rfl (Qb (Qa (Qap rfl (Qa rfl (Qa (Qb rfl cp) rfl)) (cm g0)) (Qa (Qb (Qa (Qi (z := .int x0) rfl rfl rfl rfl) rfl) (cx h0)) rfl)) (ca g0 h0)) (Qd rfl (Qb (Qa (Qap rfl (Qa rfl (Qa (Qb rfl cp) rfl)) (cm g1)) (Qa (Qb (Qa (Qi (z := .int x1) rfl rfl rfl rfl) rfl) (cx h1)) rfl)) (ca g1 h1)) Ql))))) rfl⟩
theorem Qlt {p M n N : Nat} (m base : Nat) (H : Hp) (hP : Pm p) (hM : M ≤ 2 ^ 16) (a b c q i B W v12 v13 v14 v15 : V) :
  exB (Qc tb (m + 3)) base B_solve_dixon_0 [a, b, c, .d (nd w), .fn 46, q, .d (nd p), i, B, W, .d (nn w M), .d (nd n), v12, v13, v14, v15] H = .next [a, b, c, .d (nd w), .fn 46, q, .d (nd p), i, B, W, .d (nn w (M * p)), .d (nd (n + 1)), v12, v13, v14, v15] H := by
 haveI HH2 := hP.pos
 haveI p0 := HH2.1
 haveI p1 := HH2.2.1
 haveI p2 := HH2.2.2
 haveI cp := QaI hw hw2 (n := p) (m + 2) H (Qj p2 (by decide))
 haveI cm := QhH (w0 hw) (w16 hw2) (a := M) (b := p) (m + 1) H (Qj hM (by decide)) (Qj p2 (by decide))
 exact sq (Qk (Qap rfl (Qa rfl (Qa (Qb rfl cp) rfl)) cm)) (sq (Qcb rfl rfl (QG _ 1)) rfl)
theorem QjD {a b c d e f : Int} (m : Nat) (H : Hp) (hb : Bnd (2 ^ 20) [[a, b, e], [c, d, f]]) : Qc tb (m + 4) 44 [.d (mt w [[a, b], [c, d]]), .d (rw' w [e, f]), .d (nd w), .fn 46] H = .ok (nn w (1 * sumA 0 [a, b, e] * sumA 0 [c, d, f])) H := by
 haveI s0 : sumA 0 [a, b, e] ≤ 2 ^ 30 := by
  haveI := hb.m23.1; have := hb.m23.2.1; have := hb.m23.2.2.1
  show 0 + a.natAbs + b.natAbs + e.natAbs ≤ _; lia
 haveI s1 : sumA 0 [c, d, f] ≤ 2 ^ 30 := by
  haveI := hb.m23.2.2.2.1; have := hb.m23.2.2.2.2.1; have := hb.m23.2.2.2.2.2
  show 0 + c.natAbs + d.natAbs + f.natAbs ≤ _; lia
 exact Qt (f := QdF) (H1 := H) rfl rfl (Qg (Qy (Qb (Qa (v := .d (mt w [[a, b, e], [c, d, f]])) (Qu (Qo (Qcq (xs := [rw' w [a, b], rw' w [c, d]]) rfl) (Qd rfl rfl (Qd rfl rfl Ql)))) rfl) (Qcu hw hw2 m H hb (by simp) (by simp) s0 s1)))) tk0
theorem Qjs {a b c d : Int} {f : Nat} (m : Nat) (H : Hp) (C : D) (hb : Bnd 3 [[a, b], [c, d]]) (hf : Fst f) (hD : a * d - b * c = 0) : Qc tb (m + 6) 45 [.d (mt w [[a, b], [c, d]]), .d C, .d (nd f), .d (nd w), .fn 46, .fn 52] H = .exc H :=
 QiV (f := Qbr) (H1 := H) rfl rfl (QfA (Qqo (Qef rfl ((Qjn hw hw2 m H hb hf).1 hD)))) tk0
theorem Qpl {a b c d e f i j k l : Int} {st p N W : Nat} (m : Nat) (H : Hp) (hb : Bnd 3 [[a, b], [c, d]]) (he : e.natAbs ≤ 4) (hf' : f.natAbs ≤ 4) (P1 : Pm p) (p149 : 149 ≤ p) (hp157 : p ≤ 157) (hu : Undo p a b c d i j k l) (hr : Rg4 p i j k l) (hW1 : 1 ≤ W) (hW2 : W ≤ 20000) (cop : Nat.Coprime (a * d - b * c).natAbs p) :
  DxM (Qc tb (m + 8)) H.length H (.d (mt w [[a, b], [c, d]])) (.d (rw' w [e, f])) (.d (ml [[i, j], [k, l]])) st w p N W a b c d e f := by
 haveI pp1 : 0 < p := Nat.lt_of_lt_of_le (by decide) p149
 haveI ct : ∀ {M n : Nat} {y : Bool}, M ≤ 2 ^ 20 → decide (M ≤ W) = y → evE (Qc tb (m + 8)) T_solve_dixon_0 [.d (mt w [[a, b], [c, d]]), .d (rw' w [e, f]), .d (nd st), .d (nd w), .fn 46, .fn 52, .d (nd p), .d (ml [[i, j], [k, l]]), .d (nn w N), .d (nn w W), .d (nn w M), .d (nd n), .unb, .unb, .unb, .unb] H = .ok (.d (.bool y)) H := fun hM hy => Qf (Qb rfl (Qae (by lia) (m + 7) H (Qj hM (by decide)) (Qj hW2 (by decide)))) rfl ((QhQ _ _).trans (congrArg some hy))
 haveI s1 := Qlt hw hw2 (N := N) (p := p) (M := 1) (n := 0) (m + 5) H.length H P1 (by lia) (.d (mt w [[a, b], [c, d]])) (.d (rw' w [e, f])) (.d (nd st)) (.fn 52) (.d (ml [[i, j], [k, l]])) (.d (nn w N)) (.d (nn w W)) .unb .unb .unb .unb
 haveI dv := fun (x0 x1 V0 V1 n : Nat) (M : Nat) (h0 : x0 < p) (h1 : x1 < p) (g0 : V0 ≤ 2 ^ 16) (g1 : V1 ≤ 2 ^ 16) (v14 v15 : V) => QrM hw hw2 (m + 5) H.length H P1 h0 h1 g0 g1 (.d (mt w [[a, b], [c, d]])) (.d (rw' w [e, f])) (.d (nd st)) (.d (nd n)) (.fn 52) (.d (ml [[i, j], [k, l]])) (.d (nn w N)) (.d (nn w W)) (.d (nn w M)) v14 v15
 by_cases h : 1 * p ≤ W
 ·haveI s2 := Qlt hw hw2 (N := N) (p := p) (M := 1 * p) (n := 0 + 1) (m + 5) H.length H P1 (by lia) (.d (mt w [[a, b], [c, d]])) (.d (rw' w [e, f])) (.d (nd st)) (.fn 52) (.d (ml [[i, j], [k, l]])) (.d (nn w N)) (.d (nn w W)) .unb .unb .unb .unb
  obtain ⟨x0, x1, y0, y1, u0, u1, ⟨g0, g1, g2, g3⟩, ⟨e0, e1⟩, c42⟩ := QoM hw hw2 m H P1 hb hu hr (by lia : e.natAbs ≤ 8) (by lia : f.natAbs ≤ 8)
  haveI hpp := Nat.mul_le_mul p149 p149
  haveI hpp2 := Nat.mul_le_mul hp157 hp157
  haveI lt2 : ∀ {y x : Nat}, y < p → x < p → (0 * p + y) * p + x < 1 * p * p := by
   intro y x hy hx
   haveI := Nat.mul_le_mul_right p (Nat.succ_le_of_lt hy)
   rw [Nat.succ_mul] at this
   rw [Nat.zero_mul, Nat.zero_add, Nat.one_mul]; lia
  obtain ⟨w14, w15, d1⟩ := dv y0 y1 0 0 2 (1 * p * p) g2 g3 (by lia) (by lia) .unb .unb
  obtain ⟨x14, x15, d2⟩ := dv x0 x1 (0 * p + y0) (0 * p + y1) 2 (1 * p * p) g0 g1 (by lia) (by lia) w14 w15
  refine ⟨1 * p * p, (0 * p + y0) * p + x0, (0 * p + y1) * p + x1, 2, _, _, _, _, by rw [Nat.one_mul]; lia, by rw [Nat.one_mul]; lia, lt2 g2 g0, lt2 g3 g1, by rw [Nat.one_mul]; exact Nat.Coprime.mul_right cop cop, ⟨u0, ?_⟩, ⟨u1, ?_⟩, QaS (n := 4095) (ct (by lia) (decide_eq_true hW1)) s1 (QaS (n := 4094) (ct (by lia) (decide_eq_true h)) s2 (QA (n := 4093) (ct (by rw [Nat.one_mul]; lia) (decide_eq_false (by rw [Nat.one_mul]; lia))))), c42, Qq rfl d1 (Qq rfl d2 Qau)⟩
  ·rw [e0]; push_cast; clear e0 e1 d1 d2 c42 hu; grind
  ·rw [e1]; push_cast; clear e0 e1 d1 d2 c42 hu; grind
 ·obtain ⟨x0, x1, u0, u1, ⟨g0, g1⟩, ⟨e0, e1⟩, c42⟩ := QnH hw hw2 m H P1 hb hu hr (by lia : e.natAbs ≤ 8) (by lia : f.natAbs ≤ 8)
  obtain ⟨w14, w15, d1⟩ := dv x0 x1 0 0 1 (1 * p) g0 g1 (by lia) (by lia) .unb .unb
  refine ⟨1 * p, 0 * p + x0, 0 * p + x1, 1, _, _, _, _, by lia, by lia, by lia, by lia, by rw [Nat.one_mul]; exact cop, ⟨u0, ?_⟩, ⟨u1, ?_⟩, QaS (n := 4095) (ct (by lia) (decide_eq_true hW1)) s1 (QA (n := 4094) (ct (by lia) (decide_eq_false h))), c42, Qq rfl d1 Qau⟩
  ·rw [e0]; push_cast; clear e0 e1 d1 c42 hu; grind
  ·rw [e1]; push_cast; clear e0 e1 d1 c42 hu; grind
theorem Qru {a b c d e f : Int} {st : Nat} {z0 z1 : Int} {q0 q1 : Nat} (m : Nat) (H : Hp) (hb : Bnd 3 [[a, b], [c, d]]) (he : e.natAbs ≤ 4) (hf' : f.natAbs ≤ 4) (hf : Fst st) (hD : a * d - b * c ≠ 0)
  (h0 : z0 * (a * d - b * c) = (d * e - b * f) * q0) (h1 : z1 * (a * d - b * c) = (a * f - c * e) * q1) (l0 : z0.natAbs ≤ (d * e - b * f).natAbs) (l1 : z1.natAbs ≤ (a * f - c * e).natAbs) (p0 : 0 < q0) (p1 : 0 < q1) (k0 : q0 ≤ (a * d - b * c).natAbs) (k1 : q1 ≤ (a * d - b * c).natAbs) (c0 : Nat.Coprime z0.natAbs q0) (c1 : Nat.Coprime z1.natAbs q1) :
  Qc tb (m + 9) 45 [.d (mt w [[a, b], [c, d]]), .d (rw' w [e, f]), .d (nd st), .d (nd w), .fn 46, .fn 52] H = .ok (.list [.tuple [sg w z0, nn w q0], .tuple [sg w z1, nn w q1]]) H := by
 haveI HH3 := QfI hf
 haveI P1 := HH3.1
 haveI hp157 := HH3.2.2.2.2.2.2.2
 obtain ⟨i, j, k, l, hu, hr, cl⟩ := (Qjn hw hw2 (m + 3) H hb hf).2 hD
 obtain ⟨p, hp⟩ : ∃ p, p = nxt st := ⟨_, rfl⟩
 rw [← hp] at P1 hu hr cl hp157
 haveI HH9 := P1.pos
 haveI pp0 := HH9.1
 haveI pp1 := HH9.2.1
 haveI pp2 := HH9.2.2
 haveI p149 : 149 ≤ p := by rcases P1 with h | h | h | h <;> lia
 haveI ba := hb.m22.1
 haveI bb := hb.m22.2.1
 haveI bc := hb.m22.2.2.1
 haveI bd := hb.m22.2.2.2
 haveI clb := QjD hw hw2 (a := a) (b := b) (c := c) (d := d) (e := e) (f := f) (m + 4) H (QsC (by lia) (by lia) (by lia) (by lia) (by lia) (by lia))
 obtain ⟨N, hN⟩ : ∃ N, N = 1 * sumA 0 [a, b, e] * sumA 0 [c, d, f] := ⟨_, rfl⟩
 rw [← hN] at clb
 haveI eN : N = (0 + a.natAbs + b.natAbs + e.natAbs) * (0 + c.natAbs + d.natAbs + f.natAbs) := by as_aux_lemma => rw [hN, Nat.one_mul]; rfl
 clear hN
 haveI hN100 : N ≤ 10 * 10 := by as_aux_lemma => rw [eN]; exact Nat.mul_le_mul (by lia) (by lia)
 haveI bnds : (a * d - b * c).natAbs ≤ N ∧ (d * e - b * f).natAbs ≤ N ∧ (a * f - c * e).natAbs ≤ N := by
  haveI e2 : N = a.natAbs * c.natAbs + a.natAbs * d.natAbs + a.natAbs * f.natAbs + (b.natAbs * c.natAbs + b.natAbs * d.natAbs + b.natAbs * f.natAbs) + (d.natAbs * e.natAbs + c.natAbs * e.natAbs + e.natAbs * f.natAbs) := by rw [eN]; clear hb hu clb cl h0 h1 eN; grind
  haveI t1 := Int.natAbs_sub_le (a * d) (b * c)
  haveI t2 := Int.natAbs_sub_le (d * e) (b * f)
  haveI t3 := Int.natAbs_sub_le (a * f) (c * e)
  rw [Int.natAbs_mul, Int.natAbs_mul] at t1 t2 t3
  clear hu cl clb
  exact ⟨by lia, by lia, by lia⟩
 haveI hD18 : (a * d - b * c).natAbs ≤ 18 := by
  haveI t1 := Int.natAbs_sub_le (a * d) (b * c)
  haveI t2 := QB ba bd
  haveI t3 := QB bb bc
  lia
 obtain ⟨bD, b0, b1⟩ := bnds
 clear eN
 haveI hNN := Nat.mul_le_mul hN100 hN100
 obtain ⟨W, hW⟩ : ∃ W, W = N * N * 2 ^ 1 := ⟨_, rfl⟩
 haveI cmb := QhH (w0 hw) (w16 hw2) (a := N) (b := N) (m + 6) H (Qj hN100 (by decide)) (Qj hN100 (by decide))
 haveI cw := QaB (w0 hw) (w16 hw2) (a := N * N) (f := 1) (m + 7) H (Qj hNN (by decide)) (by lia)
 rw [← hW] at cw
 haveI hW1 : 1 ≤ W := by
  haveI := Nat.mul_le_mul (by lia : 1 ≤ N) (by lia : 1 ≤ N)
  lia
 haveI hW2 : W ≤ 20000 := by lia
 haveI cop := QsT P1 (k := (a * d - b * c).natAbs) (by lia) hD18
 obtain ⟨M, V0, V1, n, L, v13, v14, v15, hWM, hM16, hV0, hV1, hcM, hd0, hd1, ew, c42, ef⟩ := Qpl hw hw2 (N := N) (st := st) (e := e) (f := f) m H hb he hf' P1 p149 hp157 hu hr hW1 hW2 cop
 clear hu hr
 haveI z0d := zdvd hcM hd0 hd1 h0
 haveI z1d : (M : Int) ∣ z1 - q1 * V1 := zdvd (a := d) (b := c) (c := b) (d := a) (e := f) (f := e) (V0 := V1) (V1 := V0) (by rwa [Int.mul_comm d, Int.mul_comm c]) (by rwa [Int.add_comm]) (by rwa [Int.add_comm]) (by rwa [Int.mul_comm d, Int.mul_comm c])
 haveI hNM : 2 * (N * N) < M ∧ N < M := by
  haveI := Nat.le_mul_of_pos_left N (by lia : 0 < N)
  lia
 haveI f0 := Qhj hw hw2 (M := M) (N := N) (V := V0) (e := q0) (z := z0) m H hM16 hV0 hNM.1 hNM.2 z0d (by lia) p0 (by lia) c0
 haveI f1 := Qhj hw hw2 (M := M) (N := N) (V := V1) (e := q1) (z := z1) m H hM16 hV1 hNM.1 hNM.2 z1d (by lia) p1 (by lia) c1
 unfold DxW at ew
 rw [nn1 hw] at ew
 exact Qt (f := Qbr) (H1 := H) rfl rfl (sq (QcG (Qb rfl cl) rfl) (sq (Qk (Qb rfl clb)) (sq (QT (Qa (Qb (Qa (Qap rfl rfl cmb) rfl) cw) rfl) rfl) (sq (QcE ew) (sq (Qk (Qu (Qo (ys := [nn w 0, nn w 0]) rfl (Qd rfl rfl (Qd rfl rfl Ql))))) (sq (QP (Qsb (Qb rfl c42)) ef) (Qg (Qy (Qu (Qo (xs := [nn w V0, nn w V1]) rfl (Qd rfl (Qb rfl f0) (Qd rfl (Qb rfl f1) Ql)))))))))))) tk0
end
structure Fine (k : Nat) (x : D) : Prop where
 lay : x.canLay0 = true
 dep : x.depth ≤ k
 eq : PyData.eqv x x = true
theorem QjM {k : Nat} : ∀ {xs : List D}, (∀ x ∈ xs, Fine k x) → PyData.canLayAll0 xs = true ∧ PyData.depthAll xs ≤ k ∧ PyData.eqvAll xs xs = true
 | [], _ => ⟨rfl, Nat.zero_le _, rfl⟩
 | x :: r, h => by
  haveI HH3 := QjM (fun y hy => h y (List.mem_cons_of_mem _ hy))
  haveI h1 := HH3.1
  haveI h2 := HH3.2.1
  haveI h3 := HH3.2.2
  obtain ⟨g1, g2, g3⟩ := h x List.mem_cons_self
  exact ⟨by rw [PyData.canLayAll0, g1, h1]; rfl, by rw [PyData.depthAll]; lia, by rw [PyData.eqvAll, g3, h3]; rfl⟩
theorem Qla (i : Int) : Fine 0 (.int i) := ⟨rfl, Nat.le_refl _, by rw [PyData.eqv]; exact beq_self_eq_true i⟩
theorem QnN (b : Bool) : Fine 0 (.bool b) := ⟨rfl, Nat.le_refl _, by cases b <;> rfl⟩
theorem Fine.up {k l : Nat} {x : D} (h : Fine k x) (hl : k ≤ l) : Fine l x := ⟨h.lay, Nat.le_trans h.dep hl, h.eq⟩
theorem Qfd {k : Nat} {xs : List D} (h : ∀ x ∈ xs, Fine k x) : Fine (k + 1) (.list xs) := by
 haveI HH1 := QjM h
 haveI h1 := HH1.1
 haveI h2 := HH1.2.1
 haveI h3 := HH1.2.2
 exact ⟨by rw [PyData.canLay0]; exact h1, by rw [PyData.depth]; lia, by rw [PyData.eqv]; exact h3⟩
theorem Qmd {k : Nat} {xs : List D} (h : ∀ x ∈ xs, Fine k x) : Fine (k + 1) (.tuple xs) := by
 haveI HH1 := QjM h
 haveI h1 := HH1.1
 haveI h2 := HH1.2.1
 haveI h3 := HH1.2.2
 exact ⟨by rw [PyData.canLay0]; exact h1, by rw [PyData.depth]; lia, by rw [PyData.eqv]; exact h3⟩
theorem Qhs {α : Type} {k : Nat} {f : α → D} (h : ∀ a, Fine k (f a)) (l : List α) : Fine (k + 1) (.list (l.map f)) :=
 Qfd fun x hx => by obtain ⟨a, _, rfl⟩ := List.mem_map.mp hx; exact h a
theorem QoA (w n : Nat) : Fine 1 (nn w n) := Qhs (f := nd) (fun a => Qla a) _
theorem Qht (w : Nat) (z : Int) : Fine 2 (sg w z) := Qmd fun x hx => by
 simp only [List.mem_cons, List.not_mem_nil, or_false] at hx
 rcases hx with rfl | rfl
 ·exact (QnN _).up (by lia)
 ·exact QoA w z.natAbs
theorem Qor (w : Nat) (zs : List Int) : Fine 3 (rw' w zs) := Qhs (Qht w) zs
theorem Qim (w : Nat) (rows : List (List Int)) : Fine 4 (mt w rows) := Qhs (Qor w) rows
theorem Fine.shaped {k : Nat} {x : D} (h : Fine k x) (hk : k ≤ 64) : SeqAt.shaped x = true := by
 unfold SeqAt.shaped
 rw [h.lay, decide_eq_true (Nat.le_trans h.dep hk)]; rfl
theorem Qhl {k : Nat} {xs : List D} (h : Fine k (.list xs)) (hk : k ≤ 64) : cmpD .eq (.list xs) (.list xs) = some true := by
 show (if SeqAt.shaped (.list xs) && SeqAt.shaped (.list xs) then some (PyData.eqv (.list xs) (.list xs)) else none) = _
 rw [h.shaped hk, h.eq]; rfl
theorem QkH {k : Nat} {xs : List D} (h : Fine k (.list xs)) (hk : k ≤ 64) : cmpD .ne (.list xs) (.list xs) = some false := by
 show (if SeqAt.shaped (.list xs) && SeqAt.shaped (.list xs) then some (!PyData.eqv (.list xs) (.list xs)) else none) = _
 rw [h.shaped hk, h.eq]; rfl
theorem QpX {k : Nat} {xs : List D} (h : Fine k (.tuple xs)) (hk : k ≤ 64) : cmpD .ne (.tuple xs) (.tuple xs) = some false := by
 show (if SeqAt.shaped (.tuple xs) && SeqAt.shaped (.tuple xs) then some (!PyData.eqv (.tuple xs) (.tuple xs)) else none) = _
 rw [h.shaped hk, h.eq]; rfl
theorem Qgd (cl : Qh) (base : Nat) (H : Hp) (A B : V) : ∀ (f a b : Nat), b < f → Qav (evE cl T_law_least_0) (exB cl base B_law_least_0) f [A, B, .d (nd a), .d (nd b)] H = .next [A, B, .d (nd (Nat.gcd a b)), .d (nd 0)] H
 | 0, _, _, h => by lia
 | f + 1, a, b, h => by
  by_cases hb : b = 0
  ·subst hb
   rw [Nat.gcd_zero_right]
   exact QA rfl
  ·have hm := Nat.mod_lt a (by lia : 0 < b)
   rw [Nat.gcd_comm, Nat.gcd_rec, Nat.gcd_comm]
   exact QaS (Qf rfl rfl ((QS b 0).trans (congrArg some (decide_eq_true hb)))) (sq (QT (Qa rfl (Qa (Qe rfl rfl (Qcy a (by lia))) rfl)) rfl) rfl) (Qgd cl base H A B f b (a % b) (by lia))
theorem Qmb {g : Nat} (z q : Int) (h : 0 < g) (h2 : g < 1073741824) (hz : z = q * g) : binD .div (.int z) (nd g) = some (.int q) := by
 show Option.map PyData.int (if _ then _ else _) = _; rw [if_pos ⟨by lia, by lia⟩, Int.fdiv_eq_ediv_of_nonneg _ (by lia), hz, Int.mul_ediv_cancel _ (by lia)]; rfl
theorem Qou {cl : Qh} {ρ : Rho} {H H1 : Hp} {as : PEs} {vs : List V} {xs : List D} (h : evEs cl as ρ H = .ok vs H1) (hx : allD vs = some xs) (hs : small xs.length = true) : evE cl (.tup as) ρ H = .ok (.d (.tuple xs)) H1 := by
 exact Qv h (QN hx (QoN hs rfl))
theorem QeK {n D : Int} (m : Nat) (H : Hp) (hD : D ≠ 0) (hD2 : D.natAbs ≤ 1000) (hn : n.natAbs ≤ 1000) :
  Ex2 fun (z : Int) (q : Nat) => z * D = n * q ∧ z.natAbs ≤ n.natAbs ∧ 0 < q ∧ q ≤ D.natAbs ∧ Nat.Coprime z.natAbs q ∧ Qc tb (m + 1) 60 [.d (.int n), .d (.int D)] H = .ok (.tuple [.int z, nd q]) H := by
 obtain ⟨g, hg⟩ : ∃ g, g = Nat.gcd n.natAbs D.natAbs := ⟨_, rfl⟩
 haveI g0 : 0 < g := hg ▸ Nat.gcd_pos_of_pos_right _ (by lia)
 haveI gn : (g : Int) ∣ n := Int.natAbs_dvd_natAbs.mp (by rw [Int.natAbs_natCast, hg]; exact Nat.gcd_dvd_left _ _)
 haveI gD : (g : Int) ∣ D := Int.natAbs_dvd_natAbs.mp (by rw [Int.natAbs_natCast, hg]; exact Nat.gcd_dvd_right _ _)
 obtain ⟨x, hx⟩ := gn
 obtain ⟨y, hy⟩ := gD
 haveI hgle : g ≤ D.natAbs := hg ▸ Nat.gcd_le_right _ (by lia)
 haveI nx : n.natAbs = g * x.natAbs := by rw [hx, Int.natAbs_mul, Int.natAbs_natCast]
 haveI ny : D.natAbs = g * y.natAbs := by rw [hy, Int.natAbs_mul, Int.natAbs_natCast]
 haveI y0 : y ≠ 0 := fun q => hD (by rw [hy, q, Int.mul_zero])
 haveI cop : Nat.Coprime x.natAbs y.natAbs := by
  haveI := Nat.coprime_div_gcd_div_gcd (m := n.natAbs) (n := D.natAbs) (by lia)
  rwa [← hg, nx, ny, Nat.mul_div_cancel_left _ g0, Nat.mul_div_cancel_left _ g0] at this
 haveI lx : x.natAbs ≤ n.natAbs := by rw [nx]; exact Nat.le_mul_of_pos_left _ g0
 haveI ly : y.natAbs ≤ D.natAbs := by rw [ny]; exact Nat.le_mul_of_pos_left _ g0
 haveI lo := Qgd (Qc tb m) H.length H (.d (.int n)) (.d (.int D)) QH n.natAbs D.natAbs (by unfold QH; lia)
 rw [← hg] at lo
 by_cases h : 0 < D
 ·haveI hy1 : 0 < y := by
   refine Int.not_le.mp fun q => ?_
   haveI := Int.mul_le_mul_of_nonneg_left q (by lia : (0 : Int) ≤ g); lia
  refine ⟨x, y.natAbs, ?_, lx, by lia, ly, cop, Qt (f := Qct) rfl rfl (sq (QT rfl rfl) (sq (QcE lo) (Qg (Qy (QO (z := true) (Qf rfl rfl (congrArg some (decide_eq_true h) : some (decide (0 < D)) = some true)) (Qou (Qa (Qe rfl rfl (Qmb n x g0 (by lia) (by rw [hx, Int.mul_comm]))) (Qa (Qe rfl rfl (Qmb D (y.natAbs : Int) g0 (by lia) (by rw [show (y.natAbs : Int) = y from by lia, hy, Int.mul_comm]))) rfl)) rfl rfl)))))) tk0⟩
  rw [show (y.natAbs : Int) = y from by lia, hx, hy]; grind
 ·haveI hy1 : y < 0 := by
   refine Int.not_le.mp fun q => ?_
   haveI := Int.mul_le_mul_of_nonneg_left q (by lia : (0 : Int) ≤ g); lia
  refine ⟨-x, y.natAbs, ?_, by rw [Int.natAbs_neg]; exact lx, by lia, ly, by rw [Int.natAbs_neg]; exact cop, Qt (f := Qct) rfl rfl (sq (QT rfl rfl) (sq (QcE lo) (Qg (Qy (QO (z := false) (Qf rfl rfl (congrArg some (decide_eq_false h) : some (decide (0 < D)) = some false)) (Qou (Qa (Qe (Qe rfl rfl rfl) rfl (Qmb (0 - n) (-x) g0 (by lia) (by rw [hx, Int.neg_mul, Int.mul_comm]; lia))) (Qa (Qe (Qe rfl rfl rfl) rfl (Qmb (0 - D) (y.natAbs : Int) g0 (by lia) (by rw [show (y.natAbs : Int) = -y from by lia, hy, Int.neg_mul, Int.mul_comm]; lia))) rfl)) rfl rfl)))))) tk0⟩
  rw [show (y.natAbs : Int) = -y from by lia, hx, hy]; grind
theorem Qso {cl : Qh} {b k : Nat} {ρ : Rho} {H H1 : Hp} {e : PE} {i : Int} (h : evE cl e ρ H = .exc H1) (hk : gt ρ k = .d (.int i)) : exS cl b (.tryInc k e) ρ H = .next (st ρ k (.d (.int (i + 1)))) H1 := by
 show (match evE cl e ρ H with
  | .ok _ H => O.next ρ H
  | .exc H => (match gt ρ k with
   | .d (.int i) => .next (st ρ k (.d (.int (i + 1)))) H
   | _ => .stuck)
  | .stuck => .stuck) = _
 rw [h, hk]
theorem Qnt {w : Nat} (hw : 8 ≤ w) (hw2 : w ≤ 10) {a b c d : Int} {f : Nat} (m : Nat) (H : Hp) (C : D) (hb : Bnd 3 [[a, b], [c, d]]) (hf : Fst f) (hD : a * d - b * c = 0) : Qc tb (m + 11) 61 [.d (mt w [[a, b], [c, d]]), .d C, .d (nd f), .d (nd w)] H = .ok (.bool true) H := by
 haveI ca := QfS hw hw2 m H (hb.m22.1) (hb.m22.2.1) (hb.m22.2.2.1) (hb.m22.2.2.2) hD
 exact Qt (f := QbE) rfl rfl (sq (Qk rfl) (sq (Qso (Qef rfl ca) rfl) (sq (Qso (Qef rfl (Qjs hw hw2 (m + 4) H C hb hf hD)) rfl) (Qg (Qy rfl))))) tk0
theorem QrI {x q D : Int} (hD : D ≠ 0) (h2 : D.natAbs < 1073741824) (h : x = q * D) : binD .div (.int x) (.int D) = some (.int q) := by
 show Option.map PyData.int (if _ then _ else _) = _; rw [if_pos ⟨hD, h2⟩, h, Int.mul_fdiv_cancel _ hD]; rfl
theorem Qqj {cl : Qh} {ρ : Rho} {H H1 : Hp} {e : PE} {i : Int} (h : evE cl e ρ H = .ok (.d (.int i)) H1) : evE cl (.abs e) ρ H = .ok (.d (nd i.natAbs)) H1 := by
 exact Qv h rfl
theorem QoS {a b c d : Int} {M : Nat} (ha : a.natAbs ≤ M) (hb : b.natAbs ≤ M) (hc : c.natAbs ≤ M) (hd : d.natAbs ≤ M) : Bnd M [[a, b], [c, d]] := by
 intro r hr z hz
 simp only [List.mem_cons, List.not_mem_nil, or_false] at hr
 rcases hr with rfl | rfl <;> (simp only [List.mem_cons, List.not_mem_nil, or_false] at hz; rcases hz with rfl | rfl <;> assumption)
theorem QtJ {a b : Int} {M : Nat} (ha : a.natAbs ≤ M) (hb : b.natAbs ≤ M) : Bnd M [[a, b]] := by
 intro r hr z hz
 rw [List.mem_singleton] at hr; subst hr
 simp only [List.mem_cons, List.not_mem_nil, or_false] at hz
 rcases hz with rfl | rfl <;> assumption
theorem QqK (a x : Int) : (sgm a * x).natAbs = x.natAbs := by
 unfold sgm; split
 ·rw [Int.neg_one_mul, Int.natAbs_neg]
 ·rw [Int.one_mul]
section
variable {w : Nat} (hw : 8 ≤ w) (hw2 : w ≤ 10)
include hw hw2
theorem QlH {e f : Int} {ρ : Rho} {g : PE} {kw : Nat} (m : Nat) (H : Hp) (hg : evE (Qc tb (m + 2)) g ρ H = .ok (.d (il [e, f])) H) (hk : gt ρ kw = .d (nd w)) (he : e.natAbs ≤ 2 ^ 60) (hf : f.natAbs ≤ 2 ^ 60) : evE (Qc tb (m + 2)) (.idx (.call 55 (.cons (.mk false (.list (.cons g .nil))) (.cons (.loc kw) .nil))) (.kd (.int 0))) ρ H = .ok (.d (rw' w [e, f])) H := by
 haveI ek : evE (Qc tb (m + 2)) (.loc kw) ρ H = .ok (.d (nd w)) H := QY hk
 exact Qi (Qb (Qa (v := .d (ml [[e, f]])) (Qu (QeZ (Qa hg rfl) rfl rfl)) (Qa ek rfl)) (Qbe hw hw2 m H (QtJ he hf))) rfl rfl rfl
set_option maxHeartbeats 1000000 in
theorem Qje {a b c d e f x0 x1 : Int} {t : Nat} (m : Nat) (H : Hp) (ha : a.natAbs ≤ 3) (hb : b.natAbs ≤ 3) (hc : c.natAbs ≤ 3) (hd : d.natAbs ≤ 3) (he : e.natAbs ≤ 4) (hf : f.natAbs ≤ 4) (hx0 : x0.natAbs ≤ 2) (hx1 : x1.natAbs ≤ 2) (ht : Fst t) :
  Qc tb (m + 12) 62 [.d (ml [[a, b], [c, d]]), .d (mt w [[a, b], [c, d]]), .d (il [x0, x1]), .d (il [e, f]), .d (nd t), .d (nd w)] H = .ok (.bool true) H := by
 haveI hb3 : Bnd 3 [[a, b], [c, d]] := QoS ha hb hc hd
 haveI le60 : e.natAbs ≤ 2 ^ 60 := Nat.le_trans he (by decide)
 haveI lf60 : f.natAbs ≤ 2 ^ 60 := Nat.le_trans hf (by decide)
 haveI lx0 : x0.natAbs ≤ 2 ^ 60 := Nat.le_trans hx0 (by decide)
 haveI lx1 : x1.natAbs ≤ 2 ^ 60 := Nat.le_trans hx1 (by decide)
 haveI la60 : ∀ {z : Int}, z.natAbs ≤ 3 → z.natAbs ≤ 2 ^ 60 := fun h => Nat.le_trans h (by decide)
 haveI nb3 : (0 - b).natAbs ≤ 3 := by rw [Int.zero_sub, Int.natAbs_neg]; exact hb
 haveI nc3 : (0 - c).natAbs ≤ 3 := by rw [Int.zero_sub, Int.natAbs_neg]; exact hc
 obtain ⟨D, hD⟩ : ∃ D, D = a * d - b * c := ⟨_, rfl⟩
 haveI had := QB ha hd
 haveI hbc := QB hb hc
 haveI hD18 : D.natAbs ≤ 18 := by as_aux_lemma => rw [hD]; exact Nat.le_trans (Int.natAbs_sub_le _ _) (by lia)
 haveI cm := QhA (rows := [[a, b], [c, d]]) (L := 2) (t := (0, 1)) (l := (0, 1)) (m + 10) H (fun r hr z hz => Nat.le_trans (hb3 r hr z hz) (by decide)) (by simp) ⟨by simp, by simp⟩ ⟨by simp, by simp⟩
 rw [show mnr [[a, b], [c, d]] (0, 1) (0, 1) = a * d - b * c from rfl, ← hD] at cm
 by_cases h0 : D = 0
 ·exact Qt (f := QbM) (H1 := H) rfl rfl (sq (Qk (Qb rfl cm)) (sq (Qk (QlH hw hw2 (m + 9) H rfl rfl le60 lf60)) (Qg (Qr (z := true) (Qf rfl rfl (by rw [h0]; rfl)) (Qg (Qy (Qb rfl (Qnt hw hw2 m H (rw' w [e, f]) hb3 ht (hD ▸ h0))))))))) tk0
 ·obtain ⟨s, hs⟩ : ∃ s, s = sgm a := ⟨_, rfl⟩
  haveI ss : s * s = 1 := by rw [hs]; unfold sgm; split <;> rfl
  haveI sa : ∀ x, (s * x).natAbs = x.natAbs := fun x => hs ▸ QqK a x
  haveI cadj := Qoh hw hw2 (m + 1) H ha hb hc hd (hD ▸ h0)
  rw [← hs, ← hD] at cadj
  haveI cby := Qey (w0 hw) (w16 hw2) (m + 10) (s * D) H (by rw [sa]; lia)
  haveI dv : ∀ {n q : Int} {ρ : Rho}, n.natAbs ≤ 3 → q = s * n → gt ρ 11 = .d (.int (s * D)) → gt ρ 6 = .d (.int D) → gt ρ 18 = .d (.int n) → evE (Qc tb (m + 11)) E_law_solved_0 ρ H = .ok (.d (.int q)) H := by
   intro n q ρ hn hq g11 g6 g18
   haveI k11 : evE (Qc tb (m + 11)) (.loc 11) ρ H = .ok (.d (.int (s * D))) H := QY g11
   haveI k6 : evE (Qc tb (m + 11)) (.loc 6) ρ H = .ok (.d (.int D)) H := QY g6
   haveI k18 : evE (Qc tb (m + 11)) (.loc 18) ρ H = .ok (.d (.int n)) H := QY g18
   exact Qe (Qe k18 k11 (Qah (by lia))) k6 (QrI h0 (by lia) (by rw [hq]; grind))
  haveI cgd := Qbe hw hw2 (rows := [[s * d, s * -b], [s * -c, s * a]]) (m + 9) H (QoS (by rw [sa]; lia) (by rw [sa]; lia) (by rw [sa]; lia) (by rw [sa]; lia))
  haveI cld := QtD hw hw2 (a := a) (b := b) (c := c) (d := d) (x := x0) (y := x1) (m + 6) H (by
   intro r hr z hz
   simp only [List.mem_cons, List.not_mem_nil, or_false] at hr
   rcases hr with rfl | rfl | rfl
   ·exact Nat.le_trans (hb3 _ (by simp) z hz) (by decide)
   ·exact Nat.le_trans (hb3 _ (by simp) z hz) (by decide)
   ·simp only [List.mem_cons, List.not_mem_nil, or_false] at hz
    rcases hz with rfl | rfl <;> lia)
  haveI mb : ∀ {p q : Int}, p.natAbs ≤ 3 → q.natAbs ≤ 3 → (0 + p * x0 + q * x1).natAbs ≤ 12 := by
   intro p q hp hq
   haveI t1 := QB hp hx0
   haveI t2 := QB hq hx1
   haveI t3 := Int.natAbs_add_le (0 + p * x0) (q * x1)
   rw [Int.zero_add] at t3 ⊢; lia
  haveI csl := QhW hw hw2 (a := a) (b := b) (c := c) (d := d) (e := 0 + a * x0 + b * x1) (f := 0 + c * x0 + d * x1) (m + 2) H ha hb hc hd (mb ha hb) (mb hc hd)
  rw [if_neg (hD ▸ h0), ← hs, ← hD, show s * (d * (0 + a * x0 + b * x1) - b * (0 + c * x0 + d * x1)) = x0 * (s * D) from by rw [hD]; clear cm cadj cby cgd cld hD; grind, show s * (a * (0 + c * x0 + d * x1) - c * (0 + a * x0 + b * x1)) = x1 * (s * D) from by rw [hD]; clear cm cadj cby cgd cld hD; grind] at csl
  haveI hxs : ∀ {x : Int}, x.natAbs ≤ 2 → (x * (s * D)).natAbs ≤ 2 ^ 60 := by as_aux_lemma =>
   intro x hx
   exact Nat.le_trans (QB hx (by rw [sa]; exact hD18)) (by decide)
  haveI hde := QB hd he
  haveI hbf := QB hb hf
  haveI haf := QB ha hf
  haveI hce := QB hc he
  haveI hn0 : (d * e - b * f).natAbs ≤ 24 := Nat.le_trans (Int.natAbs_sub_le _ _) (by lia)
  haveI hn1 : (a * f - c * e).natAbs ≤ 24 := Nat.le_trans (Int.natAbs_sub_le _ _) (by lia)
  obtain ⟨z0, q0, HH57⟩ := QeK (n := d * e - b * f) (D := D) (m + 10) H h0 (by lia) (by lia)
  haveI g0 := HH57.1
  haveI i0 := HH57.2.1
  haveI j0 := HH57.2.2.1
  haveI k0 := HH57.2.2.2.1
  haveI l0 := HH57.2.2.2.2.1
  haveI cl0 := HH57.2.2.2.2.2
  obtain ⟨z1, q1, HH64⟩ := QeK (n := a * f - c * e) (D := D) (m + 10) H h0 (by lia) (by lia)
  haveI g1 := HH64.1
  haveI i1 := HH64.2.1
  haveI j1 := HH64.2.2.1
  haveI k1 := HH64.2.2.2.1
  haveI l1 := HH64.2.2.2.2.1
  haveI cl1 := HH64.2.2.2.2.2
  haveI cdx := Qru hw hw2 (a := a) (b := b) (c := c) (d := d) (e := e) (f := f) (st := t) (z0 := z0) (z1 := z1) (q0 := q0) (q1 := q1) (m + 2) H hb3 he hf ht (hD ▸ h0) (hD ▸ g0) (hD ▸ g1) i0 i1 j0 j1 (hD ▸ k0) (hD ▸ k1) l0 l1
  haveI lz0 := Nat.le_trans i0 hn0
  haveI lz1 := Nat.le_trans i1 hn1
  haveI lq0 : q0 ≤ 24 := Nat.le_trans k0 (Nat.le_trans hD18 (by decide))
  haveI lq1 : q1 ≤ 24 := Nat.le_trans k1 (Nat.le_trans hD18 (by decide))
  haveI ls := fun (z : Int) (hz : z.natAbs ≤ 24) => QbN (w0 hw) (w16 hw2) (m + 10) z H (Qj hz (by decide))
  haveI fr : ∀ {z : Int} {q : Nat} {ρ : Rho}, z.natAbs ≤ 24 → q ≤ 24 → gt ρ 17 = .d (.int z) → gt ρ 18 = .d (nd q) → gt ρ 5 = .d (nd w) → evE (Qc tb (m + 11)) E_law_solved_4 ρ H = .ok (.d (.tuple [sg w z, nn w q])) H := by
   intro z q ρ hz hq g17 g18 g5
   haveI k17 : evE (Qc tb (m + 11)) (.loc 17) ρ H = .ok (.d (.int z)) H := QY g17
   haveI k18 : evE (Qc tb (m + 11)) (.loc 18) ρ H = .ok (.d (.int (q : Int))) H := QY g18
   haveI k5 : evE (Qc tb (m + 11)) (.loc 5) ρ H = .ok (.d (nd w)) H := QY g5
   exact Qou (Qa (Qb (Qa k17 (Qa k5 rfl)) (ls z hz)) (Qa (Qi (Qb (Qa k18 (Qa k5 rfl)) (ls q (by lia))) rfl rfl rfl) rfl)) rfl rfl
  haveI ffin : Fine 4 (.list [.tuple [sg w z0, nn w q0], .tuple [sg w z1, nn w q1]]) := Qfd fun x hx => by
   simp only [List.mem_cons, List.not_mem_nil, or_false] at hx
   rcases hx with rfl | rfl <;> (refine Qmd (k := 2) fun y hy => ?_; simp only [List.mem_cons, List.not_mem_nil, or_false] at hy; rcases hy with rfl | rfl; exact Qht _ _; exact (QoA _ _).up (by lia))
  haveI eab : cmpD .ne (nd (s * D).natAbs) (nd D.natAbs) = some false := (QS _ _).trans (congrArg some (decide_eq_false (fun q => q (sa D))))
  haveI eb0 : cmpD .eq (.int D) (.int 0) = some false := (congrArg some (beq_eq_false_iff_ne.mpr h0) : some (D == 0) = some false)
  haveI ab : ∀ ρ : Rho, gt ρ 0 = .d (ml [[a, b], [c, d]]) → gt ρ 3 = .d (il [e, f]) → evE (Qc tb (m + 11)) (.mk false (.list (.cons (.bin .sub (.bin .mul (.idx (.loc 3) (.kd (.int 0))) (.idx (.idx (.loc 0) (.kd (.int 1))) (.kd (.int 1)))) (.bin .mul (.idx (.idx (.loc 0) (.kd (.int 0))) (.kd (.int 1))) (.idx (.loc 3) (.kd (.int 1))))) (.cons (.bin .sub (.bin .mul (.idx (.idx (.loc 0) (.kd (.int 0))) (.kd (.int 0))) (.idx (.loc 3) (.kd (.int 1)))) (.bin .mul (.idx (.loc 3) (.kd (.int 0))) (.idx (.idx (.loc 0) (.kd (.int 1))) (.kd (.int 0))))) .nil)))) ρ H = .ok (.d (il [d * e - b * f, a * f - c * e])) H := by
   intro ρ g0 g3
   haveI k0 : evE (Qc tb (m + 11)) (.loc 0) ρ H = .ok (.d (ml [[a, b], [c, d]])) H := QY g0
   haveI k3 : evE (Qc tb (m + 11)) (.loc 3) ρ H = .ok (.d (il [e, f])) H := QY g3
   rw [Int.mul_comm d e, Int.mul_comm c e]
   exact Qu (QeZ (Qa (Qe (Qe (Qi k3 rfl rfl rfl) (Qi (Qi (z := il [c, d]) k0 rfl rfl rfl) rfl rfl rfl) (Qah le60)) (Qe (Qi (Qi (z := il [a, b]) k0 rfl rfl rfl) rfl rfl rfl) (Qi k3 rfl rfl rfl) (Qah (la60 hb))) rfl) (Qa (Qe (Qe (Qi (Qi (z := il [a, b]) k0 rfl rfl rfl) rfl rfl rfl) (Qi k3 rfl rfl rfl) (Qah (la60 ha))) (Qe (Qi k3 rfl rfl rfl) (Qi (Qi (z := il [c, d]) k0 rfl rfl rfl) rfl rfl rfl) (Qah le60)) rfl) rfl)) rfl rfl)
  exact Qt (f := QbM) (H1 := H) rfl rfl (sq (ρ1 := [.d (ml [[a, b], [c, d]]), .d (mt w [[a, b], [c, d]]), .d (il [x0, x1]), .d (il [e, f]), .d (nd t), .d (nd w), .d (.int D), .unb, .unb, .unb, .unb, .unb, .unb, .unb, .unb, .unb, .unb, .unb, .unb]) (H1 := H) (Qk (Qb rfl cm))
   (sq (ρ1 := [.d (ml [[a, b], [c, d]]), .d (mt w [[a, b], [c, d]]), .d (il [x0, x1]), .d (il [e, f]), .d (nd t), .d (nd w), .d (.int D), .d (rw' w [e, f]), .unb, .unb, .unb, .unb, .unb, .unb, .unb, .unb, .unb, .unb, .unb]) (H1 := H) (Qk (QlH hw hw2 (m + 9) H rfl rfl le60 lf60))
   (sq (Qr (z := false) (Qf rfl rfl eb0) rfl)
   (sq (ρ1 := [.d (ml [[a, b], [c, d]]), .d (mt w [[a, b], [c, d]]), .d (il [x0, x1]), .d (il [e, f]), .d (nd t), .d (nd w), .d (.int D), .d (rw' w [e, f]), .d (mt w [[s * d, s * -b], [s * -c, s * a]]), .d (sg w (s * D)), .unb, .unb, .unb, .unb, .unb, .unb, .unb, .unb, .unb]) (H1 := H) (QcG (Qb rfl cadj) rfl)
   (sq (ρ1 := [.d (ml [[a, b], [c, d]]), .d (mt w [[a, b], [c, d]]), .d (il [x0, x1]), .d (il [e, f]), .d (nd t), .d (nd w), .d (.int D), .d (rw' w [e, f]), .d (mt w [[s * d, s * -b], [s * -c, s * a]]), .d (sg w (s * D)), .d (ml [[d, 0 - b], [0 - c, a]]), .unb, .unb, .unb, .unb, .unb, .unb, .unb, .unb]) (H1 := H) (Qk rfl)
   (sq (ρ1 := [.d (ml [[a, b], [c, d]]), .d (mt w [[a, b], [c, d]]), .d (il [x0, x1]), .d (il [e, f]), .d (nd t), .d (nd w), .d (.int D), .d (rw' w [e, f]), .d (mt w [[s * d, s * -b], [s * -c, s * a]]), .d (sg w (s * D)), .d (ml [[d, 0 - b], [0 - c, a]]), .d (.int (s * D)), .unb, .unb, .unb, .unb, .unb, .unb, .unb]) (H1 := H) (Qk (Qb rfl cby))
   (sq (Qr (z := false) (Qtd (z := false) (Qf (Qqj rfl) (Qqj rfl) eab) (Qf rfl (Qb (Qa (Qu (Qo (xs := [il [d, 0 - b], il [0 - c, a]]) rfl (Qd rfl (Qu (Qo (xs := [.int d, .int (0 - b)]) rfl (Qd rfl (dv hd rfl rfl rfl rfl) (Qd rfl (dv (n := 0 - b) (q := s * -b) nb3 (by rw [Int.zero_sub]) rfl rfl rfl) Ql)))) (Qd rfl (Qu (Qo (xs := [.int (0 - c), .int a]) rfl (Qd rfl (dv (n := 0 - c) (q := s * -c) nc3 (by rw [Int.zero_sub]) rfl rfl rfl) (Qd rfl (dv ha rfl rfl rfl rfl) Ql)))) Ql)))) rfl) cgd) (QkH (Qim w _) (by decide)))) rfl)
   (sq (ρ1 := [.d (ml [[a, b], [c, d]]), .d (mt w [[a, b], [c, d]]), .d (il [x0, x1]), .d (il [e, f]), .d (nd t), .d (nd w), .d (.int D), .d (rw' w [e, f]), .d (mt w [[s * d, s * -b], [s * -c, s * a]]), .d (sg w (s * D)), .d (ml [[d, 0 - b], [0 - c, a]]), .d (.int (s * D)), (.d (rw' w [0 + a * x0 + b * x1, 0 + c * x0 + d * x1])), .unb, .unb, .unb, .unb, .unb, .unb]) (H1 := H) (Qk (Qb (Qa rfl (Qa (QlH hw hw2 (m + 9) H rfl rfl lx0 lx1) rfl)) cld))
   (sq (ρ1 := [.d (ml [[a, b], [c, d]]), .d (mt w [[a, b], [c, d]]), .d (il [x0, x1]), .d (il [e, f]), .d (nd t), .d (nd w), .d (.int D), .d (rw' w [e, f]), .d (mt w [[s * d, s * -b], [s * -c, s * a]]), .d (sg w (s * D)), .d (ml [[d, 0 - b], [0 - c, a]]), .d (.int (s * D)), (.d (rw' w [0 + a * x0 + b * x1, 0 + c * x0 + d * x1])), (.d (rw' w [x0 * (s * D), x1 * (s * D)])), .unb, .unb, .unb, .unb, .unb]) (H1 := H) (QcG (Qb rfl csl) rfl)
   (sq (Qr (z := false) (Qf (x := rw' w [x0 * (s * D), x1 * (s * D)]) rfl (QlH hw hw2 (m + 9) H (e := x0 * (s * D)) (f := x1 * (s * D)) (Qu (Qo (xs := [.int x0, .int x1]) rfl (Qd rfl (Qe rfl (Qb rfl cby) (Qah lx0)) (Qd rfl (Qe rfl (Qb rfl cby) (Qah lx1)) Ql)))) rfl (hxs hx0) (hxs hx1)) (QkH (Qor w _) (by decide))) rfl)
   (sq (ρ1 := [.d (ml [[a, b], [c, d]]), .d (mt w [[a, b], [c, d]]), .d (il [x0, x1]), .d (il [e, f]), .d (nd t), .d (nd w), .d (.int D), .d (rw' w [e, f]), .d (mt w [[s * d, s * -b], [s * -c, s * a]]), .d (sg w (s * D)), .d (ml [[d, 0 - b], [0 - c, a]]), .d (.int (s * D)), (.d (rw' w [0 + a * x0 + b * x1, 0 + c * x0 + d * x1])), (.d (rw' w [x0 * (s * D), x1 * (s * D)])), (.d (.list [.tuple [sg w z0, nn w q0], .tuple [sg w z1, nn w q1]])), .unb, .unb, .unb, .unb]) (H1 := H) (Qk (Qb rfl cdx))
   (sq (ρ1 := [.d (ml [[a, b], [c, d]]), .d (mt w [[a, b], [c, d]]), .d (il [x0, x1]), .d (il [e, f]), .d (nd t), .d (nd w), .d (.int D), .d (rw' w [e, f]), .d (mt w [[s * d, s * -b], [s * -c, s * a]]), .d (sg w (s * D)), .d (ml [[d, 0 - b], [0 - c, a]]), .d (.int (s * D)), (.d (rw' w [0 + a * x0 + b * x1, 0 + c * x0 + d * x1])), (.d (rw' w [x0 * (s * D), x1 * (s * D)])), (.d (.list [.tuple [sg w z0, nn w q0], .tuple [sg w z1, nn w q1]])), (.d (il [d * e - b * f, a * f - c * e])), .unb, .unb, .unb]) (H1 := H) (Qk (ab _ rfl rfl))
   (sq (ρ1 := [.d (ml [[a, b], [c, d]]), .d (mt w [[a, b], [c, d]]), .d (il [x0, x1]), .d (il [e, f]), .d (nd t), .d (nd w), .d (.int D), .d (rw' w [e, f]), .d (mt w [[s * d, s * -b], [s * -c, s * a]]), .d (sg w (s * D)), .d (ml [[d, 0 - b], [0 - c, a]]), .d (.int (s * D)), (.d (rw' w [0 + a * x0 + b * x1, 0 + c * x0 + d * x1])), (.d (rw' w [x0 * (s * D), x1 * (s * D)])), (.d (.list [.tuple [sg w z0, nn w q0], .tuple [sg w z1, nn w q1]])), (.d (il [d * e - b * f, a * f - c * e])), (.d (.list [.tuple [.int z0, nd q0], .tuple [.int z1, nd q1]])), .unb, .unb]) (H1 := H) (Qk (Qu (Qo (xs := [.int (d * e - b * f), .int (a * f - c * e)]) rfl (Qd rfl (Qb rfl cl0) (Qd rfl (Qb rfl cl1) Ql)))))
   (Qg (Qy (Qf (x := .list [.tuple [sg w z0, nn w q0], .tuple [sg w z1, nn w q1]]) rfl (Qu (Qo (xs := [.tuple [.int z0, nd q0], .tuple [.int z1, nd q1]]) rfl (Qd rfl (fr lz0 lq0 rfl rfl rfl) (Qd rfl (fr lz1 lq1 rfl rfl rfl) Ql)))) (Qhl ffin (by decide)))))))))))))))))) tk0
end
theorem cb (a b c d e f g h i j k l : Int) : (0 + a * g + b * i + c * k) * (0 + d * h + e * j + f * l) - (0 + a * h + b * j + c * l) * (0 + d * g + e * i + f * k) = (a * e - b * d) * (g * j - h * i) + ((a * f - c * d) * (g * l - h * k) + ((b * f - c * e) * (i * l - j * k) + 0)) := by grind
theorem syl {a b c d e f g h i j k l : Int} (h1 : a * g + b * i + c * k = 0) (h2 : a * h + b * j + c * l = 0) (h3 : d * g + e * i + f * k = 0) (h4 : d * h + e * j + f * l = 0) (hw : a * e - b * d ≠ 0 ∨ a * f - c * d ≠ 0 ∨ b * f - c * e ≠ 0) : g * j - h * i = 0 ∧ g * l - h * k = 0 ∧ i * l - j * k = 0 := by
 haveI mz : ∀ {x y : Int}, x ≠ 0 → x * y = 0 → y = 0 := fun hx h => (Int.mul_eq_zero.mp h).resolve_left hx
 obtain ⟨p, hp⟩ : ∃ p, p = a * e - b * d := ⟨_, rfl⟩
 obtain ⟨q, hq⟩ : ∃ q, q = a * f - c * d := ⟨_, rfl⟩
 obtain ⟨r, hr⟩ : ∃ r, r = b * f - c * e := ⟨_, rfl⟩
 haveI c1 : p * g = r * k := by rw [hp, hr]; clear hw h2 h4 hp hq hr; grind
 haveI c2 : p * i = -(q * k) := by rw [hp, hq]; clear hw h2 h4 hp hq hr c1; grind
 haveI c3 : q * g = -(r * i) := by rw [hq, hr]; clear hw h2 h4 hp hq hr c1 c2; grind
 haveI d1 : p * h = r * l := by rw [hp, hr]; clear hw h1 h3 hp hq hr c1 c2 c3; grind
 haveI d2 : p * j = -(q * l) := by rw [hp, hq]; clear hw h1 h3 hp hq hr c1 c2 c3 d1; grind
 haveI d3 : q * h = -(r * j) := by rw [hq, hr]; clear hw h1 h3 hp hq hr c1 c2 c3 d1 d2; grind
 rw [← hp, ← hq, ← hr] at hw
 clear hp hq hr h1 h2 h3 h4
 rcases hw with w | w | w
 ·refine ⟨mz w (mz w ?_), mz w (mz w ?_), mz w (mz w ?_)⟩
  ·haveI : p * (p * (g * j - h * i)) = (p * g) * (p * j) - (p * h) * (p * i) := by clear c1 c2 c3 d1 d2 d3; grind
   rw [this, c1, c2, d1, d2]; clear this c1 c2 c3 d1 d2 d3; grind
  ·haveI : p * (g * l - h * k) = (p * g) * l - (p * h) * k := by clear c1 c2 c3 d1 d2 d3; grind
   rw [this, c1, d1]; clear this c1 c2 c3 d1 d2 d3; grind
  ·haveI : p * (i * l - j * k) = (p * i) * l - (p * j) * k := by clear c1 c2 c3 d1 d2 d3; grind
   rw [this, c2, d2]; clear this c1 c2 c3 d1 d2 d3; grind
 ·refine ⟨mz w (mz w ?_), mz w (mz w ?_), mz w (mz w ?_)⟩
  ·haveI : q * (g * j - h * i) = (q * g) * j - (q * h) * i := by clear c1 c2 c3 d1 d2 d3; grind
   rw [this, c3, d3]; clear this c1 c2 c3 d1 d2 d3; grind
  ·haveI : q * (q * (g * l - h * k)) = (q * g) * (q * l) - (q * h) * (q * k) := by clear c1 c2 c3 d1 d2 d3; grind
   rw [this, c3, d3, show q * l = -(p * j) from by lia, show q * k = -(p * i) from by lia]; clear this c1 c2 c3 d1 d2 d3; grind
  ·haveI : q * (i * l - j * k) = (q * l) * i - (q * k) * j := by clear c1 c2 c3 d1 d2 d3; grind
   rw [this, show q * l = -(p * j) from by lia, show q * k = -(p * i) from by lia]; clear this c1 c2 c3 d1 d2 d3; grind
 ·refine ⟨mz w (mz w ?_), mz w (mz w ?_), mz w (mz w ?_)⟩
  ·haveI : r * (g * j - h * i) = (r * j) * g - (r * i) * h := by clear c1 c2 c3 d1 d2 d3; grind
   rw [this, show r * j = -(q * h) from by lia, show r * i = -(q * g) from by lia]; clear this c1 c2 c3 d1 d2 d3; grind
  ·haveI : r * (g * l - h * k) = (r * l) * g - (r * k) * h := by clear c1 c2 c3 d1 d2 d3; grind
   rw [this, ← c1, ← d1]; clear this c1 c2 c3 d1 d2 d3; grind
  ·haveI : r * (r * (i * l - j * k)) = (r * i) * (r * l) - (r * j) * (r * k) := by clear c1 c2 c3 d1 d2 d3; grind
   rw [this, show r * j = -(q * h) from by lia, show r * i = -(q * g) from by lia, ← c1, ← d1]; clear this c1 c2 c3 d1 d2 d3; grind
noncomputable def rkf (rows : List (List Int)) (ts ls : List (Nat × Nat)) : Nat := if ∃ t ∈ ts, ∃ l ∈ ls, mnr rows t l ≠ 0 then 2 else if (rows.flatMap (fun r => r.map nz)).any id = true then 1 else 0
theorem QjK (rows ts ls) : rkf rows ts ls ≤ 2 := by unfold rkf; split; lia; split <;> lia
theorem QoC {rows ts ls} (h : rkf rows ts ls = 2) : ∃ t ∈ ts, ∃ l ∈ ls, mnr rows t l ≠ 0 := by
 unfold rkf at h; split at h
 ·assumption
 ·split at h <;> lia
theorem Qde {rows ts ls} (h : rkf rows ts ls < 2) : ∀ t ∈ ts, ∀ l ∈ ls, mnr rows t l = 0 := by
 unfold rkf at h; split at h
 ·lia
 ·rename_i g
  exact fun t ht l hl => Classical.byContradiction fun q => g ⟨t, ht, l, hl, q⟩
theorem QhI {rows ts ls} (h : rkf rows ts ls = 0) : ∀ r ∈ rows, ∀ z ∈ r, z = 0 := by
 unfold rkf at h; split at h
 ·lia
 ·split at h
  ·lia
  ·rename_i g
   intro r hr z hz
   refine Classical.byContradiction fun q => g ?_
   rw [List.any_eq_true]
   exact ⟨nz z, List.mem_flatMap.mpr ⟨r, hr, List.mem_map.mpr ⟨z, hz, rfl⟩⟩, bne_iff_ne.mpr q⟩
theorem Qir {rows ts ls} (h1 : ∀ t ∈ ts, ∀ l ∈ ls, mnr rows t l = 0) : rkf rows ts ls ≤ 1 := by
 unfold rkf; rw [if_neg (fun ⟨t, ht, l, hl, q⟩ => q (h1 t ht l hl))]; split <;> lia
theorem Qln {rows ts ls} (h1 : ∀ t ∈ ts, ∀ l ∈ ls, mnr rows t l = 0) (h2 : ∀ r ∈ rows, ∀ z ∈ r, z = 0) : rkf rows ts ls = 0 := by
 unfold rkf; rw [if_neg (fun ⟨t, ht, l, hl, q⟩ => q (h1 t ht l hl)), if_neg]
 rw [List.any_eq_true]
 rintro ⟨x, hx, hx2⟩
 obtain ⟨r, hr, hx⟩ := List.mem_flatMap.mp hx
 obtain ⟨z, hz, rfl⟩ := List.mem_map.mp hx
 rw [h2 r hr z hz] at hx2; cases hx2
noncomputable abbrev p1 : List (Nat × Nat) := [(0, 1)]
noncomputable abbrev p3 : List (Nat × Nat) := [(0, 1), (0, 2), (1, 2)]
theorem Qpb (a b c d e f g h i j k l : Int) {mm : List (List Int)} (hm : mm = [[0 + a * g + b * i + c * k, 0 + a * h + b * j + c * l], [0 + d * g + e * i + f * k, 0 + d * h + e * j + f * l]]) :
  rkf [[a, b, c], [d, e, f]] p1 p3 + rkf [[g, h], [i, j], [k, l]] p3 p1 ≤ rkf mm p1 p1 + 3 ∧ rkf mm p1 p1 ≤ rkf [[a, b, c], [d, e, f]] p1 p3 ∧ rkf mm p1 p1 ≤ rkf [[g, h], [i, j], [k, l]] p3 p1 := by
 haveI w2 := QjK [[a, b, c], [d, e, f]] p1 p3
 have t2 := QjK [[g, h], [i, j], [k, l]] p3 p1
 haveI m2 := QjK mm p1 p1
 have mdet : mnr mm (0, 1) (0, 1) = (a * e - b * d) * (g * j - h * i) + ((a * f - c * d) * (g * l - h * k) + ((b * f - c * e) * (i * l - j * k) + 0)) := by rw [hm, ← cb]; rfl
 have mz : (a * e - b * d) * (g * j - h * i) + ((a * f - c * d) * (g * l - h * k) + ((b * f - c * e) * (i * l - j * k) + 0)) = 0 → ∀ t ∈ p1, ∀ l ∈ p1, mnr mm t l = 0 := by
  intro q t ht l hl
  rw [List.mem_singleton] at ht hl
  subst ht; subst hl; rw [mdet, q]
 have wm : rkf [[a, b, c], [d, e, f]] p1 p3 < 2 → a * e - b * d = 0 ∧ a * f - c * d = 0 ∧ b * f - c * e = 0 := fun q =>
  ⟨Qde q (0, 1) (by simp) (0, 1) (by simp), Qde q (0, 1) (by simp) (0, 2) (by simp), Qde q (0, 1) (by simp) (1, 2) (by simp)⟩
 have tm : rkf [[g, h], [i, j], [k, l]] p3 p1 < 2 → g * j - h * i = 0 ∧ g * l - h * k = 0 ∧ i * l - j * k = 0 := fun q =>
  ⟨Qde q (0, 1) (by simp) (0, 1) (by simp), Qde q (0, 2) (by simp) (0, 1) (by simp), Qde q (1, 2) (by simp) (0, 1) (by simp)⟩
 refine ⟨?_, ?_, ?_⟩
 ·refine Nat.le_of_not_lt fun q => ?_
  have hM : rkf mm p1 p1 = 0 := by lia
  have hW : rkf [[a, b, c], [d, e, f]] p1 p3 = 2 := by lia
  have hT : rkf [[g, h], [i, j], [k, l]] p3 p1 = 2 := by lia
  have z := QhI hM
  rw [hm] at z
  haveI HH21 := QrO (P := fun z => z = 0) z
  haveI z1 := HH21.1
  haveI z2 := HH21.2.1
  haveI z3 := HH21.2.2.1
  haveI z4 := HH21.2.2.2
  rw [Int.zero_add] at z1 z2 z3 z4
  haveI hw3 : a * e - b * d ≠ 0 ∨ a * f - c * d ≠ 0 ∨ b * f - c * e ≠ 0 := by
   obtain ⟨t, ht, y, hy, hne⟩ := QoC hW
   rw [List.mem_singleton] at ht; subst ht
   simp only [List.mem_cons, List.not_mem_nil, or_false] at hy
   rcases hy with rfl | rfl | rfl
   ·exact .inl hne
   ·exact .inr (.inl hne)
   ·exact .inr (.inr hne)
  obtain ⟨s1, s2, s3⟩ := syl z1 z2 z3 z4 hw3
  obtain ⟨t, ht, y, hy, hne⟩ := QoC hT
  rw [List.mem_singleton] at hy; subst hy
  simp only [List.mem_cons, List.not_mem_nil, or_false] at ht
  rcases ht with rfl | rfl | rfl
  ·exact hne s1
  ·exact hne s2
  ·exact hne s3
 ·by_cases q : rkf [[a, b, c], [d, e, f]] p1 p3 < 2
  ·obtain ⟨q1, q2, q3⟩ := wm q
   have q4 := mz (by rw [q1, q2, q3]; simp)
   by_cases q0 : rkf [[a, b, c], [d, e, f]] p1 p3 = 0
   ·have z := QhI q0
    rw [Qln q4]
    ·lia
    ·rw [hm]
     obtain ⟨za, zb, zc, zd, ze, zf⟩ := Qts (P := fun z => z = 0) z
     subst za; subst zb; subst zc; subst zd; subst ze; subst zf
     simp
   ·have := Qir q4; lia
  ·lia
 ·by_cases q : rkf [[g, h], [i, j], [k, l]] p3 p1 < 2
  ·obtain ⟨q1, q2, q3⟩ := tm q
   have q4 := mz (by rw [q1, q2, q3]; simp)
   by_cases q0 : rkf [[g, h], [i, j], [k, l]] p3 p1 = 0
   ·have z := QhI q0
    rw [Qln q4]
    ·lia
    ·rw [hm]
     obtain ⟨zg, zh, zi, zj, zk, zl⟩ := Qth (P := fun z => z = 0) z
     subst zg; subst zh; subst zi; subst zj; subst zk; subst zl
     simp
   ·have := Qir q4; lia
  ·lia
theorem QqG {cl : Qh} {ρ : Rho} {H H1 H2 H3 : Hp} {o1 o2 : COp} {a b c : PE} {x y w : D} {z : Bool} (ha : evE cl a ρ H = .ok (.d x) H1) (hb : evE cl b ρ H1 = .ok (.d y) H2) (h1 : cmpD o1 x y = some true) (hc : evE cl c ρ H2 = .ok (.d w) H3) (h2 : cmpD o2 y w = some z) : evE cl (.cmp2 o1 o2 a b c) ρ H = .ok (.d (.bool z)) H3 := Qv ha (Qv hb (QN rfl (QN rfl (QN h1 (Qv hc (QN rfl (QN h2 rfl)))))))
theorem bndc {p q : Nat} {r : List Int} {rows : List (List Int)} (h1 : ∀ z ∈ r, z.natAbs ≤ p) (h2 : Bnd p rows) : Bnd p (r :: rows) := by
 intro x hx
 rcases List.mem_cons.mp hx with rfl | hx
 ·exact h1
 ·exact h2 x hx
theorem Bnd.le {p q : Nat} {rows : List (List Int)} (h : Bnd p rows) (hpq : p ≤ q) : Bnd q rows := fun r hr z hz => Nat.le_trans (h r hr z hz) hpq
theorem QpD {a b c x y z : Int} (ha : a.natAbs ≤ 3) (hb : b.natAbs ≤ 3) (hc : c.natAbs ≤ 3) (hx : x.natAbs ≤ 3) (hy : y.natAbs ≤ 3) (hz : z.natAbs ≤ 3) : (0 + a * x + b * y + c * z).natAbs ≤ 27 :=
 Nat.le_trans (Int.natAbs_add_le _ _) (Nat.add_le_add (b := 18) (d := 9) (Nat.le_trans (Int.natAbs_add_le _ _) (Nat.add_le_add (b := 9) (d := 9) (by rw [Int.zero_add]; exact QB ha hx) (QB hb hy))) (QB hc hz))
theorem QrS {cl : Qh} {w : Nat} {H : Hp} {mm : List (List Int)} (cpl : ∀ z : Int, z.natAbs ≤ 27 → cl 56 [.d (sg w z), .d (nd w)] H = .ok (.int z) H) (hM : Bnd 27 mm) (s0 s1 s3 s4 s5 s6 s7 s8 s9 s11 s12 s13 s14 s15 s16 s17 : V) :
  evE cl (.mk false (.comp E_law_8 (.one 16) (.seq (.loc 10)))) [s0, s1, .d (nd w), s3, s4, s5, s6, s7, s8, s9, .d (mt w mm), s11, s12, s13, s14, s15, s16, s17] H = .ok (.d (ml mm)) H :=
 Qu (Qo (xs := mm.map (rw' w)) rfl (Qam (rw' w) il mm _ (fun r hr => Qu (Qo (xs := r.map (sg w)) rfl (Qam (sg w) PyData.int r _ (fun z hz => Qb rfl (cpl z (hM r hr z hz))))))))
theorem QpJ {cl : Qh} {H : Hp} {W T : List (List Int)} (cp : cl 58 [.d (nd 3)] H = .ok (.list (p3.map pr)) H) (c1 : ∀ p ∈ p3, cl 57 [.d (ml W), .d (pr (0, 1)), .d (pr p)] H = .ok (.int (mnr W (0, 1) p)) H) (c2 : ∀ p ∈ p3, cl 57 [.d (ml T), .d (pr p), .d (pr (0, 1))] H = .ok (.int (mnr T p (0, 1))) H) (hb : ∀ p ∈ p3, (mnr W (0, 1) p).natAbs ≤ 2 ^ 60) (s0 s1 s2 s3 s6 s7 s8 s9 s10 s11 s12 s13 s14 s15 s16 s17 : V) :
  evE cl (.sum (.mk false (.comp E_law_9 (.one 16) (.seq (.call 58 (.cons (.kd (.int 3)) .nil)))))) [s0, s1, s2, s3, .d (ml W), .d (ml T), s6, s7, s8, s9, s10, s11, s12, s13, s14, s15, s16, s17] H = .ok (.d (.int (p3.map (fun p => mnr W (0, 1) p * mnr T p (0, 1))).sum)) H :=
 Qnb (ys := p3.map (fun p => mnr W (0, 1) p * mnr T p (0, 1))) (Qu (Qo (xs := p3.map pr) (Qcp (Qb rfl cp)) (Qam pr (fun p => .int (mnr W (0, 1) p * mnr T p (0, 1))) p3 _ (fun p hp => Qe (Qb rfl (c1 p hp)) (Qb rfl (c2 p hp)) (Qah (hb p hp))))))
theorem Qrt {cl : Qh} {H : Hp} {a b c d e f : Int} (s0 s1 s2 s3 s5 s6 s7 s8 s9 s10 s11 s12 s13 s14 s15 s16 s17 : V) : evE cl (.mk false (.comp E_law_11 (.one 16) (.seq (.loc 4)))) [s0, s1, s2, s3, .d (ml [[a, b, c], [d, e, f]]), s5, s6, s7, s8, s9, s10, s11, s12, s13, s14, s15, s16, s17] H = .ok (.d (ml [[a, b], [d, e]])) H :=
 Qu (Qo (xs := [il [a, b, c], il [d, e, f]]) rfl (Qd rfl (Qu (QcY (i := 2) (xs := [.int a, .int b, .int c]) rfl rfl rfl ⟨by decide, by decide⟩)) (Qd rfl (Qu (QcY (i := 2) (xs := [.int d, .int e, .int f]) rfl rfl rfl ⟨by decide, by decide⟩)) Ql)))
theorem QrK {cl : Qh} {w : Nat} {H : Hp} {a b c d e f : Int} (s0 s1 s2 s3 s4 s5 s6 s7 s9 s10 s11 s12 s13 s14 s15 s16 s17 : V) : evE cl (.mk false (.comp E_law_12 (.one 16) (.seq (.loc 8)))) [s0, s1, s2, s3, s4, s5, s6, s7, .d (mt w [[a, b, c], [d, e, f]]), s9, s10, s11, s12, s13, s14, s15, s16, s17] H = .ok (.d (mt w [[a, b], [d, e]])) H :=
 Qu (Qo (xs := [rw' w [a, b, c], rw' w [d, e, f]]) rfl (Qd rfl (Qu (QcY (i := 2) (xs := [sg w a, sg w b, sg w c]) rfl rfl rfl ⟨by decide, by decide⟩)) (Qd rfl (Qu (QcY (i := 2) (xs := [sg w d, sg w e, sg w f]) rfl rfl rfl ⟨by decide, by decide⟩)) Ql)))
theorem QqV {cl : Qh} {w ft base : Nat} {H : Hp} {S Bw : V} {X U : D} {W T P mm : List (List Int)} {due : Int} {rW rT rM : Nat}
  (g1 : cl 55 [.d (ml W), .d (nd w)] H = .ok (mt w W) H) (g2 : cl 55 [.d (ml T), .d (nd w)] H = .ok (mt w T) H) (g3 : cl 55 [.d (ml P), .d (nd w)] H = .ok (mt w P) H) (cmm : cl 22 [.d (mt w W), .d (mt w T), .d (nd w), .fn 46] H = .ok (mt w mm) H)
  (epl : evE cl (.mk false (.comp E_law_8 (.one 16) (.seq (.loc 10)))) [S, Bw, .d (nd w), .d (nd ft), .d (ml W), .d (ml T), .d X, .d U, .d (mt w W), .d (mt w T), .d (mt w mm), .unb, .unb, .unb, .unb, .unb, .unb, .unb] H = .ok (.d (ml mm)) H)
  (edue : evE cl (.sum (.mk false (.comp E_law_9 (.one 16) (.seq (.call 58 (.cons (.kd (.int 3)) .nil)))))) [S, Bw, .d (nd w), .d (nd ft), .d (ml W), .d (ml T), .d X, .d U, .d (mt w W), .d (mt w T), .d (mt w mm), .d (ml mm), .unb, .unb, .unb, .unb, .unb, .unb] H = .ok (.d (.int due)) H)
  (epn : evE cl (.mk false (.comp E_law_11 (.one 16) (.seq (.loc 4)))) [S, Bw, .d (nd w), .d (nd ft), .d (ml W), .d (ml T), .d X, .d U, .d (mt w W), .d (mt w T), .d (mt w mm), .d (ml mm), .d (.int due), .d (.list [nd rW, nd rT, nd rM]), .unb, .unb, .unb, .unb] H = .ok (.d (ml P)) H) (esq : evE cl (.mk false (.comp E_law_12 (.one 16) (.seq (.loc 8)))) [S, Bw, .d (nd w), .d (nd ft), .d (ml W), .d (ml T), .d X, .d U, .d (mt w W), .d (mt w T), .d (mt w mm), .d (ml mm), .d (.int due), .d (.list [nd rW, nd rT, nd rM]), .unb, .unb, .unb, .unb] H = .ok (.d (mt w P)) H)
  (cls : cl 54 [.d (.int due), .d (nd w)] H = .ok (sg w due) H) (cdet : cl 29 [.d (mt w mm), .d (nd w), .fn 46, .fn 52] H = .ok (sg w due) H) (cdp : cl 39 [.d (mt w mm), .d (nd w), .fn 46, .d (nd ft)] H = .ok (sg w due) H)
  (r1 : cl 28 [.d (mt w W), .d (nd w), .fn 46, .fn 52] H = .ok (nd rW) H) (r2 : cl 28 [.d (mt w T), .d (nd w), .fn 46, .fn 52] H = .ok (nd rT) H) (r3 : cl 28 [.d (mt w mm), .d (nd w), .fn 46, .fn 52] H = .ok (nd rM) H)
  (l1 : cl 59 [.d (ml W)] H = .ok (nd rW) H) (l2 : cl 59 [.d (ml T)] H = .ok (nd rT) H) (l3 : cl 59 [.d (ml mm)] H = .ok (nd rM) H) (hr : rW + rT ≤ rM + 3 ∧ rM ≤ rW ∧ rM ≤ rT)
  (csv : cl 62 [.d (ml P), .d (mt w P), .d X, .d U, .d (nd ft), .d (nd w)] H = .ok (.bool true) H) :
  exB cl base QpQ.body.tl.tl.tl.tl.tl.tl [S, Bw, .d (nd w), .d (nd ft), .d (ml W), .d (ml T), .d X, .d U, .unb, .unb, .unb, .unb, .unb, .unb, .unb, .unb, .unb, .unb] H = .ret (.bool true) H := by
 have le1 : cmpD .le (.int ((rW : Int) + rT - 3)) (nd rM) = some true := (congrArg some (decide_eq_true (by lia)) : some (decide ((rW : Int) + rT - 3 ≤ (rM : Int))) = some true)
 have le2 : cmpD .le (nd rM) (.int (if (rT : Int) < rW then (rT : Int) else rW)) = some true := (congrArg some (decide_eq_true (by split <;> lia)) : some (decide ((rM : Int) ≤ (if (rT : Int) < rW then (rT : Int) else rW))) = some true)
 have fr3 : Fine 1 (.list [nd rW, nd rT, nd rM]) := Qfd fun x hx => by
  simp only [List.mem_cons, List.not_mem_nil, or_false] at hx
  rcases hx with rfl | rfl | rfl <;> exact Qla _
 exact (sq (ρ1 := [S, Bw, .d (nd w), .d (nd ft), .d (ml W), .d (ml T), .d X, .d U, .d (mt w W), .d (mt w T), .unb, .unb, .unb, .unb, .unb, .unb, .unb, .unb]) (H1 := H) (QT (vs := [.d (mt w W), .d (mt w T)]) (Qa (Qb rfl g1) (Qa (Qb rfl g2) rfl)) rfl)
   (sq (ρ1 := [S, Bw, .d (nd w), .d (nd ft), .d (ml W), .d (ml T), .d X, .d U, .d (mt w W), .d (mt w T), .d (mt w mm), .unb, .unb, .unb, .unb, .unb, .unb, .unb]) (H1 := H) (Qk (Qb rfl cmm))
   (sq (ρ1 := [S, Bw, .d (nd w), .d (nd ft), .d (ml W), .d (ml T), .d X, .d U, .d (mt w W), .d (mt w T), .d (mt w mm), .d (ml mm), .unb, .unb, .unb, .unb, .unb, .unb]) (H1 := H) (Qk epl)
   (sq (ρ1 := [S, Bw, .d (nd w), .d (nd ft), .d (ml W), .d (ml T), .d X, .d U, .d (mt w W), .d (mt w T), .d (mt w mm), .d (ml mm), .d (.int due), .unb, .unb, .unb, .unb, .unb]) (H1 := H) (Qk edue)
   (sq (Qr (z := false) (Qf (x := sg w due) (Qb rfl cdet) (Qb rfl cls) (QpX (Qht w due) (by decide))) rfl)
   (sq (Qr (z := false) (Qf (x := sg w due) (Qb rfl cdp) (Qb rfl cls) (QpX (Qht w due) (by decide))) rfl)
   (sq (ρ1 := [S, Bw, .d (nd w), .d (nd ft), .d (ml W), .d (ml T), .d X, .d U, .d (mt w W), .d (mt w T), .d (mt w mm), .d (ml mm), .d (.int due), .d (.list [nd rW, nd rT, nd rM]), .unb, .unb, .unb, .unb]) (H1 := H) (Qk (Qu (Qo (xs := [mt w W, mt w T, mt w mm]) rfl (Qd rfl (Qb rfl r1) (Qd rfl (Qb rfl r2) (Qd rfl (Qb rfl r3) Ql))))))
   (sq (Qr (z := false) (Qf (x := .list [nd rW, nd rT, nd rM]) rfl (Qu (QeZ (Qa (Qb rfl l1) (Qa (Qb rfl l2) (Qa (Qb rfl l3) rfl))) rfl rfl)) (QkH fr3 (by decide))) rfl)
   (sq (Qr (z := false) (QlK (z := true) (QqG (Qe (Qe (Qi (v := .d (.list [nd rW, nd rT, nd rM])) rfl rfl rfl rfl) (Qi (v := .d (.list [nd rW, nd rT, nd rM])) rfl rfl rfl rfl) rfl) rfl rfl) (Qi (v := .d (.list [nd rW, nd rT, nd rM])) rfl rfl rfl rfl) le1 (Qqr (Qi (v := .d (.list [nd rW, nd rT, nd rM])) rfl rfl rfl rfl) (Qi (v := .d (.list [nd rW, nd rT, nd rM])) rfl rfl rfl rfl)) le2)) rfl)
   (sq (ρ1 := [S, Bw, .d (nd w), .d (nd ft), .d (ml W), .d (ml T), .d X, .d U, .d (mt w W), .d (mt w T), .d (mt w mm), .d (ml mm), .d (.int due), .d (.list [nd rW, nd rT, nd rM]), .d (ml P), .d (mt w P), .unb, .unb]) (H1 := H) (QT (vs := [.d (ml P), .d (mt w P)]) (Qa epn (Qa esq rfl)) rfl)
   (sq (Qr (z := false) (QlK (z := true) (Qb rfl csv)) rfl)
   (Qg (Qy (Qcl (z := true) (Qf (x := mt w W) rfl (Qb rfl g1) (Qhl (Qim w _) (by decide))) (Qcl (z := true) (Qf (x := mt w T) rfl (Qb rfl g2) (Qhl (Qim w _) (by decide))) (Qf (x := mt w P) rfl (Qb rfl g3) (Qhl (Qim w _) (by decide))))))))))))))))))
theorem mnb {p q r s : Int} (hp : p.natAbs ≤ 3) (hq : q.natAbs ≤ 3) (hr : r.natAbs ≤ 3) (hs : s.natAbs ≤ 3) : (p * q - r * s).natAbs ≤ 18 := Nat.le_trans (Int.natAbs_sub_le _ _) (by have := QB hp hq; have := QB hr hs; lia)
theorem QsY {x y z u v t : Int} (h1 : x.natAbs ≤ 18) (h2 : y.natAbs ≤ 18) (h3 : z.natAbs ≤ 18) (h4 : u.natAbs ≤ 18) (h5 : v.natAbs ≤ 18) (h6 : t.natAbs ≤ 18) : (x * y + (z * u + (v * t + 0))).natAbs ≤ 1000 :=
 Nat.le_trans (Int.natAbs_add_le _ _) (Nat.le_trans (Nat.add_le_add (QB h1 h2) (Nat.le_trans (Int.natAbs_add_le _ _) (Nat.add_le_add (QB h3 h4) (by rw [Int.add_zero]; exact QB h5 h6)))) (by decide))
theorem b12 {a b c d e f g h i j k l : Int} (hW : Bnd 3 [[a, b, c], [d, e, f]]) (hT : Bnd 3 [[g, h], [i, j], [k, l]]) : Bnd (2 ^ 20) [[a, b, c], [d, e, f], [g, i, k], [h, j, l]] := by
 have ⟨g1, h1, i1, j1, k1, l1⟩ := hT.m32
 refine bndc (q := 0) (fun z hz => Nat.le_trans (hW _ List.mem_cons_self z hz) (by decide)) (bndc (q := 0) (fun z hz => Nat.le_trans (hW _ (List.mem_cons_of_mem _ List.mem_cons_self) z hz) (by decide)) (bndc (q := 0) ?_ (bndc (q := 0) ?_ (fun r hr => by cases hr)))) <;> intro z hz <;> simp only [List.mem_cons, List.not_mem_nil, or_false] at hz <;> rcases hz with rfl | rfl | rfl <;> lia
theorem in3 : ∀ p ∈ p3, Ins 3 p := by simp [Ins]
theorem in1 : ∀ p ∈ p1, Ins 2 p := by simp [Ins]
theorem pw (L : Nat) (s t : Nat) : (s, t) ∈ p3 ↔ s < t ∧ t < 3 := by simp only [List.mem_cons, List.not_mem_nil, or_false, Prod.mk.injEq]; lia
theorem pw1 (s t : Nat) : (s, t) ∈ p1 ↔ s < t ∧ t < 2 := by simp only [List.mem_cons, List.not_mem_nil, or_false, Prod.mk.injEq]; lia
theorem lens {r0 r1 : List Int} {L : Nat} (h0 : r0.length = L) (h1 : r1.length = L) : ∀ r ∈ [r0, r1], r.length = L := fun r hr => by
 rcases List.mem_cons.mp hr with rfl | hr
 ·exact h0
 ·rw [List.mem_singleton.mp hr]; exact h1
section
variable {w : Nat} (hw : 8 ≤ w) (hw2 : w ≤ 10)
include hw hw2
theorem QkP {r0 r1 : List Int} {L : Nat} {ls : List (Nat × Nat)} (m : Nat) (H : Hp) (h0 : r0.length = L) (h1 : r1.length = L) (hL : L ≤ 100) (hb : Bnd 181 [r0, r1]) (hls : ∀ i j, (i, j) ∈ ls ↔ i < j ∧ j < L) :
  Qc tb (m + 9) 28 [.d (mt w [r0, r1]), .d (nd w), .fn 46, .fn 52] H = .ok (nd (rkf [r0, r1] p1 ls)) H :=
 (Qqc hw hw2 (rs := [r1]) m H h0 hL (fun q hq => QpM h0 h1 hL hq hb)).trans (congrArg (fun n => R.ok (nd n) H) (Qoi h0 h1 hls))
theorem Qpu {a b c d e f g h i j k l x0 x1 u v : Int} {ft : Nat} (m base : Nat) (H : Hp) (S Bw : V) (hW : Bnd 3 [[a, b, c], [d, e, f]]) (hT : Bnd 3 [[g, h], [i, j], [k, l]]) (hx0 : x0.natAbs ≤ 2) (hx1 : x1.natAbs ≤ 2) (hu : u.natAbs ≤ 4) (hv : v.natAbs ≤ 4) (hft : Fst ft) :
  exB (Qc tb (m + 12)) base QpQ.body.tl.tl.tl.tl.tl.tl [S, Bw, .d (nd w), .d (nd ft), .d (ml [[a, b, c], [d, e, f]]), .d (ml [[g, h], [i, j], [k, l]]), .d (il [x0, x1]), .d (il [u, v]), .unb, .unb, .unb, .unb, .unb, .unb, .unb, .unb, .unb, .unb] H = .ret (.bool true) H := by
 haveI ba := hW.m23.1
 haveI bb := hW.m23.2.1
 haveI bc := hW.m23.2.2.1
 haveI bd := hW.m23.2.2.2.1
 haveI be := hW.m23.2.2.2.2.1
 haveI bf := hW.m23.2.2.2.2.2
 haveI bg := hT.m32.1
 haveI bh := hT.m32.2.1
 haveI bi := hT.m32.2.2.1
 haveI bj := hT.m32.2.2.2.1
 haveI bk := hT.m32.2.2.2.2.1
 haveI bl := hT.m32.2.2.2.2.2
 haveI hM : Bnd 27 [[0 + a * g + b * i + c * k, 0 + a * h + b * j + c * l], [0 + d * g + e * i + f * k, 0 + d * h + e * j + f * l]] := QoS (QpD ba bb bc bg bi bk) (QpD ba bb bc bh bj bl) (QpD bd be bf bg bi bk) (QpD bd be bf bh bj bl)
 haveI hP : Bnd 3 [[a, b], [d, e]] := QoS ba bb bd be
 haveI W60 : Bnd (2 ^ 60) [[a, b, c], [d, e, f]] := hW.le (by decide)
 haveI T60 : Bnd (2 ^ 60) [[g, h], [i, j], [k, l]] := hT.le (by decide)
 haveI w3 : ∀ r ∈ [[a, b, c], [d, e, f]], r.length = 3 := lens rfl rfl
 haveI t2 : ∀ r ∈ [[g, h], [i, j], [k, l]], r.length = 2 := fun r hr => by
  rcases List.mem_cons.mp hr with rfl | hr
  ·rfl
  ·exact lens (r0 := [i, j]) (r1 := [k, l]) rfl rfl r hr
 exact QqV (due := (a * e - b * d) * (g * j - h * i) + ((a * f - c * d) * (g * l - h * k) + ((b * f - c * e) * (i * l - j * k) + 0))) (rW := rkf _ p1 p3) (rT := rkf _ p3 p1) (rM := rkf _ p1 p1)
  (Qbe hw hw2 (m + 10) H W60) (Qbe hw hw2 (m + 10) H T60) (Qbe hw hw2 (m + 10) H (hP.le (by decide))) (Qrg hw hw2 (m + 7) H (b12 hW hT))
  (QrS (fun z hz => Qey (w0 hw) (w16 hw2) (m + 11) z H (Nat.lt_of_le_of_lt hz (by decide))) hM ..)
  (QpJ (Qhu (m + 11) H) (fun p hp => QhA (m + 11) H W60 w3 (in1 _ List.mem_cons_self) (in3 p hp)) (fun p hp => QhA (m + 11) H T60 t2 (in3 p hp) (in1 _ List.mem_cons_self))
   (fun p hp => by
    refine Nat.le_trans ?_ (by decide : 18 ≤ 2 ^ 60)
    simp only [List.mem_cons, List.not_mem_nil, or_false] at hp; rcases hp with rfl | rfl | rfl; exact mnb ba be bb bd; exact mnb ba bf bc bd; exact mnb bb bf bc be) ..)
  (Qrt ..) (QrK ..) (QbN (w0 hw) (w16 hw2) (m + 11) _ H (Qj (QsY (mnb ba be bb bd) (mnb bg bj bh bi) (mnb ba bf bc bd) (mnb bg bl bh bk) (mnb bb bf bc be) (mnb bi bl bj bk)) (by decide)))
  ((Quf hw hw2 (m + 3) H (hM.le (by decide))).trans (by rw [cb])) ((QiS (B := 0) hw hw2 (m + 7) H hM hft).trans (by rw [cb]))
  (QkP hw hw2 (L := 3) (m + 3) H rfl rfl (by decide) (hW.le (by decide)) (pw 0)) ((Qqc hw hw2 (L := 2) (m + 3) H rfl (by decide) (fun q hq => QuA hT q hq)).trans (congrArg (fun n => R.ok (nd n) H) (QoQ ..))) (QkP hw hw2 (L := 2) (m + 3) H rfl rfl (by decide) (hM.le (by decide)) pw1)
  (QcW (m + 10) H W60 w3 (Nat.succ_pos _) (by simp) in1 in3 (Qhu (m + 10) H) (Qek (m + 10) H)) (QcW (m + 10) H T60 t2 (Nat.succ_pos _) (by simp) in3 in1 (Qek (m + 10) H) (Qhu (m + 10) H)) (QcW (m + 10) H (hM.le (by decide)) (lens (L := 2) rfl rfl) (Nat.succ_pos _) (by simp) in1 in1 (Qek (m + 10) H) (Qek (m + 10) H))
  (Qpb a b c d e f g h i j k l rfl) (Qje hw hw2 m H ba bb bd be hu hv hx0 hx1 hft)
end
noncomputable def hp (P : List Nat) (k : Nat) : Hp := [[nd k, .list (P.map nd)]]
theorem QoD (x y : Nat) : cmpD .le (nd x) (nd y) = some (decide (x ≤ y)) := by
 show some (decide ((x : Int) ≤ y)) = _
 by_cases h : x ≤ y <;> simp [h]
theorem Qtp {ρ : Rho} {k j : Nat} (v : V) (h : j ≠ k) : gt (st ρ k v) j = gt ρ j := by
 induction ρ generalizing k j with
 | nil => rfl
 | cons a r ih =>
  cases k with
  | zero => cases j with | zero => exact absurd rfl h | succ j => rfl
  | succ k => cases j with | zero => rfl | succ j => exact ih (fun q => h (by rw [q]))
theorem QrT (P : List Nat) (m k many : Nat) (h0 : 0 < many) : ∃ v, v < many ∧ Qc tb (m + 1) 53 [.cell 0, .d (nd many)] (hp P k) = .ok (nd v) (hp P (k + 1)) := by
 haveI s1 : exS (Qc tb m) 1 (.setI 0 (.kd (.int 0)) (.bin .add (.idx (.loc 0) (.kd (.int 0))) (.kd (.int 1)))) [.cell 0, .d (nd many)] (hp P k) = .next [.cell 0, .d (nd many)] (hp P (k + 1)) :=
  QaJ (x := nd (k + 1)) (n := 0) (j := 0) (Qe (Qi (v := .cell 0) (xs := [nd k, .list (P.map nd)]) rfl rfl rfl rfl) rfl (QG k 1)) rfl rfl rfl
 haveI ek : evE (Qc tb m) (.idx (.loc 0) (.kd (.int 0))) [.cell 0, .d (nd many)] (hp P (k + 1)) = .ok (.d (nd (k + 1))) (hp P (k + 1)) := Qi (v := .cell 0) (xs := [nd (k + 1), .list (P.map nd)]) rfl rfl rfl rfl
 haveI eP : evE (Qc tb m) (.idx (.loc 0) (.kd (.int 1))) [.cell 0, .d (nd many)] (hp P (k + 1)) = .ok (.d (.list (P.map nd))) (hp P (k + 1)) := Qi (v := .cell 0) (xs := [nd (k + 1), .list (P.map nd)]) rfl rfl rfl rfl
 haveI et : evE (Qc tb m) (.cmp .le (.idx (.loc 0) (.kd (.int 0))) (.len (.idx (.loc 0) (.kd (.int 1))))) [.cell 0, .d (nd many)] (hp P (k + 1)) = .ok (.d (.bool (decide (k + 1 ≤ P.length)))) (hp P (k + 1)) :=
  Qf ek ((QC eP rfl).trans (by rw [List.length_map])) (QoD _ _)
 by_cases h : k + 1 ≤ P.length
 ·haveI hg : idxD (P.map nd) (k : Int) = some (nd P[k]) := by rw [QaG, List.getElem?_map, List.getElem?_eq_getElem (by lia)]; rfl
  exact ⟨P[k] % many, Nat.mod_lt _ h0, QiP (f := QfC) rfl rfl (sq s1 (Qg (Qr (z := true) (et.trans (by rw [decide_eq_true h])) (Qg (Qy (Qe (Qi eP (Qe ek rfl (Qcf (x := k + 1) (y := 1) (by lia))) rfl hg) rfl (Qcy _ h0))))))) rfl⟩
 ·exact ⟨(7 * (k + 1) + (k + 1) / 2 + 2) % many, Nat.mod_lt _ h0, QiP (f := QfC) rfl rfl (sq s1 (sq (Qr (z := false) (et.trans (by rw [decide_eq_false h])) rfl) (Qg (Qy (Qe (Qe (Qe (Qe rfl ek (Qel (x := 7) (k + 1) (by decide))) (Qe ek rfl (Qgw (y := 2) (k + 1) (by lia) (by lia))) (QG _ _)) rfl (QG _ 2)) rfl (Qcy _ h0)))))) rfl⟩
section
variable (P : List Nat) (m : Nat)
theorem dr {many off : Nat} {ρ : Rho} (k : Nat) (h1 : gt ρ 1 = .cell 0) (h0 : 0 < many) (ho : many ≤ 2 * off + 1) : ∃ z : Int, z.natAbs ≤ off ∧ evE (Qc tb (m + 1)) (.bin .sub (.call 53 (.cons (.loc 1) (.cons (.kd (.int many)) .nil))) (.kd (.int off))) ρ (hp P k) = .ok (.d (.int z)) (hp P (k + 1)) := by
 obtain ⟨v, hv, e⟩ := QrT P m k many h0
 haveI e1 : evE (Qc tb (m + 1)) (.loc 1) ρ (hp P k) = .ok (.cell 0) (hp P k) := Qku h1
 exact ⟨(v : Int) - off, by lia, Qe (Qb (Qa e1 rfl) e) rfl rfl⟩
theorem QsD {many off t : Nat} {ρ : Rho} {el n : PE} (k : Nat) (hel : el = .bin .sub (.call 53 (.cons (.loc 1) (.cons (.kd (.int many)) .nil))) (.kd (.int off))) (h1 : gt ρ 1 = .cell 0) (h0 : 0 < many) (ho : many ≤ 2 * off + 1) (ht : 1 ≠ t) : ∀ (xs : List D), ∃ zs : List Int, zs.length = xs.length ∧ (∀ z ∈ zs, z.natAbs ≤ off) ∧ QU (Tgt.one t).bd (evE (Qc tb (m + 1)) el) QaE xs ρ (hp P k) = .ok (zs.map .int) (hp P (k + xs.length)) := by
 intro xs
 induction xs generalizing ρ k with
 | nil => exact ⟨[], rfl, by simp, rfl⟩
 | cons x r ih =>
  have h1' : gt (st ρ t (.d x)) 1 = .cell 0 := by rw [Qtp _ ht]; exact h1
  obtain ⟨z, HH6⟩ := dr P m (ρ := st ρ t (.d x)) k h1' h0 ho
  haveI hz := HH6.1
  haveI e := HH6.2
  obtain ⟨zs, HH9⟩ := ih (ρ := st ρ t (.d x)) (k + 1) h1'
  haveI hl := HH9.1
  haveI hb := HH9.2.1
  haveI e2 := HH9.2.2
  subst hel
  refine ⟨z :: zs, by simp [hl], ?_, Qd rfl e ?_⟩
  ·intro y hy
   rcases List.mem_cons.mp hy with rfl | hy
   ·exact hz
   ·exact hb y hy
  ·rw [List.length_cons, show k + (r.length + 1) = k + 1 + r.length from by lia]; exact e2
theorem Qnj {many off t n : Nat} {ρ : Rho} {el : PE} (k : Nat) (hel : el = .bin .sub (.call 53 (.cons (.loc 1) (.cons (.kd (.int many)) .nil))) (.kd (.int off))) (h1 : gt ρ 1 = .cell 0) (h0 : 0 < many) (ho : many ≤ 2 * off + 1) (ht : 1 ≠ t) (hn : n ≤ 10) : ∃ zs : List Int, zs.length = n ∧ (∀ z ∈ zs, z.natAbs ≤ off) ∧ evE (Qc tb (m + 1)) (.mk false (.comp el (.one t) (.range1 (.kd (.int n))))) ρ (hp P k) = .ok (.d (il zs)) (hp P (k + n)) := by
 obtain ⟨zs, HH1⟩ := QsD P m (n := .dead) (ρ := ρ) k hel h1 h0 ho ht (Qbc (0 : Nat) n)
 haveI hl := HH1.1
 haveI hb := HH1.2.1
 haveI e := HH1.2.2
 rw [QX] at hl e
 exact ⟨zs, hl, hb, Qu (Qo (QM (n := n) rfl (by lia)) e)⟩
theorem QnA {many off t u n q : Nat} {ρ : Rho} {el er : PE} (k : Nat) (hel : el = .bin .sub (.call 53 (.cons (.loc 1) (.cons (.kd (.int many)) .nil))) (.kd (.int off))) (her : er = .mk false (.comp el (.one u) (.range1 (.kd (.int n))))) (h1 : gt ρ 1 = .cell 0) (h0 : 0 < many) (ho : many ≤ 2 * off + 1) (ht : 1 ≠ t) (hu : 1 ≠ u) (hn : n ≤ 10) (hq : q ≤ 10) : ∃ rows : List (List Int), rows.length = q ∧ (∀ r ∈ rows, r.length = n) ∧ Bnd off rows ∧ evE (Qc tb (m + 1)) (.mk false (.comp er (.one t) (.range1 (.kd (.int q))))) ρ (hp P k) = .ok (.d (ml rows)) (hp P (k + q * n)) := by
 haveI go : ∀ (xs : List D) (k : Nat) (ρ : Rho), gt ρ 1 = .cell 0 → ∃ rows : List (List Int), rows.length = xs.length ∧ (∀ r ∈ rows, r.length = n) ∧ Bnd off rows ∧ QU (Tgt.one t).bd (evE (Qc tb (m + 1)) er) QaE xs ρ (hp P k) = .ok (rows.map il) (hp P (k + xs.length * n)) := by
  intro xs
  induction xs with
  | nil => intro k ρ h1; exact ⟨[], rfl, by simp, fun r hr => (by cases hr), by rw [List.length_nil, Nat.zero_mul]; rfl⟩
  | cons x r ih =>
   intro k ρ h1
   haveI h1' : gt (st ρ t (.d x)) 1 = .cell 0 := by rw [Qtp _ ht]; exact h1
   obtain ⟨zs, HH8⟩ := Qnj P m (ρ := st ρ t (.d x)) (n := n) k hel h1' h0 ho hu hn
   haveI hl := HH8.1
   haveI hb := HH8.2.1
   haveI e := HH8.2.2
   rw [← her] at e
   obtain ⟨rows, HH13⟩ := ih (k + n) (st ρ t (.d x)) h1'
   haveI hl2 := HH13.1
   haveI hr2 := HH13.2.1
   haveI hb2 := HH13.2.2.1
   haveI e2 := HH13.2.2.2
   refine ⟨zs :: rows, by simp [hl2], ?_, ?_, Qd rfl e ?_⟩
   ·intro y hy
    rcases List.mem_cons.mp hy with rfl | hy
    ·exact hl
    ·exact hr2 y hy
   ·intro y hy
    rcases List.mem_cons.mp hy with rfl | hy
    ·exact hb
    ·exact hb2 y hy
   ·rw [List.length_cons, show k + (r.length + 1) * n = k + n + r.length * n from by rw [Nat.succ_mul]; lia]; exact e2
 obtain ⟨rows, HH28⟩ := go (Qbc (0 : Nat) q) k ρ h1
 haveI hl := HH28.1
 haveI hr := HH28.2.1
 haveI hb := HH28.2.2.1
 haveI e := HH28.2.2.2
 rw [QX] at hl e
 exact ⟨rows, hl, hr, hb, Qu (Qo (QM (n := q) rfl (by lia)) e)⟩
end
theorem len2 {α : Type} {l : List α} (h : l.length = 2) : Ex2 fun a b => l = [a, b] := by
 match l, h with
 | [a, b], _ => exact ⟨a, b, rfl⟩
theorem len3 {α : Type} {l : List α} (h : l.length = 3) : Ex3 fun a b c => l = [a, b, c] := by
 match l, h with
 | [a, b, c], _ => exact ⟨a, b, c, rfl⟩
theorem QsW (is : List Int) : Qc tb 20 63 [.d (.list (is.map PyData.int))] [] = .ok (.bool true) [] := by
 obtain ⟨P, hP⟩ : ∃ P, P = (is.take 18).map Int.natAbs := ⟨_, rfl⟩
 haveI eb : evE (Qc tb 19) (.mk true (.list (.cons (.kd (.int 0)) (.cons (.mk false (.comp E_law_0 (.one 16) (.seq (.mk false (.slcU (.loc 0) (.kd (.int 18))))))) .nil)))) ([.d (.list (is.map PyData.int))] ++ List.replicate 17 .unb) [] = .ok (.cell 0) (hp P 0) := by
  haveI e1 := Qam (k := 16) (el := evE (Qc tb 19) E_law_0) (H := []) PyData.int (fun i => nd i.natAbs) (is.take 18) ([.d (.list (is.map PyData.int))] ++ List.replicate 17 .unb) (fun i _ => rfl)
  haveI e2 : evI (Qc tb 19) (.seq (.mk false (.slcU (.loc 0) (.kd (.int 18))))) ([.d (.list (is.map PyData.int))] ++ List.replicate 17 .unb) [] = .ok ((is.take 18).map PyData.int) [] := by
   rw [List.map_take]
   exact Qcp (Qu (QcY (i := 18) rfl rfl rfl ⟨by decide, by decide⟩))
  refine (QbC (QeZ (Qa rfl (Qa (Qu (Qo e2 e1)) rfl)) rfl rfl)).trans ?_
  rw [hP, hp, List.map_map]; rfl
 obtain ⟨v, hv, d1⟩ := QrT P 18 0 3 (by lia)
 obtain ⟨f, hf, d2⟩ := QrT P 18 1 4 (by lia)
 obtain ⟨wide, w1, w2, w3, d3⟩ := QnA P 18 (many := 7) (off := 3) (t := 16) (u := 17) (n := 3) (q := 2) (ρ := [.d (.list (is.map PyData.int)), .cell 0, .d (nd (8 + v)), .d (nd (148 + f))] ++ List.replicate 14 .unb) (el := E_law_1) (er := E_law_2) 2 rfl rfl rfl (by lia) (by lia) (by lia) (by lia) (by lia) (by lia)
 obtain ⟨tall, t1, t2, t3, d4⟩ := QnA P 18 (many := 7) (off := 3) (t := 16) (u := 17) (n := 2) (q := 3) (ρ := [.d (.list (is.map PyData.int)), .cell 0, .d (nd (8 + v)), .d (nd (148 + f)), .d (ml wide)] ++ List.replicate 13 .unb) (el := E_law_3) (er := E_law_4) (2 + 2 * 3) rfl rfl rfl (by lia) (by lia) (by lia) (by lia) (by lia) (by lia)
 obtain ⟨x, x1, x2, d5⟩ := Qnj P 18 (many := 5) (off := 2) (t := 16) (n := 2) (ρ := [.d (.list (is.map PyData.int)), .cell 0, .d (nd (8 + v)), .d (nd (148 + f)), .d (ml wide), .d (ml tall)] ++ List.replicate 12 .unb) (el := E_law_5) (2 + 2 * 3 + 3 * 2) rfl rfl (by lia) (by lia) (by lia) (by lia)
 obtain ⟨y, y1, y2, d6⟩ := Qnj P 18 (many := 9) (off := 4) (t := 16) (n := 2) (ρ := [.d (.list (is.map PyData.int)), .cell 0, .d (nd (8 + v)), .d (nd (148 + f)), .d (ml wide), .d (ml tall), .d (il x)] ++ List.replicate 11 .unb) (el := E_law_6) (2 + 2 * 3 + 3 * 2 + 2) rfl rfl (by lia) (by lia) (by lia) (by lia)
 obtain ⟨r0, r1, rfl⟩ := len2 w1
 obtain ⟨a, b, c, rfl⟩ := len3 (w2 r0 (by simp))
 obtain ⟨d, e, f', rfl⟩ := len3 (w2 r1 (by simp))
 obtain ⟨q0, q1, q2, rfl⟩ := len3 t1
 obtain ⟨g, h, rfl⟩ := len2 (t2 q0 (by simp))
 obtain ⟨i, j, rfl⟩ := len2 (t2 q1 (by simp))
 obtain ⟨k, l, rfl⟩ := len2 (t2 q2 (by simp))
 obtain ⟨x0, x1', rfl⟩ := len2 x1
 obtain ⟨u, v', rfl⟩ := len2 y1
 haveI tail := Qpu (w := 8 + v) (by lia) (by lia) (ft := 148 + f) 7 0 (hp P (2 + 2 * 3 + 3 * 2 + 2 + 2)) (.d (.list (is.map PyData.int))) (.cell 0) w3 t3 (x2 x0 (by simp)) (x2 x1' (by simp)) (y2 u (by simp)) (y2 v' (by simp)) (by unfold Fst; lia)
 exact Qt (f := QpQ) rfl rfl (sq (Qk eb) (sq (QT (vs := [.d (nd (8 + v)), .d (nd (148 + f))]) (Qa (Qe rfl (Qb rfl d1) (QG 8 v)) (Qa (Qe rfl (Qb rfl d2) (QG 148 f)) rfl)) rfl) (sq (Qk d3) (sq (Qk d4) (sq (Qk d5) (sq (Qk d6) tail)))))) rfl
end Mine
section
set_option maxHeartbeats 8000000
namespace Mine.H
noncomputable section
noncomputable abbrev pw : Program := PySem.Challenge.pw_sa0350_01
noncomputable abbrev oS (x : String) : Str := Str.ofString x
noncomputable abbrev vS (x : String) (t : Nat) : Value := .str (Str.ofString x) t
noncomputable abbrev eS (P : Params) (x : String) (t : Nat) (v : Value) : DictEntry := ⟨PyData.keyHash P (Str.ofString x), .str (Str.ofString x) t, v⟩
noncomputable def stm (i : Nat) : Stmt := match pw.main.body[i]? with | some s => s | none => .Pass ⟨0, 0, 0, 0⟩
noncomputable def fP : Stmt → Arguments | .FunctionDef (args := a) .. => a | _ => default
noncomputable def fN : Stmt → Str | .FunctionDef (name := a) .. => a | _ => default
noncomputable def fB : Stmt → List Stmt | .FunctionDef (body := a) .. => a | _ => []
noncomputable def fS : Stmt → Scope | .FunctionDef (scope := a) .. => a | _ => default
noncomputable def fD (i : Nat) (g : Addr) (df kw doc pm cd ct : Value) (bl : Addr) : FuncData :=
 { name := fN (stm i), qualname := fN (stm i), params := fP (stm i), body := .stmts (fB (stm i)), scope := fS (stm i), globals := g, closure := [], defaults := df, kwdefaults := kw, doc := doc, pyModule := pm, code := cd, closureTuple := ct, builtins := bl }
noncomputable abbrev lf : Life := {}
noncomputable abbrev hN := @BT.node
noncomputable abbrev hL (o : Obj) : BT := .node o .nil .nil
noncomputable abbrev hT (x : Array Value) (n : Nat) : Obj := ⟨.type "tuple", none, .seq x n, #[]⟩
noncomputable abbrev hF (x : Array Value) : Obj := ⟨.none, none, .fields x, #[]⟩
noncomputable abbrev hC (x : Array Value) : Obj := ⟨.type "code", none, .fields x, #[]⟩
noncomputable abbrev hG (x : FuncData) : Obj := ⟨.type "function", none, .func x, #[]⟩
noncomputable abbrev hg (x : FuncData) : Obj := ⟨.none, none, .func x, #[]⟩
noncomputable abbrev hD (x : Array DictEntry) (n : Nat) : Obj := ⟨.type "dict", none, .dict x n, #[]⟩
noncomputable def o11 := hT #[] 0
noncomputable def o12 := hF #[]
noncomputable def o13 := hC #[(vS "<module>" 182), (vS "<module>" 183), (vS "/claim/cut.py" 184), (.int 1 0), (.int 0 0), (.int 0 0), (.int 0 0), (.int 0 0), (.ref 11), (.bool false), (.int 181 0), (.ref 12), .none, .none, .none, .none, (.int 185 0), (.int 1 0), (vS "/claim/cut.py" 186)]
noncomputable def o14 : Obj := ⟨(.type "frame"), none, .plain, #[some (.ref 13), some (.ref 3), some (.ref 3), none, some (vS "__main__" 164), none, some (.ref 0)]⟩
noncomputable def hPre (P : Params) : Heap := ⟨⟨[(boot_o_0 P), (boot_o_1 P), (boot_o_2 P), (boot_o_3 P), (boot_o_4 P), (boot_o_5 P), (boot_o_6 P), (boot_o_7 P), (boot_o_8 P), (boot_o_9 P), (boot_o_10 P), o11, o12, o13, o14]⟩, lf⟩
noncomputable def tr0 (P : Params) : BT := (hN (boot_o_0 P) (hN (boot_o_1 P) (hN (boot_o_3 P) (hL (boot_o_7 P)) (hL o11)) (hN (boot_o_5 P) (hL (boot_o_9 P)) (hL o13))) (hN (boot_o_2 P) (hN (boot_o_4 P) (hL (boot_o_8 P)) (hL o12)) (hN (boot_o_6 P) (hL (boot_o_10 P)) (hL o14))))
noncomputable def o2_1 (P : Params) : Obj := ⟨.none, none, (.dict #[eS P "type.__subclasses__.Exception.0" 205 (.int 24 0), eS P "type.__subclasses__.Exception.n" 206 (.int 1 0)] 2), #[]⟩
noncomputable def o3_1 (P : Params) := hD #[eS P "__name__" 165 (vS "gmp.limbs" 187), eS P "__doc__" 166 .none, eS P "__package__" 167 .none, eS P "__loader__" 168 (.builtin "__main__.__loader__#opaque"), eS P "__spec__" 169 .none, eS P "__annotations__" 170 (.ref 6), eS P "__builtins__" 171 (.ref 4), eS P "__file__" 173 (vS "/claim/cut.py" 172), eS P "__cached__" 174 .none, eS P "GmpError" 208 (.ref 24)] 10
noncomputable def Qug := hF #[(.int 2 0), (.int 0 0), (.ref 20)]
noncomputable def QdV := hT #[(.type "Exception")] 0
noncomputable def QL : Obj := ⟨(.type "builtin_function_or_method"), none, (.fields #[(.builtin "type.__prepare__"), (.type "type")]), #[]⟩
noncomputable def QdU (P : Params) := hD #[eS P "__module__" 196 (vS "gmp.limbs" 187), eS P "__qualname__" 198 (vS "GmpError" 197), eS P "__firstlineno__" 200 (.int 2 199), eS P "__static_attributes__" 201 (.ref 22)] 4
noncomputable def QdY := hC #[(vS "GmpError" 191), (vS "GmpError" 192), (vS "/claim/cut.py" 193), (.int 2 0), (.int 0 0), (.int 0 0), (.int 0 0), (.int 0 0), (.ref 18), (.bool false), (.int 181 0), (.ref 19), .none, .none, .none, .none, (.int 194 0), (.int 2 0), (vS "/claim/cut.py" 195)]
noncomputable def Qea : Obj := ⟨(.type "frame"), none, .plain, #[some (.ref 20), some (.ref 3), some (.ref 17), none, some (vS "gmp.limbs" 187), none, some (.ref 0)]⟩
noncomputable def QdW (P : Params) := hD #[eS P "__module__" 196 (vS "gmp.limbs" 187), eS P "__firstlineno__" 200 (.int 2 199), eS P "__static_attributes__" 201 (.ref 22), eS P "__weakref__" 203 (.ref 25), eS P "__doc__" 204 .none] 3
noncomputable def Qua : Obj := ⟨(.type "type"), none, (.cls { name := oS "GmpError", bases := [(.type "Exception")], mro := [(.ref 24), (.type "Exception"), (.type "BaseException"), (.type "object")], ns := 23, qualname := oS "GmpError", hasDict := true, slotNames := [], subclasses := [], abstract := false, collection := none, hasDel := false }), #[some (.ref 15), none, some (vS "GmpError" 189), some (vS "GmpError" 197), some (.builtin "Exception.__new__"), some (.bool true)]⟩
noncomputable def QdX : Obj := ⟨(.type "getset_descriptor"), none, (.fields #[(vS "__weakref__" 202), (.ref 24), (.builtin "ExceptionGroup.__weakref__"), .none]), #[]⟩
noncomputable def QdS : Obj := ⟨(.type "super"), none, (.fields #[(.ref 24), (.ref 24), (.ref 24)]), #[]⟩
noncomputable def QdT : Obj := ⟨(.type "builtin_function_or_method"), none, (.fields #[(.builtin "object.__init_subclass__"), (.ref 24)]), #[]⟩
noncomputable def tr1 (P : Params) : BT := (hN (boot_o_0 P) (hN (boot_o_1 P) (hN (o3_1 P) (hN (boot_o_7 P) (hL QdV) (hL (QdW P))) (hN o11 (hL o12) (hL QdT))) (hN (boot_o_5 P) (hN (boot_o_9 P) (hL (QdU P)) (hL QdX)) (hN o13 (hL Qea) .nil))) (hN (o2_1 P) (hN (boot_o_4 P) (hN (boot_o_8 P) (hL QL) (hL Qua)) (hN Qug (hL QdY) .nil)) (hN (boot_o_6 P) (hN (boot_o_10 P) (hL o11) (hL QdS)) (hN o14 (hL o11) .nil))))
noncomputable def o3_2 (P : Params) := hD #[eS P "__name__" 165 (vS "gmp.limbs" 187), eS P "__doc__" 166 .none, eS P "__package__" 167 .none, eS P "__loader__" 168 (.builtin "__main__.__loader__#opaque"), eS P "__spec__" 169 .none, eS P "__annotations__" 170 (.ref 6), eS P "__builtins__" 171 (.ref 4), eS P "__file__" 173 (vS "/claim/cut.py" 172), eS P "__cached__" 174 .none, eS P "GmpError" 208 (.ref 24), eS P "DivisionByZero" 224 (.ref 37)] 11
noncomputable def Quv := hF #[(.int 2 0), (.int 0 0), (.ref 20), (.int 4 0), (.int 0 0), (.ref 33)]
noncomputable def QtT : Obj := ⟨(.type "type"), none, (.cls { name := oS "GmpError", bases := [(.type "Exception")], mro := [(.ref 24), (.type "Exception"), (.type "BaseException"), (.type "object")], ns := 23, qualname := oS "GmpError", hasDict := true, slotNames := [], subclasses := [(.ref 37)], abstract := false, collection := none, hasDel := false }), #[some (.ref 15), none, some (vS "GmpError" 189), some (vS "GmpError" 197), some (.builtin "Exception.__new__"), some (.bool true)]⟩
noncomputable def Qai := hT #[(.ref 24)] 0
noncomputable def Qex (P : Params) := hD #[eS P "__module__" 216 (vS "gmp.limbs" 187), eS P "__qualname__" 218 (vS "DivisionByZero" 217), eS P "__firstlineno__" 220 (.int 4 219), eS P "__static_attributes__" 221 (.ref 35)] 4
noncomputable def QeV := hC #[(vS "DivisionByZero" 211), (vS "DivisionByZero" 212), (vS "/claim/cut.py" 213), (.int 4 0), (.int 0 0), (.int 0 0), (.int 0 0), (.int 0 0), (.ref 31), (.bool false), (.int 181 0), (.ref 32), .none, .none, .none, .none, (.int 214 0), (.int 4 0), (vS "/claim/cut.py" 215)]
noncomputable def Qfj : Obj := ⟨(.type "frame"), none, .plain, #[some (.ref 33), some (.ref 3), some (.ref 30), none, some (vS "gmp.limbs" 187), none, some (.ref 0)]⟩
noncomputable def QeE (P : Params) := hD #[eS P "__module__" 216 (vS "gmp.limbs" 187), eS P "__firstlineno__" 220 (.int 4 219), eS P "__static_attributes__" 221 (.ref 35), eS P "__doc__" 222 .none] 2
noncomputable def Qen : Obj := ⟨(.type "type"), none, (.cls { name := oS "DivisionByZero", bases := [(.ref 24)], mro := [(.ref 37), (.ref 24), (.type "Exception"), (.type "BaseException"), (.type "object")], ns := 36, qualname := oS "DivisionByZero", hasDict := true, slotNames := [], subclasses := [], abstract := false, collection := none, hasDel := false }), #[some (.ref 28), none, some (vS "DivisionByZero" 209), some (vS "DivisionByZero" 217), some (.builtin "Exception.__new__"), some (.bool true)]⟩
noncomputable def Qfm : Obj := ⟨(.type "super"), none, (.fields #[(.ref 37), (.ref 37), (.ref 37)]), #[]⟩
noncomputable def Qfe : Obj := ⟨(.type "builtin_function_or_method"), none, (.fields #[(.builtin "object.__init_subclass__"), (.ref 37)]), #[]⟩
noncomputable def tr2 (P : Params) : BT := (hN (boot_o_0 P) (hN (boot_o_1 P) (hN (o3_2 P) (hN (boot_o_7 P) (hN QdV (hL o11) .nil) (hN (QdW P) (hL Qfe) .nil)) (hN o11 (hN o12 (hL o11) .nil) (hL QdT))) (hN (boot_o_5 P) (hN (boot_o_9 P) (hN (QdU P) (hL QeV) .nil) (hL QdX)) (hN o13 (hN Qea (hL Qen) .nil) (hL QL)))) (hN (o2_1 P) (hN (boot_o_4 P) (hN (boot_o_8 P) (hN QL (hL o12) .nil) (hL QtT)) (hN Quv (hN QdY (hL (QeE P)) .nil) (hL Qai))) (hN (boot_o_6 P) (hN (boot_o_10 P) (hN o11 (hL Qfj) .nil) (hL QdS)) (hN o14 (hN o11 (hL Qfm) .nil) (hL (Qex P))))))
noncomputable def o3_3 (P : Params) := hD #[eS P "__name__" 165 (vS "gmp.limbs" 187), eS P "__doc__" 166 .none, eS P "__package__" 167 .none, eS P "__loader__" 168 (.builtin "__main__.__loader__#opaque"), eS P "__spec__" 169 .none, eS P "__annotations__" 170 (.ref 6), eS P "__builtins__" 171 (.ref 4), eS P "__file__" 173 (vS "/claim/cut.py" 172), eS P "__cached__" 174 .none, eS P "GmpError" 208 (.ref 24), eS P "DivisionByZero" 224 (.ref 37), eS P "NoInverse" 240 (.ref 49)] 12
noncomputable def QtZ := hF #[(.int 2 0), (.int 0 0), (.ref 20), (.int 4 0), (.int 0 0), (.ref 33), (.int 6 0), (.int 0 0), (.ref 45)]
noncomputable def Qut : Obj := ⟨(.type "type"), none, (.cls { name := oS "GmpError", bases := [(.type "Exception")], mro := [(.ref 24), (.type "Exception"), (.type "BaseException"), (.type "object")], ns := 23, qualname := oS "GmpError", hasDict := true, slotNames := [], subclasses := [(.ref 37), (.ref 49)], abstract := false, collection := none, hasDel := false }), #[some (.ref 15), none, some (vS "GmpError" 189), some (vS "GmpError" 197), some (.builtin "Exception.__new__"), some (.bool true)]⟩
noncomputable def QfV (P : Params) := hD #[eS P "__module__" 232 (vS "gmp.limbs" 187), eS P "__qualname__" 234 (vS "NoInverse" 233), eS P "__firstlineno__" 236 (.int 6 235), eS P "__static_attributes__" 237 (.ref 47)] 4
noncomputable def QfU := hC #[(vS "NoInverse" 227), (vS "NoInverse" 228), (vS "/claim/cut.py" 229), (.int 6 0), (.int 0 0), (.int 0 0), (.int 0 0), (.int 0 0), (.ref 43), (.bool false), (.int 181 0), (.ref 44), .none, .none, .none, .none, (.int 230 0), (.int 6 0), (vS "/claim/cut.py" 231)]
noncomputable def Qga : Obj := ⟨(.type "frame"), none, .plain, #[some (.ref 45), some (.ref 3), some (.ref 42), none, some (vS "gmp.limbs" 187), none, some (.ref 0)]⟩
noncomputable def QfT (P : Params) := hD #[eS P "__module__" 232 (vS "gmp.limbs" 187), eS P "__firstlineno__" 236 (.int 6 235), eS P "__static_attributes__" 237 (.ref 47), eS P "__doc__" 238 .none] 2
noncomputable def Qgb : Obj := ⟨(.type "type"), none, (.cls { name := oS "NoInverse", bases := [(.ref 24)], mro := [(.ref 49), (.ref 24), (.type "Exception"), (.type "BaseException"), (.type "object")], ns := 48, qualname := oS "NoInverse", hasDict := true, slotNames := [], subclasses := [], abstract := false, collection := none, hasDel := false }), #[some (.ref 40), none, some (vS "NoInverse" 225), some (vS "NoInverse" 233), some (.builtin "Exception.__new__"), some (.bool true)]⟩
noncomputable def QfX : Obj := ⟨(.type "super"), none, (.fields #[(.ref 49), (.ref 49), (.ref 49)]), #[]⟩
noncomputable def QfY : Obj := ⟨(.type "builtin_function_or_method"), none, (.fields #[(.builtin "object.__init_subclass__"), (.ref 49)]), #[]⟩
noncomputable def tr3 (P : Params) : BT := (hN (boot_o_0 P) (hN (boot_o_1 P) (hN (o3_3 P) (hN (boot_o_7 P) (hN QdV (hL o11) (hL o11)) (hN (QdW P) (hL Qfe) .nil)) (hN o11 (hN o12 (hL o11) (hL QfY)) (hN QdT (hL o11) .nil))) (hN (boot_o_5 P) (hN (boot_o_9 P) (hN (QdU P) (hL QeV) (hL Qgb)) (hN QdX (hL QL) .nil)) (hN o13 (hN Qea (hL Qen) .nil) (hN QL (hL QfU) .nil)))) (hN (o2_1 P) (hN (boot_o_4 P) (hN (boot_o_8 P) (hN QL (hL o12) (hL (QfT P))) (hN Qut (hL Qai) .nil)) (hN QtZ (hN QdY (hL (QeE P)) .nil) (hN Qai (hL o12) .nil))) (hN (boot_o_6 P) (hN (boot_o_10 P) (hN o11 (hL Qfj) (hL QfX)) (hN QdS (hL (QfV P)) .nil)) (hN o14 (hN o11 (hL Qfm) .nil) (hN (Qex P) (hL Qga) .nil)))))
noncomputable def o3_4 (P : Params) := hD #[eS P "__name__" 165 (vS "gmp.limbs" 187), eS P "__doc__" 166 .none, eS P "__package__" 167 .none, eS P "__loader__" 168 (.builtin "__main__.__loader__#opaque"), eS P "__spec__" 169 .none, eS P "__annotations__" 170 (.ref 6), eS P "__builtins__" 171 (.ref 4), eS P "__file__" 173 (vS "/claim/cut.py" 172), eS P "__cached__" 174 .none, eS P "GmpError" 208 (.ref 24), eS P "DivisionByZero" 224 (.ref 37), eS P "NoInverse" 240 (.ref 49), eS P "OutOfRange" 256 (.ref 61), eS P "normal" 264 (.ref 70), eS P "nat_of" 274 (.ref 77)] 15
noncomputable def Qup := hF #[(.int 2 0), (.int 0 0), (.ref 20), (.int 4 0), (.int 0 0), (.ref 33), (.int 6 0), (.int 0 0), (.ref 45), (.int 8 0), (.int 0 0), (.ref 57), (.int 10 0), (.int 0 0), (.ref 69), (.int 15 0), (.int 0 0), (.ref 76)]
noncomputable def QhV : Obj := ⟨(.type "type"), none, (.cls { name := oS "GmpError", bases := [(.type "Exception")], mro := [(.ref 24), (.type "Exception"), (.type "BaseException"), (.type "object")], ns := 23, qualname := oS "GmpError", hasDict := true, slotNames := [], subclasses := [(.ref 37), (.ref 49), (.ref 61)], abstract := false, collection := none, hasDel := false }), #[some (.ref 15), none, some (vS "GmpError" 189), some (vS "GmpError" 197), some (.builtin "Exception.__new__"), some (.bool true)]⟩
noncomputable def QhF (P : Params) := hD #[eS P "__module__" 248 (vS "gmp.limbs" 187), eS P "__qualname__" 250 (vS "OutOfRange" 249), eS P "__firstlineno__" 252 (.int 8 251), eS P "__static_attributes__" 253 (.ref 59)] 4
noncomputable def Qhp := hC #[(vS "OutOfRange" 243), (vS "OutOfRange" 244), (vS "/claim/cut.py" 245), (.int 8 0), (.int 0 0), (.int 0 0), (.int 0 0), (.int 0 0), (.ref 55), (.bool false), (.int 181 0), (.ref 56), .none, .none, .none, .none, (.int 246 0), (.int 8 0), (vS "/claim/cut.py" 247)]
noncomputable def Qhv : Obj := ⟨(.type "frame"), none, .plain, #[some (.ref 57), some (.ref 3), some (.ref 54), none, some (vS "gmp.limbs" 187), none, some (.ref 0)]⟩
noncomputable def QhP (P : Params) := hD #[eS P "__module__" 248 (vS "gmp.limbs" 187), eS P "__firstlineno__" 252 (.int 8 251), eS P "__static_attributes__" 253 (.ref 59), eS P "__doc__" 254 .none] 2
noncomputable def QhU : Obj := ⟨(.type "type"), none, (.cls { name := oS "OutOfRange", bases := [(.ref 24)], mro := [(.ref 61), (.ref 24), (.type "Exception"), (.type "BaseException"), (.type "object")], ns := 60, qualname := oS "OutOfRange", hasDict := true, slotNames := [], subclasses := [], abstract := false, collection := none, hasDel := false }), #[some (.ref 52), none, some (vS "OutOfRange" 241), some (vS "OutOfRange" 249), some (.builtin "Exception.__new__"), some (.bool true)]⟩
noncomputable def Qhn : Obj := ⟨(.type "super"), none, (.fields #[(.ref 61), (.ref 61), (.ref 61)]), #[]⟩
noncomputable def Qii : Obj := ⟨(.type "builtin_function_or_method"), none, (.fields #[(.builtin "object.__init_subclass__"), (.ref 61)]), #[]⟩
noncomputable def QhE := hT #[(vS "a" 260), (vS "end" 261)] 0
noncomputable def QhB := hg (fD 5 0 .none .none .none .none .none .none 0)
noncomputable def QhM := hC #[(vS "normal" 257), (vS "normal" 258), (vS "/claim/cut.py" 259), (.int 10 0), (.int 1 0), (.int 0 0), (.int 0 0), (.int 3 0), (.ref 64), (.bool true), (.int 181 0), (.ref 65), .none, (.ref 66), (.ref 67), (.ref 68), (.int 262 0), (.int 10 0), (vS "/claim/cut.py" 263)]
noncomputable def QhY := hG (fD 5 3 .none .none .none (vS "gmp.limbs" 187) (.ref 69) .none 0)
noncomputable def Qik := hT #[(vS "number" 268), (vS "w" 269), (vS "found" 270), (vS "mask" 271)] 0
noncomputable def Qie := hg (fD 6 0 .none .none .none .none .none .none 0)
noncomputable def QhD := hC #[(vS "nat_of" 265), (vS "nat_of" 266), (vS "/claim/cut.py" 267), (.int 15 0), (.int 2 0), (.int 0 0), (.int 0 0), (.int 3 0), (.ref 71), (.bool true), (.int 181 0), (.ref 72), .none, (.ref 73), (.ref 74), (.ref 75), (.int 272 0), (.int 15 0), (vS "/claim/cut.py" 273)]
noncomputable def Qil := hG (fD 6 3 .none .none .none (vS "gmp.limbs" 187) (.ref 76) .none 0)
noncomputable def tr4 (P : Params) : BT := (hN (boot_o_0 P) (hN (boot_o_1 P) (hN (o3_4 P) (hN (boot_o_7 P) (hN QdV (hN o11 (hL Qii) .nil) (hL o11)) (hN (QdW P) (hN Qfe (hL o11) .nil) (hL o11))) (hN o11 (hN o12 (hN o11 (hL o11) .nil) (hL QfY)) (hN QdT (hN o11 (hL Qie) .nil) (hL o11)))) (hN (boot_o_5 P) (hN (boot_o_9 P) (hN (QdU P) (hN QeV (hL o12) .nil) (hL Qgb)) (hN QdX (hN QL (hL Qik) .nil) (hL Qhp))) (hN o13 (hN Qea (hN Qen (hL QhM) .nil) (hL QL)) (hN QL (hN QfU (hL Qil) .nil) (hL QhU))))) (hN (o2_1 P) (hN (boot_o_4 P) (hN (boot_o_8 P) (hN QL (hN o12 (hL o11) .nil) (hL (QfT P))) (hN QhV (hN Qai (hL o12) .nil) (hL o12))) (hN Qup (hN QdY (hN (QeE P) (hL QhB) .nil) (hL Qai)) (hN Qai (hN o12 (hL QhD) .nil) (hL (QhP P))))) (hN (boot_o_6 P) (hN (boot_o_10 P) (hN o11 (hN Qfj (hL QhE) .nil) (hL QfX)) (hN QdS (hN (QfV P) (hL o11) .nil) (hL Qhv))) (hN o14 (hN o11 (hN Qfm (hL QhY) .nil) (hL (QhF P))) (hN (Qex P) (hL Qga) (hL Qhn))))))
noncomputable def o3_5 (P : Params) := hD #[eS P "__name__" 165 (vS "gmp.signed" 373), eS P "__doc__" 166 .none, eS P "__package__" 167 .none, eS P "__loader__" 168 (.builtin "__main__.__loader__#opaque"), eS P "__spec__" 169 .none, eS P "__annotations__" 170 (.ref 6), eS P "__builtins__" 171 (.ref 4), eS P "__file__" 173 (vS "/claim/cut.py" 172), eS P "__cached__" 174 .none, eS P "GmpError" 208 (.ref 24), eS P "DivisionByZero" 224 (.ref 37), eS P "NoInverse" 240 (.ref 49), eS P "OutOfRange" 256 (.ref 61), eS P "normal" 264 (.ref 70), eS P "nat_of" 274 (.ref 77), eS P "compare" 283 (.ref 84), eS P "add" 296 (.ref 91), eS P "sub" 310 (.ref 98), eS P "add_limb" 322 (.ref 105), eS P "divrem_limb" 334 (.ref 112), eS P "shift_left" 349 (.ref 119), eS P "shift_right" 364 (.ref 126), eS P "bits" 372 (.ref 133)] 23
noncomputable def QtX := hF #[(.int 2 0), (.int 0 0), (.ref 20), (.int 4 0), (.int 0 0), (.ref 33), (.int 6 0), (.int 0 0), (.ref 45), (.int 8 0), (.int 0 0), (.ref 57), (.int 10 0), (.int 0 0), (.ref 69), (.int 15 0), (.int 0 0), (.ref 76), (.int 23 0), (.int 0 0), (.ref 83), (.int 30 0), (.int 0 0), (.ref 90), (.int 45 0), (.int 0 0), (.ref 97), (.int 54 0), (.int 0 0), (.ref 104), (.int 63 0), (.int 0 0), (.ref 111), (.int 72 0), (.int 0 0), (.ref 118), (.int 84 0), (.int 0 0), (.ref 125), (.int 91 0), (.int 0 0), (.ref 132)]
noncomputable def Qjw := hT #[(vS "a" 278), (vS "b" 279), (vS "at" 280)] 0
noncomputable def Qip := hg (fD 7 0 .none .none .none .none .none .none 0)
noncomputable def Qix := hC #[(vS "compare" 275), (vS "compare" 276), (vS "/claim/cut.py" 277), (.int 23 0), (.int 2 0), (.int 0 0), (.int 0 0), (.int 3 0), (.ref 78), (.bool true), (.int 181 0), (.ref 79), .none, (.ref 80), (.ref 81), (.ref 82), (.int 281 0), (.int 23 0), (vS "/claim/cut.py" 282)]
noncomputable def Qjg := hG (fD 7 3 .none .none .none (vS "gmp.limbs" 187) (.ref 83) .none 0)
noncomputable def Qjl := hT #[(vS "a" 287), (vS "b" 288), (vS "w" 289), (vS "found" 290), (vS "carry" 291), (vS "mask" 292), (vS "at" 293)] 0
noncomputable def QiM := hg (fD 8 0 .none .none .none .none .none .none 0)
noncomputable def Qju := hC #[(vS "add" 284), (vS "add" 285), (vS "/claim/cut.py" 286), (.int 30 0), (.int 3 0), (.int 0 0), (.int 0 0), (.int 3 0), (.ref 85), (.bool true), (.int 181 0), (.ref 86), .none, (.ref 87), (.ref 88), (.ref 89), (.int 294 0), (.int 30 0), (vS "/claim/cut.py" 295)]
noncomputable def QjA := hG (fD 8 3 .none .none .none (vS "gmp.limbs" 187) (.ref 90) .none 0)
noncomputable def QiT := hT #[(vS "a" 300), (vS "b" 301), (vS "w" 302), (vS "found" 303), (vS "borrow" 304), (vS "base" 305), (vS "at" 306), (vS "limb" 307)] 0
noncomputable def QiL := hg (fD 9 0 .none .none .none .none .none .none 0)
noncomputable def Qis := hC #[(vS "sub" 297), (vS "sub" 298), (vS "/claim/cut.py" 299), (.int 45 0), (.int 3 0), (.int 0 0), (.int 0 0), (.int 3 0), (.ref 92), (.bool true), (.int 181 0), (.ref 93), .none, (.ref 94), (.ref 95), (.ref 96), (.int 308 0), (.int 45 0), (vS "/claim/cut.py" 309)]
noncomputable def Qjd := hG (fD 9 3 .none .none .none (vS "gmp.limbs" 187) (.ref 97) .none 0)
noncomputable def Qdw := hT #[(vS "a" 314), (vS "limb" 315), (vS "w" 316), (vS "found" 317), (vS "mask" 318), (vS "one" 319)] 0
noncomputable def QdI := hg (fD 10 0 .none .none .none .none .none .none 0)
noncomputable def QdO := hC #[(vS "add_limb" 311), (vS "add_limb" 312), (vS "/claim/cut.py" 313), (.int 54 0), (.int 3 0), (.int 0 0), (.int 0 0), (.int 3 0), (.ref 99), (.bool true), (.int 181 0), (.ref 100), .none, (.ref 101), (.ref 102), (.ref 103), (.int 320 0), (.int 54 0), (vS "/claim/cut.py" 321)]
noncomputable def QdN := hG (fD 10 3 .none .none .none (vS "gmp.limbs" 187) (.ref 104) .none 0)
noncomputable def QdP := hT #[(vS "a" 326), (vS "limb" 327), (vS "w" 328), (vS "found" 329), (vS "rest" 330), (vS "at" 331)] 0
noncomputable def QdL := hg (fD 11 0 .none .none .none .none .none .none 0)
noncomputable def QdR := hC #[(vS "divrem_limb" 323), (vS "divrem_limb" 324), (vS "/claim/cut.py" 325), (.int 63 0), (.int 3 0), (.int 0 0), (.int 0 0), (.int 3 0), (.ref 106), (.bool true), (.int 181 0), (.ref 107), .none, (.ref 108), (.ref 109), (.ref 110), (.int 332 0), (.int 63 0), (vS "/claim/cut.py" 333)]
noncomputable def Qds := hG (fD 11 3 .none .none .none (vS "gmp.limbs" 187) (.ref 111) .none 0)
noncomputable def Qdo := hT #[(vS "a" 338), (vS "n" 339), (vS "w" 340), (vS "spots" 341), (vS "few" 342), (vS "found" 343), (vS "carry" 344), (vS "mask" 345), (vS "one" 346)] 0
noncomputable def QdJ := hg (fD 12 0 .none .none .none .none .none .none 0)
noncomputable def Qdq := hC #[(vS "shift_left" 335), (vS "shift_left" 336), (vS "/claim/cut.py" 337), (.int 72 0), (.int 3 0), (.int 0 0), (.int 0 0), (.int 3 0), (.ref 113), (.bool true), (.int 181 0), (.ref 114), .none, (.ref 115), (.ref 116), (.ref 117), (.int 347 0), (.int 72 0), (vS "/claim/cut.py" 348)]
noncomputable def QdA := hG (fD 12 3 .none .none .none (vS "gmp.limbs" 187) (.ref 118) .none 0)
noncomputable def Qdx := hT #[(vS "a" 353), (vS "n" 354), (vS "w" 355), (vS "spots" 356), (vS "few" 357), (vS "found" 358), (vS "mask" 359), (vS "at" 360), (vS "above" 361)] 0
noncomputable def Qdt := hg (fD 13 0 .none .none .none .none .none .none 0)
noncomputable def Qdl := hC #[(vS "shift_right" 350), (vS "shift_right" 351), (vS "/claim/cut.py" 352), (.int 84 0), (.int 3 0), (.int 0 0), (.int 0 0), (.int 3 0), (.ref 120), (.bool true), (.int 181 0), (.ref 121), .none, (.ref 122), (.ref 123), (.ref 124), (.int 362 0), (.int 84 0), (vS "/claim/cut.py" 363)]
noncomputable def QdE := hG (fD 13 3 .none .none .none (vS "gmp.limbs" 187) (.ref 125) .none 0)
noncomputable def QdG := hT #[(vS "a" 368), (vS "w" 369)] 0
noncomputable def QdQ := hg (fD 14 0 .none .none .none .none .none .none 0)
noncomputable def QdM := hC #[(vS "bits" 365), (vS "bits" 366), (vS "/claim/cut.py" 367), (.int 91 0), (.int 2 0), (.int 0 0), (.int 0 0), (.int 3 0), (.ref 127), (.bool true), (.int 181 0), (.ref 128), .none, (.ref 129), (.ref 130), (.ref 131), (.int 370 0), (.int 91 0), (vS "/claim/cut.py" 371)]
noncomputable def Qdy := hG (fD 14 3 .none .none .none (vS "gmp.limbs" 187) (.ref 132) .none 0)
noncomputable def tr5 (P : Params) : BT := (hN (boot_o_0 P) (hN (boot_o_1 P) (hN (o3_5 P) (hN (boot_o_7 P) (hN QdV (hN o11 (hN Qii (hL o11) .nil) (hL o11)) (hN o11 (hL o12) (hL QdR))) (hN (QdW P) (hN Qfe (hL o11) (hL QdI)) (hN o11 (hL Qjl) (hL QdA)))) (hN o11 (hN o12 (hN o11 (hN o11 (hL QdQ) .nil) (hL o11)) (hN QfY (hL Qix) (hL Qdo))) (hN QdT (hN o11 (hL Qie) (hL o12)) (hN o11 (hL QjA) (hL o11))))) (hN (boot_o_5 P) (hN (boot_o_9 P) (hN (QdU P) (hN QeV (hN o12 (hL QdG) .nil) (hL Qis)) (hN Qgb (hL o11) (hL o11))) (hN QdX (hN QL (hL Qik) (hL QdN)) (hN Qhp (hL QiM) (hL o12)))) (hN o13 (hN Qea (hN Qen (hN QhM (hL Qdy) .nil) (hL Qdw)) (hN QL (hL o11) (hL QdJ))) (hN QL (hN QfU (hL Qil) (hL o11)) (hN QhU (hL o12) (hL Qdl)))))) (hN (o2_1 P) (hN (boot_o_4 P) (hN (boot_o_8 P) (hN QL (hN o12 (hN o11 (hL o12) .nil) (hL QiL)) (hN (QfT P) (hL Qjw) (hL Qds))) (hN QhV (hN Qai (hL o12) (hL QdO)) (hN o12 (hL o11) (hL o11)))) (hN QtX (hN QdY (hN (QeE P) (hN QhB (hL QdM) .nil) (hL o12)) (hN Qai (hL Qjg) (hL o11))) (hN Qai (hN o12 (hL QhD) (hL QdP)) (hN (QhP P) (hL o11) (hL Qdt))))) (hN (boot_o_6 P) (hN (boot_o_10 P) (hN o11 (hN Qfj (hN QhE (hL o11) .nil) (hL Qjd)) (hN QfX (hL Qip) (hL o12))) (hN QdS (hN (QfV P) (hL o11) (hL o11)) (hN Qhv (hL Qju) (hL Qdx)))) (hN o14 (hN o11 (hN Qfm (hL QhY) (hL o11)) (hN (QhF P) (hL o12) (hL Qdq))) (hN (Qex P) (hN Qga (hL o11) (hL QdL)) (hN Qhn (hL QiT) (hL QdE)))))))
noncomputable def o3_6 (P : Params) := hD #[eS P "__name__" 165 (vS "gmp.matrices" 457), eS P "__doc__" 166 .none, eS P "__package__" 167 .none, eS P "__loader__" 168 (.builtin "__main__.__loader__#opaque"), eS P "__spec__" 169 .none, eS P "__annotations__" 170 (.ref 6), eS P "__builtins__" 171 (.ref 4), eS P "__file__" 173 (vS "/claim/cut.py" 172), eS P "__cached__" 174 .none, eS P "GmpError" 208 (.ref 24), eS P "DivisionByZero" 224 (.ref 37), eS P "NoInverse" 240 (.ref 49), eS P "OutOfRange" 256 (.ref 61), eS P "normal" 264 (.ref 70), eS P "nat_of" 274 (.ref 77), eS P "compare" 283 (.ref 84), eS P "add" 296 (.ref 91), eS P "sub" 310 (.ref 98), eS P "add_limb" 322 (.ref 105), eS P "divrem_limb" 334 (.ref 112), eS P "shift_left" 349 (.ref 119), eS P "shift_right" 364 (.ref 126), eS P "bits" 372 (.ref 133), eS P "signed" 382 (.ref 140), eS P "s_of" 390 (.ref 147), eS P "s_neg" 397 (.ref 154), eS P "s_sign" 404 (.ref 161), eS P "s_add" 413 (.ref 168), eS P "s_sub" 422 (.ref 175), eS P "s_mul" 432 (.ref 182), eS P "tdiv" 444 (.ref 189), eS P "fdiv" 456 (.ref 196)] 32
noncomputable def Qur := hF #[(.int 2 0), (.int 0 0), (.ref 20), (.int 4 0), (.int 0 0), (.ref 33), (.int 6 0), (.int 0 0), (.ref 45), (.int 8 0), (.int 0 0), (.ref 57), (.int 10 0), (.int 0 0), (.ref 69), (.int 15 0), (.int 0 0), (.ref 76), (.int 23 0), (.int 0 0), (.ref 83), (.int 30 0), (.int 0 0), (.ref 90), (.int 45 0), (.int 0 0), (.ref 97), (.int 54 0), (.int 0 0), (.ref 104), (.int 63 0), (.int 0 0), (.ref 111), (.int 72 0), (.int 0 0), (.ref 118), (.int 84 0), (.int 0 0), (.ref 125), (.int 91 0), (.int 0 0), (.ref 132), (.int 94 0), (.int 0 0), (.ref 139), (.int 96 0), (.int 0 0), (.ref 146), (.int 98 0), (.int 0 0), (.ref 153), (.int 100 0), (.int 0 0), (.ref 160), (.int 104 0), (.int 0 0), (.ref 167), (.int 110 0), (.int 0 0), (.ref 174), (.int 112 0), (.int 0 0), (.ref 181), (.int 114 0), (.int 0 0), (.ref 188), (.int 119 0), (.int 0 0), (.ref 195)]
noncomputable def Qfb := hT #[(vS "is_below" 378), (vS "nat" 379)] 0
noncomputable def QfN := hg (fD 16 0 .none .none .none .none .none .none 0)
noncomputable def QeY := hC #[(vS "signed" 375), (vS "signed" 376), (vS "/claim/cut.py" 377), (.int 94 0), (.int 2 0), (.int 0 0), (.int 0 0), (.int 3 0), (.ref 134), (.bool true), (.int 181 0), (.ref 135), .none, (.ref 136), (.ref 137), (.ref 138), (.int 380 0), (.int 94 0), (vS "/claim/cut.py" 381)]
noncomputable def Qev := hG (fD 16 3 .none .none .none (vS "gmp.signed" 373) (.ref 139) .none 0)
noncomputable def QeT := hT #[(vS "number" 386), (vS "w" 387)] 0
noncomputable def QfO := hg (fD 17 0 .none .none .none .none .none .none 0)
noncomputable def Qfn := hC #[(vS "s_of" 383), (vS "s_of" 384), (vS "/claim/cut.py" 385), (.int 96 0), (.int 2 0), (.int 0 0), (.int 0 0), (.int 3 0), (.ref 141), (.bool true), (.int 181 0), (.ref 142), .none, (.ref 143), (.ref 144), (.ref 145), (.int 388 0), (.int 96 0), (vS "/claim/cut.py" 389)]
noncomputable def QeO := hG (fD 17 3 .none .none .none (vS "gmp.signed" 373) (.ref 146) .none 0)
noncomputable def Qft := hT #[(vS "x" 394)] 0
noncomputable def QeU := hg (fD 18 0 .none .none .none .none .none .none 0)
noncomputable def Qeo := hC #[(vS "s_neg" 391), (vS "s_neg" 392), (vS "/claim/cut.py" 393), (.int 98 0), (.int 1 0), (.int 0 0), (.int 0 0), (.int 3 0), (.ref 148), (.bool true), (.int 181 0), (.ref 149), .none, (.ref 150), (.ref 151), (.ref 152), (.int 395 0), (.int 98 0), (vS "/claim/cut.py" 396)]
noncomputable def QeC := hG (fD 18 3 .none .none .none (vS "gmp.signed" 373) (.ref 153) .none 0)
noncomputable def QeP := hT #[(vS "x" 401)] 0
noncomputable def QfB := hg (fD 19 0 .none .none .none .none .none .none 0)
noncomputable def Qem := hC #[(vS "s_sign" 398), (vS "s_sign" 399), (vS "/claim/cut.py" 400), (.int 100 0), (.int 1 0), (.int 0 0), (.int 0 0), (.int 3 0), (.ref 155), (.bool true), (.int 181 0), (.ref 156), .none, (.ref 157), (.ref 158), (.ref 159), (.int 402 0), (.int 100 0), (vS "/claim/cut.py" 403)]
noncomputable def Qfs := hG (fD 19 3 .none .none .none (vS "gmp.signed" 373) (.ref 160) .none 0)
noncomputable def Qeu := hT #[(vS "x" 408), (vS "y" 409), (vS "w" 410)] 0
noncomputable def QeS := hg (fD 20 0 .none .none .none .none .none .none 0)
noncomputable def QfF := hC #[(vS "s_add" 405), (vS "s_add" 406), (vS "/claim/cut.py" 407), (.int 104 0), (.int 3 0), (.int 0 0), (.int 0 0), (.int 3 0), (.ref 162), (.bool true), (.int 181 0), (.ref 163), .none, (.ref 164), (.ref 165), (.ref 166), (.int 411 0), (.int 104 0), (vS "/claim/cut.py" 412)]
noncomputable def Qep := hG (fD 20 3 .none .none .none (vS "gmp.signed" 373) (.ref 167) .none 0)
noncomputable def QeQ := hT #[(vS "x" 417), (vS "y" 418), (vS "w" 419)] 0
noncomputable def QeI := hg (fD 21 0 .none .none .none .none .none .none 0)
noncomputable def Qfa := hC #[(vS "s_sub" 414), (vS "s_sub" 415), (vS "/claim/cut.py" 416), (.int 110 0), (.int 3 0), (.int 0 0), (.int 0 0), (.int 3 0), (.ref 169), (.bool true), (.int 181 0), (.ref 170), .none, (.ref 171), (.ref 172), (.ref 173), (.int 420 0), (.int 110 0), (vS "/claim/cut.py" 421)]
noncomputable def QfK := hG (fD 21 3 .none .none .none (vS "gmp.signed" 373) (.ref 174) .none 0)
noncomputable def QfM := hT #[(vS "x" 426), (vS "y" 427), (vS "w" 428), (vS "mul" 429)] 0
noncomputable def QeF := hg (fD 22 0 .none .none .none .none .none .none 0)
noncomputable def QfH := hC #[(vS "s_mul" 423), (vS "s_mul" 424), (vS "/claim/cut.py" 425), (.int 112 0), (.int 4 0), (.int 0 0), (.int 0 0), (.int 3 0), (.ref 176), (.bool true), (.int 181 0), (.ref 177), .none, (.ref 178), (.ref 179), (.ref 180), (.int 430 0), (.int 112 0), (vS "/claim/cut.py" 431)]
noncomputable def Qfw := hG (fD 22 3 .none .none .none (vS "gmp.signed" 373) (.ref 181) .none 0)
noncomputable def Qfk := hT #[(vS "x" 436), (vS "y" 437), (vS "w" 438), (vS "divrem" 439), (vS "quotient" 440), (vS "rest" 441)] 0
noncomputable def Qez := hg (fD 23 0 .none .none .none .none .none .none 0)
noncomputable def Qes := hC #[(vS "tdiv" 433), (vS "tdiv" 434), (vS "/claim/cut.py" 435), (.int 114 0), (.int 4 0), (.int 0 0), (.int 0 0), (.int 3 0), (.ref 183), (.bool true), (.int 181 0), (.ref 184), .none, (.ref 185), (.ref 186), (.ref 187), (.int 442 0), (.int 114 0), (vS "/claim/cut.py" 443)]
noncomputable def Qfq := hG (fD 23 3 .none .none .none (vS "gmp.signed" 373) (.ref 188) .none 0)
noncomputable def Qfx := hT #[(vS "x" 448), (vS "y" 449), (vS "w" 450), (vS "divrem" 451), (vS "quotient" 452), (vS "rest" 453)] 0
noncomputable def QeR := hg (fD 24 0 .none .none .none .none .none .none 0)
noncomputable def QeN := hC #[(vS "fdiv" 445), (vS "fdiv" 446), (vS "/claim/cut.py" 447), (.int 119 0), (.int 4 0), (.int 0 0), (.int 0 0), (.int 3 0), (.ref 190), (.bool true), (.int 181 0), (.ref 191), .none, (.ref 192), (.ref 193), (.ref 194), (.int 454 0), (.int 119 0), (vS "/claim/cut.py" 455)]
noncomputable def QfJ := hG (fD 24 3 .none .none .none (vS "gmp.signed" 373) (.ref 195) .none 0)
noncomputable def tr6 (P : Params) : BT := (hN (boot_o_0 P) (hN (boot_o_1 P) (hN (o3_6 P) (hN (boot_o_7 P) (hN QdV (hN o11 (hN Qii (hL o11) (hL o12)) (hN o11 (hL QfB) .nil)) (hN o11 (hN o12 (hL QeT) .nil) (hN QdR (hL QfK) .nil))) (hN (QdW P) (hN Qfe (hN o11 (hL o12) .nil) (hN QdI (hL QfF) .nil)) (hN o11 (hN Qjl (hL o11) .nil) (hN QdA (hL o11) .nil)))) (hN o11 (hN o12 (hN o11 (hN o11 (hL QdQ) (hL QeN)) (hN o11 (hL o12) .nil)) (hN QfY (hN Qix (hL QeO) .nil) (hN Qdo (hL o11) .nil))) (hN QdT (hN o11 (hN Qie (hL QeY) .nil) (hN o12 (hL QeQ) .nil)) (hN o11 (hN QjA (hL o11) .nil) (hN o11 (hL Qez) .nil))))) (hN (boot_o_5 P) (hN (boot_o_9 P) (hN (QdU P) (hN QeV (hN o12 (hL QdG) (hL o11)) (hN Qis (hL Qfs) .nil)) (hN Qgb (hN o11 (hL QfO) .nil) (hN o11 (hL o12) .nil))) (hN QdX (hN QL (hN Qik (hL o11) .nil) (hN QdN (hL o11) .nil)) (hN Qhp (hN QiM (hL Qeo) .nil) (hN o12 (hL Qfk) .nil)))) (hN o13 (hN Qea (hN Qen (hN QhM (hL Qdy) .nil) (hN Qdw (hL o11) .nil)) (hN QL (hN o11 (hL o12) .nil) (hN QdJ (hL QfH) .nil))) (hN QL (hN QfU (hN Qil (hL o11) .nil) (hN o11 (hL QeI) .nil)) (hN QhU (hN o12 (hL QeP) .nil) (hN Qdl (hL Qfq) .nil)))))) (hN (o2_1 P) (hN (boot_o_4 P) (hN (boot_o_8 P) (hN QL (hN o12 (hN o11 (hL o12) (hL Qfx)) (hN QiL (hL Qem) .nil)) (hN (QfT P) (hN Qjw (hL o11) .nil) (hN Qds (hL o11) .nil))) (hN QhV (hN Qai (hN o12 (hL Qfb) .nil) (hN QdO (hL Qep) .nil)) (hN o12 (hN o11 (hL QeU) .nil) (hN o11 (hL o12) .nil)))) (hN Qur (hN QdY (hN (QeE P) (hN QhB (hL QdM) (hL QfJ)) (hN o12 (hL Qeu) .nil)) (hN Qai (hN Qjg (hL o11) .nil) (hN o11 (hL QeF) .nil))) (hN Qai (hN o12 (hN QhD (hL Qev) .nil) (hN QdP (hL o11) .nil)) (hN (QhP P) (hN o11 (hL o12) .nil) (hN Qdt (hL Qes) .nil))))) (hN (boot_o_6 P) (hN (boot_o_10 P) (hN o11 (hN Qfj (hN QhE (hL o11) (hL QeR)) (hN Qjd (hL o11) .nil)) (hN QfX (hN Qip (hL Qfn) .nil) (hN o12 (hL QfM) .nil))) (hN QdS (hN (QfV P) (hN o11 (hL QfN) .nil) (hN o11 (hL o12) .nil)) (hN Qhv (hN Qju (hL QeC) .nil) (hN Qdx (hL o11) .nil)))) (hN o14 (hN o11 (hN Qfm (hN QhY (hL o11) .nil) (hN o11 (hL QeS) .nil)) (hN (QhF P) (hN o12 (hL Qft) .nil) (hN Qdq (hL Qfw) .nil))) (hN (Qex P) (hN Qga (hN o11 (hL o12) .nil) (hN QdL (hL Qfa) .nil)) (hN Qhn (hN QiT (hL o11) .nil) (hN QdE (hL o11) .nil)))))))
noncomputable def o3_7 (P : Params) := hD #[eS P "__name__" 165 (vS "gmp.matrices" 457), eS P "__doc__" 166 .none, eS P "__package__" 167 .none, eS P "__loader__" 168 (.builtin "__main__.__loader__#opaque"), eS P "__spec__" 169 .none, eS P "__annotations__" 170 (.ref 6), eS P "__builtins__" 171 (.ref 4), eS P "__file__" 173 (vS "/claim/cut.py" 172), eS P "__cached__" 174 .none, eS P "GmpError" 208 (.ref 24), eS P "DivisionByZero" 224 (.ref 37), eS P "NoInverse" 240 (.ref 49), eS P "OutOfRange" 256 (.ref 61), eS P "normal" 264 (.ref 70), eS P "nat_of" 274 (.ref 77), eS P "compare" 283 (.ref 84), eS P "add" 296 (.ref 91), eS P "sub" 310 (.ref 98), eS P "add_limb" 322 (.ref 105), eS P "divrem_limb" 334 (.ref 112), eS P "shift_left" 349 (.ref 119), eS P "shift_right" 364 (.ref 126), eS P "bits" 372 (.ref 133), eS P "signed" 382 (.ref 140), eS P "s_of" 390 (.ref 147), eS P "s_neg" 397 (.ref 154), eS P "s_sign" 404 (.ref 161), eS P "s_add" 413 (.ref 168), eS P "s_sub" 422 (.ref 175), eS P "s_mul" 432 (.ref 182), eS P "tdiv" 444 (.ref 189), eS P "fdiv" 456 (.ref 196), eS P "NOUGHT" 459 (.ref 198), eS P "UNIT" 461 (.ref 200), eS P "m_unit" 467 (.ref 205), eS P "m_turned" 473 (.ref 210), eS P "inner" 486 (.ref 217), eS P "m_mul" 492 (.ref 222), eS P "m_led" 498 (.ref 227), eS P "exact" 510 (.ref 234), eS P "pivot_row" 520 (.ref 241), eS P "cleared" 539 (.ref 248), eS P "steps_down" 545 (.ref 253)] 43
noncomputable def Qud := hF #[(.int 2 0), (.int 0 0), (.ref 20), (.int 4 0), (.int 0 0), (.ref 33), (.int 6 0), (.int 0 0), (.ref 45), (.int 8 0), (.int 0 0), (.ref 57), (.int 10 0), (.int 0 0), (.ref 69), (.int 15 0), (.int 0 0), (.ref 76), (.int 23 0), (.int 0 0), (.ref 83), (.int 30 0), (.int 0 0), (.ref 90), (.int 45 0), (.int 0 0), (.ref 97), (.int 54 0), (.int 0 0), (.ref 104), (.int 63 0), (.int 0 0), (.ref 111), (.int 72 0), (.int 0 0), (.ref 118), (.int 84 0), (.int 0 0), (.ref 125), (.int 91 0), (.int 0 0), (.ref 132), (.int 94 0), (.int 0 0), (.ref 139), (.int 96 0), (.int 0 0), (.ref 146), (.int 98 0), (.int 0 0), (.ref 153), (.int 100 0), (.int 0 0), (.ref 160), (.int 104 0), (.int 0 0), (.ref 167), (.int 110 0), (.int 0 0), (.ref 174), (.int 112 0), (.int 0 0), (.ref 181), (.int 114 0), (.int 0 0), (.ref 188), (.int 119 0), (.int 0 0), (.ref 195), (.int 127 0), (.int 0 0), (.ref 204), (.int 129 0), (.int 0 0), (.ref 209), (.int 131 0), (.int 0 0), (.ref 216), (.int 136 0), (.int 0 0), (.ref 221), (.int 139 0), (.int 0 0), (.ref 226), (.int 141 0), (.int 0 0), (.ref 233), (.int 144 0), (.int 0 0), (.ref 240), (.int 149 0), (.int 0 0), (.ref 247), (.int 156 0), (.int 0 0), (.ref 252)]
noncomputable def QgN : Obj := ⟨(.type "list"), none, (.seq #[] 0), #[]⟩
noncomputable def QgA := hT #[(.bool false), (.ref 197)] 0
noncomputable def Qgu : Obj := ⟨(.type "list"), none, (.seq #[(.int 1 460)] 0), #[]⟩
noncomputable def Qhb := hT #[(.bool false), (.ref 199)] 0
noncomputable def Qgh := hg (fD 28 0 .none .none .none .none .none .none 0)
noncomputable def Qge := hC #[(vS "m_unit" 462), (vS "m_unit" 463), (vS "/claim/cut.py" 464), (.int 127 0), (.int 1 0), (.int 0 0), (.int 0 0), (.int 3 0), (.ref 201), (.bool true), (.int 181 0), (.ref 202), .none, .none, .none, (.ref 203), (.int 465 0), (.int 127 0), (vS "/claim/cut.py" 466)]
noncomputable def Qgk := hG (fD 28 3 .none .none .none (vS "gmp.matrices" 457) (.ref 204) .none 0)
noncomputable def Qgl := hg (fD 29 0 .none .none .none .none .none .none 0)
noncomputable def QgF := hC #[(vS "m_turned" 468), (vS "m_turned" 469), (vS "/claim/cut.py" 470), (.int 129 0), (.int 1 0), (.int 0 0), (.int 0 0), (.int 3 0), (.ref 206), (.bool true), (.int 181 0), (.ref 207), .none, .none, .none, (.ref 208), (.int 471 0), (.int 129 0), (vS "/claim/cut.py" 472)]
noncomputable def QgH := hG (fD 29 3 .none .none .none (vS "gmp.matrices" 457) (.ref 209) .none 0)
noncomputable def Qgr := hT #[(vS "one" 477), (vS "other" 478), (vS "w" 479), (vS "mul" 480), (vS "found" 481), (vS "at" 482), (vS "value" 483)] 0
noncomputable def Qgq := hg (fD 30 0 .none .none .none .none .none .none 0)
noncomputable def QgR := hC #[(vS "inner" 474), (vS "inner" 475), (vS "/claim/cut.py" 476), (.int 131 0), (.int 4 0), (.int 0 0), (.int 0 0), (.int 3 0), (.ref 211), (.bool true), (.int 181 0), (.ref 212), .none, (.ref 213), (.ref 214), (.ref 215), (.int 484 0), (.int 131 0), (vS "/claim/cut.py" 485)]
noncomputable def QgD := hG (fD 30 3 .none .none .none (vS "gmp.matrices" 457) (.ref 216) .none 0)
noncomputable def Qgp := hg (fD 31 0 .none .none .none .none .none .none 0)
noncomputable def Qhh := hC #[(vS "m_mul" 487), (vS "m_mul" 488), (vS "/claim/cut.py" 489), (.int 136 0), (.int 4 0), (.int 0 0), (.int 0 0), (.int 3 0), (.ref 218), (.bool true), (.int 181 0), (.ref 219), .none, .none, .none, (.ref 220), (.int 490 0), (.int 136 0), (vS "/claim/cut.py" 491)]
noncomputable def Qha := hG (fD 31 3 .none .none .none (vS "gmp.matrices" 457) (.ref 221) .none 0)
noncomputable def QgX := hg (fD 32 0 .none .none .none .none .none .none 0)
noncomputable def QgC := hC #[(vS "m_led" 493), (vS "m_led" 494), (vS "/claim/cut.py" 495), (.int 139 0), (.int 4 0), (.int 0 0), (.int 0 0), (.int 3 0), (.ref 223), (.bool true), (.int 181 0), (.ref 224), .none, .none, .none, (.ref 225), (.int 496 0), (.int 139 0), (vS "/claim/cut.py" 497)]
noncomputable def Qgg := hG (fD 32 3 .none .none .none (vS "gmp.matrices" 457) (.ref 226) .none 0)
noncomputable def QgP := hT #[(vS "x" 502), (vS "y" 503), (vS "w" 504), (vS "divrem" 505), (vS "found" 506), (vS "rest" 507)] 0
noncomputable def QgL := hg (fD 33 0 .none .none .none .none .none .none 0)
noncomputable def QgI := hC #[(vS "exact" 499), (vS "exact" 500), (vS "/claim/cut.py" 501), (.int 141 0), (.int 4 0), (.int 0 0), (.int 0 0), (.int 3 0), (.ref 228), (.bool true), (.int 181 0), (.ref 229), .none, (.ref 230), (.ref 231), (.ref 232), (.int 508 0), (.int 141 0), (vS "/claim/cut.py" 509)]
noncomputable def Qgy := hG (fD 33 3 .none .none .none (vS "gmp.matrices" 457) (.ref 233) .none 0)
noncomputable def Qgf := hT #[(vS "rows" 514), (vS "top" 515), (vS "column" 516), (vS "at" 517)] 0
noncomputable def QgB := hg (fD 34 0 .none .none .none .none .none .none 0)
noncomputable def QgU := hC #[(vS "pivot_row" 511), (vS "pivot_row" 512), (vS "/claim/cut.py" 513), (.int 144 0), (.int 3 0), (.int 0 0), (.int 0 0), (.int 3 0), (.ref 235), (.bool true), (.int 181 0), (.ref 236), .none, (.ref 237), (.ref 238), (.ref 239), (.int 518 0), (.int 144 0), (vS "/claim/cut.py" 519)]
noncomputable def Qhg := hG (fD 34 3 .none .none .none (vS "gmp.matrices" 457) (.ref 240) .none 0)
noncomputable def Qgx := hT #[(vS "row" 524), (vS "head" 525), (vS "column" 526), (vS "before" 527), (vS "w" 528), (vS "mul" 529), (vS "divrem" 530), (vS "pivot" 531), (vS "own" 532), (vS "found" 533), (vS "at" 534), (vS "value" 535), (vS "here" 536)] 0
noncomputable def Qgz := hg (fD 35 0 .none .none .none .none .none .none 0)
noncomputable def Qhf := hC #[(vS "cleared" 521), (vS "cleared" 522), (vS "/claim/cut.py" 523), (.int 149 0), (.int 7 0), (.int 0 0), (.int 0 0), (.int 3 0), (.ref 242), (.bool true), (.int 181 0), (.ref 243), .none, (.ref 244), (.ref 245), (.ref 246), (.int 537 0), (.int 149 0), (vS "/claim/cut.py" 538)]
noncomputable def QgM := hG (fD 35 3 .none .none .none (vS "gmp.matrices" 457) (.ref 247) .none 0)
noncomputable def QgO := hg (fD 36 0 .none .none .none .none .none .none 0)
noncomputable def QgK := hC #[(vS "steps_down" 540), (vS "steps_down" 541), (vS "/claim/cut.py" 542), (.int 156 0), (.int 5 0), (.int 0 0), (.int 0 0), (.int 3 0), (.ref 249), (.bool true), (.int 181 0), (.ref 250), .none, .none, .none, (.ref 251), (.int 543 0), (.int 156 0), (vS "/claim/cut.py" 544)]
noncomputable def Qgt := hG (fD 36 3 .none .none .none (vS "gmp.matrices" 457) (.ref 252) .none 0)
noncomputable def tr7 (P : Params) : BT := (hN (boot_o_0 P) (hN (boot_o_1 P) (hN (o3_7 P) (hN (boot_o_7 P) (hN QdV (hN o11 (hN Qii (hL o11) (hL o12)) (hN o11 (hL QfB) (hL o11))) (hN o11 (hN o12 (hL QeT) (hL o12)) (hN QdR (hL QfK) (hL QgB)))) (hN (QdW P) (hN Qfe (hN o11 (hL o12) (hL Qgu)) (hN QdI (hL QfF) (hL o11))) (hN o11 (hN Qjl (hL o11) (hL Qgq)) (hN QdA (hL o11) (hL Qhf))))) (hN o11 (hN o12 (hN o11 (hN o11 (hL QdQ) (hL QeN)) (hN o11 (hL o12) (hL Qgg))) (hN QfY (hN Qix (hL QeO) (hL o11)) (hN Qdo (hL o11) (hL o12)))) (hN QdT (hN o11 (hN Qie (hL QeY) (hL Qgh)) (hN o12 (hL QeQ) (hL o11))) (hN o11 (hN QjA (hL o11) (hL o12)) (hN o11 (hL Qez) (hL QgO)))))) (hN (boot_o_5 P) (hN (boot_o_9 P) (hN (QdU P) (hN QeV (hN o12 (hL QdG) (hL o11)) (hN Qis (hL Qfs) (hL QgX))) (hN Qgb (hN o11 (hL QfO) (hL QgF)) (hN o11 (hL o12) (hL Qhg)))) (hN QdX (hN QL (hN Qik (hL o11) (hL o11)) (hN QdN (hL o11) (hL QgI))) (hN Qhp (hN QiM (hL Qeo) (hL QgD)) (hN o12 (hL Qfk) (hL o11))))) (hN o13 (hN Qea (hN Qen (hN QhM (hL Qdy) (hL QgN)) (hN Qdw (hL o11) (hL o12))) (hN QL (hN o11 (hL o12) (hL Qgr)) (hN QdJ (hL QfH) (hL o11)))) (hN QL (hN QfU (hN Qil (hL o11) (hL Qgk)) (hN o11 (hL QeI) (hL Qgf))) (hN QhU (hN o12 (hL QeP) (hL Qhh)) (hN Qdl (hL Qfq) (hL Qgt))))))) (hN (o2_1 P) (hN (boot_o_4 P) (hN (boot_o_8 P) (hN QL (hN o12 (hN o11 (hL o12) (hL Qfx)) (hN QiL (hL Qem) (hL o12))) (hN (QfT P) (hN Qjw (hL o11) (hL Qgl)) (hN Qds (hL o11) (hL QgU)))) (hN QhV (hN Qai (hN o12 (hL Qfb) (hL Qhb)) (hN QdO (hL Qep) (hL QgL))) (hN o12 (hN o11 (hL QeU) (hL QgR)) (hN o11 (hL o12) (hL QgM))))) (hN Qud (hN QdY (hN (QeE P) (hN QhB (hL QdM) (hL QfJ)) (hN o12 (hL Qeu) (hL o11))) (hN Qai (hN Qjg (hL o11) (hL o12)) (hN o11 (hL QeF) (hL Qgx)))) (hN Qai (hN o12 (hN QhD (hL Qev) (hL Qge)) (hN QdP (hL o11) (hL o12))) (hN (QhP P) (hN o11 (hL o12) (hL Qgp)) (hN Qdt (hL Qes) (hL QgK)))))) (hN (boot_o_6 P) (hN (boot_o_10 P) (hN o11 (hN Qfj (hN QhE (hL o11) (hL QeR)) (hN Qjd (hL o11) (hL QgC))) (hN QfX (hN Qip (hL Qfn) (hL QgH)) (hN o12 (hL QfM) (hL o11)))) (hN QdS (hN (QfV P) (hN o11 (hL QfN) (hL o12)) (hN o11 (hL o12) (hL Qgy))) (hN Qhv (hN Qju (hL QeC) (hL o11)) (hN Qdx (hL o11) (hL o12))))) (hN o14 (hN o11 (hN Qfm (hN QhY (hL o11) (hL QgA)) (hN o11 (hL QeS) (hL QgP))) (hN (QhF P) (hN o12 (hL Qft) (hL o11)) (hN Qdq (hL Qfw) (hL Qgz)))) (hN (Qex P) (hN Qga (hN o11 (hL o12) (hL o11)) (hN QdL (hL Qfa) (hL o11))) (hN Qhn (hN QiT (hL o11) (hL Qha)) (hN QdE (hL o11) .nil)))))))
noncomputable def o3_8 (P : Params) := hD #[eS P "__name__" 165 (vS "gmp.matrices" 457), eS P "__doc__" 166 .none, eS P "__package__" 167 .none, eS P "__loader__" 168 (.builtin "__main__.__loader__#opaque"), eS P "__spec__" 169 .none, eS P "__annotations__" 170 (.ref 6), eS P "__builtins__" 171 (.ref 4), eS P "__file__" 173 (vS "/claim/cut.py" 172), eS P "__cached__" 174 .none, eS P "GmpError" 208 (.ref 24), eS P "DivisionByZero" 224 (.ref 37), eS P "NoInverse" 240 (.ref 49), eS P "OutOfRange" 256 (.ref 61), eS P "normal" 264 (.ref 70), eS P "nat_of" 274 (.ref 77), eS P "compare" 283 (.ref 84), eS P "add" 296 (.ref 91), eS P "sub" 310 (.ref 98), eS P "add_limb" 322 (.ref 105), eS P "divrem_limb" 334 (.ref 112), eS P "shift_left" 349 (.ref 119), eS P "shift_right" 364 (.ref 126), eS P "bits" 372 (.ref 133), eS P "signed" 382 (.ref 140), eS P "s_of" 390 (.ref 147), eS P "s_neg" 397 (.ref 154), eS P "s_sign" 404 (.ref 161), eS P "s_add" 413 (.ref 168), eS P "s_sub" 422 (.ref 175), eS P "s_mul" 432 (.ref 182), eS P "tdiv" 444 (.ref 189), eS P "fdiv" 456 (.ref 196), eS P "NOUGHT" 459 (.ref 198), eS P "UNIT" 461 (.ref 200), eS P "m_unit" 467 (.ref 205), eS P "m_turned" 473 (.ref 210), eS P "inner" 486 (.ref 217), eS P "m_mul" 492 (.ref 222), eS P "m_led" 498 (.ref 227), eS P "exact" 510 (.ref 234), eS P "pivot_row" 520 (.ref 241), eS P "cleared" 539 (.ref 248), eS P "steps_down" 545 (.ref 253), eS P "rank" 555 (.ref 260), eS P "det_bareiss" 569 (.ref 267), eS P "solve_bareiss" 575 (.ref 272), eS P "adjoint" 589 (.ref 279), eS P "rest_plain" 600 (.ref 286), eS P "is_plain_prime" 608 (.ref 293), eS P "next_plain_prime" 615 (.ref 300), eS P "det_rest" 621 (.ref 305), eS P "row_bound" 631 (.ref 312)] 52
noncomputable def Qum := hF #[(.int 2 0), (.int 0 0), (.ref 20), (.int 4 0), (.int 0 0), (.ref 33), (.int 6 0), (.int 0 0), (.ref 45), (.int 8 0), (.int 0 0), (.ref 57), (.int 10 0), (.int 0 0), (.ref 69), (.int 15 0), (.int 0 0), (.ref 76), (.int 23 0), (.int 0 0), (.ref 83), (.int 30 0), (.int 0 0), (.ref 90), (.int 45 0), (.int 0 0), (.ref 97), (.int 54 0), (.int 0 0), (.ref 104), (.int 63 0), (.int 0 0), (.ref 111), (.int 72 0), (.int 0 0), (.ref 118), (.int 84 0), (.int 0 0), (.ref 125), (.int 91 0), (.int 0 0), (.ref 132), (.int 94 0), (.int 0 0), (.ref 139), (.int 96 0), (.int 0 0), (.ref 146), (.int 98 0), (.int 0 0), (.ref 153), (.int 100 0), (.int 0 0), (.ref 160), (.int 104 0), (.int 0 0), (.ref 167), (.int 110 0), (.int 0 0), (.ref 174), (.int 112 0), (.int 0 0), (.ref 181), (.int 114 0), (.int 0 0), (.ref 188), (.int 119 0), (.int 0 0), (.ref 195), (.int 127 0), (.int 0 0), (.ref 204), (.int 129 0), (.int 0 0), (.ref 209), (.int 131 0), (.int 0 0), (.ref 216), (.int 136 0), (.int 0 0), (.ref 221), (.int 139 0), (.int 0 0), (.ref 226), (.int 141 0), (.int 0 0), (.ref 233), (.int 144 0), (.int 0 0), (.ref 240), (.int 149 0), (.int 0 0), (.ref 247), (.int 156 0), (.int 0 0), (.ref 252), (.int 170 0), (.int 0 0), (.ref 259), (.int 174 0), (.int 0 0), (.ref 266), (.int 182 0), (.int 0 0), (.ref 271), (.int 197 0), (.int 0 0), (.ref 278), (.int 203 0), (.int 0 0), (.ref 285), (.int 208 0), (.int 0 0), (.ref 292), (.int 217 0), (.int 0 0), (.ref 299), (.int 222 0), (.int 0 0), (.ref 304), (.int 237 0), (.int 0 0), (.ref 311)]
noncomputable def QiY := hT #[(vS "a" 549), (vS "w" 550), (vS "mul" 551), (vS "divrem" 552)] 0
noncomputable def Qjt := hg (fD 37 0 .none .none .none .none .none .none 0)
noncomputable def Qja := hC #[(vS "rank" 546), (vS "rank" 547), (vS "/claim/cut.py" 548), (.int 170 0), (.int 4 0), (.int 0 0), (.int 0 0), (.int 3 0), (.ref 254), (.bool true), (.int 181 0), (.ref 255), .none, (.ref 256), (.ref 257), (.ref 258), (.int 553 0), (.int 170 0), (vS "/claim/cut.py" 554)]
noncomputable def QiZ := hG (fD 37 3 .none .none .none (vS "gmp.matrices" 457) (.ref 259) .none 0)
noncomputable def Qjp := hT #[(vS "a" 559), (vS "w" 560), (vS "mul" 561), (vS "divrem" 562), (vS "rows" 563), (vS "places" 564), (vS "is_odd" 565), (vS "last" 566)] 0
noncomputable def Qji := hg (fD 38 0 .none .none .none .none .none .none 0)
noncomputable def Qjx := hC #[(vS "det_bareiss" 556), (vS "det_bareiss" 557), (vS "/claim/cut.py" 558), (.int 174 0), (.int 4 0), (.int 0 0), (.int 0 0), (.int 3 0), (.ref 261), (.bool true), (.int 181 0), (.ref 262), .none, (.ref 263), (.ref 264), (.ref 265), (.int 567 0), (.int 174 0), (vS "/claim/cut.py" 568)]
noncomputable def Qio := hG (fD 38 3 .none .none .none (vS "gmp.matrices" 457) (.ref 266) .none 0)
noncomputable def QjC := hg (fD 39 0 .none .none .none .none .none .none 0)
noncomputable def QjE := hC #[(vS "solve_bareiss" 570), (vS "solve_bareiss" 571), (vS "/claim/cut.py" 572), (.int 182 0), (.int 5 0), (.int 0 0), (.int 0 0), (.int 3 0), (.ref 268), (.bool true), (.int 181 0), (.ref 269), .none, .none, .none, (.ref 270), (.int 573 0), (.int 182 0), (vS "/claim/cut.py" 574)]
noncomputable def QiF := hG (fD 39 3 .none .none .none (vS "gmp.matrices" 457) (.ref 271) .none 0)
noncomputable def Qiv := hT #[(vS "a" 579), (vS "w" 580), (vS "mul" 581), (vS "divrem" 582), (vS "columns" 583), (vS "divisor" 584), (vS "column" 585), (vS "found" 586)] 0
noncomputable def QiH := hg (fD 40 0 .none .none .none .none .none .none 0)
noncomputable def Qiw := hC #[(vS "adjoint" 576), (vS "adjoint" 577), (vS "/claim/cut.py" 578), (.int 197 0), (.int 4 0), (.int 0 0), (.int 0 0), (.int 3 0), (.ref 273), (.bool true), (.int 181 0), (.ref 274), .none, (.ref 275), (.ref 276), (.ref 277), (.int 587 0), (.int 197 0), (vS "/claim/cut.py" 588)]
noncomputable def Qjk := hG (fD 40 3 .none .none .none (vS "gmp.matrices" 457) (.ref 278) .none 0)
noncomputable def Qit := hT #[(vS "x" 593), (vS "p" 594), (vS "w" 595), (vS "found" 596), (vS "limb" 597)] 0
noncomputable def QiR := hg (fD 41 0 .none .none .none .none .none .none 0)
noncomputable def QiQ := hC #[(vS "rest_plain" 590), (vS "rest_plain" 591), (vS "/claim/cut.py" 592), (.int 203 0), (.int 3 0), (.int 0 0), (.int 0 0), (.int 3 0), (.ref 280), (.bool true), (.int 181 0), (.ref 281), .none, (.ref 282), (.ref 283), (.ref 284), (.int 598 0), (.int 203 0), (vS "/claim/cut.py" 599)]
noncomputable def Qjq := hG (fD 41 3 .none .none .none (vS "gmp.matrices" 457) (.ref 285) .none 0)
noncomputable def QiB := hT #[(vS "p" 604), (vS "d" 605)] 0
noncomputable def QiN := hg (fD 42 0 .none .none .none .none .none .none 0)
noncomputable def QiI := hC #[(vS "is_plain_prime" 601), (vS "is_plain_prime" 602), (vS "/claim/cut.py" 603), (.int 208 0), (.int 1 0), (.int 0 0), (.int 0 0), (.int 3 0), (.ref 287), (.bool true), (.int 181 0), (.ref 288), .none, (.ref 289), (.ref 290), (.ref 291), (.int 606 0), (.int 208 0), (vS "/claim/cut.py" 607)]
noncomputable def QiC := hG (fD 42 3 .none .none .none (vS "gmp.matrices" 457) (.ref 292) .none 0)
noncomputable def QiE := hT #[(vS "p" 612)] 0
noncomputable def Qjr := hg (fD 43 0 .none .none .none .none .none .none 0)
noncomputable def QiK := hC #[(vS "next_plain_prime" 609), (vS "next_plain_prime" 610), (vS "/claim/cut.py" 611), (.int 217 0), (.int 1 0), (.int 0 0), (.int 0 0), (.int 3 0), (.ref 294), (.bool true), (.int 181 0), (.ref 295), .none, (.ref 296), (.ref 297), (.ref 298), (.int 613 0), (.int 217 0), (vS "/claim/cut.py" 614)]
noncomputable def Qiz := hG (fD 43 3 .none .none .none (vS "gmp.matrices" 457) (.ref 299) .none 0)
noncomputable def Qjm := hg (fD 44 0 .none .none .none .none .none .none 0)
noncomputable def QiW := hC #[(vS "det_rest" 616), (vS "det_rest" 617), (vS "/claim/cut.py" 618), (.int 222 0), (.int 2 0), (.int 0 0), (.int 0 0), (.int 3 0), (.ref 301), (.bool true), (.int 181 0), (.ref 302), .none, .none, .none, (.ref 303), (.int 619 0), (.int 222 0), (vS "/claim/cut.py" 620)]
noncomputable def Qiu := hG (fD 44 3 .none .none .none (vS "gmp.matrices" 457) (.ref 304) .none 0)
noncomputable def QjB := hT #[(vS "row" 625), (vS "w" 626), (vS "found" 627), (vS "one" 628)] 0
noncomputable def Qjv := hg (fD 45 0 .none .none .none .none .none .none 0)
noncomputable def QiA := hC #[(vS "row_bound" 622), (vS "row_bound" 623), (vS "/claim/cut.py" 624), (.int 237 0), (.int 2 0), (.int 0 0), (.int 0 0), (.int 3 0), (.ref 306), (.bool true), (.int 181 0), (.ref 307), .none, (.ref 308), (.ref 309), (.ref 310), (.int 629 0), (.int 237 0), (vS "/claim/cut.py" 630)]
noncomputable def QjI := hG (fD 45 3 .none .none .none (vS "gmp.matrices" 457) (.ref 311) .none 0)
noncomputable def tr8 (P : Params) : BT := (hN (boot_o_0 P) (hN (boot_o_1 P) (hN (o3_8 P) (hN (boot_o_7 P) (hN QdV (hN o11 (hN Qii (hN o11 (hL o12) .nil) (hL o12)) (hN o11 (hN QfB (hL o11) .nil) (hL o11))) (hN o11 (hN o12 (hN QeT (hL QjE) .nil) (hL o12)) (hN QdR (hN QfK (hL Qjm) .nil) (hL QgB)))) (hN (QdW P) (hN Qfe (hN o11 (hN o12 (hL Qjp) .nil) (hL Qgu)) (hN QdI (hN QfF (hL o12) .nil) (hL o11))) (hN o11 (hN Qjl (hN o11 (hL Qjk) .nil) (hL Qgq)) (hN QdA (hN o11 (hL QiA) .nil) (hL Qhf))))) (hN o11 (hN o12 (hN o11 (hN o11 (hN QdQ (hL Qja) .nil) (hL QeN)) (hN o11 (hN o12 (hL QiN) .nil) (hL Qgg))) (hN QfY (hN Qix (hN QeO (hL Qiv) .nil) (hL o11)) (hN Qdo (hN o11 (hL o12) .nil) (hL o12)))) (hN QdT (hN o11 (hN Qie (hN QeY (hL Qio) .nil) (hL Qgh)) (hN o12 (hN QeQ (hL QiK) .nil) (hL o11))) (hN o11 (hN QjA (hN o11 (hL o11) .nil) (hL o12)) (hN o11 (hL Qez) (hL QgO)))))) (hN (boot_o_5 P) (hN (boot_o_9 P) (hN (QdU P) (hN QeV (hN o12 (hN QdG (hL o11) .nil) (hL o11)) (hN Qis (hN Qfs (hL QiB) .nil) (hL QgX))) (hN Qgb (hN o11 (hN QfO (hL o11) .nil) (hL QgF)) (hN o11 (hN o12 (hL Qiu) .nil) (hL Qhg)))) (hN QdX (hN QL (hN Qik (hN o11 (hL Qji) .nil) (hL o11)) (hN QdN (hN o11 (hL o11) .nil) (hL QgI))) (hN Qhp (hN QiM (hN Qeo (hL o12) .nil) (hL QgD)) (hN o12 (hL Qfk) (hL o11))))) (hN o13 (hN Qea (hN Qen (hN QhM (hN Qdy (hL o11) .nil) (hL QgN)) (hN Qdw (hN o11 (hL QiC) .nil) (hL o12))) (hN QL (hN o11 (hN o12 (hL QiH) .nil) (hL Qgr)) (hN QdJ (hN QfH (hL o11) .nil) (hL o11)))) (hN QL (hN QfU (hN Qil (hN o11 (hL o12) .nil) (hL Qgk)) (hN o11 (hN QeI (hL o11) .nil) (hL Qgf))) (hN QhU (hN o12 (hN QeP (hL QiQ) .nil) (hL Qhh)) (hN Qdl (hL Qfq) (hL Qgt))))))) (hN (o2_1 P) (hN (boot_o_4 P) (hN (boot_o_8 P) (hN QL (hN o12 (hN o11 (hN o12 (hL QiY) .nil) (hL Qfx)) (hN QiL (hN Qem (hL o12) .nil) (hL o12))) (hN (QfT P) (hN Qjw (hN o11 (hL QiF) .nil) (hL Qgl)) (hN Qds (hN o11 (hL QiW) .nil) (hL QgU)))) (hN QhV (hN Qai (hN o12 (hN Qfb (hL o11) .nil) (hL Qhb)) (hN QdO (hN Qep (hL QiE) .nil) (hL QgL))) (hN o12 (hN o11 (hN QeU (hL o11) .nil) (hL QgR)) (hN o11 (hN o12 (hL QjI) .nil) (hL QgM))))) (hN Qum (hN QdY (hN (QeE P) (hN QhB (hN QdM (hL QiZ) .nil) (hL QfJ)) (hN o12 (hN Qeu (hL QiI) .nil) (hL o11))) (hN Qai (hN Qjg (hN o11 (hL o11) .nil) (hL o12)) (hN o11 (hN QeF (hL QjB) .nil) (hL Qgx)))) (hN Qai (hN o12 (hN QhD (hN Qev (hL o11) .nil) (hL Qge)) (hN QdP (hN o11 (hL Qiz) .nil) (hL o12))) (hN (QhP P) (hN o11 (hN o12 (hL QiR) .nil) (hL Qgp)) (hN Qdt (hL Qes) (hL QgK)))))) (hN (boot_o_6 P) (hN (boot_o_10 P) (hN o11 (hN Qfj (hN QhE (hN o11 (hL Qjt) .nil) (hL QeR)) (hN Qjd (hN o11 (hL o11) .nil) (hL QgC))) (hN QfX (hN Qip (hN Qfn (hL o12) .nil) (hL QgH)) (hN o12 (hN QfM (hL o11) .nil) (hL o11)))) (hN QdS (hN (QfV P) (hN o11 (hN QfN (hL Qjx) .nil) (hL o12)) (hN o11 (hN o12 (hL Qjr) .nil) (hL Qgy))) (hN Qhv (hN Qju (hN QeC (hL Qit) .nil) (hL o11)) (hN Qdx (hL o11) (hL o12))))) (hN o14 (hN o11 (hN Qfm (hN QhY (hN o11 (hL o12) .nil) (hL QgA)) (hN o11 (hN QeS (hL o11) .nil) (hL QgP))) (hN (QhF P) (hN o12 (hN Qft (hL Qiw) .nil) (hL o11)) (hN Qdq (hN Qfw (hL Qjv) .nil) (hL Qgz)))) (hN (Qex P) (hN Qga (hN o11 (hN o12 (hL QjC) .nil) (hL o11)) (hN QdL (hN Qfa (hL o12) .nil) (hL o11))) (hN Qhn (hN QiT (hN o11 (hL Qjq) .nil) (hL Qha)) (hN QdE (hL o11) (hL o11))))))))
noncomputable def o3_9 (P : Params) := hD #[eS P "__name__" 165 (vS "gmp.school" 712), eS P "__doc__" 166 .none, eS P "__package__" 167 .none, eS P "__loader__" 168 (.builtin "__main__.__loader__#opaque"), eS P "__spec__" 169 .none, eS P "__annotations__" 170 (.ref 6), eS P "__builtins__" 171 (.ref 4), eS P "__file__" 173 (vS "/claim/cut.py" 172), eS P "__cached__" 174 .none, eS P "GmpError" 208 (.ref 24), eS P "DivisionByZero" 224 (.ref 37), eS P "NoInverse" 240 (.ref 49), eS P "OutOfRange" 256 (.ref 61), eS P "normal" 264 (.ref 70), eS P "nat_of" 274 (.ref 77), eS P "compare" 283 (.ref 84), eS P "add" 296 (.ref 91), eS P "sub" 310 (.ref 98), eS P "add_limb" 322 (.ref 105), eS P "divrem_limb" 334 (.ref 112), eS P "shift_left" 349 (.ref 119), eS P "shift_right" 364 (.ref 126), eS P "bits" 372 (.ref 133), eS P "signed" 382 (.ref 140), eS P "s_of" 390 (.ref 147), eS P "s_neg" 397 (.ref 154), eS P "s_sign" 404 (.ref 161), eS P "s_add" 413 (.ref 168), eS P "s_sub" 422 (.ref 175), eS P "s_mul" 432 (.ref 182), eS P "tdiv" 444 (.ref 189), eS P "fdiv" 456 (.ref 196), eS P "NOUGHT" 459 (.ref 198), eS P "UNIT" 461 (.ref 200), eS P "m_unit" 467 (.ref 205), eS P "m_turned" 473 (.ref 210), eS P "inner" 486 (.ref 217), eS P "m_mul" 492 (.ref 222), eS P "m_led" 498 (.ref 227), eS P "exact" 510 (.ref 234), eS P "pivot_row" 520 (.ref 241), eS P "cleared" 539 (.ref 248), eS P "steps_down" 545 (.ref 253), eS P "rank" 555 (.ref 260), eS P "det_bareiss" 569 (.ref 267), eS P "solve_bareiss" 575 (.ref 272), eS P "adjoint" 589 (.ref 279), eS P "rest_plain" 600 (.ref 286), eS P "is_plain_prime" 608 (.ref 293), eS P "next_plain_prime" 615 (.ref 300), eS P "det_rest" 621 (.ref 305), eS P "row_bound" 631 (.ref 312), eS P "det_bound" 642 (.ref 319), eS P "joined_rest" 657 (.ref 326), eS P "det_primes" 663 (.ref 331), eS P "inverse_rests" 669 (.ref 336), eS P "lifting_prime" 675 (.ref 341), eS P "lifted_digits" 681 (.ref 346), eS P "fraction_of" 699 (.ref 353), eS P "lift_bound" 705 (.ref 358), eS P "solve_dixon" 711 (.ref 363)] 61
noncomputable def Quz := hF #[(.int 2 0), (.int 0 0), (.ref 20), (.int 4 0), (.int 0 0), (.ref 33), (.int 6 0), (.int 0 0), (.ref 45), (.int 8 0), (.int 0 0), (.ref 57), (.int 10 0), (.int 0 0), (.ref 69), (.int 15 0), (.int 0 0), (.ref 76), (.int 23 0), (.int 0 0), (.ref 83), (.int 30 0), (.int 0 0), (.ref 90), (.int 45 0), (.int 0 0), (.ref 97), (.int 54 0), (.int 0 0), (.ref 104), (.int 63 0), (.int 0 0), (.ref 111), (.int 72 0), (.int 0 0), (.ref 118), (.int 84 0), (.int 0 0), (.ref 125), (.int 91 0), (.int 0 0), (.ref 132), (.int 94 0), (.int 0 0), (.ref 139), (.int 96 0), (.int 0 0), (.ref 146), (.int 98 0), (.int 0 0), (.ref 153), (.int 100 0), (.int 0 0), (.ref 160), (.int 104 0), (.int 0 0), (.ref 167), (.int 110 0), (.int 0 0), (.ref 174), (.int 112 0), (.int 0 0), (.ref 181), (.int 114 0), (.int 0 0), (.ref 188), (.int 119 0), (.int 0 0), (.ref 195), (.int 127 0), (.int 0 0), (.ref 204), (.int 129 0), (.int 0 0), (.ref 209), (.int 131 0), (.int 0 0), (.ref 216), (.int 136 0), (.int 0 0), (.ref 221), (.int 139 0), (.int 0 0), (.ref 226), (.int 141 0), (.int 0 0), (.ref 233), (.int 144 0), (.int 0 0), (.ref 240), (.int 149 0), (.int 0 0), (.ref 247), (.int 156 0), (.int 0 0), (.ref 252), (.int 170 0), (.int 0 0), (.ref 259), (.int 174 0), (.int 0 0), (.ref 266), (.int 182 0), (.int 0 0), (.ref 271), (.int 197 0), (.int 0 0), (.ref 278), (.int 203 0), (.int 0 0), (.ref 285), (.int 208 0), (.int 0 0), (.ref 292), (.int 217 0), (.int 0 0), (.ref 299), (.int 222 0), (.int 0 0), (.ref 304), (.int 237 0), (.int 0 0), (.ref 311), (.int 242 0), (.int 0 0), (.ref 318), (.int 247 0), (.int 0 0), (.ref 325), (.int 251 0), (.int 0 0), (.ref 330), (.int 262 0), (.int 0 0), (.ref 335), (.int 277 0), (.int 0 0), (.ref 340), (.int 286 0), (.int 0 0), (.ref 345), (.int 295 0), (.int 0 0), (.ref 352), (.int 304 0), (.int 0 0), (.ref 357), (.int 306 0), (.int 0 0), (.ref 362)]
noncomputable def QkX := hT #[(vS "a" 635), (vS "w" 636), (vS "mul" 637), (vS "found" 638), (vS "row" 639)] 0
noncomputable def QlE := hg (fD 46 0 .none .none .none .none .none .none 0)
noncomputable def Qlg := hC #[(vS "det_bound" 632), (vS "det_bound" 633), (vS "/claim/cut.py" 634), (.int 242 0), (.int 3 0), (.int 0 0), (.int 0 0), (.int 3 0), (.ref 313), (.bool true), (.int 181 0), (.ref 314), .none, (.ref 315), (.ref 316), (.ref 317), (.int 640 0), (.int 242 0), (vS "/claim/cut.py" 641)]
noncomputable def Qmh := hG (fD 46 3 .none .none .none (vS "gmp.matrices" 457) (.ref 318) .none 0)
noncomputable def QkT := hT #[(vS "value" 646), (vS "modulus" 647), (vS "rest" 648), (vS "p" 649), (vS "w" 650), (vS "mul" 651), (vS "here" 652), (vS "step" 653), (vS "times" 654)] 0
noncomputable def QlX := hg (fD 47 0 .none .none .none .none .none .none 0)
noncomputable def Qle := hC #[(vS "joined_rest" 643), (vS "joined_rest" 644), (vS "/claim/cut.py" 645), (.int 247 0), (.int 6 0), (.int 0 0), (.int 0 0), (.int 3 0), (.ref 320), (.bool true), (.int 181 0), (.ref 321), .none, (.ref 322), (.ref 323), (.ref 324), (.int 655 0), (.int 247 0), (vS "/claim/cut.py" 656)]
noncomputable def QkV := hG (fD 47 3 .none .none .none (vS "gmp.matrices" 457) (.ref 325) .none 0)
noncomputable def QlD := hg (fD 48 0 .none .none .none .none .none .none 0)
noncomputable def QkY := hC #[(vS "det_primes" 658), (vS "det_primes" 659), (vS "/claim/cut.py" 660), (.int 251 0), (.int 4 0), (.int 0 0), (.int 0 0), (.int 3 0), (.ref 327), (.bool true), (.int 181 0), (.ref 328), .none, .none, .none, (.ref 329), (.int 661 0), (.int 251 0), (vS "/claim/cut.py" 662)]
noncomputable def QlC := hG (fD 48 3 .none .none .none (vS "gmp.matrices" 457) (.ref 330) .none 0)
noncomputable def Qlb := hg (fD 49 0 .none .none .none .none .none .none 0)
noncomputable def Qlf := hC #[(vS "inverse_rests" 664), (vS "inverse_rests" 665), (vS "/claim/cut.py" 666), (.int 262 0), (.int 2 0), (.int 0 0), (.int 0 0), (.int 3 0), (.ref 332), (.bool true), (.int 181 0), (.ref 333), .none, .none, .none, (.ref 334), (.int 667 0), (.int 262 0), (vS "/claim/cut.py" 668)]
noncomputable def QkZ := hG (fD 49 3 .none .none .none (vS "gmp.matrices" 457) (.ref 335) .none 0)
noncomputable def Qlm := hg (fD 50 0 .none .none .none .none .none .none 0)
noncomputable def QlQ := hC #[(vS "lifting_prime" 670), (vS "lifting_prime" 671), (vS "/claim/cut.py" 672), (.int 277 0), (.int 4 0), (.int 0 0), (.int 0 0), (.int 3 0), (.ref 337), (.bool true), (.int 181 0), (.ref 338), .none, .none, .none, (.ref 339), (.int 673 0), (.int 277 0), (vS "/claim/cut.py" 674)]
noncomputable def Qll := hG (fD 50 3 .none .none .none (vS "gmp.matrices" 457) (.ref 340) .none 0)
noncomputable def Qlr := hg (fD 51 0 .none .none .none .none .none .none 0)
noncomputable def Qly := hC #[(vS "lifted_digits" 676), (vS "lifted_digits" 677), (vS "/claim/cut.py" 678), (.int 286 0), (.int 8 0), (.int 0 0), (.int 0 0), (.int 3 0), (.ref 342), (.bool true), (.int 181 0), (.ref 343), .none, .none, .none, (.ref 344), (.int 679 0), (.int 286 0), (vS "/claim/cut.py" 680)]
noncomputable def QlS := hG (fD 51 3 .none .none .none (vS "gmp.matrices" 457) (.ref 345) .none 0)
noncomputable def Qlz := hT #[(vS "value" 685), (vS "modulus" 686), (vS "bound" 687), (vS "w" 688), (vS "mul" 689), (vS "divrem" 690), (vS "one" 691), (vS "other" 692), (vS "here" 693), (vS "there" 694), (vS "quotient" 695), (vS "rest" 696)] 0
noncomputable def QlI := hg (fD 52 0 .none .none .none .none .none .none 0)
noncomputable def Qli := hC #[(vS "fraction_of" 682), (vS "fraction_of" 683), (vS "/claim/cut.py" 684), (.int 295 0), (.int 6 0), (.int 0 0), (.int 0 0), (.int 3 0), (.ref 347), (.bool true), (.int 181 0), (.ref 348), .none, (.ref 349), (.ref 350), (.ref 351), (.int 697 0), (.int 295 0), (vS "/claim/cut.py" 698)]
noncomputable def QlA := hG (fD 52 3 .none .none .none (vS "gmp.matrices" 457) (.ref 352) .none 0)
noncomputable def QkU := hg (fD 53 0 .none .none .none .none .none .none 0)
noncomputable def Qls := hC #[(vS "lift_bound" 700), (vS "lift_bound" 701), (vS "/claim/cut.py" 702), (.int 304 0), (.int 4 0), (.int 0 0), (.int 0 0), (.int 3 0), (.ref 354), (.bool true), (.int 181 0), (.ref 355), .none, .none, .none, (.ref 356), (.int 703 0), (.int 304 0), (vS "/claim/cut.py" 704)]
noncomputable def QkR := hG (fD 53 3 .none .none .none (vS "gmp.matrices" 457) (.ref 357) .none 0)
noncomputable def Qlu := hg (fD 54 0 .none .none .none .none .none .none 0)
noncomputable def Qme := hC #[(vS "solve_dixon" 706), (vS "solve_dixon" 707), (vS "/claim/cut.py" 708), (.int 306 0), (.int 6 0), (.int 0 0), (.int 0 0), (.int 3 0), (.ref 359), (.bool true), (.int 181 0), (.ref 360), .none, .none, .none, (.ref 361), (.int 709 0), (.int 306 0), (vS "/claim/cut.py" 710)]
noncomputable def QlG := hG (fD 54 3 .none .none .none (vS "gmp.matrices" 457) (.ref 362) .none 0)
noncomputable def tr9 (P : Params) : BT := (hN (boot_o_0 P) (hN (boot_o_1 P) (hN (o3_9 P) (hN (boot_o_7 P) (hN QdV (hN o11 (hN Qii (hN o11 (hL o12) .nil) (hN o12 (hL Qmh) .nil)) (hN o11 (hN QfB (hL o11) .nil) (hN o11 (hL QlI) .nil))) (hN o11 (hN o12 (hN QeT (hL QjE) .nil) (hN o12 (hL Qlf) .nil)) (hN QdR (hN QfK (hL Qjm) .nil) (hL QgB)))) (hN (QdW P) (hN Qfe (hN o11 (hN o12 (hL Qjp) .nil) (hN Qgu (hL o11) .nil)) (hN QdI (hN QfF (hL o12) .nil) (hN o11 (hL o11) .nil))) (hN o11 (hN Qjl (hN o11 (hL Qjk) .nil) (hN Qgq (hL o12) .nil)) (hN QdA (hN o11 (hL QiA) .nil) (hL Qhf))))) (hN o11 (hN o12 (hN o11 (hN o11 (hN QdQ (hL Qja) .nil) (hN QeN (hL o11) .nil)) (hN o11 (hN o12 (hL QiN) .nil) (hN Qgg (hL o12) .nil))) (hN QfY (hN Qix (hN QeO (hL Qiv) .nil) (hN o11 (hL Qlm) .nil)) (hN Qdo (hN o11 (hL o12) .nil) (hL o12)))) (hN QdT (hN o11 (hN Qie (hN QeY (hL Qio) .nil) (hN Qgh (hL QlC) .nil)) (hN o12 (hN QeQ (hL QiK) .nil) (hN o11 (hL QlG) .nil))) (hN o11 (hN QjA (hN o11 (hL o11) .nil) (hN o12 (hL o11) .nil)) (hN o11 (hN Qez (hL QkX) .nil) (hL QgO)))))) (hN (boot_o_5 P) (hN (boot_o_9 P) (hN (QdU P) (hN QeV (hN o12 (hN QdG (hL o11) .nil) (hN o11 (hL o12) .nil)) (hN Qis (hN Qfs (hL QiB) .nil) (hN QgX (hL QlA) .nil))) (hN Qgb (hN o11 (hN QfO (hL o11) .nil) (hN QgF (hL o11) .nil)) (hN o11 (hN o12 (hL Qiu) .nil) (hL Qhg)))) (hN QdX (hN QL (hN Qik (hN o11 (hL Qji) .nil) (hN o11 (hL QlD) .nil)) (hN QdN (hN o11 (hL o11) .nil) (hN QgI (hL Qlu) .nil))) (hN Qhp (hN QiM (hN Qeo (hL o12) .nil) (hN QgD (hL Qly) .nil)) (hN o12 (hN Qfk (hL o11) .nil) (hL o11))))) (hN o13 (hN Qea (hN Qen (hN QhM (hN Qdy (hL o11) .nil) (hN QgN (hL Qle) .nil)) (hN Qdw (hN o11 (hL QiC) .nil) (hN o12 (hL Qls) .nil))) (hN QL (hN o11 (hN o12 (hL QiH) .nil) (hN Qgr (hL Qll) .nil)) (hN QdJ (hN QfH (hL o11) .nil) (hL o11)))) (hN QL (hN QfU (hN Qil (hN o11 (hL o12) .nil) (hN Qgk (hL o12) .nil)) (hN o11 (hN QeI (hL o11) .nil) (hL Qgf))) (hN QhU (hN o12 (hN QeP (hL QiQ) .nil) (hN Qhh (hL Qlz) .nil)) (hN Qdl (hN Qfq (hL QlE) .nil) (hL Qgt))))))) (hN (o2_1 P) (hN (boot_o_4 P) (hN (boot_o_8 P) (hN QL (hN o12 (hN o11 (hN o12 (hL QiY) .nil) (hN Qfx (hL o11) .nil)) (hN QiL (hN Qem (hL o12) .nil) (hN o12 (hL Qli) .nil))) (hN (QfT P) (hN Qjw (hN o11 (hL QiF) .nil) (hN Qgl (hL QkZ) .nil)) (hN Qds (hN o11 (hL QiW) .nil) (hL QgU)))) (hN QhV (hN Qai (hN o12 (hN Qfb (hL o11) .nil) (hN Qhb (hL o12) .nil)) (hN QdO (hN Qep (hL QiE) .nil) (hN QgL (hL o12) .nil))) (hN o12 (hN o11 (hN QeU (hL o11) .nil) (hN QgR (hL Qlr) .nil)) (hN o11 (hN o12 (hL QjI) .nil) (hL QgM))))) (hN Quz (hN QdY (hN (QeE P) (hN QhB (hN QdM (hL QiZ) .nil) (hN QfJ (hL QlX) .nil)) (hN o12 (hN Qeu (hL QiI) .nil) (hN o11 (hL QkU) .nil))) (hN Qai (hN Qjg (hN o11 (hL o11) .nil) (hN o12 (hL QlQ) .nil)) (hN o11 (hN QeF (hL QjB) .nil) (hL Qgx)))) (hN Qai (hN o12 (hN QhD (hN Qev (hL o11) .nil) (hN Qge (hL o11) .nil)) (hN QdP (hN o11 (hL Qiz) .nil) (hL o12))) (hN (QhP P) (hN o11 (hN o12 (hL QiR) .nil) (hN Qgp (hL o12) .nil)) (hN Qdt (hN Qes (hL o11) .nil) (hL QgK)))))) (hN (boot_o_6 P) (hN (boot_o_10 P) (hN o11 (hN Qfj (hN QhE (hN o11 (hL Qjt) .nil) (hN QeR (hL QkT) .nil)) (hN Qjd (hN o11 (hL o11) .nil) (hN QgC (hL o11) .nil))) (hN QfX (hN Qip (hN Qfn (hL o12) .nil) (hN QgH (hL o12) .nil)) (hN o12 (hN QfM (hL o11) .nil) (hL o11)))) (hN QdS (hN (QfV P) (hN o11 (hN QfN (hL Qjx) .nil) (hN o12 (hL QkY) .nil)) (hN o11 (hN o12 (hL Qjr) .nil) (hN Qgy (hL Qme) .nil))) (hN Qhv (hN Qju (hN QeC (hL Qit) .nil) (hN o11 (hL QlS) .nil)) (hN Qdx (hN o11 (hL o12) .nil) (hL o12))))) (hN o14 (hN o11 (hN Qfm (hN QhY (hN o11 (hL o12) .nil) (hN QgA (hL QkV) .nil)) (hN o11 (hN QeS (hL o11) .nil) (hN QgP (hL QkR) .nil))) (hN (QhF P) (hN o12 (hN Qft (hL Qiw) .nil) (hN o11 (hL o11) .nil)) (hN Qdq (hN Qfw (hL Qjv) .nil) (hL Qgz)))) (hN (Qex P) (hN Qga (hN o11 (hN o12 (hL QjC) .nil) (hN o11 (hL Qlb) .nil)) (hN QdL (hN Qfa (hL o12) .nil) (hL o11))) (hN Qhn (hN QiT (hN o11 (hL Qjq) .nil) (hN Qha (hL o11) .nil)) (hN QdE (hN o11 (hL Qlg) .nil) (hL o11))))))))
noncomputable def QtK (P : Params) := hD #[eS P "__name__" 165 (vS "law_sa0350_01" 811), eS P "__doc__" 166 .none, eS P "__package__" 167 .none, eS P "__loader__" 168 (.builtin "__main__.__loader__#opaque"), eS P "__spec__" 169 .none, eS P "__annotations__" 170 (.ref 6), eS P "__builtins__" 171 (.ref 4), eS P "__file__" 173 (vS "/claim/cut.py" 172), eS P "__cached__" 174 .none, eS P "GmpError" 208 (.ref 24), eS P "DivisionByZero" 224 (.ref 37), eS P "NoInverse" 240 (.ref 49), eS P "OutOfRange" 256 (.ref 61), eS P "normal" 264 (.ref 70), eS P "nat_of" 274 (.ref 77), eS P "compare" 283 (.ref 84), eS P "add" 296 (.ref 91), eS P "sub" 310 (.ref 98), eS P "add_limb" 322 (.ref 105), eS P "divrem_limb" 334 (.ref 112), eS P "shift_left" 349 (.ref 119), eS P "shift_right" 364 (.ref 126), eS P "bits" 372 (.ref 133), eS P "signed" 382 (.ref 140), eS P "s_of" 390 (.ref 147), eS P "s_neg" 397 (.ref 154), eS P "s_sign" 404 (.ref 161), eS P "s_add" 413 (.ref 168), eS P "s_sub" 422 (.ref 175), eS P "s_mul" 432 (.ref 182), eS P "tdiv" 444 (.ref 189), eS P "fdiv" 456 (.ref 196), eS P "NOUGHT" 459 (.ref 198), eS P "UNIT" 461 (.ref 200), eS P "m_unit" 467 (.ref 205), eS P "m_turned" 473 (.ref 210), eS P "inner" 486 (.ref 217), eS P "m_mul" 492 (.ref 222), eS P "m_led" 498 (.ref 227), eS P "exact" 510 (.ref 234), eS P "pivot_row" 520 (.ref 241), eS P "cleared" 539 (.ref 248), eS P "steps_down" 545 (.ref 253), eS P "rank" 555 (.ref 260), eS P "det_bareiss" 569 (.ref 267), eS P "solve_bareiss" 575 (.ref 272), eS P "adjoint" 589 (.ref 279), eS P "rest_plain" 600 (.ref 286), eS P "is_plain_prime" 608 (.ref 293), eS P "next_plain_prime" 615 (.ref 300), eS P "det_rest" 621 (.ref 305), eS P "row_bound" 631 (.ref 312), eS P "det_bound" 642 (.ref 319), eS P "joined_rest" 657 (.ref 326), eS P "det_primes" 663 (.ref 331), eS P "inverse_rests" 669 (.ref 336), eS P "lifting_prime" 675 (.ref 341), eS P "lifted_digits" 681 (.ref 346), eS P "fraction_of" 699 (.ref 353), eS P "lift_bound" 705 (.ref 358), eS P "solve_dixon" 711 (.ref 363), eS P "mul_school" 729 (.ref 370), eS P "divrem_small" 740 (.ref 377), eS P "guessed_limb" 754 (.ref 384), eS P "take_away" 770 (.ref 391), eS P "put_back" 784 (.ref 398), eS P "divide_rows" 797 (.ref 405), eS P "divrem_school" 810 (.ref 412), eS P "_law_pea" 820 (.ref 419)] 69
noncomputable def QsA := hF #[(.int 2 0), (.int 0 0), (.ref 20), (.int 4 0), (.int 0 0), (.ref 33), (.int 6 0), (.int 0 0), (.ref 45), (.int 8 0), (.int 0 0), (.ref 57), (.int 10 0), (.int 0 0), (.ref 69), (.int 15 0), (.int 0 0), (.ref 76), (.int 23 0), (.int 0 0), (.ref 83), (.int 30 0), (.int 0 0), (.ref 90), (.int 45 0), (.int 0 0), (.ref 97), (.int 54 0), (.int 0 0), (.ref 104), (.int 63 0), (.int 0 0), (.ref 111), (.int 72 0), (.int 0 0), (.ref 118), (.int 84 0), (.int 0 0), (.ref 125), (.int 91 0), (.int 0 0), (.ref 132), (.int 94 0), (.int 0 0), (.ref 139), (.int 96 0), (.int 0 0), (.ref 146), (.int 98 0), (.int 0 0), (.ref 153), (.int 100 0), (.int 0 0), (.ref 160), (.int 104 0), (.int 0 0), (.ref 167), (.int 110 0), (.int 0 0), (.ref 174), (.int 112 0), (.int 0 0), (.ref 181), (.int 114 0), (.int 0 0), (.ref 188), (.int 119 0), (.int 0 0), (.ref 195), (.int 127 0), (.int 0 0), (.ref 204), (.int 129 0), (.int 0 0), (.ref 209), (.int 131 0), (.int 0 0), (.ref 216), (.int 136 0), (.int 0 0), (.ref 221), (.int 139 0), (.int 0 0), (.ref 226), (.int 141 0), (.int 0 0), (.ref 233), (.int 144 0), (.int 0 0), (.ref 240), (.int 149 0), (.int 0 0), (.ref 247), (.int 156 0), (.int 0 0), (.ref 252), (.int 170 0), (.int 0 0), (.ref 259), (.int 174 0), (.int 0 0), (.ref 266), (.int 182 0), (.int 0 0), (.ref 271), (.int 197 0), (.int 0 0), (.ref 278), (.int 203 0), (.int 0 0), (.ref 285), (.int 208 0), (.int 0 0), (.ref 292), (.int 217 0), (.int 0 0), (.ref 299), (.int 222 0), (.int 0 0), (.ref 304), (.int 237 0), (.int 0 0), (.ref 311), (.int 242 0), (.int 0 0), (.ref 318), (.int 247 0), (.int 0 0), (.ref 325), (.int 251 0), (.int 0 0), (.ref 330), (.int 262 0), (.int 0 0), (.ref 335), (.int 277 0), (.int 0 0), (.ref 340), (.int 286 0), (.int 0 0), (.ref 345), (.int 295 0), (.int 0 0), (.ref 352), (.int 304 0), (.int 0 0), (.ref 357), (.int 306 0), (.int 0 0), (.ref 362), (.int 318 0), (.int 0 0), (.ref 369), (.int 328 0), (.int 0 0), (.ref 376), (.int 331 0), (.int 0 0), (.ref 383), (.int 339 0), (.int 0 0), (.ref 390), (.int 348 0), (.int 0 0), (.ref 397), (.int 355 0), (.int 0 0), (.ref 404), (.int 365 0), (.int 0 0), (.ref 411), (.int 379 0), (.int 0 0), (.ref 418)]
noncomputable def Qke := hT #[(vS "a" 717), (vS "b" 718), (vS "w" 719), (vS "found" 720), (vS "mask" 721), (vS "at" 722), (vS "limb" 723), (vS "carry" 724), (vS "spot" 725), (vS "other" 726)] 0
noncomputable def QjJ := hg (fD 56 0 .none .none .none .none .none .none 0)
noncomputable def Qkd := hC #[(vS "mul_school" 714), (vS "mul_school" 715), (vS "/claim/cut.py" 716), (.int 318 0), (.int 3 0), (.int 0 0), (.int 0 0), (.int 3 0), (.ref 364), (.bool true), (.int 181 0), (.ref 365), .none, (.ref 366), (.ref 367), (.ref 368), (.int 727 0), (.int 318 0), (vS "/claim/cut.py" 728)]
noncomputable def Qki := hG (fD 56 3 .none .none .none (vS "gmp.school" 712) (.ref 369) .none 0)
noncomputable def Qkk := hT #[(vS "a" 733), (vS "b" 734), (vS "w" 735), (vS "quotient" 736), (vS "rest" 737)] 0
noncomputable def QkJ := hg (fD 57 0 .none .none .none .none .none .none 0)
noncomputable def Qkp := hC #[(vS "divrem_small" 730), (vS "divrem_small" 731), (vS "/claim/cut.py" 732), (.int 328 0), (.int 3 0), (.int 0 0), (.int 0 0), (.int 3 0), (.ref 371), (.bool true), (.int 181 0), (.ref 372), .none, (.ref 373), (.ref 374), (.ref 375), (.int 738 0), (.int 328 0), (vS "/claim/cut.py" 739)]
noncomputable def Qks := hG (fD 57 3 .none .none .none (vS "gmp.school" 712) (.ref 376) .none 0)
noncomputable def QjP := hT #[(vS "top" 744), (vS "first" 745), (vS "second" 746), (vS "w" 747), (vS "high" 748), (vS "base" 749), (vS "limb" 750), (vS "rest" 751)] 0
noncomputable def QjY := hg (fD 58 0 .none .none .none .none .none .none 0)
noncomputable def QkB := hC #[(vS "guessed_limb" 741), (vS "guessed_limb" 742), (vS "/claim/cut.py" 743), (.int 331 0), (.int 4 0), (.int 0 0), (.int 0 0), (.int 3 0), (.ref 378), (.bool true), (.int 181 0), (.ref 379), .none, (.ref 380), (.ref 381), (.ref 382), (.int 752 0), (.int 331 0), (vS "/claim/cut.py" 753)]
noncomputable def QkG := hG (fD 58 3 .none .none .none (vS "gmp.school" 712) (.ref 383) .none 0)
noncomputable def Qkb := hT #[(vS "rest" 758), (vS "b" 759), (vS "limb" 760), (vS "at" 761), (vS "w" 762), (vS "carry" 763), (vS "base" 764), (vS "spot" 765), (vS "other" 766), (vS "here" 767)] 0
noncomputable def QkC := hg (fD 59 0 .none .none .none .none .none .none 0)
noncomputable def QjN := hC #[(vS "take_away" 755), (vS "take_away" 756), (vS "/claim/cut.py" 757), (.int 339 0), (.int 5 0), (.int 0 0), (.int 0 0), (.int 3 0), (.ref 385), (.bool true), (.int 181 0), (.ref 386), .none, (.ref 387), (.ref 388), (.ref 389), (.int 768 0), (.int 339 0), (vS "/claim/cut.py" 769)]
noncomputable def QkK := hG (fD 59 3 .none .none .none (vS "gmp.school" 712) (.ref 390) .none 0)
noncomputable def Qkh := hT #[(vS "rest" 774), (vS "b" 775), (vS "at" 776), (vS "w" 777), (vS "carry" 778), (vS "mask" 779), (vS "spot" 780), (vS "other" 781)] 0
noncomputable def Qkz := hg (fD 60 0 .none .none .none .none .none .none 0)
noncomputable def Qkg := hC #[(vS "put_back" 771), (vS "put_back" 772), (vS "/claim/cut.py" 773), (.int 348 0), (.int 4 0), (.int 0 0), (.int 0 0), (.int 3 0), (.ref 392), (.bool true), (.int 181 0), (.ref 393), .none, (.ref 394), (.ref 395), (.ref 396), (.int 782 0), (.int 348 0), (vS "/claim/cut.py" 783)]
noncomputable def QjW := hG (fD 60 3 .none .none .none (vS "gmp.school" 712) (.ref 397) .none 0)
noncomputable def Qkq := hT #[(vS "rest" 788), (vS "b" 789), (vS "w" 790), (vS "size" 791), (vS "quotient" 792), (vS "at" 793), (vS "limb" 794)] 0
noncomputable def Qkv := hg (fD 61 0 .none .none .none .none .none .none 0)
noncomputable def Qkm := hC #[(vS "divide_rows" 785), (vS "divide_rows" 786), (vS "/claim/cut.py" 787), (.int 355 0), (.int 3 0), (.int 0 0), (.int 0 0), (.int 3 0), (.ref 399), (.bool true), (.int 181 0), (.ref 400), .none, (.ref 401), (.ref 402), (.ref 403), (.int 795 0), (.int 355 0), (vS "/claim/cut.py" 796)]
noncomputable def QjQ := hG (fD 61 3 .none .none .none (vS "gmp.school" 712) (.ref 404) .none 0)
noncomputable def Qkx := hT #[(vS "a" 801), (vS "b" 802), (vS "w" 803), (vS "shift" 804), (vS "divisor" 805), (vS "rest" 806), (vS "quotient" 807)] 0
noncomputable def QkI := hg (fD 62 0 .none .none .none .none .none .none 0)
noncomputable def QjO := hC #[(vS "divrem_school" 798), (vS "divrem_school" 799), (vS "/claim/cut.py" 800), (.int 365 0), (.int 3 0), (.int 0 0), (.int 0 0), (.int 3 0), (.ref 406), (.bool true), (.int 181 0), (.ref 407), .none, (.ref 408), (.ref 409), (.ref 410), (.int 808 0), (.int 365 0), (vS "/claim/cut.py" 809)]
noncomputable def QkE := hG (fD 62 3 .none .none .none (vS "gmp.school" 712) (.ref 411) .none 0)
noncomputable def QkM := hT #[(vS "bowl" 816), (vS "many" 817)] 0
noncomputable def Qkt := hg (fD 64 0 .none .none .none .none .none .none 0)
noncomputable def Qkr := hC #[(vS "_law_pea" 813), (vS "_law_pea" 814), (vS "/claim/cut.py" 815), (.int 379 0), (.int 2 0), (.int 0 0), (.int 0 0), (.int 3 0), (.ref 413), (.bool true), (.int 181 0), (.ref 414), .none, (.ref 415), (.ref 416), (.ref 417), (.int 818 0), (.int 379 0), (vS "/claim/cut.py" 819)]
noncomputable def Qky := hG (fD 64 3 .none .none .none (vS "law_sa0350_01" 811) (.ref 418) .none 0)
noncomputable def tr10 (P : Params) : BT := (hN (boot_o_0 P) (hN (boot_o_1 P) (hN (QtK P) (hN (boot_o_7 P) (hN QdV (hN o11 (hN Qii (hN o11 (hL o12) (hL QkB)) (hN o12 (hL Qmh) .nil)) (hN o11 (hN QfB (hL o11) (hL QkM)) (hN o11 (hL QlI) .nil))) (hN o11 (hN o12 (hN QeT (hL QjE) (hL o11)) (hN o12 (hL Qlf) .nil)) (hN QdR (hN QfK (hL Qjm) .nil) (hN QgB (hL o11) .nil)))) (hN (QdW P) (hN Qfe (hN o11 (hN o12 (hL Qjp) (hL QkK)) (hN Qgu (hL o11) .nil)) (hN QdI (hN QfF (hL o12) .nil) (hN o11 (hL o11) .nil))) (hN o11 (hN Qjl (hN o11 (hL Qjk) (hL o12)) (hN Qgq (hL o12) .nil)) (hN QdA (hN o11 (hL QiA) .nil) (hN Qhf (hL QkJ) .nil))))) (hN o11 (hN o12 (hN o11 (hN o11 (hN QdQ (hL Qja) (hL Qkb)) (hN QeN (hL o11) .nil)) (hN o11 (hN o12 (hL QiN) (hL Qky)) (hN Qgg (hL o12) .nil))) (hN QfY (hN Qix (hN QeO (hL Qiv) (hL Qkv)) (hN o11 (hL Qlm) .nil)) (hN Qdo (hN o11 (hL o12) .nil) (hN o12 (hL o11) .nil)))) (hN QdT (hN o11 (hN Qie (hN QeY (hL Qio) (hL o11)) (hN Qgh (hL QlC) .nil)) (hN o12 (hN QeQ (hL QiK) .nil) (hN o11 (hL QlG) .nil))) (hN o11 (hN QjA (hN o11 (hL o11) (hL QjO)) (hN o12 (hL o11) .nil)) (hN o11 (hN Qez (hL QkX) .nil) (hN QgO (hL o12) .nil)))))) (hN (boot_o_5 P) (hN (boot_o_9 P) (hN (QdU P) (hN QeV (hN o12 (hN QdG (hL o11) (hL o11)) (hN o11 (hL o12) .nil)) (hN Qis (hN Qfs (hL QiB) (hL Qkt)) (hN QgX (hL QlA) .nil))) (hN Qgb (hN o11 (hN QfO (hL o11) (hL Qkq)) (hN QgF (hL o11) .nil)) (hN o11 (hN o12 (hL Qiu) .nil) (hN Qhg (hL Qkd) .nil)))) (hN QdX (hN QL (hN Qik (hN o11 (hL Qji) (hL o12)) (hN o11 (hL QlD) .nil)) (hN QdN (hN o11 (hL o11) .nil) (hN QgI (hL Qlu) .nil))) (hN Qhp (hN QiM (hN Qeo (hL o12) (hL o11)) (hN QgD (hL Qly) .nil)) (hN o12 (hN Qfk (hL o11) .nil) (hN o11 (hL Qks) .nil))))) (hN o13 (hN Qea (hN Qen (hN QhM (hN Qdy (hL o11) (hL QkC)) (hN QgN (hL Qle) .nil)) (hN Qdw (hN o11 (hL QiC) .nil) (hN o12 (hL Qls) .nil))) (hN QL (hN o11 (hN o12 (hL QiH) (hL QjQ)) (hN Qgr (hL Qll) .nil)) (hN QdJ (hN QfH (hL o11) .nil) (hN o11 (hL Qkk) .nil)))) (hN QL (hN QfU (hN Qil (hN o11 (hL o12) (hL Qkg)) (hN Qgk (hL o12) .nil)) (hN o11 (hN QeI (hL o11) .nil) (hN Qgf (hL o12) .nil))) (hN QhU (hN o12 (hN QeP (hL QiQ) (hL o11)) (hN Qhh (hL Qlz) .nil)) (hN Qdl (hN Qfq (hL QlE) .nil) (hN Qgt (hL o11) .nil))))))) (hN (o2_1 P) (hN (boot_o_4 P) (hN (boot_o_8 P) (hN QL (hN o12 (hN o11 (hN o12 (hL QiY) (hL QkG)) (hN Qfx (hL o11) .nil)) (hN QiL (hN Qem (hL o12) (hL o11)) (hN o12 (hL Qli) .nil))) (hN (QfT P) (hN Qjw (hN o11 (hL QiF) (hL o12)) (hN Qgl (hL QkZ) .nil)) (hN Qds (hN o11 (hL QiW) .nil) (hN QgU (hL QjJ) .nil)))) (hN QhV (hN Qai (hN o12 (hN Qfb (hL o11) (hL o11)) (hN Qhb (hL o12) .nil)) (hN QdO (hN Qep (hL QiE) .nil) (hN QgL (hL o12) .nil))) (hN o12 (hN o11 (hN QeU (hL o11) (hL Qkx)) (hN QgR (hL Qlr) .nil)) (hN o11 (hN o12 (hL QjI) .nil) (hN QgM (hL Qkp) .nil))))) (hN QsA (hN QdY (hN (QeE P) (hN QhB (hN QdM (hL QiZ) (hL o11)) (hN QfJ (hL QlX) .nil)) (hN o12 (hN Qeu (hL QiI) .nil) (hN o11 (hL QkU) .nil))) (hN Qai (hN Qjg (hN o11 (hL o11) (hL Qkm)) (hN o12 (hL QlQ) .nil)) (hN o11 (hN QeF (hL QjB) .nil) (hN Qgx (hL o12) .nil)))) (hN Qai (hN o12 (hN QhD (hN Qev (hL o11) (hL Qkz)) (hN Qge (hL o11) .nil)) (hN QdP (hN o11 (hL Qiz) .nil) (hN o12 (hL o11) .nil))) (hN (QhP P) (hN o11 (hN o12 (hL QiR) (hL QkE)) (hN Qgp (hL o12) .nil)) (hN Qdt (hN Qes (hL o11) .nil) (hN QgK (hL QjP) .nil)))))) (hN (boot_o_6 P) (hN (boot_o_10 P) (hN o11 (hN Qfj (hN QhE (hN o11 (hL Qjt) (hL o12)) (hN QeR (hL QkT) .nil)) (hN Qjd (hN o11 (hL o11) (hL Qkr)) (hN QgC (hL o11) .nil))) (hN QfX (hN Qip (hN Qfn (hL o12) (hL o11)) (hN QgH (hL o12) .nil)) (hN o12 (hN QfM (hL o11) .nil) (hN o11 (hL Qki) .nil)))) (hN QdS (hN (QfV P) (hN o11 (hN QfN (hL Qjx) (hL Qkh)) (hN o12 (hL QkY) .nil)) (hN o11 (hN o12 (hL Qjr) .nil) (hN Qgy (hL Qme) .nil))) (hN Qhv (hN Qju (hN QeC (hL Qit) (hL QkI)) (hN o11 (hL QlS) .nil)) (hN Qdx (hN o11 (hL o12) .nil) (hN o12 (hL o11) .nil))))) (hN o14 (hN o11 (hN Qfm (hN QhY (hN o11 (hL o12) (hL QjN)) (hN QgA (hL QkV) .nil)) (hN o11 (hN QeS (hL o11) .nil) (hN QgP (hL QkR) .nil))) (hN (QhF P) (hN o12 (hN Qft (hL Qiw) (hL o11)) (hN o11 (hL o11) .nil)) (hN Qdq (hN Qfw (hL Qjv) .nil) (hN Qgz (hL o11) .nil)))) (hN (Qex P) (hN Qga (hN o11 (hN o12 (hL QjC) (hL QjW)) (hN o11 (hL Qlb) .nil)) (hN QdL (hN Qfa (hL o12) .nil) (hN o11 (hL Qke) .nil))) (hN Qhn (hN QiT (hN o11 (hL Qjq) (hL o12)) (hN Qha (hL o11) .nil)) (hN QdE (hN o11 (hL Qlg) .nil) (hN o11 (hL QjY) .nil))))))))
noncomputable def Qsy (P : Params) := hD #[eS P "__name__" 165 (vS "law_sa0350_01" 811), eS P "__doc__" 166 .none, eS P "__package__" 167 .none, eS P "__loader__" 168 (.builtin "__main__.__loader__#opaque"), eS P "__spec__" 169 .none, eS P "__annotations__" 170 (.ref 6), eS P "__builtins__" 171 (.ref 4), eS P "__file__" 173 (vS "/claim/cut.py" 172), eS P "__cached__" 174 .none, eS P "GmpError" 208 (.ref 24), eS P "DivisionByZero" 224 (.ref 37), eS P "NoInverse" 240 (.ref 49), eS P "OutOfRange" 256 (.ref 61), eS P "normal" 264 (.ref 70), eS P "nat_of" 274 (.ref 77), eS P "compare" 283 (.ref 84), eS P "add" 296 (.ref 91), eS P "sub" 310 (.ref 98), eS P "add_limb" 322 (.ref 105), eS P "divrem_limb" 334 (.ref 112), eS P "shift_left" 349 (.ref 119), eS P "shift_right" 364 (.ref 126), eS P "bits" 372 (.ref 133), eS P "signed" 382 (.ref 140), eS P "s_of" 390 (.ref 147), eS P "s_neg" 397 (.ref 154), eS P "s_sign" 404 (.ref 161), eS P "s_add" 413 (.ref 168), eS P "s_sub" 422 (.ref 175), eS P "s_mul" 432 (.ref 182), eS P "tdiv" 444 (.ref 189), eS P "fdiv" 456 (.ref 196), eS P "NOUGHT" 459 (.ref 198), eS P "UNIT" 461 (.ref 200), eS P "m_unit" 467 (.ref 205), eS P "m_turned" 473 (.ref 210), eS P "inner" 486 (.ref 217), eS P "m_mul" 492 (.ref 222), eS P "m_led" 498 (.ref 227), eS P "exact" 510 (.ref 234), eS P "pivot_row" 520 (.ref 241), eS P "cleared" 539 (.ref 248), eS P "steps_down" 545 (.ref 253), eS P "rank" 555 (.ref 260), eS P "det_bareiss" 569 (.ref 267), eS P "solve_bareiss" 575 (.ref 272), eS P "adjoint" 589 (.ref 279), eS P "rest_plain" 600 (.ref 286), eS P "is_plain_prime" 608 (.ref 293), eS P "next_plain_prime" 615 (.ref 300), eS P "det_rest" 621 (.ref 305), eS P "row_bound" 631 (.ref 312), eS P "det_bound" 642 (.ref 319), eS P "joined_rest" 657 (.ref 326), eS P "det_primes" 663 (.ref 331), eS P "inverse_rests" 669 (.ref 336), eS P "lifting_prime" 675 (.ref 341), eS P "lifted_digits" 681 (.ref 346), eS P "fraction_of" 699 (.ref 353), eS P "lift_bound" 705 (.ref 358), eS P "solve_dixon" 711 (.ref 363), eS P "mul_school" 729 (.ref 370), eS P "divrem_small" 740 (.ref 377), eS P "guessed_limb" 754 (.ref 384), eS P "take_away" 770 (.ref 391), eS P "put_back" 784 (.ref 398), eS P "divide_rows" 797 (.ref 405), eS P "divrem_school" 810 (.ref 412), eS P "_law_pea" 820 (.ref 419), eS P "_law_signed" 830 (.ref 426), eS P "_law_grid" 836 (.ref 431), eS P "_law_plain" 842 (.ref 436), eS P "_law_minor" 851 (.ref 443), eS P "_law_pairs" 857 (.ref 448), eS P "_law_rank" 863 (.ref 453), eS P "_law_least" 873 (.ref 460), eS P "_law_is_refused" 884 (.ref 467), eS P "_law_solved" 890 (.ref 472), eS P "law" 896 (.ref 477)] 79
noncomputable def Qqt := hF #[(.int 2 0), (.int 0 0), (.ref 20), (.int 4 0), (.int 0 0), (.ref 33), (.int 6 0), (.int 0 0), (.ref 45), (.int 8 0), (.int 0 0), (.ref 57), (.int 10 0), (.int 0 0), (.ref 69), (.int 15 0), (.int 0 0), (.ref 76), (.int 23 0), (.int 0 0), (.ref 83), (.int 30 0), (.int 0 0), (.ref 90), (.int 45 0), (.int 0 0), (.ref 97), (.int 54 0), (.int 0 0), (.ref 104), (.int 63 0), (.int 0 0), (.ref 111), (.int 72 0), (.int 0 0), (.ref 118), (.int 84 0), (.int 0 0), (.ref 125), (.int 91 0), (.int 0 0), (.ref 132), (.int 94 0), (.int 0 0), (.ref 139), (.int 96 0), (.int 0 0), (.ref 146), (.int 98 0), (.int 0 0), (.ref 153), (.int 100 0), (.int 0 0), (.ref 160), (.int 104 0), (.int 0 0), (.ref 167), (.int 110 0), (.int 0 0), (.ref 174), (.int 112 0), (.int 0 0), (.ref 181), (.int 114 0), (.int 0 0), (.ref 188), (.int 119 0), (.int 0 0), (.ref 195), (.int 127 0), (.int 0 0), (.ref 204), (.int 129 0), (.int 0 0), (.ref 209), (.int 131 0), (.int 0 0), (.ref 216), (.int 136 0), (.int 0 0), (.ref 221), (.int 139 0), (.int 0 0), (.ref 226), (.int 141 0), (.int 0 0), (.ref 233), (.int 144 0), (.int 0 0), (.ref 240), (.int 149 0), (.int 0 0), (.ref 247), (.int 156 0), (.int 0 0), (.ref 252), (.int 170 0), (.int 0 0), (.ref 259), (.int 174 0), (.int 0 0), (.ref 266), (.int 182 0), (.int 0 0), (.ref 271), (.int 197 0), (.int 0 0), (.ref 278), (.int 203 0), (.int 0 0), (.ref 285), (.int 208 0), (.int 0 0), (.ref 292), (.int 217 0), (.int 0 0), (.ref 299), (.int 222 0), (.int 0 0), (.ref 304), (.int 237 0), (.int 0 0), (.ref 311), (.int 242 0), (.int 0 0), (.ref 318), (.int 247 0), (.int 0 0), (.ref 325), (.int 251 0), (.int 0 0), (.ref 330), (.int 262 0), (.int 0 0), (.ref 335), (.int 277 0), (.int 0 0), (.ref 340), (.int 286 0), (.int 0 0), (.ref 345), (.int 295 0), (.int 0 0), (.ref 352), (.int 304 0), (.int 0 0), (.ref 357), (.int 306 0), (.int 0 0), (.ref 362), (.int 318 0), (.int 0 0), (.ref 369), (.int 328 0), (.int 0 0), (.ref 376), (.int 331 0), (.int 0 0), (.ref 383), (.int 339 0), (.int 0 0), (.ref 390), (.int 348 0), (.int 0 0), (.ref 397), (.int 355 0), (.int 0 0), (.ref 404), (.int 365 0), (.int 0 0), (.ref 411), (.int 379 0), (.int 0 0), (.ref 418), (.int 384 0), (.int 0 0), (.ref 425), (.int 390 0), (.int 0 0), (.ref 430), (.int 392 0), (.int 0 0), (.ref 435), (.int 395 0), (.int 0 0), (.ref 442), (.int 397 0), (.int 0 0), (.ref 447), (.int 399 0), (.int 0 0), (.ref 452), (.int 405 0), (.int 0 0), (.ref 459), (.int 410 0), (.int 0 0), (.ref 466), (.int 421 0), (.int 0 0), (.ref 471), (.int 439 0), (.int 0 0), (.ref 476)]
noncomputable def QnS := hT #[(vS "number" 824), (vS "w" 825), (vS "left" 826), (vS "limbs" 827)] 0
noncomputable def QmX := hg (fD 65 0 .none .none .none .none .none .none 0)
noncomputable def Qov := hC #[(vS "_law_signed" 821), (vS "_law_signed" 822), (vS "/claim/cut.py" 823), (.int 384 0), (.int 2 0), (.int 0 0), (.int 0 0), (.int 3 0), (.ref 420), (.bool true), (.int 181 0), (.ref 421), .none, (.ref 422), (.ref 423), (.ref 424), (.int 828 0), (.int 384 0), (vS "/claim/cut.py" 829)]
noncomputable def Qoj := hG (fD 65 3 .none .none .none (vS "law_sa0350_01" 811) (.ref 425) .none 0)
noncomputable def Qos := hg (fD 66 0 .none .none .none .none .none .none 0)
noncomputable def QmR := hC #[(vS "_law_grid" 831), (vS "_law_grid" 832), (vS "/claim/cut.py" 833), (.int 390 0), (.int 2 0), (.int 0 0), (.int 0 0), (.int 3 0), (.ref 427), (.bool true), (.int 181 0), (.ref 428), .none, .none, .none, (.ref 429), (.int 834 0), (.int 390 0), (vS "/claim/cut.py" 835)]
noncomputable def Qoq := hG (fD 66 3 .none .none .none (vS "law_sa0350_01" 811) (.ref 430) .none 0)
noncomputable def QnK := hg (fD 67 0 .none .none .none .none .none .none 0)
noncomputable def Qna := hC #[(vS "_law_plain" 837), (vS "_law_plain" 838), (vS "/claim/cut.py" 839), (.int 392 0), (.int 2 0), (.int 0 0), (.int 0 0), (.int 3 0), (.ref 432), (.bool true), (.int 181 0), (.ref 433), .none, .none, .none, (.ref 434), (.int 840 0), (.int 392 0), (vS "/claim/cut.py" 841)]
noncomputable def QnR := hG (fD 67 3 .none .none .none (vS "law_sa0350_01" 811) (.ref 435) .none 0)
noncomputable def QmI := hT #[(vS "rows" 846), (vS "tops" 847), (vS "lefts" 848)] 0
noncomputable def Qnf := hg (fD 68 0 .none .none .none .none .none .none 0)
noncomputable def Qoe := hC #[(vS "_law_minor" 843), (vS "_law_minor" 844), (vS "/claim/cut.py" 845), (.int 395 0), (.int 3 0), (.int 0 0), (.int 0 0), (.int 3 0), (.ref 437), (.bool true), (.int 181 0), (.ref 438), .none, (.ref 439), (.ref 440), (.ref 441), (.int 849 0), (.int 395 0), (vS "/claim/cut.py" 850)]
noncomputable def QmS := hG (fD 68 3 .none .none .none (vS "law_sa0350_01" 811) (.ref 442) .none 0)
noncomputable def QoK := hg (fD 69 0 .none .none .none .none .none .none 0)
noncomputable def QnV := hC #[(vS "_law_pairs" 852), (vS "_law_pairs" 853), (vS "/claim/cut.py" 854), (.int 397 0), (.int 1 0), (.int 0 0), (.int 0 0), (.int 3 0), (.ref 444), (.bool true), (.int 181 0), (.ref 445), .none, .none, .none, (.ref 446), (.int 855 0), (.int 397 0), (vS "/claim/cut.py" 856)]
noncomputable def QoL := hG (fD 69 3 .none .none .none (vS "law_sa0350_01" 811) (.ref 447) .none 0)
noncomputable def QnI := hg (fD 70 0 .none .none .none .none .none .none 0)
noncomputable def QmV := hC #[(vS "_law_rank" 858), (vS "_law_rank" 859), (vS "/claim/cut.py" 860), (.int 399 0), (.int 1 0), (.int 0 0), (.int 0 0), (.int 3 0), (.ref 449), (.bool true), (.int 181 0), (.ref 450), .none, .none, .none, (.ref 451), (.int 861 0), (.int 399 0), (vS "/claim/cut.py" 862)]
noncomputable def Qon := hG (fD 70 3 .none .none .none (vS "law_sa0350_01" 811) (.ref 452) .none 0)
noncomputable def QmM := hT #[(vS "above" 867), (vS "below" 868), (vS "one" 869), (vS "other" 870)] 0
noncomputable def QmK := hg (fD 71 0 .none .none .none .none .none .none 0)
noncomputable def QmT := hC #[(vS "_law_least" 864), (vS "_law_least" 865), (vS "/claim/cut.py" 866), (.int 405 0), (.int 2 0), (.int 0 0), (.int 0 0), (.int 3 0), (.ref 454), (.bool true), (.int 181 0), (.ref 455), .none, (.ref 456), (.ref 457), (.ref 458), (.int 871 0), (.int 405 0), (vS "/claim/cut.py" 872)]
noncomputable def Qnx := hG (fD 71 3 .none .none .none (vS "law_sa0350_01" 811) (.ref 459) .none 0)
noncomputable def Qng := hT #[(vS "square" 877), (vS "column" 878), (vS "first" 879), (vS "w" 880), (vS "count" 881)] 0
noncomputable def QnE := hg (fD 72 0 .none .none .none .none .none .none 0)
noncomputable def QoO := hC #[(vS "_law_is_refused" 874), (vS "_law_is_refused" 875), (vS "/claim/cut.py" 876), (.int 410 0), (.int 4 0), (.int 0 0), (.int 0 0), (.int 3 0), (.ref 461), (.bool true), (.int 181 0), (.ref 462), .none, (.ref 463), (.ref 464), (.ref 465), (.int 882 0), (.int 410 0), (vS "/claim/cut.py" 883)]
noncomputable def QnP := hG (fD 72 3 .none .none .none (vS "law_sa0350_01" 811) (.ref 466) .none 0)
noncomputable def QoI := hg (fD 73 0 .none .none .none .none .none .none 0)
noncomputable def Qoa := hC #[(vS "_law_solved" 885), (vS "_law_solved" 886), (vS "/claim/cut.py" 887), (.int 421 0), (.int 6 0), (.int 0 0), (.int 0 0), (.int 3 0), (.ref 468), (.bool true), (.int 181 0), (.ref 469), .none, .none, .none, (.ref 470), (.int 888 0), (.int 421 0), (vS "/claim/cut.py" 889)]
noncomputable def QnY := hG (fD 73 3 .none .none .none (vS "law_sa0350_01" 811) (.ref 471) .none 0)
noncomputable def Qom := hg (fD 74 0 .none .none .none .none .none .none 0)
noncomputable def Qnl := hC #[(vS "law" 891), (vS "law" 892), (vS "/claim/cut.py" 893), (.int 439 0), (.int 1 0), (.int 0 0), (.int 0 0), (.int 3 0), (.ref 473), (.bool true), (.int 181 0), (.ref 474), .none, .none, .none, (.ref 475), (.int 894 0), (.int 439 0), (vS "/claim/cut.py" 895)]
noncomputable def QnQ := hG (fD 74 3 .none .none .none (vS "law_sa0350_01" 811) (.ref 476) .none 0)
noncomputable def tr11 (P : Params) : BT := (hN (boot_o_0 P) (hN (boot_o_1 P) (hN (Qsy P) (hN (boot_o_7 P) (hN QdV (hN o11 (hN Qii (hN o11 (hL o12) (hL QkB)) (hN o12 (hL Qmh) (hL QnV))) (hN o11 (hN QfB (hL o11) (hL QkM)) (hN o11 (hL QlI) .nil))) (hN o11 (hN o12 (hN QeT (hL QjE) (hL o11)) (hN o12 (hL Qlf) (hL Qng))) (hN QdR (hN QfK (hL Qjm) (hL Qoq)) (hN QgB (hL o11) .nil)))) (hN (QdW P) (hN Qfe (hN o11 (hN o12 (hL Qjp) (hL QkK)) (hN Qgu (hL o11) (hL o12))) (hN QdI (hN QfF (hL o12) (hL o11)) (hN o11 (hL o11) .nil))) (hN o11 (hN Qjl (hN o11 (hL Qjk) (hL o12)) (hN Qgq (hL o12) (hL Qoa))) (hN QdA (hN o11 (hL QiA) (hL QmI)) (hN Qhf (hL QkJ) .nil))))) (hN o11 (hN o12 (hN o11 (hN o11 (hN QdQ (hL Qja) (hL Qkb)) (hN QeN (hL o11) (hL QnI))) (hN o11 (hN o12 (hL QiN) (hL Qky)) (hN Qgg (hL o12) .nil))) (hN QfY (hN Qix (hN QeO (hL Qiv) (hL Qkv)) (hN o11 (hL Qlm) (hL QnP))) (hN Qdo (hN o11 (hL o12) (hL Qna)) (hN o12 (hL o11) .nil)))) (hN QdT (hN o11 (hN Qie (hN QeY (hL Qio) (hL o11)) (hN Qgh (hL QlC) (hL QmT))) (hN o12 (hN QeQ (hL QiK) (hL o11)) (hN o11 (hL QlG) .nil))) (hN o11 (hN QjA (hN o11 (hL o11) (hL QjO)) (hN o12 (hL o11) (hL Qom))) (hN o11 (hN Qez (hL QkX) (hL QmS)) (hN QgO (hL o12) .nil)))))) (hN (boot_o_5 P) (hN (boot_o_9 P) (hN (QdU P) (hN QeV (hN o12 (hN QdG (hL o11) (hL o11)) (hN o11 (hL o12) (hL o11))) (hN Qis (hN Qfs (hL QiB) (hL Qkt)) (hN QgX (hL QlA) .nil))) (hN Qgb (hN o11 (hN QfO (hL o11) (hL Qkq)) (hN QgF (hL o11) (hL QnE))) (hN o11 (hN o12 (hL Qiu) (hL o12)) (hN Qhg (hL Qkd) .nil)))) (hN QdX (hN QL (hN Qik (hN o11 (hL Qji) (hL o12)) (hN o11 (hL QlD) (hL o11))) (hN QdN (hN o11 (hL o11) (hL Qov)) (hN QgI (hL Qlu) .nil))) (hN Qhp (hN QiM (hN Qeo (hL o12) (hL o11)) (hN QgD (hL Qly) (hL o11))) (hN o12 (hN Qfk (hL o11) (hL Qnf)) (hN o11 (hL Qks) .nil))))) (hN o13 (hN Qea (hN Qen (hN QhM (hN Qdy (hL o11) (hL QkC)) (hN QgN (hL Qle) (hL Qon))) (hN Qdw (hN o11 (hL QiC) (hL o12)) (hN o12 (hL Qls) .nil))) (hN QL (hN o11 (hN o12 (hL QiH) (hL QjQ)) (hN Qgr (hL Qll) (hL o12))) (hN QdJ (hN QfH (hL o11) (hL o11)) (hN o11 (hL Qkk) .nil)))) (hN QL (hN QfU (hN Qil (hN o11 (hL o12) (hL Qkg)) (hN Qgk (hL o12) (hL o11))) (hN o11 (hN QeI (hL o11) (hL Qos)) (hN Qgf (hL o12) .nil))) (hN QhU (hN o12 (hN QeP (hL QiQ) (hL o11)) (hN Qhh (hL Qlz) (hL QnQ))) (hN Qdl (hN Qfq (hL QlE) (hL o12)) (hN Qgt (hL o11) .nil))))))) (hN (o2_1 P) (hN (boot_o_4 P) (hN (boot_o_8 P) (hN QL (hN o12 (hN o11 (hN o12 (hL QiY) (hL QkG)) (hN Qfx (hL o11) (hL QoL))) (hN QiL (hN Qem (hL o12) (hL o11)) (hN o12 (hL Qli) .nil))) (hN (QfT P) (hN Qjw (hN o11 (hL QiF) (hL o12)) (hN Qgl (hL QkZ) (hL o11))) (hN Qds (hN o11 (hL QiW) (hL o11)) (hN QgU (hL QjJ) .nil)))) (hN QhV (hN Qai (hN o12 (hN Qfb (hL o11) (hL o11)) (hN Qhb (hL o12) (hL QmM))) (hN QdO (hN Qep (hL QiE) (hL QmX)) (hN QgL (hL o12) .nil))) (hN o12 (hN o11 (hN QeU (hL o11) (hL Qkx)) (hN QgR (hL Qlr) (hL QnY))) (hN o11 (hN o12 (hL QjI) (hL o11)) (hN QgM (hL Qkp) .nil))))) (hN Qqt (hN QdY (hN (QeE P) (hN QhB (hN QdM (hL QiZ) (hL o11)) (hN QfJ (hL QlX) (hL QmV))) (hN o12 (hN Qeu (hL QiI) (hL o11)) (hN o11 (hL QkU) .nil))) (hN Qai (hN Qjg (hN o11 (hL o11) (hL Qkm)) (hN o12 (hL QlQ) (hL o11))) (hN o11 (hN QeF (hL QjB) (hL QnR)) (hN Qgx (hL o12) .nil)))) (hN Qai (hN o12 (hN QhD (hN Qev (hL o11) (hL Qkz)) (hN Qge (hL o11) (hL Qnx))) (hN QdP (hN o11 (hL Qiz) (hL o12)) (hN o12 (hL o11) .nil))) (hN (QhP P) (hN o11 (hN o12 (hL QiR) (hL QkE)) (hN Qgp (hL o12) (hL Qnl))) (hN Qdt (hN Qes (hL o11) (hL o11)) (hN QgK (hL QjP) .nil)))))) (hN (boot_o_6 P) (hN (boot_o_10 P) (hN o11 (hN Qfj (hN QhE (hN o11 (hL Qjt) (hL o12)) (hN QeR (hL QkT) (hL o12))) (hN Qjd (hN o11 (hL o11) (hL Qkr)) (hN QgC (hL o11) .nil))) (hN QfX (hN Qip (hN Qfn (hL o12) (hL o11)) (hN QgH (hL o12) (hL QoO))) (hN o12 (hN QfM (hL o11) (hL QnK)) (hN o11 (hL Qki) .nil)))) (hN QdS (hN (QfV P) (hN o11 (hN QfN (hL Qjx) (hL Qkh)) (hN o12 (hL QkY) (hL QmK))) (hN o11 (hN o12 (hL Qjr) (hL Qoj)) (hN Qgy (hL Qme) .nil))) (hN Qhv (hN Qju (hN QeC (hL Qit) (hL QkI)) (hN o11 (hL QlS) (hL o12))) (hN Qdx (hN o11 (hL o12) (hL Qoe)) (hN o12 (hL o11) .nil))))) (hN o14 (hN o11 (hN Qfm (hN QhY (hN o11 (hL o12) (hL QjN)) (hN QgA (hL QkV) (hL o11))) (hN o11 (hN QeS (hL o11) (hL QnS)) (hN QgP (hL QkR) .nil))) (hN (QhF P) (hN o12 (hN Qft (hL Qiw) (hL o11)) (hN o11 (hL o11) (hL QoI))) (hN Qdq (hN Qfw (hL Qjv) (hL o12)) (hN Qgz (hL o11) .nil)))) (hN (Qex P) (hN Qga (hN o11 (hN o12 (hL QjC) (hL QjW)) (hN o11 (hL Qlb) (hL o12))) (hN QdL (hN Qfa (hL o12) (hL QmR)) (hN o11 (hL Qke) .nil))) (hN Qhn (hN QiT (hN o11 (hL Qjq) (hL o12)) (hN Qha (hL o11) .nil)) (hN QdE (hN o11 (hL Qlg) (hL QoK)) (hN o11 (hL QjY) .nil))))))))
noncomputable def hFin (P : Params) : Heap := ⟨⟨[(boot_o_0 P), (boot_o_1 P), (o2_1 P), (Qsy P), (boot_o_4 P), (boot_o_5 P), (boot_o_6 P), (boot_o_7 P), (boot_o_8 P), (boot_o_9 P), (boot_o_10 P), o11, Qqt, o13, o14, QdV, QL, (QdU P), o11, o12, QdY, Qea, o11, (QdW P), QhV, QdX, QdS, QdT, Qai, QL, (Qex P), o11, o12, QeV, Qfj, o11, (QeE P), Qen, Qfm, Qfe, Qai, QL, (QfV P), o11, o12, QfU, Qga, o11, (QfT P), Qgb, QfX, QfY, Qai, QL, (QhF P), o11, o12, Qhp, Qhv, o11, (QhP P), QhU, Qhn, Qii, o11, o12, QhE, o11, QhB, QhM, QhY, o11, o12, Qik, o11, Qie, QhD, Qil, o11, o12, Qjw, o11, Qip, Qix, Qjg, o11, o12, Qjl, o11, QiM, Qju, QjA, o11, o12, QiT, o11, QiL, Qis, Qjd, o11, o12, Qdw, o11, QdI, QdO, QdN, o11, o12, QdP, o11, QdL, QdR, Qds, o11, o12, Qdo, o11, QdJ, Qdq, QdA, o11, o12, Qdx, o11, Qdt, Qdl, QdE, o11, o12, QdG, o11, QdQ, QdM, Qdy, o11, o12, Qfb, o11, QfN, QeY, Qev, o11, o12, QeT, o11, QfO, Qfn, QeO, o11, o12, Qft, o11, QeU, Qeo, QeC, o11, o12, QeP, o11, QfB, Qem, Qfs, o11, o12, Qeu, o11, QeS, QfF, Qep, o11, o12, QeQ, o11, QeI, Qfa, QfK, o11, o12, QfM, o11, QeF, QfH, Qfw, o11, o12, Qfk, o11, Qez, Qes, Qfq, o11, o12, Qfx, o11, QeR, QeN, QfJ, QgN, QgA, Qgu, Qhb, o11, o12, Qgh, Qge, Qgk, o11, o12, Qgl, QgF, QgH, o11, o12, Qgr, o11, Qgq, QgR, QgD, o11, o12, Qgp, Qhh, Qha, o11, o12, QgX, QgC, Qgg, o11, o12, QgP, o11, QgL, QgI, Qgy, o11, o12, Qgf, o11, QgB, QgU, Qhg, o11, o12, Qgx, o11, Qgz, Qhf, QgM, o11, o12, QgO, QgK, Qgt, o11, o12, QiY, o11, Qjt, Qja, QiZ, o11, o12, Qjp, o11, Qji, Qjx, Qio, o11, o12, QjC, QjE, QiF, o11, o12, Qiv, o11, QiH, Qiw, Qjk, o11, o12, Qit, o11, QiR, QiQ, Qjq, o11, o12, QiB, o11, QiN, QiI, QiC, o11, o12, QiE, o11, Qjr, QiK, Qiz, o11, o12, Qjm, QiW, Qiu, o11, o12, QjB, o11, Qjv, QiA, QjI, o11, o12, QkX, o11, QlE, Qlg, Qmh, o11, o12, QkT, o11, QlX, Qle, QkV, o11, o12, QlD, QkY, QlC, o11, o12, Qlb, Qlf, QkZ, o11, o12, Qlm, QlQ, Qll, o11, o12, Qlr, Qly, QlS, o11, o12, Qlz, o11, QlI, Qli, QlA, o11, o12, QkU, Qls, QkR, o11, o12, Qlu, Qme, QlG, o11, o12, Qke, o11, QjJ, Qkd, Qki, o11, o12, Qkk, o11, QkJ, Qkp, Qks, o11, o12, QjP, o11, QjY, QkB, QkG, o11, o12, Qkb, o11, QkC, QjN, QkK, o11, o12, Qkh, o11, Qkz, Qkg, QjW, o11, o12, Qkq, o11, Qkv, Qkm, QjQ, o11, o12, Qkx, o11, QkI, QjO, QkE, o11, o12, QkM, o11, Qkt, Qkr, Qky, o11, o12, QnS, o11, QmX, Qov, Qoj, o11, o12, Qos, QmR, Qoq, o11, o12, QnK, Qna, QnR, o11, o12, QmI, o11, Qnf, Qoe, QmS, o11, o12, QoK, QnV, QoL, o11, o12, QnI, QmV, Qon, o11, o12, QmM, o11, QmK, QmT, Qnx, o11, o12, Qng, o11, QnE, QoO, QnP, o11, o12, QoI, Qoa, QnY, o11, o12, Qom, Qnl, QnQ]⟩, lf⟩
noncomputable abbrev bE : List Stmt := behindTheImports pw
noncomputable def env0 : Env := { scope := pw.main.scope, locals := mainNs, globals := mainNs, cells := [], code := .ref 13, frame := some 14 }
noncomputable abbrev cE : Code := .body bE env0
noncomputable abbrev q0 : Pos := ⟨0, 0, 0, 0⟩
noncomputable abbrev ann : Option Value := some (.ref 6)
noncomputable abbrev D0 : Drawn := boot_drawn
noncomputable abbrev sh (h : Heap) (k : Nat) (os : OsState) : Shared := ⟨h, #[], D0, k, os⟩
noncomputable abbrev sT (t : BT) (n : Nat) (k : Nat) (os : OsState) : SharedT := ⟨t, n, lf, #[], D0, k, os⟩
noncomputable abbrev Bq : List Frame := [topFrame q0]
theorem QsZ (w : World) (os : OsState) : topGo treeTable pw w 11 ann 12 (sh (boot_heap w.params) boot_toks os) (topStub pw) = some (sh (hPre w.params) 187 os, ⟨denote treeTable cE, cE, ⟨0, 0, 0, 0⟩, Bq⟩) := by kernel_rfl
theorem QoU (w : World) (os : OsState) : segRun treeTable pw w 11 ann 1 1 (sh (hPre w.params) 187 os) (blockOf bE env0 cE ⟨0, 0, 0, 0⟩ Bq) = some (.next, (sT (tr0 w.params) 15 187 os).abs, cE, ⟨0, 0, 0, 0⟩) := by kernel_rfl
theorem seg1 (w : World) (os : OsState) : segRunT treeTable pw w 11 ann 1 206 (sT (tr0 w.params) 15 187 os) (piecesOf ((bE.drop 0).take 2) env0 cE ⟨0, 0, 0, 0⟩ Bq) = some (.next, sT (tr1 w.params) 28 209 os, cE, ⟨2, 0, 3, 8⟩) := by kernel_rfl
theorem seg2 (w : World) (os : OsState) : segRunT treeTable pw w 11 ann 1 214 (sT (tr1 w.params) 28 209 os) (piecesOf ((bE.drop 2).take 1) env0 cE ⟨2, 0, 3, 8⟩ Bq) = some (.next, sT (tr2 w.params) 40 225 os, cE, ⟨4, 0, 5, 8⟩) := by kernel_rfl
theorem seg3 (w : World) (os : OsState) : segRunT treeTable pw w 11 ann 1 214 (sT (tr2 w.params) 40 225 os) (piecesOf ((bE.drop 3).take 1) env0 cE ⟨4, 0, 5, 8⟩ Bq) = some (.next, sT (tr3 w.params) 52 241 os, cE, ⟨6, 0, 7, 8⟩) := by kernel_rfl
theorem seg4 (w : World) (os : OsState) : segRunT treeTable pw w 11 ann 1 276 (sT (tr3 w.params) 52 241 os) (piecesOf ((bE.drop 4).take 3) env0 cE ⟨6, 0, 7, 8⟩ Bq) = some (.next, sT (tr4 w.params) 78 275 os, cE, ⟨15, 0, 22, 16⟩) := by kernel_rfl
theorem seg5 (w : World) (os : OsState) : segRunT treeTable pw w 11 ann 1 284 (sT (tr4 w.params) 78 275 os) (piecesOf ((bE.drop 7).take 9) env0 cE ⟨15, 0, 22, 16⟩ Bq) = some (.next, sT (tr5 w.params) 134 375 os, cE, ⟨93, 0, 93, 8⟩) := by kernel_rfl
theorem seg6 (w : World) (os : OsState) : segRunT treeTable pw w 11 ann 1 290 (sT (tr5 w.params) 134 375 os) (piecesOf ((bE.drop 16).take 10) env0 cE ⟨93, 0, 93, 8⟩ Bq) = some (.next, sT (tr6 w.params) 197 459 os, cE, ⟨124, 0, 124, 8⟩) := by kernel_rfl
theorem seg7 (w : World) (os : OsState) : segRunT treeTable pw w 11 ann 1 298 (sT (tr6 w.params) 197 459 os) (piecesOf ((bE.drop 26).take 11) env0 cE ⟨124, 0, 124, 8⟩ Bq) = some (.next, sT (tr7 w.params) 254 546 os, cE, ⟨156, 0, 169, 33⟩) := by kernel_rfl
theorem seg8 (w : World) (os : OsState) : segRunT treeTable pw w 11 ann 1 281 (sT (tr7 w.params) 254 546 os) (piecesOf ((bE.drop 37).take 9) env0 cE ⟨156, 0, 169, 33⟩ Bq) = some (.next, sT (tr8 w.params) 313 632 os, cE, ⟨237, 0, 241, 16⟩) := by kernel_rfl
theorem seg9 (w : World) (os : OsState) : segRunT treeTable pw w 11 ann 1 276 (sT (tr8 w.params) 313 632 os) (piecesOf ((bE.drop 46).take 10) env0 cE ⟨237, 0, 241, 16⟩ Bq) = some (.next, sT (tr9 w.params) 364 714 os, cE, ⟨317, 0, 317, 8⟩) := by kernel_rfl
theorem Quc (w : World) (os : OsState) : segRunT treeTable pw w 11 ann 1 291 (sT (tr9 w.params) 364 714 os) (piecesOf ((bE.drop 56).take 9) env0 cE ⟨317, 0, 317, 8⟩ Bq) = some (.next, sT (tr10 w.params) 420 821 os, cE, ⟨379, 0, 383, 50⟩) := by kernel_rfl
theorem QtM (w : World) (os : OsState) : segRunT treeTable pw w 11 ann 1 285 (sT (tr10 w.params) 420 821 os) (piecesOf ((bE.drop 65).take 10) env0 cE ⟨379, 0, 383, 50⟩ Bq) = some (.next, sT (tr11 w.params) 478 897 os, cE, ⟨439, 0, 462, 104⟩) := by kernel_rfl
theorem Qtt (w : World) (os : OsState) : topRun treeTable pw w 11 ann 2 (sT (tr11 w.params) 478 897 os).abs ⟨doneF .next, cE, ⟨439, 0, 462, 104⟩, Bq⟩ = some (sh (hFin w.params) 897 os) := by kernel_rfl
theorem QoV : bE.drop 75 = [] := by kernel_rfl
theorem Qtn (w : World) (os : OsState) : topRun treeTable pw w 11 ann 2 (sT (tr11 w.params) 478 897 os).abs (restOf (bE.drop 75) env0 cE ⟨439, 0, 462, 104⟩ Bq) = some (sh (hFin w.params) 897 os) := by
 rw [QoV]; exact piece_nil (Qtt w os)
theorem Qtz (w : World) (os : OsState) : topRun treeTable pw w 11 ann 287 (sT (tr10 w.params) 420 821 os).abs (restOf (bE.drop 65) env0 cE ⟨379, 0, 383, 50⟩ Bq) = some (sh (hFin w.params) 897 os) := by
 have h := piece_app (n := 285) (N := 2) (rest := (bE.drop 65).drop 10) (segRun_of (QtM w os)) (by rw [List.drop_drop]; exact Qtn w os)
 rw [List.take_append_drop] at h; exact h
theorem Quh (w : World) (os : OsState) : topRun treeTable pw w 11 ann 578 (sT (tr9 w.params) 364 714 os).abs (restOf (bE.drop 56) env0 cE ⟨317, 0, 317, 8⟩ Bq) = some (sh (hFin w.params) 897 os) := by
 have h := piece_app (n := 291) (N := 287) (rest := (bE.drop 56).drop 9) (segRun_of (Quc w os)) (by rw [List.drop_drop]; exact Qtz w os)
 rw [List.take_append_drop] at h; exact h
theorem QtL (w : World) (os : OsState) : topRun treeTable pw w 11 ann 854 (sT (tr8 w.params) 313 632 os).abs (restOf (bE.drop 46) env0 cE ⟨237, 0, 241, 16⟩ Bq) = some (sh (hFin w.params) 897 os) := by
 have h := piece_app (n := 276) (N := 578) (rest := (bE.drop 46).drop 10) (segRun_of (seg9 w os)) (by rw [List.drop_drop]; exact Quh w os)
 rw [List.take_append_drop] at h; exact h
theorem Quy (w : World) (os : OsState) : topRun treeTable pw w 11 ann 1135 (sT (tr7 w.params) 254 546 os).abs (restOf (bE.drop 37) env0 cE ⟨156, 0, 169, 33⟩ Bq) = some (sh (hFin w.params) 897 os) := by
 have h := piece_app (n := 281) (N := 854) (rest := (bE.drop 37).drop 9) (segRun_of (seg8 w os)) (by rw [List.drop_drop]; exact QtL w os)
 rw [List.take_append_drop] at h; exact h
theorem QtW (w : World) (os : OsState) : topRun treeTable pw w 11 ann 1433 (sT (tr6 w.params) 197 459 os).abs (restOf (bE.drop 26) env0 cE ⟨124, 0, 124, 8⟩ Bq) = some (sh (hFin w.params) 897 os) := by
 have h := piece_app (n := 298) (N := 1135) (rest := (bE.drop 26).drop 11) (segRun_of (seg7 w os)) (by rw [List.drop_drop]; exact Quy w os)
 rw [List.take_append_drop] at h; exact h
theorem QtH (w : World) (os : OsState) : topRun treeTable pw w 11 ann 1723 (sT (tr5 w.params) 134 375 os).abs (restOf (bE.drop 16) env0 cE ⟨93, 0, 93, 8⟩ Bq) = some (sh (hFin w.params) 897 os) := by
 have h := piece_app (n := 290) (N := 1433) (rest := (bE.drop 16).drop 10) (segRun_of (seg6 w os)) (by rw [List.drop_drop]; exact QtW w os)
 rw [List.take_append_drop] at h; exact h
theorem QuD (w : World) (os : OsState) : topRun treeTable pw w 11 ann 2007 (sT (tr4 w.params) 78 275 os).abs (restOf (bE.drop 7) env0 cE ⟨15, 0, 22, 16⟩ Bq) = some (sh (hFin w.params) 897 os) := by
 have h := piece_app (n := 284) (N := 1723) (rest := (bE.drop 7).drop 9) (segRun_of (seg5 w os)) (by rw [List.drop_drop]; exact QtH w os)
 rw [List.take_append_drop] at h; exact h
theorem Quu (w : World) (os : OsState) : topRun treeTable pw w 11 ann 2283 (sT (tr3 w.params) 52 241 os).abs (restOf (bE.drop 4) env0 cE ⟨6, 0, 7, 8⟩ Bq) = some (sh (hFin w.params) 897 os) := by
 have h := piece_app (n := 276) (N := 2007) (rest := (bE.drop 4).drop 3) (segRun_of (seg4 w os)) (by rw [List.drop_drop]; exact QuD w os)
 rw [List.take_append_drop] at h; exact h
theorem Quq (w : World) (os : OsState) : topRun treeTable pw w 11 ann 2497 (sT (tr2 w.params) 40 225 os).abs (restOf (bE.drop 3) env0 cE ⟨4, 0, 5, 8⟩ Bq) = some (sh (hFin w.params) 897 os) := by
 have h := piece_app (n := 214) (N := 2283) (rest := (bE.drop 3).drop 1) (segRun_of (seg3 w os)) (by rw [List.drop_drop]; exact Quu w os)
 rw [List.take_append_drop] at h; exact h
theorem QtY (w : World) (os : OsState) : topRun treeTable pw w 11 ann 2711 (sT (tr1 w.params) 28 209 os).abs (restOf (bE.drop 2) env0 cE ⟨2, 0, 3, 8⟩ Bq) = some (sh (hFin w.params) 897 os) := by
 have h := piece_app (n := 214) (N := 2497) (rest := (bE.drop 2).drop 1) (segRun_of (seg2 w os)) (by rw [List.drop_drop]; exact Quq w os)
 rw [List.take_append_drop] at h; exact h
theorem Quk (w : World) (os : OsState) : topRun treeTable pw w 11 ann 2917 (sT (tr0 w.params) 15 187 os).abs (restOf (bE.drop 0) env0 cE ⟨0, 0, 0, 0⟩ Bq) = some (sh (hFin w.params) 897 os) := by
 have h := piece_app (n := 206) (N := 2711) (rest := (bE.drop 0).drop 2) (segRun_of (seg1 w os)) (by rw [List.drop_drop]; exact QtY w os)
 rw [List.take_append_drop] at h; exact h
theorem Qtb (w : World) (os : OsState) : topRun treeTable pw w 11 ann 2930 (sh (boot_heap w.params) boot_toks os) (topStub pw) = some (sh (hFin w.params) 897 os) :=
 go_top (n := 12) (N := 2918) (QsZ w os) (piece_block (n := 1) (N := 2917) (QoU w os) (Quk w os))
end
end Mine.H
end
section
set_option maxHeartbeats 8000000
namespace Mine
inductive Nu (h : Heap) (x : Str) (one : Bool) : Prop
 | mk (og : Obj) (es : Array DictEntry) (n : Nat) (a : Addr) (o : Obj) (m : Nat) (b : Addr) (ol : Obj) (j : Nat) (us : Array Value) (h1 : h.get? mainGlobals = some og) (h2 : og.data = .dict es n) (h3 : nsFind es x = some (.ref a))
  (h4 : h.get? a = some o) (h5 : o.cls = .type "tuple") (h6 : o.data = .seq #[.bool false, .ref b] m) (h7 : h.get? b = some ol) (h8 : ol.cls = .type "list") (h9 : ol.data = .seq us j) (h10 : (one = false ∧ us = #[]) ∨ (one = true ∧ ∃ t, us = #[.int 1 t]))
noncomputable def oO {α P : Type} (v : Option α) (f : ∀ a, v = some a → Option P) : Option P := match v, f with | some a, f => f a rfl | none, _ => none
noncomputable def Qui {P : Type} (v : Data) (f : ∀ es n, v = .dict es n → Option P) : Option P := if h : v.ctorIdx = (Data.dict #[] 0).ctorIdx then Data.dict.elim (motive := fun w => (∀ es n, w = .dict es n → Option P) → Option P) v h (fun a b g => g a b rfl) f else none
noncomputable def oSeq {P : Type} (v : Data) (f : ∀ es n, v = .seq es n → Option P) : Option P := if h : v.ctorIdx = (Data.seq #[] 0).ctorIdx then Data.seq.elim (motive := fun w => (∀ es n, w = .seq es n → Option P) → Option P) v h (fun a b g => g a b rfl) f else none
noncomputable def oRef {P : Type} (v : Value) (f : ∀ a, v = .ref a → Option P) : Option P := if h : v.ctorIdx = 10 then Value.ref.elim (motive := fun w => (∀ a, w = .ref a → Option P) → Option P) v h (fun a g => g a rfl) f else none
noncomputable def oInt {P : Type} (v : Value) (f : ∀ i t, v = .int i t → Option P) : Option P := if h : v.ctorIdx = 4 then Value.int.elim (motive := fun w => (∀ a b, w = .int a b → Option P) → Option P) v h (fun a b g => g a b rfl) f else none
noncomputable def QtN {P : Type} (v : Value) (f : ∀ b, v = .bool b → Option P) : Option P := if h : v.ctorIdx = 3 then Value.bool.elim (motive := fun w => (∀ a, w = .bool a → Option P) → Option P) v h (fun a g => g a rfl) f else none
noncomputable def oTy {P : Type} (T : String) (v : Value) (f : v = .type T → Option P) : Option P := if h : v.ctorIdx = 8 then Value.type.elim (motive := fun w => (w = .type T → Option P) → Option P) v h (fun a g => if e : a = T then g (congrArg _ e) else none) f else none
noncomputable def oL0 {α P : Type} (v : Array α) (f : v = #[] → Option P) : Option P := match v, f with | ⟨[]⟩, f => f rfl | ⟨_ :: _⟩, _ => none
noncomputable def oL1 {α P : Type} (v : Array α) (f : ∀ a, v = #[a] → Option P) : Option P := match v, f with | ⟨[a]⟩, f => f a rfl | ⟨[]⟩, _ => none | ⟨_ :: _ :: _⟩, _ => none
noncomputable def oL2 {α P : Type} (v : Array α) (f : ∀ a b, v = #[a, b] → Option P) : Option P := match v, f with | ⟨[a, b]⟩, f => f a b rfl | ⟨[]⟩, _ => none | ⟨[_]⟩, _ => none | ⟨_ :: _ :: _ :: _⟩, _ => none
noncomputable def QtR (us : Array Value) : (one : Bool) → Option (PLift ((one = false ∧ us = #[]) ∨ (one = true ∧ ∃ t, us = #[.int 1 t])))
 | false => oL0 us fun e => some ⟨.inl ⟨rfl, e⟩⟩
 | true => oL1 us fun a e => oInt a fun i t e2 => if q : i = 1 then some ⟨.inr ⟨rfl, t, by rw [e, e2, q]⟩⟩ else none
noncomputable def nuF (h : Heap) (x : Str) (one : Bool) : Option (PLift (Nu h x one)) :=
 oO (h.get? mainGlobals) fun og h1 => Qui og.data fun es n h2 => oO (nsFind es x) fun v h3 => oRef v fun a q => oO (h.get? a) fun o h4 => oTy "tuple" o.cls fun h5 => oSeq o.data fun vs m h6 => oL2 vs fun c d r => QtN c fun z r2 => oRef d fun b r3 =>
  oO (h.get? b) fun ol h7 => oTy "list" ol.cls fun h8 => oSeq ol.data fun us j h9 => oO (QtR us one) fun p _ => if w : z = false then some ⟨⟨og, es, n, a, o, m, b, ol, j, us, h1, h2, h3.trans (congrArg some q), h4, h5, by rw [h6, r, r2, r3, w], h7, h8, h9, p.down⟩⟩ else none
noncomputable def nuOk (h : Heap) (x : Str) (one : Bool) : Bool := (nuF h x one).isSome
theorem Qtw {h : Heap} {x : Str} {one : Bool} (e : nuOk h x one = true) : Nu h x one := ((nuF h x one).get e).down
theorem Nu.keeps {h h' : Heap} {x : Str} {one : Bool} (n : Nu h x one) (k : ∀ b o, h.get? b = some o → h'.get? b = some o) : Nu h' x one := by
 obtain ⟨og, es, n, a, o, m, b, ol, j, us, h1, h2, h3, h4, h5, h6, h7, h8, h9, h10⟩ := n
 exact ⟨og, es, n, a, o, m, b, ol, j, us, k _ _ h1, h2, h3, k _ _ h4, h5, h6, k _ _ h7, h8, h9, h10⟩
noncomputable def QaL : Hook :=
 ⟨Bool, fun s => nuOk s.heap "NOUGHT" false && nuOk s.heap "UNIT" true, fun _ => true, fun _ h => Nu h "NOUGHT" false ∧ Nu h "UNIT" true,
  fun _ s e => by rw [Bool.and_eq_true] at e; exact ⟨Qtw e.1, Qtw e.2⟩, fun _ h h' n k => ⟨n.1.keeps k, n.2.keeps k⟩⟩
namespace H
noncomputable def vw : Program := view pw [1, 2, 3, 4, 5, 6, 7, 8, 9, 10, 11, 12, 13, 14, 16, 17, 18, 19, 20, 21, 22, 23, 24, 26, 27, 28, 29, 30, 31, 32, 33, 34, 35, 36, 37, 38, 39, 40, 41, 42, 43, 44, 45, 46, 47, 48, 49, 50, 51, 52, 53, 54, 56, 57, 58, 59, 60, 61, 62, 64, 65, 66, 67, 68, 69, 70, 71, 72, 73, 74]
noncomputable abbrev lo : List Str := [Str.ofString "NOUGHT", Str.ofString "UNIT"]
noncomputable abbrev xt : Shared → Bool := fun s => xlAt vw [] s && recOk (RowW.records PySem.Challenge.rw_sa0350_01.row.toRowW) s
noncomputable abbrev sE (w : World) (os : OsState) : Shared := sh (hFin w.params) 897 os
theorem Qro : ∀ w : World, (fencedOpening treeTable pw w 5934).map (fun s => (s.heap, s.gens, s.drawn, s.toks)) = some (boot_heap w.params, Array.mk [], boot_drawn, boot_toks) :=
 boot_open (by kernel_rfl) (by decide) (fun s => by kernel_rfl)
theorem Qrm (w : World) : ((boot_heap w.params).isNs mainGlobals && (Array.mk [] : Array GenState).size == 0, (boot_heap w.params).objs.size, (boot_heap w.params).nsMap mainGlobals "__annotations__") = (true, 11, ann) := by kernel_rfl
theorem l1 (w : World) (os : OsState) : staticsOk (importedModules pw.main.body) (boot_heap w.params) (hFin w.params) = true := by kernel_rfl
theorem l2 (w : World) (os : OsState) : namesBound pw (hFin w.params) = true := by kernel_rfl
theorem l3 (w : World) (os : OsState) : gensDone (sE w os) = true := by kernel_rfl
theorem l4 (w : World) (os : OsState) : laidKept (boot_heap w.params) (hFin w.params) = true := by kernel_rfl
theorem c1 (w : World) (os : OsState) : seen ((recsOf vw).map (·.name)) (ownsOf vw) [] { sE w os with gens := #[] } = expectedOf vw := by kernel_rfl
theorem c2 (w : World) (os : OsState) : (sE w os).heap.bltView = bltViewBooted := by kernel_rfl
theorem c3a (w : World) (os : OsState) : (sE w os).heap.keysOk (looseW vw lo) ((recsOf vw).map (·.name)) ((litsOf vw).map (·.1)) ((clssOf vw (looseW vw lo)).map (·.name)) = true := by kernel_rfl
theorem c3b (w : World) (os : OsState) : (sE w os).heap.accountedOkI (importedModules pw.main.body) = true := by kernel_rfl
theorem c3c (w : World) (os : OsState) : (sE w os).heap.isNs mainGlobals = true := by kernel_rfl
theorem c3d (w : World) (os : OsState) : (sE w os).heap.isNs builtinsNs = true := by kernel_rfl
theorem c3e (w : World) (os : OsState) : tablesOk vw (sE w os).heap = true := by kernel_rfl
theorem c3f (w : World) (os : OsState) : xt (sE w os) = true := by kernel_rfl
theorem c3g (w : World) (os : OsState) : (if true then (sE w os).gens.size == 0 else !leftWithCleanup (sE w os).gens) = true := by kernel_rfl
theorem c4 (w : World) (os : OsState) : tabsOk vw (sE w os) = true := by kernel_rfl
theorem c5 (w : World) (os : OsState) : pinSeenD vw (drecsOf vw) (sE w os) = pinGoodD (drecsOf vw) := by kernel_rfl
theorem c6 (w : World) (os : OsState) : plainSeenE vw (looseW vw lo) (sE w os) = plainGoodE vw (looseW vw lo) := by kernel_rfl
theorem c7 (w : World) (os : OsState) : plainSeenD vw lo (sE w os) = plainGoodD vw lo := by kernel_rfl
theorem c8 (w : World) (os : OsState) : wideSeen vw (sE w os) = wideGood vw := by kernel_rfl
theorem c9 (w : World) (os : OsState) : clsSeenW vw lo (sE w os) = clsGoodW vw lo := by kernel_rfl
theorem y1 (w : World) (os : OsState) : QaL.obs (sE w os) = QaL.val w := by kernel_rfl
theorem QrH (w : World) (os : OsState) : openSeen vw lo (importedModules pw.main.body) xt true (sE w os) = openGood vw lo := by
 unfold openSeen openGood
 rw [c1, c2, c3a, c3b, c3c, c3d, c3e, c3f, c3g, c4, c5, c6, c7, c8, c9]
 rfl
theorem Qpk (w : World) : (fun os => ((staticsOk (importedModules pw.main.body) (boot_heap w.params) (hFin w.params) && namesBound pw (hFin w.params) && gensDone ⟨hFin w.params, Array.mk [], boot_drawn, 897, os⟩ && laidKept (boot_heap w.params) (hFin w.params)),
    openSeen vw lo (importedModules pw.main.body) xt true ⟨hFin w.params, Array.mk [], boot_drawn, 897, os⟩, QaL.obs ⟨hFin w.params, Array.mk [], boot_drawn, 897, os⟩)) = fun _ => (true, openGood vw lo, QaL.val w) := by
 funext os
 have a : gensDone ⟨hFin w.params, Array.mk [], boot_drawn, 897, os⟩ = true := l3 w os
 have b : openSeen vw lo (importedModules pw.main.body) xt true ⟨hFin w.params, Array.mk [], boot_drawn, 897, os⟩ = openGood vw lo := QrH w os
 have c : QaL.obs ⟨hFin w.params, Array.mk [], boot_drawn, 897, os⟩ = QaL.val w := y1 w os
 rw [l1 w os, l2 w os, a, l4 w os, b, c]
 rfl
theorem left : LeftO pw vw lo xt QaL.obs QaL.val 5934 :=
 LeftO.of_pieces (m₀ := 11) (ann := ann) (M := 2930) Qro Qrm Qtb (by decide) Qpk
end H
end Mine
end
section
set_option maxHeartbeats 4000000
namespace Mine
noncomputable def Qtf (r : DefRec) : DefR := ⟨r.name, r.params, r.body, r.scope⟩
noncomputable def QqZ : List DefR := (recsOf H.vw).map Qtf
noncomputable def QbL : List DefR := QqZ ++ (QqZ[20]?).toList
noncomputable def fmV : List Str := QbL.map (·.name)
theorem QqO : specOf H.vw "NoInverse" = some ("Exception.__new__", [.type "Exception", .type "BaseException", .type "object"]) := by decide +kernel
theorem QrX {h : Heap} {mg : Str → Option Value} {x : Str} {og : Obj} {es : Array DictEntry} {n : Nat} {v : Value} (G : h.Ns mainGlobals mg) (h1 : h.get? mainGlobals = some og) (h2 : og.data = .dict es n) (h3 : nsFind es x = some v) : mg x = some v := by
 obtain ⟨o, es', ep, ho, hd, _, hf⟩ := G
 rw [h1] at ho
 cases ho
 rw [h2] at hd
 cases hd
 rw [← hf]; exact h3
noncomputable def faV (mg : Str → Option Value) (d : Addr) (k : Nat) : Addr :=
 match fmV[k]? with
 | some x => (match mg x with | some (.ref a) => a | _ => d)
 | none => d
section
variable {prog : Program} {w : World} {mg mb : Str → Option Value} {h : Heap} {loose : List Str} {mean : ExcName → Option Value} {fa : Addr} {o : Obj} {fd : FuncData}
theorem QmW (T : Top H.vw loose mean mg mb h) {k : Nat} {d : DefR} (hd' : QbL[k]? = some d) :
  ∃ a o pm code doc, mg d.name = some (.ref a) ∧ h.get? a = some o ∧ o.data = .func (docDef d.name d.params d.body d.scope pm code doc) ∧ h.CodeRec code d.name := by
 have hm : d ∈ QqZ := by
  have := List.mem_of_getElem? hd'
  unfold QbL at this
  rcases List.mem_append.mp this with h | h
  ·exact h
  ·rw [Option.mem_toList] at h
   exact List.mem_of_getElem? h
 obtain ⟨r, hr, rfl⟩ := List.mem_map.mp hm
 exact T.fn r hr
theorem QrP (T : Top H.vw loose mean mg mb h) (hl : loose = looseW H.vw [Str.ofString "NOUGHT", Str.ofString "UNIT"]) {x : Str} {v : Value} (hv : QbG x = some v) : mg x = none ∧ mb x = some v := by
 subst hl
 have hx : x ∈ (["len", "abs", "sum", "any", "min", "pow", "range", "enumerate", "reversed", "int"] : List Str) := by
  unfold QbG at hv
  have := mem_of_lookup hv
  simp only [List.mem_cons, Prod.mk.injEq, List.not_mem_nil, or_false] at this ⊢
  rcases this with h | h | h | h | h | h | h | h | h | h <;> simp [h.1]
 have chkf : (["len", "abs", "sum", "any", "min", "pow", "range", "enumerate", "reversed", "int"] : List Str).all (fun x => !startupNames.contains x && !(looseW H.vw [Str.ofString "NOUGHT", Str.ofString "UNIT"]).contains x &&
  !((recsOf H.vw).map (·.name)).contains x && !((litsOf H.vw).map (·.1)).contains x && !((clssOf H.vw (looseW H.vw [Str.ofString "NOUGHT", Str.ofString "UNIT"])).map (·.name)).contains x && !(x == "__name__")) = true := by decide +kernel
 have := List.all_eq_true.mp chkf x hx
 simp only [Bool.and_eq_true, Bool.not_eq_true', List.contains_eq_mem, decide_eq_false_iff_not, beq_eq_false_iff_ne] at this
 obtain ⟨⟨⟨⟨⟨h1, h2⟩, h3⟩, h4⟩, h5⟩, h6⟩ := this
 refine ⟨T.free x h1 h2 h3 h4 h5, (T.builtins x h6).trans ?_⟩
 simp only [List.mem_cons, List.not_mem_nil, or_false] at hx
 rcases hx with rfl | rfl | rfl | rfl | rfl | rfl | rfl | rfl | rfl | rfl <;> (cases hv; first | rfl | decide +kernel)
theorem Qst (T : Top H.vw loose mean mg mb h) (hl : loose = looseW H.vw [Str.ofString "NOUGHT", Str.ofString "UNIT"]) (X : QaL.says w h) (ho : h.get? fa = some o) (hdat : o.data = .func fd) :
  ∃ C, Bs ⟨prog, w, faV mg fa, h, mg, mb, C, fmV, QbL⟩ := by
 obtain ⟨C, O, _⟩ := T.ownAt QqO
 have hfn : ∀ (k : Nat) (x : Str), fmV[k]? = some x → ∃ d, QbL[k]? = some d ∧ d.name = x := fun k x hx => by
  unfold fmV at hx
  rw [List.getElem?_map] at hx
  obtain ⟨d, h1, h2⟩ := Option.map_eq_some_iff.mp hx
  exact ⟨d, h1, h2⟩
 have hfa : ∀ (k : Nat) (x : Str) (a : Addr), fmV[k]? = some x → mg x = some (.ref a) → faV mg fa k = a := fun k x a hx hm => by
  unfold faV; rw [hx]; simp only [hm]
 refine ⟨C, ⟨T.g, T.b, T.nolimit, fun k x hx => ?_, fun k => ?_, fun k d hd' => ?_, fun b => ?_, fun x v hv => QrP T hl hv, O.own⟩⟩
 ·obtain ⟨d, h1, rfl⟩ := hfn k x hx
  obtain ⟨a, _, _, _, _, hm, _⟩ := QmW T h1
  show mg d.name = some (.ref (faV mg fa k)); rw [hm, hfa k _ a hx hm]
 ·cases hx : fmV[k]? with
  | none => exact ⟨o, fd, by show h.get? (faV mg fa k) = _; unfold faV; rw [hx]; exact ho, hdat⟩
  | some x =>
   obtain ⟨d, h1, rfl⟩ := hfn k x hx
   obtain ⟨a, o', _, _, _, hm, e, e2, _⟩ := QmW T h1
   exact ⟨o', _, by show h.get? (faV mg fa k) = _; rw [hfa k _ a hx hm]; exact e, e2⟩
 ·obtain ⟨a, o', pm, code, doc, hm, e, e2, e3⟩ := QmW T hd'
  have hx : fmV[k]? = some d.name := by unfold fmV; rw [List.getElem?_map, hd']; rfl
  exact ⟨o', pm, code, doc, by show h.get? (faV mg fa k) = _; rw [hfa k _ a hx hm]; exact e, e2, e3⟩
 ·cases b with
  | false =>
   obtain ⟨og, es, n, a, o, m, b, ol, j, us, h1, h2, h3, h4, h5, h6, h7, h8, h9, h10⟩ := X.1
   rcases h10 with ⟨_, rfl⟩ | ⟨h10, _⟩
   ·exact ⟨.ref a, QrX T.g h1 h2 h3, .tup h4 ⟨h5, m, h6⟩ (.cons (.bool _) (.cons (.list h7 ⟨h8, j, h9⟩ .nil (by simp)) .nil)) (by simp)⟩
   ·cases h10
  | true =>
   obtain ⟨og, es, n, a, o, m, b, ol, j, us, h1, h2, h3, h4, h5, h6, h7, h8, h9, h10⟩ := X.2
   rcases h10 with ⟨h10, _⟩ | ⟨_, t, rfl⟩
   ·cases h10
   ·exact ⟨.ref a, QrX T.g h1 h2 h3, .tup h4 ⟨h5, m, h6⟩ (.cons (.bool _) (.cons (.list h7 ⟨h8, j, h9⟩ (.cons (.int _ _) .nil) (by simp)) .nil)) (by simp)⟩
end
theorem QqC : QbL.length = tblL.length := by decide +kernel
theorem Qry : (List.zip QbL tblL).all (fun p => Qph p.1 p.2) = true := by decide +kernel
theorem Qrq {prog : Program} {w : World} {mg mb : Str → Option Value} {h : Heap} {fa : Nat → Addr} {C : Addr} {n : Nat} {cl : Qh} (B : Bs ⟨prog, w, fa, h, mg, mb, C, fmV, QbL⟩) (hc : SC ⟨prog, w, fa, h, mg, mb, C, fmV, QbL⟩ n cl) :
  (List.zip QbL tblL).all (fun p => (ckBk (fm := fmV) B hc rfl (Qmp p.1.scope p.2.vis (p.2.np + p.2.ns)) p.2.body p.1.body).isSome) = true := by kernel_rfl
theorem Qrh {prog : Program} {w : World} {mg mb : Str → Option Value} {h : Heap} {fa : Nat → Addr} {C : Addr} (B : Bs ⟨prog, w, fa, h, mg, mb, C, fmV, QbL⟩) : QsN ⟨prog, w, fa, h, mg, mb, C, fmV, QbL⟩ tb := by
 intro k f hf
 have hk : k < tblL.length := (List.getElem?_eq_some_iff.mp hf).1
 have hk' : k < QbL.length := QqC ▸ hk
 have hz : (QbL[k], f) ∈ List.zip QbL tblL := by
  refine List.mem_iff_getElem?.mpr ⟨k, ?_⟩
  rw [List.getElem?_zip_eq_some]
  exact ⟨List.getElem?_eq_getElem hk', hf⟩
 exact ⟨QbL[k], List.getElem?_eq_getElem hk', List.all_eq_true.mp Qry _ hz, fun n cl hsc => Ck.get (List.all_eq_true.mp (Qrq B hsc) _ hz)⟩
theorem Qib {F : Fz} : ∀ {vs : List Value} {is : List Int}, IntsAre vs is → RepL F vs (is.map PyData.int)
 | _, _, .nil => .nil
 | _, _, .cons _ _ r => .cons (.int _ _) (Qib r)
theorem QrE {prog : Program} {w : World} {mg mb : Str → Option Value} {s₁ : Shared} {loose : List Str} {mean : ExcName → Option Value} {fa : Addr} {o : Obj} {fd : FuncData} {L : Addr} {vs : List Value} {is : List Int} {R' : Result → Shared → Prop}
  (T : Top H.vw loose mean mg mb s₁.heap) (hl : loose = looseW H.vw [Str.ofString "NOUGHT", Str.ofString "UNIT"]) (X : QaL.says w s₁.heap) (ho : s₁.heap.get? fa = some o) (hdat : o.data = .func fd)
  (hmg : mg "law" = some (.ref fa)) (hL : s₁.heap.IsList L vs.toArray) (hI : IntsAre vs is) (hlen : is.length ≤ 63)
  (hrun : Qc tb 20 63 [.d (.list (is.map PyData.int))] [] = .ok (.bool true) [])
  (h : ∀ s', (∀ b o, s₁.heap.get? b = some o → s'.heap.get? b = some o) → s'.os = s₁.os → s'.gens = s₁.gens → R' (.ok (.ret (.bool true))) s') :
  codeAny (model prog w) callerA (.call (.ref fa) ⟨[.ref L], []⟩) R' s₁ := by
 obtain ⟨C, B⟩ := Qst (prog := prog) T hl X ho hdat
 have sc := Qqi B (Qrh B) 20
 have h63 : fmV[63]? = some (Str.ofString "law") := by decide +kernel
 have hfa : faV mg fa 63 = fa := by unfold faV; rw [h63]; simp only [hmg]
 have rh : RH (faV mg fa) s₁.heap s₁.heap.get? [] [] s₁.heap := ⟨fun _ _ e => e, fun _ _ e => e, rfl, List.nodup_nil, fun n a xs h1 _ => by simp at h1⟩
 obtain ⟨oL, eL, cL, nL, dL⟩ := hL
 have hvl : vs.length = is.length := by have := (Qib (F := s₁.heap.get?) hI).length; simpa using this
 have rep : RepVs (faV mg fa) s₁.heap.get? [] [.ref L] [.d (.list (is.map PyData.int))] := .cons (.d (.list eL ⟨cL, nL, dL⟩ (Qib hI) (by simp; omega))) .nil
 have := sc 63 [] callerA s₁.heap.get? [] [] s₁ [.ref L] [.d (.list (is.map PyData.int))] R' ⟨rfl, by decide +kernel, by decide +kernel, rfl⟩ rh (fun _ he => by simp at he) rep (by
  rw [hrun]
  intro v F' s' g rh' r
  cases r
  exact h s' (fun b o e => rh'.le b o (rh'.base b o e)) g.os g.gens)
 rw [show (Kx.fa ⟨prog, w, faV mg fa, s₁.heap, mg, mb, C, fmV, QbL⟩ 63) = fa from hfa] at this
 exact this
end Mine
end
section
set_option maxHeartbeats 8000000
namespace Mine
namespace H
theorem QtA (said : PySem.Challenge.rw_sa0350_01.row.wellSaid = true) : PySem.Challenge.rw_sa0350_01.row.Holds := by
 refine holds_open (q := vw) (loose := lo) (Xt := xt) (XP := XL vw []) (Yf := QaL.obs) (Ya := QaL.val) (YP := QaL.says) (N := 5934) left QaL.of QaL.keeps (fun s e => xl_of s (Bool.and_eq_true_iff.mp e).1) XL.keeps (by rfl) (by rfl) (by rfl) (fun s e => recFacts_of (Bool.and_eq_true_iff.mp e).2) (by rfl) said (by decide +kernel) ⟨rfl, rfl, rfl, rfl, rfl, by decide +kernel⟩ ?hw ?hc
 case hw => (w_on; w_witness2)
 case hc =>
  intro w s₀ s₁ mg mb G Y fa o pm cd doc dV kV ho hd hcd hD hmg hg args vals as hpre hlay hrd hwl hlo
  refine Ground.open G ?_
  intro T B D TE TW
  try (refine guard_noD D (by decide +kernel) ?_; clear D)
  wrow_args hpre hlay hrd hwl hlo
  all_goals first | refine callC_kw (enter_call ?_) | refine enter_call ?_ | refine callC_kw (enter_callW ?_) | refine enter_callW ?_ | w_how
  all_goals w_top on
  all_goals try refine codeAny_mono ?_ (fun _ _ g => GoodW.toG g)
  rename_i is _ _ _ _ _ _ _ L vs _ hL _ _ _ hI _ hlen _
  refine QrE T rfl Y ho hd hmg hL hI (by omega) (QsW is) fun s' hk hos hgn => ?_
  refine ⟨.inl ⟨_, .bool true, [], rfl, fun _ => (by first | rfl | kernel_rfl | with_unfolding_all rfl), .bool true, (by first | kernel_rfl | with_unfolding_all rfl | decide), fun _ => ⟨List.nodup_nil, fun a ha => by cases ha⟩⟩, hk, hos, hgn.trans hg⟩
theorem QqH : PySem.Challenge.rw_sa0350_01.wellSaid = true := by
 unfold OpenLaw.wellSaid
 repeat' with_reducible refine look_both ?_ ?_
 all_goals try unfold OpenRow.wellSaid
 all_goals repeat' with_reducible refine look_both ?_ ?_
 all_goals try unfold OpenRow.partSaid
 all_goals repeat' with_reducible refine look_both ?_ ?_
 all_goals try unfold looksOpen
 all_goals repeat' with_reducible refine look_both ?_ ?_
 all_goals decide +kernel
theorem go : PySem.Challenge.rw_sa0350_01.Holds := holds_law QqH QtA
end H
end Mine
end

theorem PySem.Challenge.cw_sa0350_01_holds : PySem.Challenge.rw_sa0350_01.Holds :=
 Mine.H.go
