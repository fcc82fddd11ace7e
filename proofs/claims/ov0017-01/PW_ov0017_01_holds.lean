import PyProof.Rows.All
import Wide.All
import OpenK.AllK
import Wide.FinOn
import PySem.Challenge.RW_ov0017_01
open PySem PySem.W PyProof.Rows
set_option Elab.async true
set_option maxRecDepth 100000
set_option linter.unusedVariables false
set_option linter.unusedSimpArgs false
set_option genInjectivity false
set_option genSizeOf false
local macro_rules | `(tactic| omega) => `(tactic| first | lia | omega (config := {}))
set_option genSizeOf false
namespace Mine
theorem nbl {a b : Nat} (h : Nat.ble a b = true) : a ≤ b := Nat.le_of_ble_eq_true h
set_option genInjectivity true
inductive V where
  | none
  | bool (b : Bool)
  | int (i : Int)
  | str (s : Str)
  | ref (a : Addr)
  deriving DecidableEq, Inhabited
inductive Cls where
  | arr | rf | absent | host | frame
  deriving DecidableEq
inductive O where
  | inst (c : Cls) (d : Addr) (fs : List V)
  | hid (owner : Addr)
  | lst (vs : List V)
  | tup (vs : List V)
  | dct
  | fro (vs : List V)
noncomputable def O.frozen : O → Bool
  | .fro _ => true
  | _ => false
noncomputable abbrev Hp := Addr → Option O
noncomputable def upd (H : Hp) (a : Addr) (o : O) : Hp := fun b => if b = a then some o else H b
theorem upd_self {H : Hp} {a : Addr} {o : O} : upd H a o a = some o := if_pos rfl
theorem upd_ne {H : Hp} {a b : Addr} {o : O} (h : b ≠ a) : upd H a o b = H b := if_neg h
theorem upd_ne' {H : Hp} {a b : Addr} {o o' : O} (hb : H b = some o') (ha : H a = .none) : upd H a o b = some o' := by
  rw [upd_ne]
  · exact hb
  · rintro rfl; rw [ha] at hb; cases hb
noncomputable def fieldNames : List String := ["is_packed", "keys", "vals", "heads", "nexts", "size", "count", "next", "at", "is_shared", "walks", "value", "holders", "types", "was_unset", "", "", "", "", "",
  "tools", "evals", "execs", "top", "frame", "notes", "silent", "parts", "buffers", "depth", "limit", "spent", "fuel", "handles", "classes", "functions", "constants", "autoload_order", "made", "is_strict",
  "func", "this", "cls", "static", "vars", "args"]
noncomputable def fname (f : Nat) : Str := Str.ofString (fieldNames.getD f "")
noncomputable def lay : Cls → List Nat
  | .arr => [0, 1, 2, 3, 4, 5, 6, 7, 8, 9, 10]
  | .rf => [11, 12, 13]
  | .absent => [14]
  | .host => [20, 21, 22, 23, 24, 25, 26, 27, 28, 29, 30, 31, 32, 33, 34, 35, 36, 37, 38, 39]
  | .frame => [40, 41, 42, 43, 44, 45]
noncomputable def fbase : Cls → Nat
  | .arr => 0
  | .rf => 11
  | .absent => 14
  | .host => 20
  | .frame => 40
noncomputable def fnum : Cls → Nat
  | .arr => 11
  | .rf => 3
  | .absent => 1
  | .host => 20
  | .frame => 6
noncomputable def fidx (c : Cls) (f : Nat) : Option Nat := if fbase c ≤ f ∧ f < fbase c + fnum c then some (f - fbase c) else none
inductive Kd where
  | int | bool | str | tuple | arr | rf | absent | obj
  deriving DecidableEq
set_option genInjectivity false
mutual
inductive ME where
  | var (i : Nat)
  | cst (v : V)
  | attr (e : ME) (f : Nat)
  | bin (op : Operator) (a b : ME)
  | neg (a : ME)
  | cmp (op : CmpOp) (a b : ME)
  | cmp2 (a : ME) (p : CmpOp) (b : ME) (q : CmpOp) (c : ME)
  | and (a b : ME)
  | or (a b : ME)
  | not (a : ME)
  | ite (c a b : ME)
  | idx (a i : ME)
  | slc (a lo hi : ME)
  | sto (a hi : ME)
  | sfr (a lo : ME)
  | lst (es : MEs)
  | tup (es : MEs)
  | dct
  | call (f : Nat) (es : MEs)
  | meth (o : ME) (f : Nat) (es : MEs)
  | new (c : Cls) (es : MEs)
  | isi (e : ME) (k : Kd)
  | len (e : ME)
  | ord (e : ME)
  | strI (e : ME)
  | repr (e : ME)
  | listOf (e : ME)
  | listR (e : ME)
  | tupleOf (e : ME)
  | dictOf (e : ME)
  | max (e : ME)
  | min (a b : ME)
  | join (s e : ME)
  | replace (s a b : ME)
  | append (l x : ME)
  | pop (l : ME)
  | comp (ts : List Nat) (src : ME) (cond : ME) (elt : ME)
  | compR (ts : List Nat) (n : ME) (cond : ME) (elt : ME)
  | dead
inductive MEs where
  | nil
  | cons (e : ME) (r : MEs)
end
inductive MS where
  | skip
  | seq (s r : MS)
  | expr (e : ME)
  | asg (i : Nat) (e : ME)
  | asgC (i : Nat) (ts : List Nat) (src c a : ME)
  | asgCR (i : Nat) (ts : List Nat) (n c a : ME)
  | asgA (o : ME) (f : Nat) (e : ME)
  | asgI (o i e : ME)
  | asgT (i j : Nat) (e : ME)
  | asg2 (i j : Nat) (a b : ME)
  | aug (i : Nat) (op : Operator) (e : ME)
  | augA (o : ME) (f : Nat) (op : Operator) (e : ME)
  | ife (c : ME) (s t : MS)
  | wh (c : ME) (s : MS)
  | for_ (ts : List Nat) (src : ME) (s : MS)
  | forR (ts : List Nat) (n : ME) (s : MS)
  | forR2 (ts : List Nat) (m n : ME) (s : MS)
  | ret (e : ME)
  | dead
theorem dbl {z : Nat} : (z : Int) * 2 = ((2 * z : Nat) : Int) := Int.mul_comm _ _
theorem dbl_of {n k s : Nat} (h : k = n ∨ k = 2 * n ∧ n ≤ s) {c : Nat} (hn : n ≤ c) (h0 : 0 < n) : 0 < k ∧ k ≤ 2 * c := by
  rcases h with rfl | ⟨rfl, _⟩
  · exact ⟨h0, Nat.le_trans hn (Nat.le_mul_of_pos_left c (by decide))⟩
  · exact ⟨Nat.mul_pos (by decide) h0, Nat.mul_le_mul_left 2 hn⟩
theorem n64 {n k : Nat} (h : n ≤ k) (hk : Nat.ble k 100000 = true := by rfl) : (n : Int).natAbs < 2 ^ 64 := Nat.lt_of_le_of_lt h (Nat.lt_of_le_of_lt (Nat.le_of_ble_eq_true hk) (by decide))
theorem n24 {n k : Nat} (h : n ≤ k) (hk : Nat.ble k 100000 = true := by rfl) : n < 2 ^ 24 := Nat.lt_of_le_of_lt h (Nat.lt_of_le_of_lt (Nat.le_of_ble_eq_true hk) (by decide))
theorem cap_le {m : Nat} (h : m ≤ 100) : max 16 (4 * m) ≤ 400 := Nat.max_le.mpr ⟨by decide, Nat.mul_le_mul_left 4 h⟩
theorem cap_up {m : Nat} : max 16 (4 * m) ≤ max 16 (4 * (m + 1)) := Nat.max_le.mpr ⟨Nat.le_max_left _ _, Nat.le_trans (Nat.mul_le_mul_left 4 (Nat.le_succ m)) (Nat.le_max_right _ _)⟩
theorem cap2 {m s : Nat} (h : s ≤ 2 * max 16 (4 * m)) (hm : m ≤ 100) : s ≤ 800 := Nat.le_trans h (Nat.mul_le_mul_left 2 (cap_le hm))
theorem cap2_up {m s : Nat} (h : s ≤ 2 * max 16 (4 * m)) : s ≤ 2 * max 16 (4 * (m + 1)) := Nat.le_trans h (Nat.mul_le_mul_left 2 cap_up)
theorem cap_dbl {m s : Nat} (h : s ≤ m) : 2 * s ≤ 2 * max 16 (4 * m) := Nat.mul_le_mul_left 2 (Nat.le_trans h (Nat.le_trans (Nat.le_mul_of_pos_left m (by decide)) (Nat.le_max_right _ _)))
universe u
noncomputable def V.cs {α : Sort u} (v : V) (n : α) (b : Bool → α) (i : Int → α) (s : Str → α) (r : Addr → α) : α := @V.casesOn (fun _ => α) v n b i s r
noncomputable def no {α β : Type} : β → Option α := fun _ => .none
noncomputable def V.rf {α : Type} (v : V) (k : Addr → Option α) : Option α := v.cs .none no no no k
noncomputable def O.cs {α : Type} (o : Option O) (i : Cls → Addr → List V → Option α) (l t f : List V → Option α) : Option α := @Option.casesOn O (fun _ => Option α) o .none fun o => @O.casesOn (fun _ => Option α) o i no l t .none f
noncomputable def noI {α : Type} : Cls → Addr → List V → Option α := fun _ _ _ => .none
theorem rf_some {α : Type} {v : V} {k : Addr → Option α} {x : α} (e : v.rf k = some x) : ∃ a, v = .ref a ∧ k a = some x := by
  cases v with
  | ref a => exact ⟨a, rfl, e⟩
  | _ => cases e
inductive OC {α : Type} (i : Cls → Addr → List V → Option α) (l t f : List V → Option α) (x : α) : Option O → Prop
  | inst {c d fs} (e : i c d fs = some x) : OC i l t f x (some (.inst c d fs))
  | lst {vs} (e : l vs = some x) : OC i l t f x (some (.lst vs))
  | tup {vs} (e : t vs = some x) : OC i l t f x (some (.tup vs))
  | fro {vs} (e : f vs = some x) : OC i l t f x (some (.fro vs))
theorem oc_some {α : Type} {o : Option O} {i : Cls → Addr → List V → Option α} {l t f : List V → Option α} {x : α} (e : O.cs o i l t f = some x) : OC i l t f x o := by
  cases o with
  | none => cases e
  | some o => cases o with
    | inst c d fs => exact .inst e
    | lst vs => exact .lst e
    | tup vs => exact .tup e
    | fro vs => exact .fro e
    | _ => cases e
noncomputable def fldO (f : Nat) (o : Option O) : Option V := O.cs o (fun c _ fs => (fidx c f).bind fun i => fs[i]?) no no no
noncomputable def seqO (o : Option O) : Option (List V) := O.cs o noI some some no
noncomputable def lstO (o : Option O) : Option (List V) := O.cs o noI some no no
noncomputable def lfO (o : Option O) : Option (List V) := O.cs o noI some no some
noncomputable def tupO (o : Option O) : Option (List V) := O.cs o noI no some no
noncomputable def fldOf (H : Hp) (v : V) (f : Nat) : Option V := v.rf fun a => fldO f (H a)
noncomputable def setFld (c : Cls) (d : Addr) (fs : List V) (f : Nat) (v : V) : Option O := (fidx c f).bind fun i => if i < fs.length then some (.inst c d (fs.set i v)) else if i = fs.length then some (.inst c d (fs ++ [v])) else .none
noncomputable def seqOf (H : Hp) (v : V) : Option (List V) := v.rf fun a => seqO (H a)
noncomputable def lstOf (H : Hp) (v : V) : Option (List V) := v.rf fun a => lstO (H a)
noncomputable def lfOf (H : Hp) (v : V) : Option (List V) := v.rf fun a => lfO (H a)
noncomputable def tupOf (H : Hp) (v : V) : Option (List V) := v.rf fun a => tupO (H a)
noncomputable def scalar (v : V) : Bool := v.cs false (fun _ => false) (fun _ => true) (fun _ => true) (fun _ => false)
noncomputable def scalars (vs : List V) : Bool := vs.all scalar
noncomputable def eqL (a b : Addr) (xs ys : List V) : Option Bool := if a ≠ b ∧ (xs.length = ys.length → scalars xs = true ∧ scalars ys = true) then some (decide (xs = ys)) else .none
noncomputable def eqV (H : Hp) (x y : V) : Option Bool := x.cs (y.cs (some true) no no no no)
  (fun a => y.cs .none (fun b => some (decide (a = b))) (fun b => some (decide (b2i a = b))) no no)
  (fun a => y.cs .none no (fun b => some (decide (a = b))) (fun _ => some false) no)
  (fun a => y.cs .none no (fun _ => some false) (fun b => some (decide (a = b))) no)
  (fun a => y.rf fun b => (lstO (H a)).bind fun xs => (lstO (H b)).bind fun ys => eqL a b xs ys)
noncomputable def isV (H : Hp) (x y : V) : Option Bool := y.cs (some (decide (x = .none))) no no no fun b => x.rf fun a => if a = b then some true else O.cs (H a) (fun _ _ _ => O.cs (H b) (fun _ _ _ => some false) no no no) no no no
noncomputable def inV (H : Hp) (x s : V) : Option Bool := (seqOf H s).bind fun vs => if scalar x = true ∧ scalars vs = true then some (decide (x ∈ vs)) else .none
noncomputable def one? : List Nat → Option Nat
  | [] => .none
  | c :: r => (match r with
    | [] => some c
    | _ :: _ => .none)
noncomputable def sign? (v : V) : Option Nat := v.cs .none no no (fun s => one? s.cps.toList) no
noncomputable def ordV (i : Int → Int → Bool) (b : Bool → V → Option Bool) (s : V → Option Bool) (x y : V) : Option Bool := x.cs .none (fun a => b a y) (fun a => y.cs .none no (fun b => some (i a b)) no no) (fun _ => s y) no
noncomputable def ordB (i : Int → Int → Bool) (a : Bool) (y : V) : Option Bool := y.cs .none (fun b => some (i (b2i a) (b2i b))) no no no
noncomputable def cmpV (H : Hp) (op : CmpOp) (x y : V) : Option Bool := match op with
  | .Eq => eqV H x y
  | .NotEq => (eqV H x y).map not
  | .Is => isV H x y
  | .IsNot => (isV H x y).map not
  | .In => inV H x y
  | .NotIn => (inV H x y).map not
  | .Lt => ordV (fun a b => decide (a < b)) (ordB fun a b => decide (a < b)) no x y
  | .LtE => ordV (fun a b => decide (a ≤ b)) (fun _ _ => .none) (fun y => (sign? x).bind fun a => (sign? y).bind fun b => some (decide (a ≤ b))) x y
  | .Gt => ordV (fun a b => decide (b < a)) (ordB fun a b => decide (b < a)) no x y
  | .GtE => ordV (fun a b => decide (b ≤ a)) (fun _ _ => .none) no x y
noncomputable def charV (c : Nat) : V := .str ⟨#[c]⟩
noncomputable def lastO (i : Int) (o : Option O) : Option V := (seqO o).bind fun vs => if 0 ≤ i ∧ i < 2 ^ 62 then vs[i.toNat]? else if i = -1 then vs.getLast? else .none
noncomputable def idxV (H : Hp) (o i : V) : Option V := i.cs .none no (fun i => o.cs .none no no (fun s => if 0 ≤ i ∧ i < s.length ∧ i < 2 ^ 62 then some (charV (s.cps.getD i.toNat 0)) else .none) fun a => lastO i (H a)) no no
noncomputable def isiC (k : Kd) : Cls → Option Bool
  | .arr => some (k == .arr)
  | .rf => some (k == .rf)
  | .absent => some (k == .absent)
  | .host => .none
  | .frame => .none
noncomputable def isiO (k : Kd) (o : Option O) : Option Bool := O.cs o (fun c _ _ => isiC k c) (fun _ => some false) (fun _ => some (k == .tuple)) no
noncomputable def isiV (H : Hp) (k : Kd) (v : V) : Option Bool := v.cs (some false) (fun _ => some (k == .int || k == .bool)) (fun _ => some (k == .int)) (fun _ => some (k == .str)) fun a => isiO k (H a)
noncomputable def lenV (H : Hp) (v : V) : Option Nat := v.cs .none no no (fun s => some s.length) fun a => (seqO (H a)).map List.length
noncomputable def ofInts : List V → Option (List Int)
  | [] => some []
  | v :: r => v.cs .none no (fun i => (ofInts r).map (i :: ·)) no no
noncomputable def ofStrs : List V → Option (List Str)
  | [] => some []
  | v :: r => v.cs .none no no (fun s => (ofStrs r).map (s :: ·)) no
noncomputable def intText (i : Int) : Str := Str.ofString (toString i)
noncomputable def srcO (a : Addr) (o : Option O) : Option (List V × Option Addr) := O.cs o noI (fun vs => some (vs, some a)) no no
noncomputable def srcV (H : Hp) (v : V) : Option (List V × Option Addr) := v.cs .none no no (fun s => some (s.cps.toList.map charV, .none)) fun a => srcO a (H a)
noncomputable def rangeL (a b : Int) : List V := (List.range (b - a).toNat).map fun (i : Nat) => V.int (a + (i : Int))
noncomputable def stays (H : Hp) (l : Option Addr) (vs : List V) : Prop := match l with
  | some a => H a = some (.lst vs)
  | .none => True
noncomputable def pairT (i j : Nat) (ρ : List (Option V)) : List V → Option (List (Option V))
  | [] => .none
  | x :: r => (match r with
    | [] => .none
    | y :: r => (match r with
      | [] => some ((ρ.set i (some x)).set j (some y))
      | _ :: _ => .none))
noncomputable def bindT (H : Hp) (ts : List Nat) (v : V) (ρ : List (Option V)) : Option (List (Option V)) := match ts with
  | [] => .none
  | i :: r => (match r with
    | [] => some (ρ.set i (some v))
    | j :: r => (match r with
      | [] => (tupOf H v).bind (pairT i j ρ)
      | _ :: _ => .none))
inductive Fl where
  | nxt
  | ret (v : V)
noncomputable abbrev Env' := List (Option V)
noncomputable abbrev Calls := Nat → List V → (V → Hp → Prop) → Hp → Prop
mutual
inductive Dat (H : Hp) : V → PyData → Prop
  | none : Dat H .none .none
  | bool (b) : Dat H (.bool b) (.bool b)
  | int (i) : Dat H (.int i) (.int i)
  | str (s) : Dat H (.str s) (.str s)
  | list {a vs ds} : H a = some (.lst vs) → DatAll H vs ds → Dat H (.ref a) (.list ds)
  | tuple {a vs ds} : H a = some (.tup vs) → DatAll H vs ds → Dat H (.ref a) (.tuple ds)
inductive DatAll (H : Hp) : List V → List PyData → Prop
  | nil : DatAll H [] []
  | cons {v vs d ds} : Dat H v d → DatAll H vs ds → DatAll H (v :: vs) (d :: ds)
end
noncomputable def slcText (s : Str) (i j : Int) : Str := if ((Builtin.Str.strSliceIndices (some i) (some j) 1 s.length).length == s.length) = true then s else ⟨((Builtin.Str.strSliceIndices (some i) (some j) 1 s.length).filterMap (s.cps[·]?)).toArray⟩
noncomputable def evComp (step : V → List V → (List V → Hp → Prop) → Hp → Prop) (live : Option Addr) (whole : List V) : List V → List V → (List V → Hp → Prop) → Hp → Prop
  | [], acc, Q, H => stays H live whole ∧ Q acc H
  | v :: r, acc, Q, H => stays H live whole ∧ acc.length < 2 ^ 24 ∧ step v acc (fun acc' H' => evComp step live whole r acc' Q H') H
noncomputable def exFor (step : V → (Fl → Env' → Hp → Prop) → Env' → Hp → Prop) (live : Option Addr) (whole : List V) : List V → (Fl → Env' → Hp → Prop) → Env' → Hp → Prop
  | [], Q, ρ, H => stays H live whole ∧ Q .nxt ρ H
  | v :: r, Q, ρ, H => stays H live whole ∧ step v (fun fl ρ' H' => match fl with | .nxt => exFor step live whole r Q ρ' H' | .ret x => Q (.ret x) ρ' H') ρ H
structure Fn where
  pars : Nat
  vars : List Str
  dfl : List V
  body : MS
noncomputable def backV : Fl → V
  | .nxt => .none
  | .ret v => v
end Mine
namespace Mine
noncomputable abbrev P1 := V → Hp → Prop
noncomputable abbrev PF := Fl → Env' → Hp → Prop
noncomputable def kO (o : Option V) (Q : P1) (H : Hp) : Prop := match o with | some v => Q v H | none => False
noncomputable def kC (o : Option Bool) (Q : P1) (H : Hp) : Prop := match o with | some r => Q (.bool r) H | none => False
noncomputable def kV (o : Option (Option V)) (Q : P1) (H : Hp) : Prop := match o with | some o => kO o Q H | none => False
noncomputable def kB (P : Bool → Hp → Prop) (v : V) (H : Hp) : Prop := match v with | .bool t => P t H | _ => False
noncomputable def kI (P : Int → Hp → Prop) (v : V) (H : Hp) : Prop := match v with | .int t => P t H | _ => False
noncomputable def kS (P : Str → Hp → Prop) (v : V) (H : Hp) : Prop := match v with | .str t => P t H | _ => False
noncomputable def kR (P : Addr → Hp → Prop) (v : V) (H : Hp) : Prop := match v with | .ref t => P t H | _ => False
noncomputable def kII (P : Int → Int → Hp → Prop) (x y : V) (H : Hp) : Prop := kI (fun a H => kI (P a) y H) x H
noncomputable def mulV (x y : V) (Q : P1) (H : Hp) : Prop := x.cs False (fun _ => False) (fun a => kI (fun b H => a.natAbs < 2 ^ 64 ∧ b.natAbs < 2 ^ 64 ∧ Q (.int (a * b)) H) y H)
  (fun s => kI (fun n H => 0 ≤ n ∧ n < 2 ^ 20 ∧ s.length = 1 ∧ Q (.str ⟨(List.replicate n.toNat (s.cps.getD 0 0)).toArray⟩) H) y H)
  (fun a => kI (fun n H => ∃ x, lstO (H a) = some [x] ∧ 0 ≤ n ∧ n < 2 ^ 20 ∧ ∀ l, H l = none → Q (.ref l) (upd H l (.lst (List.replicate n.toNat x)))) y H)
noncomputable def addV (x y : V) (Q : P1) (H : Hp) : Prop := x.cs False (fun _ => False) (fun a => kI (fun b H => Q (.int (a + b)) H) y H) (fun a => kS (fun b H => a.length + b.length ≤ sizeLine ∧ Q (.str (a ++ b)) H) y H)
  (fun a => kR (fun b H => ∃ xs ys, lstO (H a) = some xs ∧ lstO (H b) = some ys ∧ xs.length + ys.length ≤ sizeLine ∧ ∀ l, H l = none → Q (.ref l) (upd H l (.lst (xs ++ ys)))) y H)
noncomputable def binV (op : Operator) (x y : V) (Q : P1) (H : Hp) : Prop := match op with
  | .Add => addV x y Q H
  | .Sub => kII (fun a b H => Q (.int (a - b)) H) x y H
  | .Mult => mulV x y Q H
  | .Mod => kII (fun a b H => 0 < b ∧ Q (.int (a % b)) H) x y H
  | .FloorDiv => kII (fun a b H => 0 < b ∧ b < 2 ^ 30 ∧ Q (.int (a / b)) H) x y H
  | .Pow => kII (fun a n H => (a = 2 ∨ a = 3) ∧ 0 ≤ n ∧ n ≤ 100000 ∧ Q (.int (a ^ n.toNat)) H) x y H
  | .RShift => kII (fun a n H => 0 ≤ n ∧ n ≤ 64 ∧ Q (.int (a / 2 ^ n.toNat)) H) x y H
  | .BitOr => kII (fun a b H => Q (.int (Builtin.bitOr a b)) H) x y H
  | _ => False
noncomputable def kL (o : Option (List V)) (P : List V → Hp → Prop) (H : Hp) : Prop := match o with | some vs => P vs H | none => False
noncomputable def kN (o : Option Nat) (P : Nat → Hp → Prop) (H : Hp) : Prop := match o with | some n => P n H | none => False
noncomputable def kIf (A B : Hp → Prop) (b : Bool) (H : Hp) : Prop := match b with | true => A H | false => B H
noncomputable def New (o : O) (Q : P1) (H : Hp) : Prop := ∀ l, H l = none → Q (.ref l) (upd H l o)
noncomputable def kFld (f : Nat) (Q : P1) (v : V) (H : Hp) : Prop := kO (fldOf H v f) Q H
noncomputable def kBin2 (op : Operator) (x : V) (Q : P1) (y : V) (H : Hp) : Prop := binV op x y Q H
noncomputable def kBin1 (op : Operator) (E : P1 → Hp → Prop) (Q : P1) (x : V) (H : Hp) : Prop := E (kBin2 op x Q) H
noncomputable def kCmp2 (op : CmpOp) (x : V) (Q : P1) (y : V) (H : Hp) : Prop := kC (cmpV H op x y) Q H
noncomputable def kCmp1 (op : CmpOp) (E : P1 → Hp → Prop) (Q : P1) (x : V) (H : Hp) : Prop := E (kCmp2 op x Q) H
noncomputable def kC22 (p : CmpOp) (x : V) (q : CmpOp) (C : P1 → Hp → Prop) (Q : P1) (y : V) (H : Hp) : Prop := kC (cmpV H p x y) (kB (kIf (C (kCmp2 q y Q)) (Q (.bool false)))) H
noncomputable def kC21 (p : CmpOp) (B : P1 → Hp → Prop) (q : CmpOp) (C : P1 → Hp → Prop) (Q : P1) (x : V) (H : Hp) : Prop := B (kC22 p x q C Q) H
noncomputable def kIdx2 (x : V) (Q : P1) (y : V) (H : Hp) : Prop := kO (idxV H x y) Q H
noncomputable def kIdx1 (E : P1 → Hp → Prop) (Q : P1) (x : V) (H : Hp) : Prop := E (kIdx2 x Q) H
noncomputable def kSlc3 (x y : V) (Q : P1) (z : V) (H : Hp) : Prop := kS (fun s H => kI (fun i H => kI (fun j H => s.length ≤ 2 ^ 24 ∧ Q (.str (slcText s i j)) H) z H) y H) x H
noncomputable def kSlc2 (C : P1 → Hp → Prop) (x : V) (Q : P1) (y : V) (H : Hp) : Prop := C (kSlc3 x y Q) H
noncomputable def kSlc1 (B C : P1 → Hp → Prop) (Q : P1) (x : V) (H : Hp) : Prop := B (kSlc2 C x Q) H
noncomputable def kTk2 (g : Nat → List V → List V) (x : V) (Q : P1) (z : V) (H : Hp) : Prop := kL (lfOf H x) (fun vs H => vs.length ≤ 2 ^ 24 ∧ kI (fun j H => 0 ≤ j ∧ j < 2 ^ 24 ∧ New (.lst (g j.toNat vs)) Q H) z H) H
noncomputable def kTk1 (g : Nat → List V → List V) (E : P1 → Hp → Prop) (Q : P1) (x : V) (H : Hp) : Prop := E (kTk2 g x Q) H
noncomputable def kLst (mk : List V → O) (Q : P1) (vs : List V) (H : Hp) : Prop := match Nat.ble vs.length 64 with | true => New (mk vs) Q H | false => False
noncomputable def kCall (Δ : Calls) (f : Nat) (Q : P1) (vs : List V) (H : Hp) : Prop := Δ f vs Q H
noncomputable def kMeth2 (Δ : Calls) (f : Nat) (x : V) (Q : P1) (vs : List V) (H : Hp) : Prop := Δ f (x :: vs) Q H
noncomputable def kMeth (Δ : Calls) (f : Nat) (E : (List V → Hp → Prop) → Hp → Prop) (Q : P1) (x : V) (H : Hp) : Prop := kR (fun a H => (∃ d fs, H a = some (.inst .arr d fs)) ∧ E (kMeth2 Δ f x Q) H) x H
noncomputable def kDone (a : Addr) (Q : P1) (v : V) (H : Hp) : Prop := match v with | .none => Q (.ref a) H | _ => False
noncomputable def kNew (Δ : Calls) (c : Cls) (Q : P1) (vs : List V) (H : Hp) : Prop := ∀ a d, H a = none → H d = none → a ≠ d → Δ (1000 + fbase c) (.ref a :: vs) (kDone a Q) (upd (upd H d (.hid a)) a (.inst c d []))
noncomputable def kIsi (k : Kd) (Q : P1) (v : V) (H : Hp) : Prop := kC (isiV H k v) Q H
noncomputable def kLen (Q : P1) (v : V) (H : Hp) : Prop := kN (lenV H v) (fun n H => n < 2 ^ 62 ∧ Q (.int n) H) H
noncomputable def kOrd (Q : P1) (v : V) (H : Hp) : Prop := kN (sign? v) (fun n H => Q (.int n) H) H
noncomputable def kNeg (Q : P1) : P1 := kI fun i H => Q (.int (-i)) H
noncomputable def kStr (Q : P1) : P1 := kI fun i H => i.natAbs < 2 ^ 64 ∧ Q (.str (intText i)) H
noncomputable def kRepr (Q : P1) (v : V) (H : Hp) : Prop := ∃ a d, v = .ref a ∧ Dat H v d ∧ d.showable = true ∧ d.depth ≤ 50 ∧ d.shown.length ≤ sizeLine ∧ Q (.str d.shown) H
noncomputable def kRng (P : List V → Hp → Prop) : P1 := kI fun n H => 0 ≤ n ∧ n < 2 ^ 24 ∧ P (rangeL 0 n) H
noncomputable def kNewL (mk : List V → O) (Q : P1) (vs : List V) (H : Hp) : Prop := New (mk vs) Q H
noncomputable def kList (Q : P1) : P1 := kR fun a H => ∃ vs, vs.length ≤ 2 ^ 24 ∧ (H a = some (.lst vs) ∨ (H a = some .dct ∧ vs = [])) ∧ New (.lst vs) Q H
noncomputable def kTup (Q : P1) (v : V) (H : Hp) : Prop := kL (lstOf H v) (fun vs H => vs.length ≤ 2 ^ 24 ∧ New (.tup vs) Q H) H
noncomputable def kDict (Q : P1) : P1 := kR fun a H => H a = some .dct ∧ New .dct Q H
noncomputable def kMax (Q : P1) (v : V) (H : Hp) : Prop := ∃ vs is, lstOf H v = some vs ∧ ofInts vs = some is ∧ is ≠ [] ∧ ∀ i, i ∈ is → (∀ j ∈ is, j ≤ i) → Q (.int i) H
noncomputable def kMin2 (x : V) (Q : P1) (y : V) (H : Hp) : Prop := kI (fun i H => kI (fun j H => Q (.int (min i j)) H) y H) x H
noncomputable def kMin1 (E : P1 → Hp → Prop) (Q : P1) (x : V) (H : Hp) : Prop := E (kMin2 x Q) H
noncomputable def kJoin2 (x : Str) (Q : P1) (v : V) (H : Hp) : Prop := ∃ vs ts, lstOf H v = some vs ∧ ofStrs vs = some ts ∧ JoinOk x ts = true ∧ Q (.str (Txt.join x ts)) H
noncomputable def kJoin1 (E : P1 → Hp → Prop) (Q : P1) : P1 := kS fun x H => E (kJoin2 x Q) H
noncomputable def kRep3 (x : Str) (y : V) (Q : P1) (z : V) (H : Hp) : Prop := kS (fun y H => kS (fun z H => (Builtin.Str.occurrences x y 0 x.length (x.length + 1)).isEmpty = true ∧ Q (.str x) H) z H) y H
noncomputable def kRep2 (C : P1 → Hp → Prop) (x : Str) (Q : P1) (y : V) (H : Hp) : Prop := C (kRep3 x y Q) H
noncomputable def kRep1 (B C : P1 → Hp → Prop) (Q : P1) : P1 := kS fun x H => B (kRep2 C x Q) H
noncomputable def kApp2 (a : Addr) (Q : P1) (x : V) (H : Hp) : Prop := ∃ vs, H a = some (.lst vs) ∧ vs.length < 2 ^ 24 ∧ Q .none (upd H a (.lst (vs ++ [x])))
noncomputable def kApp1 (E : P1 → Hp → Prop) (Q : P1) : P1 := kR fun a H => (∃ vs0, H a = some (.lst vs0)) ∧ E (kApp2 a Q) H
noncomputable def kPop (Q : P1) : P1 := kR fun a H => ∃ vs x, H a = some (.lst (vs ++ [x])) ∧ vs.length < 2 ^ 24 ∧ Q x (upd H a (.lst vs))
noncomputable def kCons2 (v : V) (Q : List V → Hp → Prop) (vs : List V) (H : Hp) : Prop := Q (v :: vs) H
noncomputable def kCons1 (R : (List V → Hp → Prop) → Hp → Prop) (Q : List V → Hp → Prop) (v : V) (H : Hp) : Prop := R (kCons2 v Q) H
noncomputable def kT2 (acc : List V) (R : List V → Hp → Prop) (x : V) (H : Hp) : Prop := R (acc ++ [x]) H
noncomputable def kT1 (E : Env' → P1 → Hp → Prop) (ρ : Env') (acc : List V) (R : List V → Hp → Prop) (t : Bool) (H : Hp) : Prop := match t with | true => E ρ (kT2 acc R) H | false => R acc H
noncomputable def kTurn (ts : List Nat) (ρ : Env') (C E : Env' → P1 → Hp → Prop) (v : V) (acc : List V) (R : List V → Hp → Prop) (H : Hp) : Prop := match bindT H ts v ρ with
  | some ρ' => C ρ' (kB (kT1 E ρ' acc R)) H
  | none => False
noncomputable def kCompR (ts : List Nat) (ρ : Env') (C E : Env' → P1 → Hp → Prop) (Q : P1) : P1 := kRng fun vs H => evComp (kTurn ts ρ C E) none vs vs [] (kNewL .lst Q) H
noncomputable def kComp (ts : List Nat) (ρ : Env') (C E : Env' → P1 → Hp → Prop) (Q : P1) (v : V) (H : Hp) : Prop := match srcV H v with
  | some (vs, l) => evComp (kTurn ts ρ C E) l vs vs [] (kNewL .lst Q) H
  | none => False
mutual
noncomputable def EV (Δ : Calls) : ME → Env' → P1 → Hp → Prop
  | .var i, ρ, Q, H => kV ρ[i]? Q H
  | .cst v, _, Q, H => Q v H
  | .attr e f, ρ, Q, H => EV Δ e ρ (kFld f Q) H
  | .bin op a b, ρ, Q, H => EV Δ a ρ (kBin1 op (EV Δ b ρ) Q) H
  | .neg a, ρ, Q, H => EV Δ a ρ (kNeg Q) H
  | .cmp op a b, ρ, Q, H => EV Δ a ρ (kCmp1 op (EV Δ b ρ) Q) H
  | .cmp2 a p b q c, ρ, Q, H => EV Δ a ρ (kC21 p (EV Δ b ρ) q (EV Δ c ρ) Q) H
  | .and a b, ρ, Q, H => EV Δ a ρ (kB (kIf (EV Δ b ρ Q) (Q (.bool false)))) H
  | .or a b, ρ, Q, H => EV Δ a ρ (kB (kIf (Q (.bool true)) (EV Δ b ρ Q))) H
  | .not a, ρ, Q, H => EV Δ a ρ (kB fun t => Q (.bool (!t))) H
  | .ite c a b, ρ, Q, H => EV Δ c ρ (kB (kIf (EV Δ a ρ Q) (EV Δ b ρ Q))) H
  | .idx a i, ρ, Q, H => EV Δ a ρ (kIdx1 (EV Δ i ρ) Q) H
  | .slc a lo hi, ρ, Q, H => EV Δ a ρ (kSlc1 (EV Δ lo ρ) (EV Δ hi ρ) Q) H
  | .sto a hi, ρ, Q, H => EV Δ a ρ (kTk1 List.take (EV Δ hi ρ) Q) H
  | .sfr a lo, ρ, Q, H => EV Δ a ρ (kTk1 List.drop (EV Δ lo ρ) Q) H
  | .lst es, ρ, Q, H => EVs Δ es ρ (kLst .lst Q) H
  | .tup es, ρ, Q, H => EVs Δ es ρ (kLst .tup Q) H
  | .dct, _, Q, H => New .dct Q H
  | .call f es, ρ, Q, H => EVs Δ es ρ (kCall Δ f Q) H
  | .meth o f es, ρ, Q, H => EV Δ o ρ (kMeth Δ f (EVs Δ es ρ) Q) H
  | .new c es, ρ, Q, H => EVs Δ es ρ (kNew Δ c Q) H
  | .isi e k, ρ, Q, H => EV Δ e ρ (kIsi k Q) H
  | .len e, ρ, Q, H => EV Δ e ρ (kLen Q) H
  | .ord e, ρ, Q, H => EV Δ e ρ (kOrd Q) H
  | .strI e, ρ, Q, H => EV Δ e ρ (kStr Q) H
  | .repr e, ρ, Q, H => EV Δ e ρ (kRepr Q) H
  | .listOf e, ρ, Q, H => EV Δ e ρ (kList Q) H
  | .listR n, ρ, Q, H => EV Δ n ρ (kRng (kNewL .lst Q)) H
  | .tupleOf e, ρ, Q, H => EV Δ e ρ (kTup Q) H
  | .dictOf e, ρ, Q, H => EV Δ e ρ (kDict Q) H
  | .max e, ρ, Q, H => EV Δ e ρ (kMax Q) H
  | .min a b, ρ, Q, H => EV Δ a ρ (kMin1 (EV Δ b ρ) Q) H
  | .join s e, ρ, Q, H => EV Δ s ρ (kJoin1 (EV Δ e ρ) Q) H
  | .replace s a b, ρ, Q, H => EV Δ s ρ (kRep1 (EV Δ a ρ) (EV Δ b ρ) Q) H
  | .append l x, ρ, Q, H => EV Δ l ρ (kApp1 (EV Δ x ρ) Q) H
  | .pop l, ρ, Q, H => EV Δ l ρ (kPop Q) H
  | .comp ts src c e, ρ, Q, H => EV Δ src ρ (kComp ts ρ (EV Δ c) (EV Δ e) Q) H
  | .compR ts n c e, ρ, Q, H => EV Δ n ρ (kCompR ts ρ (EV Δ c) (EV Δ e) Q) H
  | .dead, _, _, _ => False
noncomputable def EVs (Δ : Calls) : MEs → Env' → (List V → Hp → Prop) → Hp → Prop
  | .nil, _, Q, H => Q [] H
  | .cons e r, ρ, Q, H => EV Δ e ρ (kCons1 (EVs Δ r ρ) Q) H
end
noncomputable def kSeq (R : Env' → PF → Hp → Prop) (Q : PF) (fl : Fl) (ρ : Env') (H : Hp) : Prop := match fl with | .nxt => R ρ Q H | .ret v => Q (.ret v) ρ H
noncomputable def kNx (ρ : Env') (Q : PF) (_ : V) (H : Hp) : Prop := Q .nxt ρ H
noncomputable def kRet (ρ : Env') (Q : PF) (v : V) (H : Hp) : Prop := Q (.ret v) ρ H
noncomputable def kAsg (i : Nat) (ρ : Env') (Q : PF) (v : V) (H : Hp) : Prop := Q .nxt (ρ.set i (some v)) H
noncomputable def kSet (c : Cls) (d : Addr) (fs : List V) (f : Nat) (v : V) (a : Addr) (ρ : Env') (Q : PF) (H : Hp) : Prop := match setFld c d fs f v with | some o => Q .nxt ρ (upd H a o) | none => False
noncomputable def kObj (o : Option O) (P : Cls → Addr → List V → Prop) : Prop := match o with | some (.inst c d fs) => P c d fs | _ => False
noncomputable def kAs2 (f : Nat) (v : V) (ρ : Env') (Q : PF) (x : V) (H : Hp) : Prop := kR (fun a H => kObj (H a) fun c d fs => kSet c d fs f v a ρ Q H) x H
noncomputable def kAs1 (O : P1 → Hp → Prop) (f : Nat) (ρ : Env') (Q : PF) (v : V) (H : Hp) : Prop := O (kAs2 f v ρ Q) H
noncomputable def kAi3 (v x : V) (ρ : Env') (Q : PF) (y : V) (H : Hp) : Prop := kR (fun a H => kI (fun k H => ∃ vs, H a = some (.lst vs) ∧ 0 ≤ k ∧ k < vs.length ∧ vs.length < 2 ^ 62 ∧ Q .nxt ρ (upd H a (.lst (vs.set k.toNat v)))) y H) x H
noncomputable def kAi2 (I : P1 → Hp → Prop) (v : V) (ρ : Env') (Q : PF) (x : V) (H : Hp) : Prop := I (kAi3 v x ρ Q) H
noncomputable def kAi1 (O I : P1 → Hp → Prop) (ρ : Env') (Q : PF) (v : V) (H : Hp) : Prop := O (kAi2 I v ρ Q) H
noncomputable def kPair (i j : Nat) (ρ : Env') (Q : PF) (vs : List V) (H : Hp) : Prop := match vs with | [x, y] => Q .nxt ((ρ.set i (some x)).set j (some y)) H | _ => False
noncomputable def kAt (i j : Nat) (ρ : Env') (Q : PF) (v : V) (H : Hp) : Prop := kL (tupOf H v) (kPair i j ρ Q) H
noncomputable def kA22 (i j : Nat) (x : V) (ρ : Env') (Q : PF) (y : V) (H : Hp) : Prop := Q .nxt ((ρ.set i (some x)).set j (some y)) H
noncomputable def kA21 (E : P1 → Hp → Prop) (i j : Nat) (ρ : Env') (Q : PF) (x : V) (H : Hp) : Prop := E (kA22 i j x ρ Q) H
noncomputable def augI (op : Operator) (a b : Int) : Option Int := match op with | .Add => some (a + b) | .Sub => some (a - b) | _ => none
noncomputable def kInt (o : Option Int) (P : Int → Hp → Prop) (H : Hp) : Prop := match o with | some i => P i H | none => False
noncomputable def kAug2 (i : Nat) (op : Operator) (x : V) (ρ : Env') (Q : PF) (y : V) (H : Hp) : Prop := kI (fun a H => kI (fun b H => kInt (augI op a b) (fun r H => Q .nxt (ρ.set i (some (.int r))) H) H) y H) x H
noncomputable def kAug1 (E : P1 → Hp → Prop) (i : Nat) (op : Operator) (ρ : Env') (Q : PF) (x : V) (H : Hp) : Prop := E (kAug2 i op x ρ Q) H
noncomputable def kAugA3 (f : Nat) (op : Operator) (x w : V) (ρ : Env') (Q : PF) (y : V) (H : Hp) : Prop := kI (fun a H => kI (fun b H => kInt (augI op a b) (fun r H => kAs2 f (.int r) ρ Q x H) H) y H) w H
noncomputable def kAugA2 (E : P1 → Hp → Prop) (f : Nat) (op : Operator) (x : V) (ρ : Env') (Q : PF) (w : V) (H : Hp) : Prop := E (kAugA3 f op x w ρ Q) H
noncomputable def kAugA1 (E : P1 → Hp → Prop) (f : Nat) (op : Operator) (ρ : Env') (Q : PF) (x : V) (H : Hp) : Prop := kO (fldOf H x f) (kAugA2 E f op x ρ Q) H
noncomputable def kStep (ts : List Nat) (S : Env' → PF → Hp → Prop) (v : V) (R : PF) (ρ : Env') (H : Hp) : Prop := match bindT H ts v ρ with | some ρ' => S ρ' R H | none => False
noncomputable def kForL (ts : List Nat) (S : Env' → PF → Hp → Prop) (ρ : Env') (Q : PF) (vs : List V) (H : Hp) : Prop := exFor (kStep ts S) none vs vs Q ρ H
noncomputable def kFor (ts : List Nat) (S : Env' → PF → Hp → Prop) (ρ : Env') (Q : PF) (v : V) (H : Hp) : Prop := match srcV H v with | some (vs, l) => exFor (kStep ts S) l vs vs Q ρ H | none => False
noncomputable def kRg2 (u : V) (P : List V → Hp → Prop) (v : V) (H : Hp) : Prop := kI (fun j H => kI (fun k H => 0 ≤ j ∧ j < 2 ^ 24 ∧ 0 ≤ k ∧ k < 2 ^ 24 ∧ P (rangeL j k) H) v H) u H
noncomputable def kRg1 (E : P1 → Hp → Prop) (P : List V → Hp → Prop) (u : V) (H : Hp) : Prop := E (kRg2 u P) H
noncomputable def kTest (E : Env' → P1 → Hp → Prop) (R : Bool → Hp → Prop) (ρ : Env') (H : Hp) : Prop := E ρ (kB R) H
noncomputable def kBody (S : Env' → PF → Hp → Prop) (R : PF) (ρ : Env') (H : Hp) : Prop := S ρ R H
noncomputable def kWh (R : PF → Env' → Hp → Prop) (Q : PF) (fl : Fl) (ρ : Env') (H : Hp) : Prop := match fl with | .nxt => R Q ρ H | .ret x => Q (.ret x) ρ H
noncomputable def exW (test : (Bool → Hp → Prop) → Env' → Hp → Prop) (body : PF → Env' → Hp → Prop) : Nat → PF → Env' → Hp → Prop
  | 0, _, _, _ => False
  | n + 1, Q, ρ, H => test (kIf (body (kWh (exW test body n) Q) ρ) (Q .nxt ρ)) ρ H
noncomputable def EX (Δ : Calls) : MS → Env' → PF → Hp → Prop
  | .skip, ρ, Q, H => Q .nxt ρ H
  | .seq s r, ρ, Q, H => EX Δ s ρ (kSeq (EX Δ r) Q) H
  | .expr e, ρ, Q, H => EV Δ e ρ (kNx ρ Q) H
  | .asg i e, ρ, Q, H => EV Δ e ρ (kAsg i ρ Q) H
  | .asgC i ts src c a, ρ, Q, H => EV Δ src ρ (kComp ts ρ (EV Δ c) (EV Δ a) (kAsg i ρ Q)) H
  | .asgCR i ts n c a, ρ, Q, H => EV Δ n ρ (kCompR ts ρ (EV Δ c) (EV Δ a) (kAsg i ρ Q)) H
  | .asgA o f e, ρ, Q, H => EV Δ e ρ (kAs1 (EV Δ o ρ) f ρ Q) H
  | .asgI o i e, ρ, Q, H => EV Δ e ρ (kAi1 (EV Δ o ρ) (EV Δ i ρ) ρ Q) H
  | .asgT i j e, ρ, Q, H => EV Δ e ρ (kAt i j ρ Q) H
  | .asg2 i j a b, ρ, Q, H => EV Δ a ρ (kA21 (EV Δ b ρ) i j ρ Q) H
  | .aug i op e, ρ, Q, H => kV ρ[i]? (kAug1 (EV Δ e ρ) i op ρ Q) H
  | .augA o f op e, ρ, Q, H => EV Δ o ρ (kAugA1 (EV Δ e ρ) f op ρ Q) H
  | .ife c s t, ρ, Q, H => EV Δ c ρ (kB (kIf (EX Δ s ρ Q) (EX Δ t ρ Q))) H
  | .wh c s, ρ, Q, H => ∃ n, exW (kTest (EV Δ c)) (kBody (EX Δ s)) n Q ρ H
  | .for_ ts src s, ρ, Q, H => EV Δ src ρ (kFor ts (EX Δ s) ρ Q) H
  | .forR ts n s, ρ, Q, H => EV Δ n ρ (kRng (kForL ts (EX Δ s) ρ Q)) H
  | .forR2 ts m n s, ρ, Q, H => EV Δ m ρ (kRg1 (EV Δ n ρ) (kForL ts (EX Δ s) ρ Q)) H
  | .ret e, ρ, Q, H => EV Δ e ρ (kRet ρ Q) H
  | .dead, _, _, _ => False
noncomputable def kBack (Q : P1) (fl : Fl) (_ : Env') (H : Hp) : Prop := Q (backV fl) H
noncomputable def argsOf (F : Fn) (vs : List V) : Option Env' := match Nat.ble vs.length F.pars && Nat.ble F.pars (vs.length + F.dfl.length) with
  | true => some ((vs ++ F.dfl.drop (vs.length + F.dfl.length - F.pars)).map some ++ List.replicate (F.vars.length - F.pars) none)
  | false => none
noncomputable def kFn (o : Option Fn) (P : Fn → Prop) : Prop := match o with | some F => P F | none => False
noncomputable def kEnv (o : Option Env') (P : Env' → Prop) : Prop := match o with | some ρ => P ρ | none => False
noncomputable def MC (T : Nat → Option Fn) : Nat → Calls
  | 0, _, _, _, _ => False
  | n + 1, f, vs, Q, H => kFn (T f) fun F => kEnv (argsOf F vs) fun ρ => EX (MC T n) F.body ρ (kBack Q) H
section
variable {Q : P1} {H : Hp}
theorem kO_ex : ∀ {o : Option V}, kO o Q H → ∃ v, o = some v ∧ Q v H
  | some v, q => ⟨v, rfl, q⟩
theorem kV_ex {o : Option (Option V)} (q : kV o Q H) : ∃ v, o = some (some v) ∧ Q v H := by
  cases o with
  | none => exact q.elim
  | some o => obtain ⟨v, e, q⟩ := kO_ex q; exact ⟨v, e ▸ rfl, q⟩
theorem kC_ex : ∀ {o : Option Bool}, kC o Q H → ∃ r, o = some r ∧ Q (.bool r) H
  | some r, q => ⟨r, rfl, q⟩
theorem kB_ex {P : Bool → Hp → Prop} {v : V} (q : kB P v H) : ∃ t, v = .bool t ∧ P t H := by
  cases v with
  | bool t => exact ⟨t, rfl, q⟩
  | _ => exact q.elim
theorem kI_ex {P : Int → Hp → Prop} {v : V} (q : kI P v H) : ∃ i, v = .int i ∧ P i H := by
  cases v with
  | int i => exact ⟨i, rfl, q⟩
  | _ => exact q.elim
theorem kS_ex {P : Str → Hp → Prop} {v : V} (q : kS P v H) : ∃ s, v = .str s ∧ P s H := by
  cases v with
  | str s => exact ⟨s, rfl, q⟩
  | _ => exact q.elim
theorem kR_ex {P : Addr → Hp → Prop} {v : V} (q : kR P v H) : ∃ a, v = .ref a ∧ P a H := by
  cases v with
  | ref a => exact ⟨a, rfl, q⟩
  | _ => exact q.elim
theorem kL_ex {P : List V → Hp → Prop} : ∀ {o : Option (List V)}, kL o P H → ∃ vs, o = some vs ∧ P vs H
  | some vs, q => ⟨vs, rfl, q⟩
theorem kN_ex {P : Nat → Hp → Prop} : ∀ {o : Option Nat}, kN o P H → ∃ n, o = some n ∧ P n H
  | some n, q => ⟨n, rfl, q⟩
theorem kLst_ex {mk : List V → O} {vs : List V} (q : kLst mk Q vs H) : vs.length ≤ 64 ∧ New (mk vs) Q H := by
  unfold kLst at q
  cases e : Nat.ble vs.length 64 with
  | false => rw [e] at q; exact q.elim
  | true => rw [e] at q; exact ⟨Nat.le_of_ble_eq_true e, q⟩
theorem kDone_ex {a : Addr} {v : V} (q : kDone a Q v H) : v = .none ∧ Q (.ref a) H := by
  cases v with
  | none => exact ⟨rfl, q⟩
  | _ => exact q.elim
theorem kInt_ex {P : Int → Hp → Prop} : ∀ {o : Option Int}, kInt o P H → ∃ i, o = some i ∧ P i H
  | some i, q => ⟨i, rfl, q⟩
theorem kObj_ex {o : Option O} {P : Cls → Addr → List V → Prop} (q : kObj o P) : ∃ c d fs, o = some (.inst c d fs) ∧ P c d fs := by
  cases o with
  | none => exact q.elim
  | some o => cases o with
    | inst c d fs => exact ⟨c, d, fs, rfl, q⟩
    | _ => exact q.elim
theorem kAs2_ex {f : Nat} {v x : V} {ρ : Env'} {Q : PF} (q : kAs2 f v ρ Q x H) : ∃ a c d fs o', x = .ref a ∧ H a = some (.inst c d fs) ∧ setFld c d fs f v = some o' ∧ Q .nxt ρ (upd H a o') := by
  obtain ⟨a, rfl, q⟩ := kR_ex q
  obtain ⟨c, d, fs, e, q⟩ := kObj_ex q
  unfold kSet at q
  cases es : setFld c d fs f v with
  | none => rw [es] at q; exact q.elim
  | some o' => rw [es] at q; exact ⟨a, c, d, fs, o', rfl, e, es, q⟩
theorem kAt_ex {i j : Nat} {v : V} {ρ : Env'} {Q : PF} (q : kAt i j ρ Q v H) : ∃ x y, tupOf H v = some [x, y] ∧ Q .nxt ((ρ.set i (some x)).set j (some y)) H := by
  obtain ⟨vs, e, q⟩ := kL_ex q
  cases vs with
  | nil => exact q.elim
  | cons x r => cases r with
    | nil => exact q.elim
    | cons y r => cases r with
      | nil => exact ⟨x, y, e, q⟩
      | cons => exact q.elim
theorem kStep_ex {ts : List Nat} {S : Env' → PF → Hp → Prop} {v : V} {R : PF} {ρ : Env'} (q : kStep ts S v R ρ H) : ∃ ρ', bindT H ts v ρ = some ρ' ∧ S ρ' R H := by
  unfold kStep at q
  cases e : bindT H ts v ρ with
  | none => rw [e] at q; exact q.elim
  | some ρ' => rw [e] at q; exact ⟨ρ', rfl, q⟩
theorem kTurn_ex {ts : List Nat} {ρ : Env'} {C E : Env' → P1 → Hp → Prop} {v : V} {acc : List V} {R : List V → Hp → Prop} (q : kTurn ts ρ C E v acc R H) : ∃ ρ', bindT H ts v ρ = some ρ' ∧ C ρ' (kB (kT1 E ρ' acc R)) H := by
  unfold kTurn at q
  cases e : bindT H ts v ρ with
  | none => rw [e] at q; exact q.elim
  | some ρ' => rw [e] at q; exact ⟨ρ', rfl, q⟩
end
section
variable {Δ : Calls} {Q : P1} {H : Hp} {x y v : V} {o : Option V}
theorem o_of {o : Option V} {x : V} (h : o = some x) (q : Q x H) : kO o Q H := h ▸ q
theorem fld_of {f : Nat} (h : fldOf H v f = some x) (q : Q x H) : kFld f Q v H := o_of h q
theorem idx_of (h : idxV H v y = some x) (q : Q x H) : kIdx2 v Q y H := o_of h q
theorem c_of {o : Option Bool} {r : Bool} (h : o = some r) (q : Q (.bool r) H) : kC o Q H := h ▸ q
theorem cmp_of {op : CmpOp} {r : Bool} (h : cmpV H op x y = some r) (q : Q (.bool r) H) : kCmp2 op x Q y H := c_of h q
theorem isi_of {k : Kd} {r : Bool} (h : isiV H k v = some r) (q : Q (.bool r) H) : kIsi k Q v H := c_of h q
theorem if_t {A B : Hp → Prop} {p : Prop} [Decidable p] (h : p) (q : A H) : kIf A B (decide p) H := by rw [decide_eq_true h]; exact q
theorem if_f {A B : Hp → Prop} {p : Prop} [Decidable p] (h : ¬ p) (q : B H) : kIf A B (decide p) H := by rw [decide_eq_false h]; exact q
theorem if_c {A B : Hp → Prop} {p : Prop} [Decidable p] (q : p → A H) (r : ¬ p → B H) : kIf A B (decide p) H := by by_cases h : p; exact if_t h (q h); exact if_f h (r h)
theorem if_n {A B : Hp → Prop} {b : Bool} (q : kIf B A b H) : kIf A B (!b) H := by cases b <;> exact q
theorem if_nt {A B : Hp → Prop} {p : Prop} [Decidable p] (h : ¬ p) (q : A H) : kIf A B (!decide p) H := if_n (if_f h q)
theorem if_nf {A B : Hp → Prop} {p : Prop} [Decidable p] (h : p) (q : B H) : kIf A B (!decide p) H := if_n (if_t h q)
theorem if_nc {A B : Hp → Prop} {p : Prop} [Decidable p] (q : ¬ p → A H) (r : p → B H) : kIf A B (!decide p) H := if_n (if_c r q)
theorem if_T {A B : Hp → Prop} {b : Bool} (h : b = true) (q : A H) : kIf A B b H := by rw [h]; exact q
theorem if_F {A B : Hp → Prop} {b : Bool} (h : b = false) (q : B H) : kIf A B b H := by rw [h]; exact q
theorem len_of {n : Nat} (h : lenV H v = some n) (hl : n < 2 ^ 62) (q : Q (.int n) H) : kLen Q v H := by unfold kLen; rw [h]; exact ⟨hl, q⟩
theorem up {a b n : Nat} (h : b ≤ n) (e : Nat.ble a b = true := by rfl) : a ≤ n := Nat.le_trans (Nat.le_of_ble_eq_true e) h
theorem call_of {k n f : Nat} {F : Fn} {vs : List V} {ρ : Env'} (hn : k + 1 ≤ n) (hT : T f = some F) (hρ : argsOf F vs = some ρ) (h : ∀ m, k ≤ m → EX (MC T m) F.body ρ (kBack Q) H) : MC T n f vs Q H := by
  cases n with
  | zero => exact absurd hn (Nat.not_succ_le_zero _)
  | succ n =>
    show kFn (T f) _
    rw [hT]
    show kEnv (argsOf F vs) _
    rw [hρ]
    exact h n (Nat.le_of_succ_le_succ hn)
theorem mod_of {a b c : Int} (e : a % b = c) (hb : 0 < b) (q : Q (.int c) H) : kBin2 .Mod (.int a) Q (.int b) H := by subst e; exact ⟨hb, q⟩
theorem ai_of {a : Addr} {vs : List V} {i : Nat} {ρ : Env'} {Q : PF} (e : H a = some (.lst vs)) (hi : i < vs.length) (hl : vs.length < 2 ^ 62) (q : Q .nxt ρ (upd H a (.lst (vs.set i v)))) : kAi3 v (.ref a) ρ Q (.int i) H :=
  ⟨vs, e, Int.natCast_nonneg i, Int.ofNat_lt.mpr hi, hl, q⟩
theorem meth_of {f : Nat} {a : Addr} {E : (List V → Hp → Prop) → Hp → Prop} (h : ∃ d fs, H a = some (.inst .arr d fs)) (q : E (kMeth2 Δ f (.ref a) Q) H) : kMeth Δ f E Q (.ref a) H := ⟨h, q⟩
theorem rng_of {n : Nat} {P : List V → Hp → Prop} (h : n < 2 ^ 24) (q : P (rangeL 0 n) H) : kRng P (.int n) H := ⟨Int.natCast_nonneg n, Int.ofNat_lt.mpr h, q⟩
theorem lst_eq {a : Addr} {vs : List V} (e : H a = some (.lst vs)) : lstOf H (.ref a) = some vs := congrArg lstO e
theorem mul_of {a : Addr} {x : V} {n : Nat} (h : H a = some (.lst [x])) (hn : n < 2 ^ 20) (q : ∀ l, H l = none → Q (.ref l) (upd H l (.lst (List.replicate n x)))) : kBin2 .Mult (.ref a) Q (.int n) H :=
  ⟨x, congrArg lstO h, Int.natCast_nonneg n, Int.ofNat_lt.mpr hn, q⟩
theorem seq_lst {a : Addr} {vs : List V} (e : H a = some (.lst vs)) : seqOf H (.ref a) = some vs := congrArg seqO e
theorem seq_tup {a : Addr} {vs : List V} (e : H a = some (.tup vs)) : seqOf H (.ref a) = some vs := congrArg seqO e
theorem len_lst {a : Addr} {vs : List V} {n : Nat} (e : H a = some (.lst vs)) (h : vs.length = n) : lenV H (.ref a) = some n := h ▸ congrArg (fun o => (seqO o).map List.length) e
theorem comp_of {ts : List Nat} {ρ : Env'} {C E : Env' → P1 → Hp → Prop} {l : Addr} {vs : List V} (e : H l = some (.lst vs)) (q : evComp (kTurn ts ρ C E) (some l) vs vs [] (kNewL .lst Q) H) : kComp ts ρ C E Q (.ref l) H := by
  unfold kComp; rw [show srcV H (.ref l) = some (vs, some l) from congrArg (srcO l) e]; exact q
theorem for_of {ts : List Nat} {S : Env' → PF → Hp → Prop} {ρ : Env'} {Q : PF} {l : Addr} {vs : List V} (e : H l = some (.lst vs)) (q : exFor (kStep ts S) (some l) vs vs Q ρ H) : kFor ts S ρ Q (.ref l) H := by
  unfold kFor; rw [show srcV H (.ref l) = some (vs, some l) from congrArg (srcO l) e]; exact q
theorem app1_of {a : Addr} {vs : List V} {E : P1 → Hp → Prop} (e : H a = some (.lst vs)) (q : E (kApp2 a Q) H) : kApp1 E Q (.ref a) H := ⟨⟨_, e⟩, q⟩
theorem app2_of {a : Addr} {vs : List V} (e : H a = some (.lst vs)) (hl : vs.length < 2 ^ 24) (q : Q .none (upd H a (.lst (vs ++ [x])))) : kApp2 a Q x H := ⟨vs, e, hl, q⟩
theorem sub_of {a b c : Int} (e : a - b = c) (q : Q (.int c) H) : kBin2 .Sub (.int a) Q (.int b) H := by subst e; exact q
theorem seq_mid {s r : MS} {ρ : Env'} {Q : PF} (P : Env' → Hp → Prop) (h1 : ∀ K : PF, (∀ ρ H, P ρ H → K .nxt ρ H) → EX Δ s ρ K H) (h2 : ∀ ρ H, P ρ H → EX Δ r ρ Q H) : EX Δ (.seq s r) ρ Q H := h1 (kSeq (EX Δ r) Q) h2
theorem bin_c {op : Operator} {ρ : Env'} (q : kBin2 op x Q y H) : kBin1 op (EV Δ (.cst y) ρ) Q x H := q
theorem as_of {f : Nat} {ρ : Env'} {Q : PF} {a d : Addr} {c : Cls} {fs : List V} {o : O} (h : H a = some (.inst c d fs)) (hs : setFld c d fs f v = some o) (q : Q .nxt ρ (upd H a o)) : kAs2 f v ρ Q (.ref a) H := by
  show kObj (H a) _
  rw [h]
  show kSet _ _ _ _ _ _ _ _ _
  unfold kSet
  rw [hs]
  exact q
end
end Mine
namespace Mine
theorem dk {p : Prop} [Decidable p] {f : p → Bool} (hc : (if h : p then f h else false) = true) : ∃ h, f h = true := by
  by_cases h : p
  · rw [dif_pos h] at hc; exact ⟨h, hc⟩
  · rw [dif_neg h] at hc; cases hc
theorem and_l {a b : Bool} (h : (a && b) = true) : a = true := by
  cases a with
  | true => rfl
  | false => exact h
theorem and_r {a b : Bool} (h : (a && b) = true) : b = true := by
  cases a with
  | true => exact h
  | false => cases h
theorem and_of {a b : Bool} (h : (a && b) = true) : a = true ∧ b = true := ⟨and_l h, and_r h⟩
noncomputable def tName (e : Expr) (k : Str → Pos → Bool) : Bool := if h : e.ctorIdx = 23 then Expr.Name.elim (motive_1 := fun _ => Bool) e h k else false
theorem tof_Name {e : Expr} {C : Expr → Prop} {k : Str → Pos → Bool} (hc : tName e k = true) (z : ∀ y0 y1, k y0 y1 = true → C (.Name y0 y1)) : C e :=
  (dk hc).elim fun h hc => Expr.Name.elim (motive_1 := fun t => ∀ h, Expr.Name.elim (motive_1 := fun _ => Bool) t h k = true → C t) e h (fun y0 y1 _ hc => z y0 y1 hc) h hc
noncomputable def tConstant (e : Expr) (k : Const → Nat → Pos → Bool) : Bool := if h : e.ctorIdx = 19 then Expr.Constant.elim (motive_1 := fun _ => Bool) e h k else false
theorem tof_Constant {e : Expr} {C : Expr → Prop} {k : Const → Nat → Pos → Bool} (hc : tConstant e k = true) (z : ∀ y0 y1 y2, k y0 y1 y2 = true → C (.Constant y0 y1 y2)) : C e :=
  (dk hc).elim fun h hc => Expr.Constant.elim (motive_1 := fun t => ∀ h, Expr.Constant.elim (motive_1 := fun _ => Bool) t h k = true → C t) e h (fun y0 y1 y2 _ hc => z y0 y1 y2 hc) h hc
noncomputable def tAttribute (e : Expr) (k : Expr → Str → Pos → Bool) : Bool := if h : e.ctorIdx = 20 then Expr.Attribute.elim (motive_1 := fun _ => Bool) e h k else false
theorem tof_Attribute {e : Expr} {C : Expr → Prop} {k : Expr → Str → Pos → Bool} (hc : tAttribute e k = true) (z : ∀ y0 y1 y2, k y0 y1 y2 = true → C (.Attribute y0 y1 y2)) : C e :=
  (dk hc).elim fun h hc => Expr.Attribute.elim (motive_1 := fun t => ∀ h, Expr.Attribute.elim (motive_1 := fun _ => Bool) t h k = true → C t) e h (fun y0 y1 y2 _ hc => z y0 y1 y2 hc) h hc
noncomputable def tBinOp (e : Expr) (k : Expr → Operator → Expr → Pos → Bool) : Bool := if h : e.ctorIdx = 2 then Expr.BinOp.elim (motive_1 := fun _ => Bool) e h k else false
theorem tof_BinOp {e : Expr} {C : Expr → Prop} {k : Expr → Operator → Expr → Pos → Bool} (hc : tBinOp e k = true) (z : ∀ y0 y1 y2 y3, k y0 y1 y2 y3 = true → C (.BinOp y0 y1 y2 y3)) : C e :=
  (dk hc).elim fun h hc => Expr.BinOp.elim (motive_1 := fun t => ∀ h, Expr.BinOp.elim (motive_1 := fun _ => Bool) t h k = true → C t) e h (fun y0 y1 y2 y3 _ hc => z y0 y1 y2 y3 hc) h hc
noncomputable def tUnaryOp (e : Expr) (k : UnaryOp → Expr → Pos → Bool) : Bool := if h : e.ctorIdx = 3 then Expr.UnaryOp.elim (motive_1 := fun _ => Bool) e h k else false
theorem tof_UnaryOp {e : Expr} {C : Expr → Prop} {k : UnaryOp → Expr → Pos → Bool} (hc : tUnaryOp e k = true) (z : ∀ y0 y1 y2, k y0 y1 y2 = true → C (.UnaryOp y0 y1 y2)) : C e :=
  (dk hc).elim fun h hc => Expr.UnaryOp.elim (motive_1 := fun t => ∀ h, Expr.UnaryOp.elim (motive_1 := fun _ => Bool) t h k = true → C t) e h (fun y0 y1 y2 _ hc => z y0 y1 y2 hc) h hc
noncomputable def tCompare (e : Expr) (k : Expr → List CmpOp → List Expr → Pos → Bool) : Bool := if h : e.ctorIdx = 15 then Expr.Compare.elim (motive_1 := fun _ => Bool) e h k else false
theorem tof_Compare {e : Expr} {C : Expr → Prop} {k : Expr → List CmpOp → List Expr → Pos → Bool} (hc : tCompare e k = true) (z : ∀ y0 y1 y2 y3, k y0 y1 y2 y3 = true → C (.Compare y0 y1 y2 y3)) : C e :=
  (dk hc).elim fun h hc => Expr.Compare.elim (motive_1 := fun t => ∀ h, Expr.Compare.elim (motive_1 := fun _ => Bool) t h k = true → C t) e h (fun y0 y1 y2 y3 _ hc => z y0 y1 y2 y3 hc) h hc
noncomputable def tBoolOp (e : Expr) (k : BoolOp → List Expr → Pos → Bool) : Bool := if h : e.ctorIdx = 0 then Expr.BoolOp.elim (motive_1 := fun _ => Bool) e h k else false
theorem tof_BoolOp {e : Expr} {C : Expr → Prop} {k : BoolOp → List Expr → Pos → Bool} (hc : tBoolOp e k = true) (z : ∀ y0 y1 y2, k y0 y1 y2 = true → C (.BoolOp y0 y1 y2)) : C e :=
  (dk hc).elim fun h hc => Expr.BoolOp.elim (motive_1 := fun t => ∀ h, Expr.BoolOp.elim (motive_1 := fun _ => Bool) t h k = true → C t) e h (fun y0 y1 y2 _ hc => z y0 y1 y2 hc) h hc
noncomputable def tIfExp (e : Expr) (k : Expr → Expr → Expr → Pos → Bool) : Bool := if h : e.ctorIdx = 5 then Expr.IfExp.elim (motive_1 := fun _ => Bool) e h k else false
theorem tof_IfExp {e : Expr} {C : Expr → Prop} {k : Expr → Expr → Expr → Pos → Bool} (hc : tIfExp e k = true) (z : ∀ y0 y1 y2 y3, k y0 y1 y2 y3 = true → C (.IfExp y0 y1 y2 y3)) : C e :=
  (dk hc).elim fun h hc => Expr.IfExp.elim (motive_1 := fun t => ∀ h, Expr.IfExp.elim (motive_1 := fun _ => Bool) t h k = true → C t) e h (fun y0 y1 y2 y3 _ hc => z y0 y1 y2 y3 hc) h hc
noncomputable def tSubscript (e : Expr) (k : Expr → Expr → Pos → Bool) : Bool := if h : e.ctorIdx = 21 then Expr.Subscript.elim (motive_1 := fun _ => Bool) e h k else false
theorem tof_Subscript {e : Expr} {C : Expr → Prop} {k : Expr → Expr → Pos → Bool} (hc : tSubscript e k = true) (z : ∀ y0 y1 y2, k y0 y1 y2 = true → C (.Subscript y0 y1 y2)) : C e :=
  (dk hc).elim fun h hc => Expr.Subscript.elim (motive_1 := fun t => ∀ h, Expr.Subscript.elim (motive_1 := fun _ => Bool) t h k = true → C t) e h (fun y0 y1 y2 _ hc => z y0 y1 y2 hc) h hc
noncomputable def tSlice (e : Expr) (k : Option Expr → Option Expr → Option Expr → Pos → Bool) : Bool := if h : e.ctorIdx = 26 then Expr.Slice.elim (motive_1 := fun _ => Bool) e h k else false
theorem tof_Slice {e : Expr} {C : Expr → Prop} {k : Option Expr → Option Expr → Option Expr → Pos → Bool} (hc : tSlice e k = true) (z : ∀ y0 y1 y2 y3, k y0 y1 y2 y3 = true → C (.Slice y0 y1 y2 y3)) : C e :=
  (dk hc).elim fun h hc => Expr.Slice.elim (motive_1 := fun t => ∀ h, Expr.Slice.elim (motive_1 := fun _ => Bool) t h k = true → C t) e h (fun y0 y1 y2 y3 _ hc => z y0 y1 y2 y3 hc) h hc
noncomputable def tList (e : Expr) (k : List Expr → Pos → Bool) : Bool := if h : e.ctorIdx = 24 then Expr.List.elim (motive_1 := fun _ => Bool) e h k else false
theorem tof_List {e : Expr} {C : Expr → Prop} {k : List Expr → Pos → Bool} (hc : tList e k = true) (z : ∀ y0 y1, k y0 y1 = true → C (.List y0 y1)) : C e :=
  (dk hc).elim fun h hc => Expr.List.elim (motive_1 := fun t => ∀ h, Expr.List.elim (motive_1 := fun _ => Bool) t h k = true → C t) e h (fun y0 y1 _ hc => z y0 y1 hc) h hc
noncomputable def tTuple (e : Expr) (k : List Expr → Nat → Pos → Bool) : Bool := if h : e.ctorIdx = 25 then Expr.Tuple.elim (motive_1 := fun _ => Bool) e h k else false
theorem tof_Tuple {e : Expr} {C : Expr → Prop} {k : List Expr → Nat → Pos → Bool} (hc : tTuple e k = true) (z : ∀ y0 y1 y2, k y0 y1 y2 = true → C (.Tuple y0 y1 y2)) : C e :=
  (dk hc).elim fun h hc => Expr.Tuple.elim (motive_1 := fun t => ∀ h, Expr.Tuple.elim (motive_1 := fun _ => Bool) t h k = true → C t) e h (fun y0 y1 y2 _ hc => z y0 y1 y2 hc) h hc
noncomputable def tDict (e : Expr) (k : List (Option Expr) → List Expr → Pos → Bool) : Bool := if h : e.ctorIdx = 6 then Expr.Dict.elim (motive_1 := fun _ => Bool) e h k else false
theorem tof_Dict {e : Expr} {C : Expr → Prop} {k : List (Option Expr) → List Expr → Pos → Bool} (hc : tDict e k = true) (z : ∀ y0 y1 y2, k y0 y1 y2 = true → C (.Dict y0 y1 y2)) : C e :=
  (dk hc).elim fun h hc => Expr.Dict.elim (motive_1 := fun t => ∀ h, Expr.Dict.elim (motive_1 := fun _ => Bool) t h k = true → C t) e h (fun y0 y1 y2 _ hc => z y0 y1 y2 hc) h hc
noncomputable def tCall (e : Expr) (k : Expr → List Expr → List Keyword → Pos → Bool) : Bool := if h : e.ctorIdx = 16 then Expr.Call.elim (motive_1 := fun _ => Bool) e h k else false
theorem tof_Call {e : Expr} {C : Expr → Prop} {k : Expr → List Expr → List Keyword → Pos → Bool} (hc : tCall e k = true) (z : ∀ y0 y1 y2 y3, k y0 y1 y2 y3 = true → C (.Call y0 y1 y2 y3)) : C e :=
  (dk hc).elim fun h hc => Expr.Call.elim (motive_1 := fun t => ∀ h, Expr.Call.elim (motive_1 := fun _ => Bool) t h k = true → C t) e h (fun y0 y1 y2 y3 _ hc => z y0 y1 y2 y3 hc) h hc
noncomputable def tListComp (e : Expr) (k : Expr → List Comprehension → Scope → Pos → Bool) : Bool := if h : e.ctorIdx = 8 then Expr.ListComp.elim (motive_1 := fun _ => Bool) e h k else false
theorem tof_ListComp {e : Expr} {C : Expr → Prop} {k : Expr → List Comprehension → Scope → Pos → Bool} (hc : tListComp e k = true) (z : ∀ y0 y1 y2 y3, k y0 y1 y2 y3 = true → C (.ListComp y0 y1 y2 y3)) : C e :=
  (dk hc).elim fun h hc => Expr.ListComp.elim (motive_1 := fun t => ∀ h, Expr.ListComp.elim (motive_1 := fun _ => Bool) t h k = true → C t) e h (fun y0 y1 y2 y3 _ hc => z y0 y1 y2 y3 hc) h hc
noncomputable def sExpr (e : Stmt) (k : Expr → Pos → Bool) : Bool := if h : e.ctorIdx = 24 then Stmt.Expr.elim (motive_2 := fun _ => Bool) e h k else false
theorem sof_Expr {e : Stmt} {C : Stmt → Prop} {k : Expr → Pos → Bool} (hc : sExpr e k = true) (z : ∀ y0 y1, k y0 y1 = true → C (.Expr y0 y1)) : C e :=
  (dk hc).elim fun h hc => Stmt.Expr.elim (motive_2 := fun t => ∀ h, Stmt.Expr.elim (motive_2 := fun _ => Bool) t h k = true → C t) e h (fun y0 y1 _ hc => z y0 y1 hc) h hc
noncomputable def sAssign (e : Stmt) (k : List Expr → Expr → Pos → Bool) : Bool := if h : e.ctorIdx = 5 then Stmt.Assign.elim (motive_2 := fun _ => Bool) e h k else false
theorem sof_Assign {e : Stmt} {C : Stmt → Prop} {k : List Expr → Expr → Pos → Bool} (hc : sAssign e k = true) (z : ∀ y0 y1 y2, k y0 y1 y2 = true → C (.Assign y0 y1 y2)) : C e :=
  (dk hc).elim fun h hc => Stmt.Assign.elim (motive_2 := fun t => ∀ h, Stmt.Assign.elim (motive_2 := fun _ => Bool) t h k = true → C t) e h (fun y0 y1 y2 _ hc => z y0 y1 y2 hc) h hc
noncomputable def sAugAssign (e : Stmt) (k : Expr → Operator → Expr → Pos → Bool) : Bool := if h : e.ctorIdx = 7 then Stmt.AugAssign.elim (motive_2 := fun _ => Bool) e h k else false
theorem sof_AugAssign {e : Stmt} {C : Stmt → Prop} {k : Expr → Operator → Expr → Pos → Bool} (hc : sAugAssign e k = true) (z : ∀ y0 y1 y2 y3, k y0 y1 y2 y3 = true → C (.AugAssign y0 y1 y2 y3)) : C e :=
  (dk hc).elim fun h hc => Stmt.AugAssign.elim (motive_2 := fun t => ∀ h, Stmt.AugAssign.elim (motive_2 := fun _ => Bool) t h k = true → C t) e h (fun y0 y1 y2 y3 _ hc => z y0 y1 y2 y3 hc) h hc
noncomputable def sIf (e : Stmt) (k : Expr → List Stmt → List Stmt → Pos → Bool) : Bool := if h : e.ctorIdx = 12 then Stmt.If.elim (motive_2 := fun _ => Bool) e h k else false
theorem sof_If {e : Stmt} {C : Stmt → Prop} {k : Expr → List Stmt → List Stmt → Pos → Bool} (hc : sIf e k = true) (z : ∀ y0 y1 y2 y3, k y0 y1 y2 y3 = true → C (.If y0 y1 y2 y3)) : C e :=
  (dk hc).elim fun h hc => Stmt.If.elim (motive_2 := fun t => ∀ h, Stmt.If.elim (motive_2 := fun _ => Bool) t h k = true → C t) e h (fun y0 y1 y2 y3 _ hc => z y0 y1 y2 y3 hc) h hc
noncomputable def sWhile (e : Stmt) (k : Expr → List Stmt → List Stmt → Pos → Bool) : Bool := if h : e.ctorIdx = 11 then Stmt.While.elim (motive_2 := fun _ => Bool) e h k else false
theorem sof_While {e : Stmt} {C : Stmt → Prop} {k : Expr → List Stmt → List Stmt → Pos → Bool} (hc : sWhile e k = true) (z : ∀ y0 y1 y2 y3, k y0 y1 y2 y3 = true → C (.While y0 y1 y2 y3)) : C e :=
  (dk hc).elim fun h hc => Stmt.While.elim (motive_2 := fun t => ∀ h, Stmt.While.elim (motive_2 := fun _ => Bool) t h k = true → C t) e h (fun y0 y1 y2 y3 _ hc => z y0 y1 y2 y3 hc) h hc
noncomputable def sFor (e : Stmt) (k : Expr → Expr → List Stmt → List Stmt → Pos → Bool) : Bool := if h : e.ctorIdx = 9 then Stmt.For.elim (motive_2 := fun _ => Bool) e h k else false
theorem sof_For {e : Stmt} {C : Stmt → Prop} {k : Expr → Expr → List Stmt → List Stmt → Pos → Bool} (hc : sFor e k = true) (z : ∀ y0 y1 y2 y3 y4, k y0 y1 y2 y3 y4 = true → C (.For y0 y1 y2 y3 y4)) : C e :=
  (dk hc).elim fun h hc => Stmt.For.elim (motive_2 := fun t => ∀ h, Stmt.For.elim (motive_2 := fun _ => Bool) t h k = true → C t) e h (fun y0 y1 y2 y3 y4 _ hc => z y0 y1 y2 y3 y4 hc) h hc
noncomputable def sReturn (e : Stmt) (k : Option Expr → Pos → Bool) : Bool := if h : e.ctorIdx = 3 then Stmt.Return.elim (motive_2 := fun _ => Bool) e h k else false
theorem sof_Return {e : Stmt} {C : Stmt → Prop} {k : Option Expr → Pos → Bool} (hc : sReturn e k = true) (z : ∀ y0 y1, k y0 y1 = true → C (.Return y0 y1)) : C e :=
  (dk hc).elim fun h hc => Stmt.Return.elim (motive_2 := fun t => ∀ h, Stmt.Return.elim (motive_2 := fun _ => Bool) t h k = true → C t) e h (fun y0 y1 _ hc => z y0 y1 hc) h hc
section
variable {α : Type} {l : List α} {C : List α → Prop}
noncomputable def kCons (l : List α) (k : α → List α → Bool) : Bool := match l with
  | x :: r => k x r
  | [] => false
theorem of_Cons {k : α → List α → Bool} (hc : kCons l k = true) (z : ∀ x r, k x r = true → C (x :: r)) : C l := by
  cases l with
  | nil => cases hc
  | cons x r => exact z x r hc
theorem nil_e (h : l.isEmpty = true) (z : C []) : C l := List.isEmpty_iff.mp h ▸ z
theorem and_e {a b : Bool} {p : Prop} (h : (a && b) = true) (z : a = true → b = true → p) : p := z (and_of h).1 (and_of h).2
theorem beq_e {α : Type} [BEq α] [LawfulBEq α] {C : α → Prop} {a b : α} (h : (a == b) = true) (z : C b) : C a := eq_of_beq h ▸ z
theorem dec_e {α : Type} [DecidableEq α] {C : α → Prop} {a b : α} (h : decide (a = b) = true) (z : C a) : C b := of_decide_eq_true h ▸ z
theorem dec_e' {α : Type} [DecidableEq α] {C : α → Prop} {a b : α} (h : decide (a = b) = true) (z : C b) : C a := of_decide_eq_true h ▸ z
noncomputable def k1 (l : List α) (k : α → Bool) : Bool := kCons l fun x r => r.isEmpty && k x
theorem of_1 {k : α → Bool} (hc : k1 l k = true) (z : ∀ x, k x = true → C [x]) : C l :=
  of_Cons hc fun x _ hc => and_e hc fun h1 hc => nil_e (C := fun r => C (x :: r)) h1 (z x hc)
noncomputable def k2 (l : List α) (k : α → α → Bool) : Bool := kCons l fun x r => k1 r (k x)
theorem of_2 {k : α → α → Bool} (hc : k2 l k = true) (z : ∀ x y, k x y = true → C [x, y]) : C l :=
  of_Cons hc fun x _ hc => of_1 (C := fun r => C (x :: r)) hc (z x)
noncomputable def kSome (o : Option α) (k : α → Bool) : Bool := match o with
  | some x => k x
  | none => false
theorem of_Some {o : Option α} {C : Option α → Prop} {k : α → Bool} (hc : kSome o k = true) (z : ∀ x, k x = true → C (some x)) : C o := by
  cases o with
  | none => cases hc
  | some x => exact z x hc
theorem none_e {o : Option α} {C : Option α → Prop} (h : o.isNone = true) (z : C none) : C o := by
  cases o with
  | none => exact z
  | some x => cases h
end
end Mine
namespace Mine
noncomputable def VR : V → Value → Prop
  | .none, v => v = .none
  | .bool b, v => v = .bool b
  | .int i, v => ∃ t, v = .int i t
  | .str s, v => ∃ t, v = .str s t
  | .ref a, v => v = .ref a
noncomputable def VRs : List V → List Value → Prop
  | [], [] => True
  | x :: xs, y :: ys => VR x y ∧ VRs xs ys
  | _, _ => False
noncomputable def clsName : Cls → Str
  | .arr => Str.ofString "Arr"
  | .rf => Str.ofString "Ref"
  | .absent => Str.ofString "Absent"
  | .host => Str.ofString "Host"
  | .frame => Str.ofString "Frame"
noncomputable def addrOf (K : Frag) (x : Str) : Addr := match nsIn K mainGlobals x with
  | some (some (.ref a)) => a
  | _ => 0
noncomputable def clsAddr (K : Frag) (c : Cls) : Addr := addrOf K (clsName c)
noncomputable def lookupZ : List Str → List V → Str → Option V
  | n :: ns, v :: vs, x => if x = n then some v else lookupZ ns vs x
  | _, _, _ => none
noncomputable def fldMap (c : Cls) (fs : List V) (x : Str) : Option V := lookupZ ((lay c).map fname) fs x
noncomputable def findL (x : Str) (es : List DictEntry) : Option Value := (es.find? (·.key.isStr x)).map (·.val)
structure RowsAre (c : Cls) (fs : List V) (es : List DictEntry) : Prop where
  keys : ∀ e ∈ es, ∃ x t, e.key = .str x t
  len : es.length ≤ fs.length
  map : ∀ x, match fldMap c fs x with
    | some v => ∃ v', findL x es = some v' ∧ VR v v'
    | none => findL x es = none
noncomputable def Real (K : Frag) (h : Heap) (H : Hp) (a : Addr) : O → Prop
  | .inst c d fs => h.get? a = some (instObj (clsAddr K c) d) ∧ H d = some (.hid a) ∧ fs.length ≤ fnum c ∧ ∃ es n, h.get? d = some (dictOf es n) ∧ RowsAre c fs es
  | .hid _ => ∃ o, h.get? a = some o
  | .lst vs => ∃ items n, h.get? a = some (listOf items n) ∧ VRs vs items.toList
  | .tup vs => ∃ items n, h.get? a = some { cls := .type "tuple", data := .seq items n } ∧ VRs vs items.toList
  | .dct => (a == sysModules) = false ∧ ∃ n, h.get? a = some (dictOf [] n)
  | .fro vs => ∃ items, h.IsList a items ∧ VRs vs items.toList
theorem Real.there {K : Frag} {h : Heap} {H : Hp} {a : Addr} {o : O} (x : Real K h H a o) : ∃ ob, h.get? a = some ob := by
  cases o with
  | inst c d fs => exact ⟨_, x.1⟩
  | hid _ => exact x
  | lst vs => obtain ⟨_, _, e, _⟩ := x; exact ⟨_, e⟩
  | tup vs => obtain ⟨_, _, e, _⟩ := x; exact ⟨_, e⟩
  | dct => obtain ⟨_, _, e⟩ := x; exact ⟨_, e⟩
  | fro vs => obtain ⟨_, ⟨o, e, _⟩, _⟩ := x; exact ⟨o, e⟩
structure Good (K : Frag) (hb h : Heap) (H : Hp) : Prop where
  base : ∀ b o, hb.get? b = some o → h.get? b = some o
  real : ∀ a o, H a = some o → (o.frozen = true ∨ hb.get? a = none) ∧ Real K h H a o
structure Step (K : Frag) (hb h : Heap) (H : Hp) (h' : Heap) (H' : Hp) (own : List Addr) : Prop where
  good : Good K hb h' H'
  keeps : ∀ b o, h.get? b = some o → H b = none → b ∉ own → h'.get? b = some o
  alive : ∀ b o, h.get? b = some o → ∃ o', h'.get? b = some o'
  fresh : ∀ b o, H' b = some o → H b = none → h.get? b = none
section
variable {K : Frag} {hb h h' h'' : Heap} {H H' H'' : Hp} {own : List Addr}
theorem Good.there (g : Good K hb h H) {a : Addr} {o : O} (e : H a = some o) : ∃ ob, h.get? a = some ob := (g.real a o e).2.there
theorem Good.fresh (g : Good K hb h H) {a : Addr} (e : h.get? a = none) : H a = none := by
  cases q : H a with
  | none => rfl
  | some o => obtain ⟨ob, e'⟩ := g.there q; rw [e] at e'; cases e'
theorem get_size (h : Heap) : h.get? h.objs.size = none := by
  cases q : h.get? h.objs.size with
  | none => rfl
  | some o => exact absurd (Heap.lt_size q) (Nat.lt_irrefl _)
theorem Step.refl (g : Good K hb h H) : Step K hb h H h H own := ⟨g, fun _ _ e _ _ => e, fun _ o e => ⟨o, e⟩, fun b o e e' => by rw [e'] at e; cases e⟩
theorem Step.trans (x : Step K hb h H h' H' own) (y : Step K hb h' H' h'' H'' own) : Step K hb h H h'' H'' own := by
  refine ⟨y.good, fun b o e n ho => ?_, fun b o e => ?_, fun b o e n => ?_⟩
  · refine y.keeps b o (x.keeps b o e n ho) ?_ ho
    cases q : H' b with
    | none => rfl
    | some o' => rw [x.fresh b o' q n] at e; cases e
  · obtain ⟨o', e'⟩ := x.alive b o e
    exact y.alive b o' e'
  · cases q : H' b with
    | some o' => exact x.fresh b o' q n
    | none =>
      have := y.fresh b o e q
      cases z : h.get? b with
      | none => rfl
      | some o' => obtain ⟨o'', e'⟩ := x.alive b o' z; rw [this] at e'; cases e'
theorem Step.any (x : Step K hb h H h' H' []) : Step K hb h H h' H' own := ⟨x.good, fun b o e n _ => x.keeps b o e n (by simp), x.alive, x.fresh⟩
theorem Step.mono {own' : List Addr} (x : Step K hb h H h' H' own) (hs : ∀ a ∈ own, a ∈ own') : Step K hb h H h' H' own' := ⟨x.good, fun b o e n ho => x.keeps b o e n fun q => ho (hs _ q), x.alive, x.fresh⟩
theorem Step.out (x : Step K hb h H h' H' own) {b : Addr} {o : Obj} (e : h.get? b = some o) (n : H b = none) : H' b = none := by
  cases q : H' b with
  | none => rfl
  | some o' => rw [x.fresh b o' q n] at e; cases e
theorem Real.keeps {a : Addr} {o : O} (x : Real K h H a o) (k : ∀ b ob, h.get? b = some ob → (b = a ∨ H b = some (.hid a)) → h'.get? b = some ob) (kH : ∀ d, H d = some (.hid a) → H' d = some (.hid a)) : Real K h' H' a o := by
  cases o with
  | inst c d fs =>
    obtain ⟨e1, e2, e0, es, n, e3, e6⟩ := x
    exact ⟨k _ _ e1 (.inl rfl), kH _ e2, e0, es, n, k _ _ e3 (.inr e2), e6⟩
  | hid _ => obtain ⟨o, e⟩ := x; exact ⟨o, k _ _ e (.inl rfl)⟩
  | lst vs => obtain ⟨i, n, e, r⟩ := x; exact ⟨i, n, k _ _ e (.inl rfl), r⟩
  | tup vs => obtain ⟨i, n, e, r⟩ := x; exact ⟨i, n, k _ _ e (.inl rfl), r⟩
  | dct => obtain ⟨lo, n, e⟩ := x; exact ⟨lo, n, k _ _ e (.inl rfl)⟩
  | fro vs => obtain ⟨i, ⟨o, e, r0⟩, r⟩ := x; exact ⟨i, ⟨o, k _ _ e (.inl rfl), r0⟩, r⟩
theorem Good.grow (g : Good K hb h H) (k : ∀ b o, h.get? b = some o → h'.get? b = some o) : Good K hb h' H :=
  ⟨fun b o e => k _ _ (g.base b o e), fun a o e => ⟨(g.real a o e).1, (g.real a o e).2.keeps (fun _ _ e _ => k _ _ e) fun _ e => e⟩⟩
theorem Step.grow (g : Good K hb h H) (k : ∀ b o, h.get? b = some o → h'.get? b = some o) : Step K hb h H h' H own :=
  ⟨g.grow k, fun b o e _ _ => k _ _ e, fun b o e => ⟨o, k _ _ e⟩, fun b o e e' => by rw [e'] at e; cases e⟩
theorem Step.outside (g : Good K hb h H) {a : Addr} (hs : Heap.ExtBut a h h') (ha : H a = none) (hna : hb.get? a = none) (hal : ∃ o, h'.get? a = some o) (ho : a ∈ own) : Step K hb h H h' H own := by
  have ne : ∀ b o, H b = some o → b ≠ a := fun b o e q => by rw [q, ha] at e; cases e
  refine ⟨⟨fun b o e => hs b o (fun q => by rw [q, hna] at e; cases e) (g.base b o e), fun c o e => ⟨(g.real c o e).1, (g.real c o e).2.keeps (fun b ob e' hc => hs b ob ?_ e') fun _ e => e⟩⟩,
    fun b o e _ hb' => hs b o (fun q => hb' (q ▸ ho)) e, fun b o e => ?_, fun b o e e' => by rw [e'] at e; cases e⟩
  · rcases hc with rfl | hc
    · exact ne _ _ e
    · exact ne _ _ hc
  · by_cases q : b = a
    · subst q; exact hal
    · exact ⟨o, hs b o q e⟩
theorem Step.alloc (g : Good K hb h H) {a : Addr} {o : O} (hn : h.get? a = none) (k : ∀ b o, h.get? b = some o → h'.get? b = some o) (r : Real K h' (upd H a o) a o) : Step K hb h H h' (upd H a o) own := by
  have ha := g.fresh hn
  refine ⟨⟨fun b ob e => k _ _ (g.base b ob e), fun c oc e => ?_⟩, fun b ob e _ _ => k _ _ e, fun b ob e => ⟨ob, k _ _ e⟩, fun b ob e e' => ?_⟩
  · by_cases q : c = a
    · subst q
      rw [upd_self] at e; cases e
      refine ⟨.inr ?_, r⟩
      cases z : hb.get? c with
      | none => rfl
      | some ob => rw [g.base _ _ z] at hn; cases hn
    · rw [upd_ne q] at e
      exact ⟨(g.real c oc e).1, (g.real c oc e).2.keeps (fun b ob e' _ => k _ _ e') fun d e => upd_ne' e ha⟩
  · by_cases q : b = a
    · subst q; exact hn
    · rw [upd_ne q, e'] at e; cases e
theorem Step.change (g : Good K hb h H) {a : Addr} {o o' : O} (e : H a = some o) (hno : ∀ x, o ≠ .hid x) (hs : Heap.ExtBut a h h') (r : Real K h' (upd H a o') a o') (hnf : o.frozen = false := by rfl) : Step K hb h H h' (upd H a o') own := by
  have hba : hb.get? a = none := (g.real a o e).1.resolve_left (by rw [hnf]; decide)
  have kH : ∀ x d, H d = some (.hid x) → upd H a o' d = some (.hid x) := fun x d ed => by
    rw [upd_ne]
    · exact ed
    · rintro rfl; rw [e] at ed; exact hno _ (Option.some.inj ed)
  refine ⟨⟨fun b ob eb => hs b ob (fun q => by rw [q, hba] at eb; cases eb) (g.base b ob eb), fun c oc ec => ?_⟩, fun b ob eb nb _ => hs b ob (fun q => by rw [q, e] at nb; cases nb) eb, fun b ob eb => ?_, fun b ob eb nb => ?_⟩
  · by_cases q : c = a
    · subst q; rw [upd_self] at ec; cases ec; exact ⟨.inr hba, r⟩
    · rw [upd_ne q] at ec
      refine ⟨(g.real c oc ec).1, (g.real c oc ec).2.keeps (fun b ob e' hc => hs b ob ?_ e') (kH _)⟩
      rcases hc with rfl | hc
      · exact q
      · rintro rfl; rw [e] at hc; exact hno _ (Option.some.inj hc)
  · by_cases q : b = a
    · subst q; exact r.there
    · exact ⟨ob, hs b ob q eb⟩
  · by_cases q : b = a
    · subst q; rw [e] at nb; cases nb
    · rw [upd_ne q, nb] at eb; cases eb
theorem Step.field (g : Good K hb h H) {a d : Addr} {c : Cls} {fs fs' : List V} (e : H a = some (.inst c d fs)) (hs : Heap.ExtBut d h h') (hlen : fs'.length ≤ fnum c) {es : List DictEntry} {n : Nat} (ho : h'.get? d = some (dictOf es n)) (hm : RowsAre c fs' es) :
    Step K hb h H h' (upd H a (.inst c d fs')) own := by
  obtain ⟨hba, e1, e2, _⟩ := g.real _ _ e
  have hbd : hb.get? d = none := (g.real _ _ e2).1.resolve_left (fun z => nomatch z)
  have hda : a ≠ d := by rintro rfl; rw [e] at e2; cases e2
  have kH : ∀ x d', H d' = some (.hid x) → upd H a (.inst c d fs') d' = some (.hid x) := fun x d' ed => by
    rw [upd_ne]
    · exact ed
    · rintro rfl; rw [e] at ed; cases ed
  refine ⟨⟨fun b ob eb => hs b ob (fun q => by rw [q, hbd] at eb; cases eb) (g.base b ob eb), fun x ox ex => ?_⟩, fun b ob eb nb _ => hs b ob (fun q => by rw [q, e2] at nb; cases nb) eb, fun b ob eb => ?_, fun b ob eb nb => ?_⟩
  · by_cases q : x = a
    · subst q; rw [upd_self] at ex; cases ex; exact ⟨hba, hs _ _ hda e1, kH _ _ e2, hlen, es, n, ho, hm⟩
    · rw [upd_ne q] at ex
      refine ⟨(g.real x ox ex).1, ?_⟩
      have r := (g.real x ox ex).2
      by_cases z : x = d
      · subst z
        rw [ex] at e2
        cases e2
        exact ⟨_, ho⟩
      · refine r.keeps (fun b ob e' hc => hs b ob ?_ e') (kH _)
        rcases hc with rfl | hc
        · exact z
        · rintro rfl; rw [e2] at hc; cases hc; exact q rfl
  · by_cases q : b = d
    · subst q; exact ⟨_, ho⟩
    · exact ⟨ob, hs b ob q eb⟩
  · by_cases q : b = a
    · subst q; rw [e] at nb; cases nb
    · rw [upd_ne q, nb] at eb; cases eb
theorem Step.make (g : Good K hb h H) {a d : Addr} {c : Cls} (hd : h.get? d = none) (hna : h.get? a = none) (hne : a ≠ d) (k : ∀ b o, h.get? b = some o → h'.get? b = some o) (ea : h'.get? a = some (instObj (clsAddr K c) d)) (ed : h'.get? d = some (dictOf [] 0)) :
    Step K hb h H h' (upd (upd H d (.hid a)) a (.inst c d [])) own := by
  have Ha := g.fresh hna
  have Hd := g.fresh hd
  have bn : ∀ x, h.get? x = none → hb.get? x = none := fun x hx => by
    cases z : hb.get? x with
    | none => rfl
    | some ob => rw [g.base _ _ z] at hx; cases hx
  have hda : upd (upd H d (.hid a)) a (.inst c d []) d = some (.hid a) := by rw [upd_ne (Ne.symm hne), upd_self]
  refine ⟨⟨fun b ob e => k _ _ (g.base b ob e), fun x ox e => ?_⟩, fun b ob e _ _ => k _ _ e, fun b ob e => ⟨ob, k _ _ e⟩, fun b ob e e' => ?_⟩
  · by_cases q : x = a
    · subst q
      rw [upd_self] at e; cases e
      refine ⟨.inr (bn _ hna), ea, hda, Nat.zero_le _, [], 0, ed, fun _ he => (nomatch he), Nat.zero_le _, fun y => ?_⟩
      have : fldMap c [] y = none := by unfold fldMap; cases (lay c).map fname <;> rfl
      rw [this]; rfl
    · rw [upd_ne q] at e
      by_cases z : x = d
      · subst z
        rw [upd_self] at e; cases e
        exact ⟨.inr (bn _ hd), _, ed⟩
      · rw [upd_ne z] at e
        refine ⟨(g.real x ox e).1, (g.real x ox e).2.keeps (fun b ob e' _ => k _ _ e') fun d' e => ?_⟩
        rw [upd_ne, upd_ne' e Hd]
        rintro rfl; rw [Ha] at e; cases e
  · by_cases q : b = a
    · subst q; exact hna
    · rw [upd_ne q] at e
      by_cases z : b = d
      · subst z; exact hd
      · rw [upd_ne z, e'] at e; cases e
end
end Mine
namespace Mine
structure Fix where
  prog : Program
  w : World
  K : Frag
  hb : Heap
  g : Array GenState
  d : Drawn
  os : OsState
noncomputable abbrev Fix.M (X : Fix) : Model := model X.prog X.w
noncomputable abbrev Fix.at (X : Fix) (h : Heap) (tk : Nat) : Shared := ⟨h, X.g, X.d, tk, X.os⟩
inductive WQ {α : Type} (X : Fix) (Q : α → Heap → Prop) (a : α) : Shared → Prop
  | mk (h : Heap) (tk : Nat) (q : Q a h) : WQ X Q a (X.at h tk)
noncomputable def Wp {α : Type} (X : Fix) (A : Around) (t : Sem α) (Q : α → Heap → Prop) (h : Heap) : Prop :=
  ∀ tk, wpAny X.M A t (WQ X Q) (fun _ _ => False) (X.at h tk)
section
variable {α β : Type} {X : Fix} {A : Around} {h : Heap}
theorem Wp.pure {a : α} {Q : α → Heap → Prop} (q : Q a h) : Wp X A (Pure.pure a) Q h := fun tk => wpAny_pure ⟨h, tk, q⟩
theorem Wp.bind {m : Sem α} {f : α → Sem β} {Q : β → Heap → Prop} (x : Wp X A m (fun a h' => Wp X A (f a) Q h') h) : Wp X A (m >>= f) Q h :=
  fun tk => wpAny_bind (wpAny_mono (x tk) (fun _ _ ⟨_, tk', q⟩ => q tk') fun _ _ z => z)
theorem Wp.mono {m : Sem α} {Q Q' : α → Heap → Prop} (x : Wp X A m Q h) (k : ∀ a h', Q a h' → Q' a h') : Wp X A m Q' h :=
  fun tk => wpAny_mono (x tk) (fun _ _ ⟨h', tk', q⟩ => ⟨h', tk', k _ _ q⟩) fun _ _ z => z
theorem Wp.holding {vs : List Value} {m : Sem α} {Q : α → Heap → Prop} (x : Wp X A m Q h) : Wp X A (PySem.holding vs m) Q h := fun tk => wpAny_holding (x tk)
theorem Wp.standAt {p : Pos} {Q : Unit → Heap → Prop} (q : Q () h) : Wp X A (PySem.standAt p) Q h := fun tk => wpAny_standAt ⟨h, tk, q⟩
theorem Wp.rule {tag : String} {Q : Unit → Heap → Prop} (q : Q () h) : Wp X A (PySem.rule tag) Q h := fun tk => wpAny_rule ⟨h, tk, q⟩
theorem Wp.operate {vs : List Value} {m : Sem Value} {Q : Value → Heap → Prop} (x : Wp X A m Q h) : Wp X A (PySem.operate vs m) Q h := fun tk Γ p hΓ => by rw [Sem.wp_operate]; exact x tk Γ p hΓ
theorem Wp.release {vs keep : List Value} {Q : Unit → Heap → Prop} (q : Q () h) : Wp X A (PySem.release vs keep) Q h := fun tk Γ p _ => by rw [Sem.wp_release]; exact ⟨h, tk, q⟩
theorem Wp.call {f : Value} {pos : List Value} {kw : List (Str × Value)} {Q : Value → Heap → Prop} (x : ∀ tk, codeAny X.M A (.call f ⟨pos, kw⟩) (fun r s' => match r with | .ok (.ret v) => WQ X Q v s' | .ok _ => False | .error _ => False) (X.at h tk)) :
    Wp X A (PySem.call f pos kw) Q h := fun tk => wpAny_call (x tk)
end
inductive RQ {α β : Type} (rel : β → α → Prop) (X : Fix) (own : List Addr) (Q : β → Hp → Prop) (h : Heap) (H : Hp) (v' : α) (h' : Heap) : Prop
  | mk (v : β) (H' : Hp) (r : rel v v') (q : Q v H') (s : Step X.K X.hb h H h' H' own)
noncomputable def RW {α β : Type} (rel : β → α → Prop) (X : Fix) (A : Around) (own : List Addr) (t : Sem α) (Q : β → Hp → Prop) (h : Heap) (H : Hp) : Prop := Wp X A t (RQ rel X own Q h H) h
noncomputable abbrev R (X : Fix) (A : Around) (t : Sem Value) (Q : V → Hp → Prop) (h : Heap) (H : Hp) : Prop := RW VR X A [] t Q h H
section
variable {α α' β β' : Type} {rel : β → α → Prop} {rel' : β' → α' → Prop} {X : Fix} {A : Around} {own : List Addr} {h : Heap} {H : Hp}
theorem RW.bind {t : Sem α} {k : α → Sem α'} {P : β → Hp → Prop} {Q : β' → Hp → Prop} (x : RW rel X A own t P h H)
    (y : ∀ v v' h1 H1, rel v v' → P v H1 → Step X.K X.hb h H h1 H1 own → RW rel' X A own (k v') Q h1 H1) : RW rel' X A own (t >>= k) Q h H :=
  Wp.bind (Wp.mono x fun v' h1 ⟨v, H1, r, p, s⟩ => Wp.mono (y v v' h1 H1 r p s) fun _ _ ⟨u, H2, r', q, s'⟩ => ⟨u, H2, r', q, s.trans s'⟩)
theorem RW.pure (g : Good X.K X.hb h H) {a : α} {b : β} {Q : β → Hp → Prop} (r : rel b a) (q : Q b H) : RW rel X A own (Pure.pure a) Q h H := Wp.pure ⟨b, H, r, q, .refl g⟩
theorem RW.mono {t : Sem α} {P Q : β → Hp → Prop} (x : RW rel X A own t P h H) (k : ∀ v H, P v H → Q v H) : RW rel X A own t Q h H := Wp.mono x fun _ _ ⟨v, H1, r, p, s⟩ => ⟨v, H1, r, k _ _ p, s⟩
theorem RW.holding {vs : List Value} {t : Sem α} {Q : β → Hp → Prop} (x : RW rel X A own t Q h H) : RW rel X A own (PySem.holding vs t) Q h H := Wp.holding x
theorem RW.operate {relv : β → Value → Prop} {vs : List Value} {t : Sem Value} {Q : β → Hp → Prop} (x : RW relv X A own t Q h H) : RW relv X A own (PySem.operate vs t) Q h H := Wp.operate x
theorem RW.standAt {p : Pos} {k : Unit → Sem α} {Q : β → Hp → Prop} (x : RW rel X A own (k ()) Q h H) : RW rel X A own (PySem.standAt p >>= k) Q h H := Wp.bind (Wp.standAt x)
theorem RW.release {vs l : List Value} {k : Unit → Sem α} {Q : β → Hp → Prop} (x : RW rel X A own (k ()) Q h H) : RW rel X A own (PySem.release vs l >>= k) Q h H := Wp.bind (Wp.release x)
theorem RW.pureBind {a : α'} {k : α' → Sem α} {Q : β → Hp → Prop} (x : RW rel X A own (k a) Q h H) : RW rel X A own (Pure.pure a >>= k) Q h H := Wp.bind (Wp.pure x)
theorem RW.still (g : Good X.K X.hb h H) {t : Sem α} {b : β} {Q : β → Hp → Prop} (q : Q b H) (x : ∀ tk (P : α → Shared → Prop), (∀ a tk', rel b a → P a (X.at h tk')) → wpAny X.M A t P (fun _ _ => False) (X.at h tk)) : RW rel X A own t Q h H :=
  fun tk => x tk _ fun _ tk' r => ⟨h, tk', b, H, r, q, .refl g⟩
theorem RW.grown (g : Good X.K X.hb h H) {t : Sem α} {b : β} {Q : β → Hp → Prop} (q : Q b H) (x : ∀ tk (P : α → Shared → Prop), (∀ a h' tk', rel b a → (∀ c o, h.get? c = some o → h'.get? c = some o) → P a (X.at h' tk')) → wpAny X.M A t P (fun _ _ => False) (X.at h tk)) : RW rel X A own t Q h H :=
  fun tk => x tk _ fun _ h' tk' r k => ⟨h', tk', b, H, r, q, .grow g k⟩
theorem RW.makes (g : Good X.K X.hb h H) {t : Sem Value} {o : O} {Q : V → Hp → Prop} (q : ∀ l, H l = none → Q (.ref l) (upd H l o))
    (x : ∀ tk (P : Value → Shared → Prop), (∀ l h' tk', h.get? l = none → (∀ c o, h.get? c = some o → h'.get? c = some o) → Real X.K h' (upd H l o) l o → P (.ref l) (X.at h' tk')) → wpAny X.M A t P (fun _ _ => False) (X.at h tk)) : RW VR X A own t Q h H :=
  fun tk => x tk _ fun l h' tk' hn k r => ⟨h', tk', .ref l, upd H l o, rfl, q l (g.fresh hn), .alloc g hn k r⟩
end
theorem VRs.length : ∀ {xs : List V} {ys : List Value}, VRs xs ys → xs.length = ys.length
  | [], [], _ => rfl
  | _ :: _, _ :: _, h => congrArg (· + 1) (VRs.length h.2)
  | [], _ :: _, h => h.elim
  | _ :: _, [], h => h.elim
theorem VRs.get : ∀ {xs : List V} {ys : List Value}, VRs xs ys → ∀ {i : Nat} {x : V}, xs[i]? = some x → ∃ y, ys[i]? = some y ∧ VR x y
  | [], [], _, i, x, e => by simp at e
  | a :: xs, b :: ys, h, 0, x, e => by simp at e; subst e; exact ⟨b, by simp, h.1⟩
  | a :: xs, b :: ys, h, i + 1, x, e => by simp at e ⊢; exact h.2.get e
  | [], _ :: _, h, _, _, _ => h.elim
  | _ :: _, [], h, _, _, _ => h.elim
theorem VRs.append : ∀ {xs : List V} {ys : List Value} {xs' : List V} {ys' : List Value}, VRs xs ys → VRs xs' ys' → VRs (xs ++ xs') (ys ++ ys')
  | [], [], _, _, _, h' => h'
  | _ :: _, _ :: _, _, _, h, h' => ⟨h.1, h.2.append h'⟩
  | [], _ :: _, _, _, h, _ => h.elim
  | _ :: _, [], _, _, h, _ => h.elim
theorem VRs.set : ∀ {xs : List V} {ys : List Value}, VRs xs ys → ∀ {i : Nat} {x : V} {y : Value}, VR x y → VRs (xs.set i x) (ys.set i y)
  | [], [], _, _, _, _, _ => trivial
  | _ :: _, _ :: _, h, 0, _, _, r => ⟨r, h.2⟩
  | _ :: _, _ :: _, h, _ + 1, _, _, r => ⟨h.1, h.2.set r⟩
  | [], _ :: _, h, _, _, _, _ => h.elim
  | _ :: _, [], h, _, _, _, _ => h.elim
theorem VRs.take : ∀ {xs : List V} {ys : List Value}, VRs xs ys → ∀ n, VRs (xs.take n) (ys.take n)
  | [], [], _, n => by simp [VRs]
  | _ :: _, _ :: _, _, 0 => by simp [VRs]
  | _ :: _, _ :: _, h, n + 1 => ⟨h.1, h.2.take n⟩
  | [], _ :: _, h, _ => h.elim
  | _ :: _, [], h, _ => h.elim
theorem VRs.drop : ∀ {xs : List V} {ys : List Value}, VRs xs ys → ∀ n, VRs (xs.drop n) (ys.drop n)
  | [], [], _, n => by simp [VRs]
  | _ :: _, _ :: _, h, 0 => h
  | _ :: _, _ :: _, h, n + 1 => h.2.drop n
  | [], _ :: _, h, _ => h.elim
  | _ :: _, [], h, _ => h.elim
theorem vr1 {x : V} {vs' : List Value} (rv : VRs [x] vs') : ∃ v', vs' = [v'] ∧ VR x v' := by
  cases vs' with
  | nil => exact rv.elim
  | cons v' r => cases r with
    | nil => exact ⟨v', rfl, rv.1⟩
    | cons => exact rv.2.elim
theorem vr2 {x y : V} {vs' : List Value} (rv : VRs [x, y] vs') : ∃ u' v', vs' = [u', v'] ∧ VR x u' ∧ VR y v' := by
  cases vs' with
  | nil => exact rv.elim
  | cons u' r =>
    obtain ⟨v', rfl, h⟩ := vr1 rv.2
    exact ⟨u', v', rfl, rv.1, h⟩
structure Room (A : Around) (n : Nat) : Prop where
  depth : A.depth + n ≤ 980
  units : A.units + 10 * n ≤ 9800
  handled : A.handled = none
  guards : A.guards = some []
theorem Room.le {A : Around} {m n : Nat} (r : Room A n) (h : m ≤ n) : Room A m := ⟨by have := r.depth; omega, by have := r.units; omega, r.handled, r.guards⟩
theorem Room.deeper {A : Around} {n : Nat} {env : Env} (r : Room A (n + 1)) : Room (A.deeper env) n :=
  ⟨by have := r.depth; show A.depth + 1 + n ≤ 980; omega, by have := r.units; show A.units + 3 + 10 * n ≤ 9800; omega, r.handled, r.guards⟩
theorem Room.room {A : Around} {n : Nat} (r : Room A n) : A.depth < recursionLimit := by have := r.depth; show A.depth < 1000; omega
theorem Room.cline {A : Around} {n : Nat} (r : Room A n) : A.units + 99 < cLine := by have := r.units; show A.units + 99 < 9900; omega
structure Sc where
  names : List (Str × NameKind)
  vars : List (Str × Nat)
structure FrameOk (X : Fix) (sc : Sc) (env : Env) (h : Heap) (ρ : Env') (H : Hp) : Prop where
  kind : env.scope.kind = .function
  names : env.scope.names = sc.names
  globals : env.globals = mainGlobals
  builtins : env.builtins = builtinsNs
  out : H env.locals = none
  new : X.hb.get? env.locals = none
  ns : ∃ m, h.Ns env.locals m ∧ ∀ x i v, sc.vars.lookup x = some i → sc.names.lookup x = some .local → ρ[i]? = some (some v) → ∃ v', m x = some v' ∧ VR v v'
  cells : ∀ x i k, sc.vars.lookup x = some i → sc.names.lookup x = some k → (k = .cell ∨ k = .free) → ∃ c o w, env.cells.lookup x = some c ∧ h.get? c = some o ∧ o.data = .cell w ∧ H c = none ∧ X.hb.get? c = none ∧ c ≠ env.locals ∧
    ∀ v, ρ[i]? = some (some v) → ∃ v', w = some v' ∧ VR v v'
section
variable {X : Fix} {A : Around} {sc : Sc} {env : Env} {h h' : Heap} {ρ : Env'} {H H' : Hp}
theorem FrameOk.step (F : FrameOk X sc env h ρ H) (s : Step X.K X.hb h H h' H' []) : FrameOk X sc env h' ρ H' := by
  obtain ⟨m, ⟨o, es, ep, ho, hn⟩, hm⟩ := F.ns
  refine ⟨F.kind, F.names, F.globals, F.builtins, s.out ho F.out, F.new, ⟨m, ⟨o, es, ep, s.keeps _ _ ho F.out (by simp), hn⟩, hm⟩, fun x i k e1 e2 e3 => ?_⟩
  obtain ⟨c, o, w, f1, f2, f3, f4, f5, f6, f7⟩ := F.cells x i k e1 e2 e3
  exact ⟨c, o, w, f1, s.keeps _ _ f2 f4 (by simp), f3, s.out f2 f4, f5, f6, f7⟩
end
end Mine
namespace Mine
structure Amb (X : Fix) : Prop where
  K : X.K.In X.hb
  mg : ∃ mg, X.hb.Ns mainGlobals mg
  mb : ∃ mb, X.hb.Ns builtinsNs mb ∧ ∀ x : Str, x ≠ "__name__" → mb x = bootBuiltins x
  nolimit : X.hb.NoLimit
noncomputable def clsOk (K : Frag) (c : Cls) : Bool :=
  nsIn K mainGlobals (clsName c) == some (some (.ref (clsAddr K c))) && keepIn K (.ref (clsAddr K c)) && makesIn K (clsAddr K c) && hasDictIn K (clsAddr K c) && plainOver K (clsAddr K c) &&
  findIn K (.ref (clsAddr K c)) "__getattribute__" == some (some (.builtin "object.__getattribute__")) && findIn K (.ref (clsAddr K c)) "__getattr__" == some none &&
  findIn K (.ref (clsAddr K c)) "__setattr__" == some (some (.builtin "object.__setattr__")) &&
  (lay c).all (fun f => findIn K (.ref (clsAddr K c)) (fname f) == some none)
section
variable {X : Fix} {A : Around} {sc : Sc} {env : Env} {h : Heap} {ρ : Env'} {H : Hp}
theorem Good.K (m : Amb X) (g : Good X.K X.hb h H) : X.K.In h := m.K.keeps g.base
theorem R_var (F : FrameOk X sc env h ρ H) (g : Good X.K X.hb h H) {x : Str} {p : Pos} {i : Nat} {k : NameKind} {v : V} {Q : V → Hp → Prop} (hx : sc.vars.lookup x = some i) (hk : sc.names.lookup x = some k) (hkk : k = .local ∨ k = .cell ∨ k = .free)
    (hd : (x == ("__debug__" : Str)) = false) (hc : (x == ("__classdict__" : Str)) = false) (hv : ρ[i]? = some (some v)) (q : Q v H) : R X A (eval (.Name x p) env) Q h H := by
  have kn : env.kindOf x = some k := by unfold Env.kindOf; rw [F.names]; exact hk
  rcases hkk with rfl | rfl | rfl
  · obtain ⟨m, hn, hm⟩ := F.ns
    obtain ⟨v', e, r⟩ := hm x i v hx hk hv
    exact RW.still g q fun tk P hP => wpAny_Name (wpAny_loadName_local (s := X.at h tk) F.kind kn hn e (hP _ _ r)) hd
  · obtain ⟨c, o, w, f1, f2, f3, _, _, _, f7⟩ := F.cells x i _ hx hk (.inl rfl)
    obtain ⟨v', e, r⟩ := f7 v hv
    exact RW.still g q fun tk P hP => wpAny_Name (wpAny_loadName_cell (s := X.at h tk) F.kind kn f1 ⟨o, f2, by rw [f3, e]⟩ (hP _ _ r)) hd
  · obtain ⟨c, o, w, f1, f2, f3, _, _, _, f7⟩ := F.cells x i _ hx hk (.inr rfl)
    obtain ⟨v', e, r⟩ := f7 v hv
    exact RW.still g q fun tk P hP => wpAny_Name (wpAny_loadName_free (s := X.at h tk) F.kind kn f1 ⟨o, f2, by rw [f3, e]⟩ (hP _ _ r) hc) hd
theorem W_global (m : Amb X) (F : FrameOk X sc env h ρ H) (g : Good X.K X.hb h H) {x : Str} {p : Pos} {v : Value} {Q : Value → Heap → Prop} (hk : sc.names.lookup x = some .globalImplicit) (e : nsIn X.K mainGlobals x = some (some v))
    (hd : (x == ("__debug__" : Str)) = false) (q : Q v h) : Wp X A (eval (.Name x p) env) Q h := by
  intro tk
  obtain ⟨mg, G⟩ := m.mg
  have kn : env.kindOf x = some .globalImplicit := by unfold Env.kindOf; rw [F.names]; exact hk
  exact Calls.Name_function_global (s := X.at h tk) F.kind kn (Calls.loadGlobal_global (by rw [F.globals]; exact G.keeps g.base) (mg_of m.K G e) ⟨h, tk, q⟩) hd
theorem W_builtin (m : Amb X) (F : FrameOk X sc env h ρ H) (g : Good X.K X.hb h H) {x : Str} {p : Pos} {v : Value} {Q : Value → Heap → Prop} (hk : sc.names.lookup x = some .globalImplicit) (e : nsIn X.K mainGlobals x = some none)
    (hb : bootBuiltins x = some v) (hn : x ≠ "__name__") (hd : (x == ("__debug__" : Str)) = false) (q : Q v h) : Wp X A (eval (.Name x p) env) Q h := by
  intro tk
  obtain ⟨mg, G⟩ := m.mg
  obtain ⟨mb, B, hB⟩ := m.mb
  have kn : env.kindOf x = some .globalImplicit := by unfold Env.kindOf; rw [F.names]; exact hk
  exact Calls.Name_function_global (s := X.at h tk) F.kind kn (Calls.loadGlobal_builtin (by rw [F.globals]; exact G.keeps g.base) (mg_none_of m.K G e) (by rw [F.builtins]; exact B.keeps g.base) ((hB x hn).trans hb) ⟨h, tk, q⟩) hd
theorem R_none (g : Good X.K X.hb h H) {k : Nat} {p : Pos} {Q : V → Hp → Prop} (q : Q .none H) : R X A (eval (.Constant .none k p) env) Q h H := RW.pure g (b := V.none) rfl q
theorem R_bool (g : Good X.K X.hb h H) {b : Bool} {k : Nat} {p : Pos} {Q : V → Hp → Prop} (q : Q (.bool b) H) : R X A (eval (.Constant (.bool b) k p) env) Q h H := RW.pure g (b := V.bool b) rfl q
theorem R_int (g : Good X.K X.hb h H) {i : Int} {k : Nat} {p : Pos} {Q : V → Hp → Prop} (q : Q (.int i) H) : R X A (eval (.Constant (.int i) k p) env) Q h H :=
  RW.still g q fun tk P hP => wpAny_Constant_int (s := X.at h tk) (hP _ _ ⟨_, rfl⟩)
theorem R_str (g : Good X.K X.hb h H) {x : Str} {k : Nat} {p : Pos} {Q : V → Hp → Prop} (q : Q (.str x) H) : R X A (eval (.Constant (.str x) k p) env) Q h H :=
  RW.still g q fun tk P hP => wpAny_Constant_str (s := X.at h tk) (hP _ _ ⟨_, rfl⟩)
theorem VR.handed {v : V} {v' : Value} (r : VR v v') : handedIn v' = true := by
  cases v with
  | none => cases r; rfl
  | bool b => cases r; rfl
  | int i => obtain ⟨t, rfl⟩ := r; rfl
  | str s => obtain ⟨t, rfl⟩ := r; rfl
  | ref a => cases r; rfl
theorem lookIn_rows {es : List DictEntry} {n : Nat} (hk : ∀ e ∈ es, ∃ x t, e.key = .str x t) (x : Str) : lookIn x (dictOf es n) = some (findL x es) := by
  rw [lookIn_dict]
  unfold getL findL
  cases z : es.find? (fun d : DictEntry => d.key.isStr x) with
  | some en => rfl
  | none =>
    have : es.any (·.refKey) = false := by
      rw [List.any_eq_false]; intro en he
      obtain ⟨n, t, hh⟩ := hk en he; simp [DictEntry.refKey, hh]
    simp only [this, Bool.false_eq_true, if_false]; rfl
theorem isStr_str {x y : Str} {t : Tok} : (Value.str x t).isStr y = decide (y = x) := by
  show (x == y) = _
  by_cases h : x = y
  · subst h; simp
  · simp [h, Ne.symm h]
theorem findL_put {nm : Str} {hs : Int} {tk : Tok} {v : Value} (x : Str) : ∀ {es : List DictEntry}, (∀ e ∈ es, ∃ x t, e.key = .str x t) → findL x (putL nm hs (.str nm tk) v es) = if x = nm then some v else findL x es
  | [], _ => by
    unfold putL findL
    rw [List.find?_cons, isStr_str]
    by_cases q : x = nm <;> simp [q]
  | e :: r, hk => by
    obtain ⟨y, t, hy⟩ := hk e (.head _)
    have ih := findL_put (nm := nm) (hs := hs) (tk := tk) (v := v) x (es := r) fun e he => hk e (.tail _ he)
    unfold putL
    rw [hy, isStr_str]
    by_cases q : nm = y
    · subst q
      simp only [decide_true, if_true]
      unfold findL
      rw [List.find?_cons, List.find?_cons, hy, isStr_str]
      by_cases qx : x = nm <;> simp [qx]
    · simp only [q, decide_false, Bool.false_eq_true, if_false]
      unfold findL at ih ⊢
      rw [List.find?_cons, List.find?_cons, hy, isStr_str]
      by_cases qx : x = y
      · subst qx; simp [Ne.symm q]
      · simp only [qx, decide_false]; exact ih
theorem keys_put {nm : Str} {hs : Int} {tk : Tok} {v : Value} : ∀ {es : List DictEntry}, (∀ e ∈ es, ∃ x t, e.key = .str x t) → ∀ e ∈ putL nm hs (.str nm tk) v es, ∃ x t, e.key = .str x t
  | [], _, e, he => by
    unfold putL at he
    rw [List.mem_singleton] at he; subst he; exact ⟨_, _, rfl⟩
  | a :: r, hk, e, he => by
    unfold putL at he
    split at he
    · rcases List.mem_cons.mp he with rfl | he
      · exact hk a (.head _)
      · exact hk e (.tail _ he)
    · rcases List.mem_cons.mp he with rfl | he
      · exact hk _ (.head _)
      · exact keys_put (fun e he => hk e (.tail _ he)) e he
theorem len_put {nm : Str} {hs : Int} {tk : Tok} {v : Value} : ∀ {es : List DictEntry}, (∀ e ∈ es, ∃ x t, e.key = .str x t) → (putL nm hs (.str nm tk) v es).length = if (findL nm es).isSome then es.length else es.length + 1
  | [], _ => by simp [putL, findL]
  | a :: r, hk => by
    obtain ⟨y, t, hy⟩ := hk a (.head _)
    have ih := len_put (nm := nm) (hs := hs) (tk := tk) (v := v) (es := r) fun e he => hk e (.tail _ he)
    unfold putL
    rw [hy, isStr_str]
    by_cases q : nm = y
    · subst q; simp [findL, List.find?_cons, hy, isStr_str]
    · simp only [q, decide_false, Bool.false_eq_true, if_false, List.length_cons, ih]
      simp only [findL, List.find?_cons, hy, isStr_str, q, decide_false]
      split <;> simp [*]
structure ClsK (K : Frag) (c : Cls) : Prop where
  ns : nsIn K mainGlobals (clsName c) = some (some (.ref (clsAddr K c)))
  makes : makesIn K (clsAddr K c) = true
  dict : hasDictIn K (clsAddr K c) = true
  plain : plainOver K (clsAddr K c) = true
  ga : findIn K (.ref (clsAddr K c)) "__getattribute__" = some (some (.builtin "object.__getattribute__"))
  gb : findIn K (.ref (clsAddr K c)) "__getattr__" = some none
  sa : findIn K (.ref (clsAddr K c)) "__setattr__" = some (some (.builtin "object.__setattr__"))
  fld : ∀ f ∈ lay c, findIn K (.ref (clsAddr K c)) (fname f) = some none
theorem clsK {K : Frag} {c : Cls} (k : clsOk K c = true) : ClsK K c :=
  ⟨eq_of_beq (and_l (and_l (and_l (and_l (and_l (and_l (and_l (and_l k)))))))), and_r (and_l (and_l (and_l (and_l (and_l (and_l k)))))), and_r (and_l (and_l (and_l (and_l (and_l k))))), and_r (and_l (and_l (and_l (and_l k)))), eq_of_beq (and_r (and_l (and_l (and_l k)))), eq_of_beq (and_r (and_l (and_l k))), eq_of_beq (and_r (and_l k)), fun f hf => eq_of_beq (List.all_eq_true.mp (and_r k) f hf)⟩
theorem lay_nodup (c : Cls) : ((lay c).map fname).Nodup := by cases c <;> decide +kernel
theorem lay_is (c : Cls) : lay c = (List.range (fnum c)).map (fbase c + ·) := by cases c <;> rfl
theorem lookupZ_at : ∀ {ns : List Str} {vs : List V} {i : Nat} {n : Str} {v : V}, ns.Nodup → ns[i]? = some n → vs[i]? = some v → lookupZ ns vs n = some v
  | m :: ns, u :: vs, 0, n, v, _, h1, h2 => by simp at h1 h2; subst h1 h2; simp [lookupZ]
  | m :: ns, u :: vs, i + 1, n, v, hn, h1, h2 => by
    simp at h1 h2
    have hne : n ≠ m := by rintro rfl; exact (List.nodup_cons.mp hn).1 (List.mem_of_getElem? h1)
    rw [lookupZ, if_neg hne]; exact lookupZ_at (List.nodup_cons.mp hn).2 h1 h2
  | [], _, _, _, _, _, h1, _ => by simp at h1
  | _ :: _, [], _, _, _, _, _, h2 => by simp at h2
theorem lookupZ_set : ∀ {ns : List Str} {vs : List V} {i : Nat} {n : Str} {v : V}, ns.Nodup → ns[i]? = some n → i < vs.length → ∀ x, lookupZ ns (vs.set i v) x = if x = n then some v else lookupZ ns vs x
  | m :: ns, u :: vs, 0, n, v, _, h1, _, x => by
    simp at h1; subst h1
    by_cases q : x = m <;> simp [lookupZ, q]
  | m :: ns, u :: vs, i + 1, n, v, hn, h1, h2, x => by
    simp at h1 h2
    have hne : n ≠ m := by rintro rfl; exact (List.nodup_cons.mp hn).1 (List.mem_of_getElem? h1)
    rw [List.set_cons_succ, lookupZ, lookupZ, lookupZ_set (List.nodup_cons.mp hn).2 h1 h2 x]
    by_cases q : x = m
    · subst q; simp [Ne.symm hne]
    · simp [q]
  | [], _, _, _, _, _, h1, _, _ => by simp at h1
  | _ :: _, [], _, _, _, _, _, h2, _ => by simp at h2
theorem lookupZ_push : ∀ {ns : List Str} {vs : List V} {n : Str} {v : V}, ns.Nodup → ns[vs.length]? = some n → ∀ x, lookupZ ns (vs ++ [v]) x = if x = n then some v else lookupZ ns vs x
  | m :: ns, [], n, v, _, h1, x => by
    simp at h1; subst h1
    by_cases q : x = m
    · simp [lookupZ, q]
    · cases ns <;> simp [lookupZ, q]
  | m :: ns, u :: vs, n, v, hn, h1, x => by
    simp at h1
    have hne : n ≠ m := by rintro rfl; exact (List.nodup_cons.mp hn).1 (List.mem_of_getElem? h1)
    rw [List.cons_append, lookupZ, lookupZ, lookupZ_push (List.nodup_cons.mp hn).2 h1 x]
    by_cases q : x = m
    · subst q; simp [Ne.symm hne]
    · simp [q]
  | [], _, _, _, _, h1, _ => by simp at h1
theorem fidx_ex {c : Cls} {f i : Nat} (hi : fidx c f = some i) : f = fbase c + i ∧ i < fnum c := by
  unfold fidx at hi
  by_cases q : fbase c ≤ f ∧ f < fbase c + fnum c
  · rw [if_pos q] at hi
    cases hi
    have e := (Nat.add_sub_cancel' q.1).symm
    exact ⟨e, Nat.lt_of_add_lt_add_left (e ▸ q.2)⟩
  · rw [if_neg q] at hi; cases hi
theorem fidx_name {c : Cls} {f i : Nat} (hi : fidx c f = some i) : ((lay c).map fname)[i]? = some (fname f) := by
  obtain ⟨rfl, h⟩ := fidx_ex hi
  rw [lay_is, List.map_map, List.getElem?_map, List.getElem?_range h]
  rfl
theorem fidx_mem {c : Cls} {f i : Nat} (hi : fidx c f = some i) : f ∈ lay c := by
  obtain ⟨rfl, h⟩ := fidx_ex hi
  rw [lay_is]
  exact List.mem_map.mpr ⟨i, List.mem_range.mpr h, rfl⟩
theorem instAt (g : Good X.K X.hb h H) {a d : Addr} {c : Cls} {fs : List V} (e : H a = some (.inst c d fs)) : ∃ es n, h.get? d = some (dictOf es n) ∧ RowsAre c fs es ∧ InstAt h a (instObj (clsAddr X.K c) d) (clsAddr X.K c) (some (dictOf es n)) := by
  obtain ⟨_, e1, e2, e0, es, n, e3, e6⟩ := g.real _ _ e
  exact ⟨es, n, e3, e6, ⟨e1, rfl, rfl, e3⟩⟩
theorem R_getAttr (m : Amb X) (g : Good X.K X.hb h H) {c : Cls} (ok : clsOk X.K c = true) {a d : Addr} {fs : List V} {f i : Nat} {v : V} {b : Bool} {Q : V → Hp → Prop} (e : H a = some (.inst c d fs)) (hi : fidx c f = some i) (hv : fs[i]? = some v) (q : Q v H) :
    R X A (getAttr (.ref a) (fname f) b) Q h H := by
  have ck := clsK ok
  obtain ⟨es, n, e3, e6, I⟩ := instAt g e
  have hm := e6.map (fname f)
  rw [show fldMap c fs (fname f) = some v from lookupZ_at (lay_nodup c) (fidx_name hi) hv] at hm
  obtain ⟨v', hm, r⟩ := hm
  exact RW.still g q fun tk P hP => get_value (s := X.at h tk) (g.K m) I ck.ga (findObj_own ck.dict (ck.fld _ (fidx_mem hi)) rfl (by rw [lookIn_rows e6.keys, hm])) r.handed (hP _ _ r)
inductive SetC (c : Cls) (d : Addr) (fs : List V) (f : Nat) (v : V) : O → Prop
  | mk (fs' : List V) (hl : fs'.length ≤ fnum c) (h1 : fldMap c fs (fname f) = none → fs.length + 1 ≤ fs'.length) (h2 : fs.length ≤ fs'.length) (hm : ∀ x, fldMap c fs' x = if x = fname f then some v else fldMap c fs x) : SetC c d fs f v (.inst c d fs')
theorem set_of {c : Cls} {d : Addr} {fs : List V} {f : Nat} {v : V} {o' : O} (hlen : fs.length ≤ fnum c) (hs : setFld c d fs f v = some o') : f ∈ lay c ∧ SetC c d fs f v o' := by
  obtain ⟨i, hi, hs⟩ := Option.bind_eq_some_iff.mp hs
  refine ⟨fidx_mem hi, ?_⟩
  have hname := fidx_name hi
  by_cases hlt : i < fs.length
  · rw [if_pos hlt] at hs
    cases hs
    have hl : (fs.set i v).length = fs.length := List.length_set
    exact ⟨_, hl ▸ hlen, fun z => (by rw [show fldMap c fs (fname f) = some fs[i] from lookupZ_at (lay_nodup c) hname (List.getElem?_eq_getElem hlt)] at z; cases z), Nat.le_of_eq hl.symm, lookupZ_set (lay_nodup c) hname hlt⟩
  · rw [if_neg hlt] at hs
    by_cases hq : i = fs.length
    · rw [if_pos hq] at hs
      subst hq
      cases hs
      have hl : (fs ++ [v]).length = fs.length + 1 := List.length_append
      exact ⟨_, hl ▸ (fidx_ex hi).2, fun _ => Nat.le_of_eq hl.symm, hl ▸ Nat.le_succ _, lookupZ_push (lay_nodup c) hname⟩
    · rw [if_neg hq] at hs; cases hs
theorem R_setAttr (m : Amb X) (g : Good X.K X.hb h H) {c : Cls} (ok : clsOk X.K c = true) {own : List Addr} {a d : Addr} {fs : List V} {f : Nat} {v : V} {v' : Value} {o' : O} {Q : Unit → Hp → Prop} (e : H a = some (.inst c d fs)) (r : VR v v') (hs : setFld c d fs f v = some o')
    (q : Q () (upd H a o')) : RW (fun _ _ => True) X A own (setAttr (.ref a) (fname f) v') Q h H := by
  have ck := clsK ok
  obtain ⟨es, n, e3, e6, I⟩ := instAt g e
  obtain ⟨hmem, sc⟩ := set_of (g.real _ _ e).2.2.2.1 hs
  cases sc with
  | mk fs' hl' hg1 hg2 hmap =>
  obtain ⟨cd, hcd, hdic⟩ := any_some ck.dict
  have ht : takerIn X.K (clsAddr X.K c) (fname f) = some none := by unfold takerIn; rw [ck.fld _ hmem]; rfl
  intro tk
  refine set_plain (s := X.at h tk) (g.K m) I ck.sa ?_
  refine osa_open (s := X.at h (tk + 1)) (g.K m) I ck.plain ht fun b => ?_
  obtain ⟨hx, -, -, -⟩ := I
  refine wpAny_bind (wpAny_pure (wpAny_bind (wpAny_bind (wpAny_loadPart (s := X.at h (tk + 1)) hx (wpAny_bind ((looks_clsIn (g.K m) hcd).here (s := X.at h (tk + 1)) ?_))))))
  rw [hdic]
  refine wpAny_pure (a := some d) (wpAny_bind (wpAny_pure (wpAny_bind ?_)))
  unfold nsSet
  have hz : (putL (fname f) (PyData.keyHash X.w.params (fname f)) (.str (fname f) (tk + 1)) v' es).length ≤ es.length + 1 := by
    rw [len_put e6.keys]; split <;> omega
  have hz2 := e6.len
  have hz3 : fnum c ≤ 20 := by cases c <;> decide
  have hany : es.any (·.refKey) = false := by
    rw [List.any_eq_false]; intro en he
    obtain ⟨n, t, hh⟩ := e6.keys en he; simp [DictEntry.refKey, hh]
  refine wpAny_bind (wpAny_bind (wpAny_askSetting (wpAny_pure (wpAny_bind (wpAny_mkText (wpAny_bind (wpAny_loadPart (s := X.at h (tk + 1 + 1)) e3 ?_)))))))
  dsimp only
  rw [aRefKeyMayBeTheName_at, ← Array.any_toList, ← Array.any_toList, hany, Bool.and_false]
  refine wpAny_updatePart (s := X.at h (tk + 1 + 1)) e3 ?_
  have hput := putName_dict (fname f) (PyData.keyHash X.w.params (fname f)) (.str (fname f) (tk + 1)) v' es n
  have hget := Heap.get?_update_self (Obj.putName (fname f) (PyData.keyHash X.w.params (fname f)) (.str (fname f) (tk + 1)) v') e3 (by rw [hput]; rfl)
  rw [hput] at hget
  refine wpAny_bind (wpAny_lookBehind hget (pastItsLine_dict (by rw [List.size_toArray, sizeLine_eq]; omega)) ?_)
  refine wpAny_pure ⟨_, _, (), _, trivial, q, (Step.field g e (Heap.SameBut.update ..).extBut hl' hget ⟨keys_put e6.keys, ?_, fun x => ?_⟩).any⟩
  · rw [len_put e6.keys]
    have hm := e6.map (fname f)
    cases q : fldMap c fs (fname f) with
    | none => have := hg1 q; split <;> omega
    | some u => rw [q] at hm; obtain ⟨u', hu, _⟩ := hm; rw [hu]; simp only [Option.isSome_some, if_true]; omega
  · rw [hmap, findL_put x e6.keys]
    by_cases qx : x = fname f
    · simp only [qx, if_true]; exact ⟨v', rfl, r⟩
    · simp only [qx, if_false]; exact e6.map x
end
end Mine
namespace Mine
section
variable {X : Fix} {A : Around} {sc : Sc} {env : Env} {h : Heap} {ρ : Env'} {H : Hp}
theorem lstO_some {o : Option O} {vs : List V} (e : lstO o = some vs) : o = some (.lst vs) := by
  cases oc_some e with
  | lst e => cases e; rfl
  | inst e => cases e
  | tup e => cases e
  | fro e => cases e
theorem tupO_some {o : Option O} {vs : List V} (e : tupO o = some vs) : o = some (.tup vs) := by
  cases oc_some e with
  | tup e => cases e; rfl
  | inst e => cases e
  | lst e => cases e
  | fro e => cases e
theorem seqO_some {o : Option O} {vs : List V} (e : seqO o = some vs) : o = some (.lst vs) ∨ o = some (.tup vs) := by
  cases oc_some e with
  | lst e => cases e; exact .inl rfl
  | tup e => cases e; exact .inr rfl
  | inst e => cases e
  | fro e => cases e
theorem lfO_some {o : Option O} {vs : List V} (e : lfO o = some vs) : o = some (.lst vs) ∨ o = some (.fro vs) := by
  cases oc_some e with
  | lst e => cases e; exact .inl rfl
  | fro e => cases e; exact .inr rfl
  | inst e => cases e
  | tup e => cases e
theorem lstOf_some {v : V} {vs : List V} (e : lstOf H v = some vs) : ∃ a, v = .ref a ∧ H a = some (.lst vs) := (rf_some e).imp fun _ h => ⟨h.1, lstO_some h.2⟩
theorem tupOf_some {v : V} {vs : List V} (e : tupOf H v = some vs) : ∃ a, v = .ref a ∧ H a = some (.tup vs) := (rf_some e).imp fun _ h => ⟨h.1, tupO_some h.2⟩
theorem seqOf_some {v : V} {vs : List V} (e : seqOf H v = some vs) : ∃ a, v = .ref a ∧ (H a = some (.lst vs) ∨ H a = some (.tup vs)) := (rf_some e).imp fun _ h => ⟨h.1, seqO_some h.2⟩
theorem Good.lst (g : Good X.K X.hb h H) {a : Addr} {vs : List V} (e : H a = some (.lst vs)) : ∃ items n, h.get? a = some (listOf items n) ∧ VRs vs items.toList := (g.real _ _ e).2
theorem Good.tup (g : Good X.K X.hb h H) {a : Addr} {vs : List V} (e : H a = some (.tup vs)) : ∃ items n, h.get? a = some { cls := .type "tuple", data := .seq items n } ∧ VRs vs items.toList := (g.real _ _ e).2
theorem Good.lf (g : Good X.K X.hb h H) {v : V} {vs : List V} (e : lfOf H v = some vs) : ∃ a items, v = .ref a ∧ h.IsList a items ∧ VRs vs items.toList := by
  obtain ⟨a, rfl, e⟩ := rf_some e
  rcases lfO_some e with q | q
  · obtain ⟨items, n, f, r⟩ := (g.real _ _ q).2
    exact ⟨a, items, rfl, ⟨_, f, rfl, n, rfl⟩, r⟩
  · obtain ⟨items, f, r⟩ := (g.real _ _ q).2
    exact ⟨a, items, rfl, f, r⟩
theorem isList_of {a : Addr} {items : Array Value} {n : Nat} (e : h.get? a = some (listOf items n)) : h.IsList a items := ⟨_, e, rfl, n, rfl⟩
theorem push_keeps (o : Obj) : ∀ c ob, h.get? c = some ob → (h.push o).get? c = some ob := fun _ _ e => Heap.get?_push_of_some o e
theorem real_list {l : Addr} {vs : List V} {items : Array Value} (r : VRs vs items.toList) (e : h.get? l = some (listOf items 0)) : Real X.K h H l (.lst vs) := ⟨items, 0, e, r⟩
theorem VRs.replicate {x : V} {x' : Value} (r : VR x x') : ∀ n, VRs (List.replicate n x) (List.replicate n x')
  | 0 => trivial
  | n + 1 => ⟨r, VRs.replicate r n⟩
theorem foldl_replicate {α : Type} (c : α) : ∀ (n : Nat) (acc : Array α), ((List.replicate n #[c]).foldl (· ++ ·) acc).toList = acc.toList ++ List.replicate n c
  | 0, acc => by simp
  | n + 1, acc => by
    rw [List.replicate_succ, List.foldl_cons, foldl_replicate c n]
    simp [List.replicate_succ]
theorem R_ii {P : Int → Int → Hp → Prop} {x y : V} {x' y' : Value} (rx : VR x x') (ry : VR y y') (hb : kII P x y H) : ∃ a b t u, x' = .int a t ∧ y' = .int b u ∧ P a b H := by
  obtain ⟨a, rfl, q⟩ := kI_ex hb
  obtain ⟨b, rfl, q'⟩ := kI_ex q
  obtain ⟨t, rfl⟩ := rx
  obtain ⟨u, rfl⟩ := ry
  exact ⟨a, b, t, u, rfl, rfl, q'⟩
theorem R_addV (g : Good X.K X.hb h H) {x y : V} {x' y' : Value} {Q : V → Hp → Prop} (rx : VR x x') (ry : VR y y') (hb : addV x y Q H) : R X A (binaryOp .Add x' y') Q h H := by
  cases x with
  | int a =>
    obtain ⟨b, rfl, q⟩ := kI_ex hb
    obtain ⟨t, rfl⟩ := rx; obtain ⟨u, rfl⟩ := ry
    exact RW.still g q fun tk P hP => add_int (s := X.at h tk) (hP _ _ ⟨_, rfl⟩)
  | str a =>
    obtain ⟨b, rfl, q⟩ := kS_ex (P := fun b H => a.length + b.length ≤ sizeLine ∧ Q (.str (a ++ b)) H) hb
    obtain ⟨t, rfl⟩ := rx; obtain ⟨u, rfl⟩ := ry
    exact RW.still g q.2 fun tk P hP => add_str (s := X.at h tk) (fun _ _ => hP _ _ ⟨_, rfl⟩) q.1
  | ref a =>
    obtain ⟨b, rfl, xs, ys, e1, e2, hsz, q⟩ := kR_ex (P := fun b H => ∃ xs ys, lstO (H a) = some xs ∧ lstO (H b) = some ys ∧ xs.length + ys.length ≤ sizeLine ∧ ∀ l, H l = none → Q (.ref l) (upd H l (.lst (xs ++ ys)))) hb
    cases rx; cases ry
    obtain ⟨is1, n1, f1, r1⟩ := g.lst (lstO_some e1)
    obtain ⟨is2, n2, f2, r2⟩ := g.lst (lstO_some e2)
    refine RW.makes g q fun tk P hP => ?_
    refine concat_meets (s := X.at h tk) ⟨_, f1, rfl⟩ ⟨_, f2, rfl⟩ noFill_list_add seq_list_add PySem.F.slot_list_add PySem.F.entry_list_add (PySem.F.args_list_add_2 _ _)
      (list_addW _ _ is1 is2 n1 n2 none none #[] #[] (by rw [← Array.length_toList, ← Array.length_toList (xs := is2), ← r1.length, ← r2.length]; exact hsz)) ⟨f1, f2, hP _ _ _ (get_size h) (push_keeps _) (real_list (items := is1 ++ is2) ?_ (Heap.get?_push_size _ rfl))⟩
    rw [Array.toList_append]; exact r1.append r2
  | _ => exact hb.elim
theorem one_sign {s : Str} (h : s.length = 1) : ∃ c, s = ⟨#[c]⟩ := by
  cases s with
  | mk a => cases a with
    | mk l => cases l with
      | nil => cases h
      | cons c r => cases r with
        | nil => exact ⟨c, rfl⟩
        | cons => cases h
theorem R_mulStr (g : Good X.K X.hb h H) {s : Str} {n : Int} {x' y' : Value} {Q : V → Hp → Prop} (rx : VR (.str s) x') (ry : VR (.int n) y') (h1 : 0 ≤ n) (h2 : n < 2 ^ 20) (h3 : s.length = 1) (q : Q (.str ⟨(List.replicate n.toNat (s.cps.getD 0 0)).toArray⟩) H) : R X A (binaryOp .Mult x' y') Q h H := by
  obtain ⟨t, rfl⟩ := rx; obtain ⟨u, rfl⟩ := ry
  obtain ⟨c, rfl⟩ := one_sign h3
  refine RW.still g q fun tk P hP => ?_
  refine PySem.P.mul_str (s := X.at h tk) (by simp; omega) (fun h4 _ => ?_) (fun _ _ => ?_) ?_
  · show ¬ ((1 : Nat) : Int) > (2 ^ 63 - 1) / n
    have : 1 ≤ (2 ^ 63 - 1 : Int) / n := by
      rw [Int.le_ediv_iff_mul_le (by omega)]; omega
    omega
  · show decide (_ > sizeLine) = false
    rw [decide_eq_false_iff_not, sizeLine_eq]
    show ¬ 1 * n.toNat > _
    omega
  · have hres : ∀ k : Nat, ((List.replicate k (#[c] : Array Nat)).foldl (· ++ ·) #[]) = (List.replicate k c).toArray := fun k => by
      apply Array.toList_inj.mp
      rw [foldl_replicate]; simp
    split
    · have h0 : n.toNat = 0 := by omega
      exact ⟨Nat.zero_le _, hP _ _ ⟨_, by rw [h0]; rfl⟩⟩
    · split
      · rename_i hk
        have h1 : n.toNat = 1 := by
          have : (n == 1) = true := by
            rcases Bool.or_eq_true_iff.mp hk with z | z
            · exact z
            · rw [h3] at z; exact absurd z (by decide)
          have := eq_of_beq this
          omega
        exact hP _ _ ⟨t, by rw [h1]; rfl⟩
      · refine ⟨?_, hP _ _ ⟨_, by rw [hres]; rfl⟩⟩
        rw [hres]
        show (List.replicate n.toNat c).toArray.size ≤ sizeLine
        rw [List.size_toArray, List.length_replicate, sizeLine_eq]; omega
theorem VRs.one {x : V} {is : Array Value} (r : VRs [x] is.toList) : ∃ z, is = #[z] ∧ VR x z := by
  cases is with
  | mk L => cases L with
    | nil => exact r.elim
    | cons z L => cases L with
      | nil => exact ⟨z, rfl, r.1⟩
      | cons => exact r.2.elim
theorem R_mulV (g : Good X.K X.hb h H) {x y : V} {x' y' : Value} {Q : V → Hp → Prop} (rx : VR x x') (ry : VR y y') (hb : mulV x y Q H) : R X A (binaryOp .Mult x' y') Q h H := by
  cases x with
  | int a =>
    obtain ⟨b, rfl, h1, h2, q⟩ := kI_ex (P := fun b H => a.natAbs < 2 ^ 64 ∧ b.natAbs < 2 ^ 64 ∧ Q (.int (a * b)) H) hb
    obtain ⟨t, rfl⟩ := rx; obtain ⟨u, rfl⟩ := ry
    exact RW.still g q fun tk P hP => mul_int (s := X.at h tk) (hP _ _ ⟨_, rfl⟩) (.of_left (intBits_le h1))
  | str s =>
    obtain ⟨n, rfl, h1, h2, h3, q⟩ := kI_ex (P := fun n H => 0 ≤ n ∧ n < 2 ^ 20 ∧ s.length = 1 ∧ Q (.str ⟨(List.replicate n.toNat (s.cps.getD 0 0)).toArray⟩) H) hb
    exact R_mulStr g rx ry h1 h2 h3 q
  | ref l =>
    obtain ⟨n, rfl, z, e1, h1, h2, q⟩ := kI_ex (P := fun n H => ∃ x, lstO (H l) = some [x] ∧ 0 ≤ n ∧ n < 2 ^ 20 ∧ ∀ k, H k = none → Q (.ref k) (upd H k (.lst (List.replicate n.toNat x)))) hb
    cases rx; obtain ⟨u, rfl⟩ := ry
    obtain ⟨is1, n1, f1, r1⟩ := g.lst (lstO_some e1)
    obtain ⟨zv, rfl, rz⟩ := r1.one
    refine RW.makes g q fun tk P hP => ?_
    refine wpAny_binaryOp_repeat_ref (s := X.at h tk) (T := "list") (U := "int") (by decide) ⟨_, f1, rfl⟩ (fun s' => typeIs_int s' n u) noFill_list_mul PySem.F.fills_int_mul PySem.F.slot_int_rmul repeat_list PySem.F.slot_int_index.lookup
      (call_meets PySem.F.slot_int_rmul (typeIs_int _ n u) PySem.F.entry_int_rmul (PySem.F.args_int_rmul_2 _ _) (int___rmul___int_list n u l #[zv] n1)
        ⟨f1, rfl, ⟨_, f1, rfl⟩, call_meets PySem.F.slot_list_mul ⟨_, f1, rfl⟩ PySem.F.entry_list_mul (PySem.F.args_list_mul_2 _ _)
          (AutoListH.list___mul___list_int_3 l #[zv] n1 n u (by simp [Builtin.List.listFitsIndex]; omega) (by simp; omega) (by simp [Builtin.List.listTooLong, sizeLine]; omega)) ⟨f1, ?_⟩⟩)
    refine hP _ _ _ (get_size h) (push_keeps _) (real_list ?_ (Heap.get?_push_size _ rfl))
    show VRs _ ((List.replicate n.toNat #[zv]).foldl (· ++ ·) #[]).toList
    rw [foldl_replicate]
    exact VRs.replicate rz n.toNat
  | _ => exact hb.elim
theorem R_binop (g : Good X.K X.hb h H) {op : Operator} {x y : V} {x' y' : Value} {Q : V → Hp → Prop} (rx : VR x x') (ry : VR y y') (hb : binV op x y Q H) : R X A (binaryOp op x' y') Q h H := by
  cases op with
  | Add => exact R_addV g rx ry hb
  | Mult => exact R_mulV g rx ry hb
  | Sub =>
    obtain ⟨a, b, t, u, rfl, rfl, q⟩ := R_ii rx ry hb
    exact RW.still g q fun tk P hP => sub_int' (s := X.at h tk) (hP _ _ ⟨_, rfl⟩)
  | Mod =>
    obtain ⟨a, b, t, u, rfl, rfl, q⟩ := R_ii rx ry hb
    exact RW.still g q.2 fun tk P hP => mod_int' (s := X.at h tk) (Int.ne_of_gt q.1) (hP _ _ ⟨_, by rw [Int.fmod_eq_emod_of_nonneg _ (Int.le_of_lt q.1)]⟩)
  | FloorDiv =>
    obtain ⟨a, b, t, u, rfl, rfl, q⟩ := R_ii rx ry hb
    exact RW.still g q.2.2 fun tk P hP => floordiv_int (s := X.at h tk) (Int.ne_of_gt q.1) (hP _ _ ⟨_, by rw [Int.fdiv_eq_ediv_of_nonneg _ (Int.le_of_lt q.1)]⟩) (.inl (PyProof.noPylong_small (by have := q.2.1; omega)))
  | Pow =>
    obtain ⟨a, n, t, u, rfl, rfl, h1, h2, h3, q⟩ := R_ii rx ry hb
    have hbits : Builtin.Int.intBits a = 2 := by rcases h1 with rfl | rfl <;> decide +kernel
    exact RW.still g q fun tk P hP => pow_int (s := X.at h tk) h2 (by rw [hbits]; omega) (hP _ _ ⟨_, rfl⟩)
  | RShift =>
    obtain ⟨a, n, t, u, rfl, rfl, q⟩ := R_ii rx ry hb
    exact RW.still g q.2.2 fun tk P hP => rshift_int (s := X.at h tk) q.1 (hP _ _ ⟨_, by rw [Int.fdiv_eq_ediv_of_nonneg _ (Int.le_of_lt (Int.pow_pos (by decide)))]⟩)
  | BitOr =>
    obtain ⟨a, b, t, u, rfl, rfl, q⟩ := R_ii rx ry hb
    exact RW.still g q fun tk P hP => or_int (s := X.at h tk) (hP _ _ ⟨_, rfl⟩)
  | _ => exact hb.elim
end
end Mine
namespace Mine
section
variable {X : Fix} {A : Around} {sc : Sc} {env : Env} {h : Heap} {ρ : Env'} {H : Hp}
theorem beq_dec {α : Type} [BEq α] [LawfulBEq α] [DecidableEq α] (a b : α) : (a == b) = decide (a = b) := by by_cases q : a = b <;> simp [q]
theorem scalar_cases {x : V} (s : scalar x = true) : (∃ i, x = .int i) ∨ ∃ t, x = .str t := by
  cases x with
  | int i => exact .inl ⟨i, rfl⟩
  | str t => exact .inr ⟨t, rfl⟩
  | _ => cases s
theorem eqGives {x y : V} {x' y' : Value} (rx : VR x x') (ry : VR y y') (sx : scalar x = true) (sy : scalar y = true) : MeetsSeq.EqGives x' y' (decide (x = y)) := by
  rcases scalar_cases sx with ⟨a, rfl⟩ | ⟨a, rfl⟩ <;> rcases scalar_cases sy with ⟨b, rfl⟩ | ⟨b, rfl⟩ <;> obtain ⟨t, rfl⟩ := rx <;> obtain ⟨u, rfl⟩ := ry
  · rw [show decide (V.int a = V.int b) = (a == b) from (decide_eq_decide.mpr ⟨V.int.inj, congrArg _⟩).trans (beq_dec a b).symm]
    exact MeetsSeq.EqGives.int a b t u
  · exact fun prog w A E s Q hq => SeqAt.EqAt.int_str _ _ _ _ prog w E Q hq
  · exact fun prog w A E s Q hq => SeqAt.EqAt.str_int _ _ _ _ prog w E Q hq
  · rw [show decide (V.str a = V.str b) = (a == b) from (decide_eq_decide.mpr ⟨V.str.inj, congrArg _⟩).trans (beq_dec a b).symm]
    exact eqGives_str a b t u
theorem VRs.mem : ∀ {xs : List V} {ys : List Value}, VRs xs ys → ∀ {y : Value}, y ∈ ys → ∃ x ∈ xs, VR x y
  | _ :: _, _ :: _, h, y, hy => by
    rcases List.mem_cons.mp hy with rfl | hy
    · exact ⟨_, .head _, h.1⟩
    · obtain ⟨x, hx, r⟩ := h.2.mem hy; exact ⟨x, .tail _ hx, r⟩
  | [], [], _, _, hy => by simp at hy
  | [], _ :: _, h, _, _ => h.elim
  | _ :: _, [], h, _, _ => h.elim
noncomputable def backOf : Value → V
  | .int i _ => .int i
  | .str s _ => .str s
  | _ => .none
theorem backOf_of {x : V} {x' : Value} (r : VR x x') (s : scalar x = true) : backOf x' = x := by
  cases x <;> simp only [scalar] at s <;> (try cases s) <;> (obtain ⟨t, rfl⟩ := r; rfl)
theorem any_back {x : V} : ∀ {xs : List V} {ys : List Value}, VRs xs ys → scalars xs = true → ys.any (fun y => decide (backOf y = x)) = decide (x ∈ xs)
  | [], [], _, _ => by simp
  | a :: xs, b :: ys, h, s => by
    simp only [scalars, List.all_cons, Bool.and_eq_true] at s
    rw [List.any_cons, any_back h.2 s.2, backOf_of h.1 s.1]
    by_cases q : a = x
    · simp [q]
    · simp [q, Ne.symm q]
  | [], _ :: _, h, _ => h.elim
  | _ :: _, [], h, _ => h.elim
theorem all_at : ∀ {xs ys : List V}, xs.length = ys.length → (List.range xs.length).all (fun j => decide (xs[j]? = ys[j]?)) = decide (xs = ys) := by
  intro xs ys hl
  rw [Bool.eq_iff_iff, List.all_eq_true, decide_eq_true_iff]
  constructor
  · intro q
    apply List.ext_getElem?
    intro i
    by_cases hi : i < xs.length
    · exact of_decide_eq_true (q i (List.mem_range.mpr hi))
    · rw [List.getElem?_eq_none (by omega), List.getElem?_eq_none (by omega)]
  · rintro rfl; intro i _; simp
theorem lists_eqAt (g : Good X.K X.hb h H) {xs ys : List V} {is1 is2 : Array Value} (r1 : VRs xs is1.toList) (r2 : VRs ys is2.toList) (s1 : scalars xs = true) (s2 : scalars ys = true) :
    ∀ j (h1 : j < is1.size) (h2 : j < is2.size), MeetsSeq.EqGives is1[j] is2[j] (decide (xs[j]? = ys[j]?)) := by
  intro j h1 h2
  have l1 := r1.length
  have l2 := r2.length
  simp only [Array.length_toList] at l1 l2
  obtain ⟨x, hx⟩ : ∃ x, xs[j]? = some x := ⟨_, List.getElem?_eq_getElem (by omega)⟩
  obtain ⟨y, hy⟩ : ∃ y, ys[j]? = some y := ⟨_, List.getElem?_eq_getElem (by omega)⟩
  obtain ⟨x', e1, rx⟩ := r1.get hx
  obtain ⟨y', e2, ry⟩ := r2.get hy
  have q1 : is1[j] = x' := by
    have := e1; rw [Array.getElem?_toList, Array.getElem?_eq_getElem h1] at this; exact Option.some.inj this
  have q2 : is2[j] = y' := by
    have := e2; rw [Array.getElem?_toList, Array.getElem?_eq_getElem h2] at this; exact Option.some.inj this
  rw [q1, q2, hx, hy]
  have := eqGives rx ry (List.all_eq_true.mp s1 x (List.mem_of_getElem? hx)) (List.all_eq_true.mp s2 y (List.mem_of_getElem? hy))
  simpa using this
inductive EqC (H : Hp) : V → V → Bool → Prop
  | nn : EqC H .none .none true
  | bb (a b : Bool) : EqC H (.bool a) (.bool b) (decide (a = b))
  | bi (a : Bool) (b : Int) : EqC H (.bool a) (.int b) (decide (b2i a = b))
  | ii (a b : Int) : EqC H (.int a) (.int b) (decide (a = b))
  | is (a : Int) (b : Str) : EqC H (.int a) (.str b) false
  | si (a : Str) (b : Int) : EqC H (.str a) (.int b) false
  | ss (a b : Str) : EqC H (.str a) (.str b) (decide (a = b))
  | ll (a b : Addr) (xs ys : List V) (ea : H a = some (.lst xs)) (eb : H b = some (.lst ys)) (hs : xs.length = ys.length → scalars xs = true ∧ scalars ys = true) : EqC H (.ref a) (.ref b) (decide (xs = ys))
theorem eq_inv {x y : V} {r : Bool} (e : eqV H x y = some r) : EqC H x y r := by
  cases x with
  | none => cases y with
    | none => cases e; exact .nn
    | _ => cases e
  | bool a => cases y with
    | bool b => cases e; exact .bb a b
    | int b => cases e; exact .bi a b
    | _ => cases e
  | int a => cases y with
    | int b => cases e; exact .ii a b
    | str b => cases e; exact .is a b
    | _ => cases e
  | str a => cases y with
    | str b => cases e; exact .ss a b
    | int b => cases e; exact .si a b
    | _ => cases e
  | ref a =>
    obtain ⟨b, rfl, e⟩ := rf_some (k := fun b => (lstO (H a)).bind fun xs => (lstO (H b)).bind fun ys => eqL a b xs ys) e
    obtain ⟨xs, e1, e⟩ := Option.bind_eq_some_iff.mp e
    obtain ⟨ys, e2, e⟩ := Option.bind_eq_some_iff.mp e
    unfold eqL at e
    by_cases c : a ≠ b ∧ (xs.length = ys.length → scalars xs = true ∧ scalars ys = true)
    · rw [if_pos c] at e; cases e; exact .ll a b xs ys (lstO_some e1) (lstO_some e2) c.2
    · rw [if_neg c] at e; cases e
theorem R_eq (g : Good X.K X.hb h H) {n : Nat} (rm : Room A n) {x y : V} {x' y' : Value} {r : Bool} {Q : V → Hp → Prop} (rx : VR x x') (ry : VR y y') (he : eqV H x y = some r) (q : Q (.bool r) H) : R X A (compareOp .Eq x' y') Q h H := by
  cases eq_inv he with
  | nn => cases rx; cases ry; exact RW.still g q fun tk P hP => EqNone.eq_none_none (s := X.at h tk) (hP _ _ rfl)
  | bb a b => cases rx; cases ry; exact RW.still g q fun tk P hP => eq_bool (s := X.at h tk) (hP _ _ (congrArg Value.bool (beq_dec a b)))
  | bi a b => cases rx; obtain ⟨u, rfl⟩ := ry; exact RW.still g q fun tk P hP => EqBoolInt.eq_bool_int (s := X.at h tk) (hP _ _ (congrArg Value.bool (beq_dec (b2i a) b)))
  | ii a b => obtain ⟨t, rfl⟩ := rx; obtain ⟨u, rfl⟩ := ry; exact RW.still g q fun tk P hP => eq_int (s := X.at h tk) (hP _ _ (congrArg Value.bool (beq_dec a b)))
  | is a b => obtain ⟨t, rfl⟩ := rx; obtain ⟨u, rfl⟩ := ry; exact RW.still g q fun tk P hP => EqMixed.eq_int_str (s := X.at h tk) (hP _ _ rfl)
  | si a b => obtain ⟨t, rfl⟩ := rx; obtain ⟨u, rfl⟩ := ry; exact RW.still g q fun tk P hP => EqMixed.eq_str_int (s := X.at h tk) (hP _ _ rfl)
  | ss a b => obtain ⟨t, rfl⟩ := rx; obtain ⟨u, rfl⟩ := ry; exact RW.still g q fun tk P hP => eq_str (s := X.at h tk) (hP _ _ (congrArg Value.bool (beq_dec a b)))
  | ll a b xs ys ea eb hs =>
    cases rx; cases ry
    obtain ⟨is1, n1, f1, r1⟩ := g.lst ea
    obtain ⟨is2, n2, f2, r2⟩ := g.lst eb
    have l1 : xs.length = is1.size := r1.length.trans Array.length_toList
    have l2 : ys.length = is2.size := r2.length.trans Array.length_toList
    have hu := rm.cline
    by_cases hl : xs.length = ys.length
    · exact RW.still g q fun tk P hP => PySem.P.eq_list (s := X.at h tk) (n := n1) (n2 := n2) f1 f2 (l1.symm.trans (hl.trans l2)) (lists_eqAt g r1 r2 (hs hl).1 (hs hl).2) (by omega) (hP _ _ (congrArg Value.bool (l1 ▸ all_at hl)))
    · exact RW.still g q fun tk P hP => PySem.P.eq_list_lengths (s := X.at h tk) (n := n1) (n2 := n2) f1 f2 (by simp; omega) (by omega) (hP _ _ (congrArg Value.bool (decide_eq_false fun e => hl (congrArg _ e)).symm))
theorem lists_ne (g : Good X.K X.hb h H) {n : Nat} (rm : Room A n) {a b : Addr} {xs ys : List V} (ea : H a = some (.lst xs)) (eb : H b = some (.lst ys)) (hs : xs.length = ys.length → scalars xs = true ∧ scalars ys = true) {Q : V → Hp → Prop} (q : Q (.bool (!decide (xs = ys))) H) : R X A (compareOp .NotEq (.ref a) (.ref b)) Q h H := by
  obtain ⟨is1, n1, f1, r1⟩ := g.lst ea
  obtain ⟨is2, n2, f2, r2⟩ := g.lst eb
  have l1 := r1.length
  have l2 := r2.length
  simp only [Array.length_toList] at l1 l2
  have hu := rm.cline
  by_cases hl : xs.length = ys.length
  · refine RW.still g q fun tk P hP => ?_
    refine richCompare_meets_room (s := X.at h tk) (op := .NotEq) ⟨_, f1, rfl⟩ ⟨_, f2, rfl⟩ PySem.F.slot_list_ne PySem.F.entry_list_ne (PySem.F.args_list_ne_2 _ _) (SeqAt.list_neAt a b is1 is2 n1 n2 none none #[] #[] (by omega) (fun j => decide (xs[j]? = ys[j]?)))
      ⟨f1, f2, fun j h1 h2 => (lists_eqAt g r1 r2 (hs hl).1 (hs hl).2 j h1 h2).at _ _, ⟨(fun z => nomatch z), hP _ _ ?_⟩⟩ (by omega)
    show _ = _
    rw [← l1, all_at hl]
  · refine RW.still g q fun tk P hP => ?_
    refine richCompare_meets_room (s := X.at h tk) (op := .NotEq) ⟨_, f1, rfl⟩ ⟨_, f2, rfl⟩ PySem.F.slot_list_ne PySem.F.entry_list_ne (PySem.F.args_list_ne_2 _ _) (SeqAt.list_ne_lengthsAt a b is1 is2 n1 n2 none none #[] #[] (by simp; omega))
      ⟨f1, f2, ⟨(fun z => nomatch z), hP _ _ ?_⟩⟩ (by omega)
    show _ = _
    rw [decide_eq_false]
    · rfl
    · rintro rfl; exact hl rfl
theorem bne_dec {α : Type} [BEq α] [LawfulBEq α] [DecidableEq α] (a b : α) : (a != b) = !decide (a = b) := congrArg not (beq_dec a b)
theorem R_ne (g : Good X.K X.hb h H) {n : Nat} (rm : Room A n) {x y : V} {x' y' : Value} {r : Bool} {Q : V → Hp → Prop} (rx : VR x x') (ry : VR y y') (he : eqV H x y = some r) (q : Q (.bool (!r)) H) : R X A (compareOp .NotEq x' y') Q h H := by
  cases eq_inv he with
  | nn => cases rx; cases ry; exact RW.still g q fun tk P hP => EqNone.ne_none_none (s := X.at h tk) (hP _ _ rfl)
  | bb a b => cases rx; cases ry; exact RW.still g q fun tk P hP => ne_bool (s := X.at h tk) (hP _ _ (congrArg Value.bool (bne_dec a b)))
  | bi a b => cases rx; obtain ⟨u, rfl⟩ := ry; exact RW.still g q fun tk P hP => EqBoolInt.ne_bool_int (s := X.at h tk) (hP _ _ (congrArg Value.bool (bne_dec (b2i a) b)))
  | ii a b => obtain ⟨t, rfl⟩ := rx; obtain ⟨u, rfl⟩ := ry; exact RW.still g q fun tk P hP => ne_int (s := X.at h tk) (hP _ _ (congrArg Value.bool (bne_dec a b)))
  | is a b => obtain ⟨t, rfl⟩ := rx; obtain ⟨u, rfl⟩ := ry; exact RW.still g q fun tk P hP => EqMixed.ne_int_str (s := X.at h tk) (hP _ _ rfl)
  | si a b => obtain ⟨t, rfl⟩ := rx; obtain ⟨u, rfl⟩ := ry; exact RW.still g q fun tk P hP => EqMixed.ne_str_int (s := X.at h tk) (hP _ _ rfl)
  | ss a b => obtain ⟨t, rfl⟩ := rx; obtain ⟨u, rfl⟩ := ry; exact RW.still g q fun tk P hP => ne_str (s := X.at h tk) (hP _ _ (congrArg Value.bool (bne_dec a b)))
  | ll a b xs ys ea eb hs => cases rx; cases ry; exact lists_ne g rm ea eb hs q
theorem inst_some {o : Option O} {f : Cls → Addr → List V → Option Bool} {r : Bool} (e : O.cs o f no no no = some r) : ∃ c d fs, o = some (.inst c d fs) ∧ f c d fs = some r := by
  cases oc_some e with
  | inst e => exact ⟨_, _, _, rfl, e⟩
  | lst e => cases e
  | tup e => cases e
  | fro e => cases e
theorem plain_none {x : V} {x' : Value} (rx : VR x x') : (x' == Value.none) = decide (x = V.none) ∧ plainIs x' .none = true := by
  cases x with
  | none => cases rx; exact ⟨rfl, rfl⟩
  | bool b => cases rx; exact ⟨rfl, rfl⟩
  | int i => obtain ⟨t, rfl⟩ := rx; exact ⟨rfl, rfl⟩
  | str s => obtain ⟨t, rfl⟩ := rx; exact ⟨rfl, rfl⟩
  | ref a => cases rx; exact ⟨rfl, rfl⟩
theorem R_is (g : Good X.K X.hb h H) {neg : Bool} {x y : V} {x' y' : Value} {r : Bool} {Q : V → Hp → Prop} (rx : VR x x') (ry : VR y y') (he : isV H x y = some r) (q : Q (.bool (if neg then !r else r)) H) :
    R X A (compareOp (if neg then .IsNot else .Is) x' y') Q h H := by
  cases y with
  | none =>
    cases ry; cases he
    obtain ⟨k1, k2⟩ := plain_none rx
    cases neg
    · exact RW.still g q fun tk P hP => wpAny_is_plain (s := X.at h tk) k2 (hP _ _ (congrArg Value.bool k1))
    · exact RW.still g q fun tk P hP => wpAny_isNot_plain (s := X.at h tk) k2 (hP _ _ (congrArg (fun z => Value.bool (!z)) k1))
  | ref b =>
    obtain ⟨a, rfl, e⟩ := rf_some (k := fun a => if a = b then some true else O.cs (H a) (fun _ _ _ => O.cs (H b) (fun _ _ _ => some false) no no no) no no no) he
    cases rx; cases ry
    by_cases c : a = b
    · rw [if_pos c] at e; cases e; subst c
      cases neg
      · exact RW.still g q fun tk P hP => wpAny_is_ref_self (s := X.at h tk) (hP _ _ rfl)
      · exact RW.still g q fun tk P hP => wpAny_isNot_ref_self (s := X.at h tk) (hP _ _ rfl)
    · rw [if_neg c] at e
      obtain ⟨_, _, _, e1, e⟩ := inst_some e
      obtain ⟨_, _, _, e2, e⟩ := inst_some e
      cases e
      have f1 := (g.real _ _ e1).2.1
      have f2 := (g.real _ _ e2).2.1
      cases neg
      · exact RW.still g q fun tk P hP => wpAny_is_ref_other (s := X.at h tk) c f1 f2 (fun z => nomatch z) (hP _ _ rfl)
      · exact RW.still g q fun tk P hP => wpAny_isNot_ref_other (s := X.at h tk) c f1 f2 (fun z => nomatch z) (hP _ _ rfl)
  | _ => cases he
theorem R_in (g : Good X.K X.hb h H) {neg : Bool} {x y : V} {x' y' : Value} {r : Bool} {Q : V → Hp → Prop} (rx : VR x x') (ry : VR y y') (he : inV H x y = some r) (q : Q (.bool (if neg then !r else r)) H) :
    R X A (compareOp (if neg then .NotIn else .In) x' y') Q h H := by
  obtain ⟨vs, e, he2⟩ := Option.bind_eq_some_iff.mp he
  obtain ⟨a, rfl, ea⟩ := seqOf_some e
  cases ry
  by_cases c : scalar x = true ∧ scalars vs = true
  · rw [if_pos c] at he2
    cases he2
    have gives : ∀ {is : Array Value}, VRs vs is.toList → ∀ z, z ∈ is → MeetsSeq.EqGives z x' (decide (backOf z = x)) := fun {is} r z hz => by
      obtain ⟨w, hw, rw'⟩ := r.mem (Array.mem_toList_iff.mpr hz)
      have sw := List.all_eq_true.mp c.2 w hw
      rw [backOf_of rw' sw]
      exact eqGives rw' rx sw c.1
    have anyE : ∀ {is : Array Value}, VRs vs is.toList → is.any (fun z => decide (backOf z = x)) = decide (x ∈ vs) := fun {is} r => Array.any_toList.symm.trans (any_back r c.2)
    rcases ea with ea | ea
    · obtain ⟨is, n, f, r⟩ := g.lst ea
      cases neg
      · exact RW.still g q fun tk P hP => SeqRoads2.in_list (s := X.at h tk) _ (gives r) f (hP _ _ (congrArg Value.bool (anyE r)))
      · exact RW.still g q fun tk P hP => SeqRoads2.notIn_list (s := X.at h tk) _ (gives r) f (hP _ _ (congrArg (fun z => Value.bool (!z)) (anyE r)))
    · obtain ⟨is, n, f, r⟩ := g.tup ea
      cases neg
      · exact RW.still g q fun tk P hP => SeqRoads2.in_tuple (s := X.at h tk) _ (gives r) f (hP _ _ (congrArg Value.bool (anyE r)))
      · exact RW.still g q fun tk P hP => SeqRoads2.notIn_tuple (s := X.at h tk) _ (gives r) f (hP _ _ (congrArg (fun z => Value.bool (!z)) (anyE r)))
  · rw [if_neg c] at he2; cases he2
theorem one_some {l : List Nat} {c : Nat} (e : one? l = some c) : l = [c] := by
  cases l with
  | nil => cases e
  | cons a r => cases r with
    | nil => cases e; rfl
    | cons => cases e
theorem sign_some {v : V} {c : Nat} (e : sign? v = some c) : v = charV c := by
  cases v with
  | str s =>
    have e := one_some e
    cases s with
    | mk a => cases a with
      | mk l => cases (show l = [c] from e); rfl
  | _ => cases e
theorem one_le (a b : Nat) : ([a] ≤ [b]) ↔ a ≤ b := by
  rw [List.cons_le_cons_iff]; simp; omega
theorem ord_inv {i : Int → Int → Bool} {b : Bool → V → Option Bool} {s : V → Option Bool} {x y : V} {r : Bool} (e : ordV i b s x y = some r) : (∃ a c, x = .int a ∧ y = .int c ∧ r = i a c) ∨ (∃ a, x = .bool a ∧ b a y = some r) ∨ s y = some r := by
  cases x with
  | int a => cases y with
    | int c => cases e; exact .inl ⟨a, c, rfl, rfl, rfl⟩
    | _ => cases e
  | bool a => exact .inr (.inl ⟨a, rfl, e⟩)
  | str t => exact .inr (.inr e)
  | _ => cases e
theorem ordB_inv {i : Int → Int → Bool} {a : Bool} {y : V} {r : Bool} (e : ordB i a y = some r) : ∃ b, y = .bool b ∧ r = i (b2i a) (b2i b) := by
  cases y with
  | bool b => cases e; exact ⟨b, rfl, rfl⟩
  | _ => cases e
theorem R_cmp (g : Good X.K X.hb h H) {n : Nat} (rm : Room A n) {op : CmpOp} {x y : V} {x' y' : Value} {r : Bool} {Q : V → Hp → Prop} (rx : VR x x') (ry : VR y y') (he : cmpV H op x y = some r) (q : Q (.bool r) H) : R X A (compareOp op x' y') Q h H := by
  have neg : ∀ {o : Option Bool}, o.map not = some r → ∃ r0, o = some r0 ∧ r = !r0 := fun e => (Option.map_eq_some_iff.mp e).imp fun _ h => ⟨h.1, h.2.symm⟩
  cases op with
  | Eq => exact R_eq g rm rx ry he q
  | NotEq =>
    obtain ⟨r0, he', rfl⟩ := neg he
    exact R_ne g rm rx ry he' q
  | Is => exact R_is (neg := false) g rx ry he q
  | IsNot =>
    obtain ⟨r0, he', rfl⟩ := neg he
    exact R_is (neg := true) g rx ry he' q
  | In => exact R_in (neg := false) g rx ry he q
  | NotIn =>
    obtain ⟨r0, he', rfl⟩ := neg he
    exact R_in (neg := true) g rx ry he' q
  | Lt =>
    rcases ord_inv he with ⟨a, b, rfl, rfl, rfl⟩ | ⟨a, rfl, e⟩ | e
    · obtain ⟨t, rfl⟩ := rx; obtain ⟨u, rfl⟩ := ry
      exact RW.still g q fun tk P hP => lt_int (s := X.at h tk) (hP _ _ rfl)
    · obtain ⟨b, rfl, rfl⟩ := ordB_inv e
      cases rx; cases ry
      exact RW.still g q fun tk P hP => lt_bool (s := X.at h tk) (hP _ _ rfl)
    · cases e
  | Gt =>
    rcases ord_inv he with ⟨a, b, rfl, rfl, rfl⟩ | ⟨a, rfl, e⟩ | e
    · obtain ⟨t, rfl⟩ := rx; obtain ⟨u, rfl⟩ := ry
      exact RW.still g q fun tk P hP => gt_int (s := X.at h tk) (hP _ _ rfl)
    · obtain ⟨b, rfl, rfl⟩ := ordB_inv e
      cases rx; cases ry
      exact RW.still g q fun tk P hP => gt_bool (s := X.at h tk) (hP _ _ rfl)
    · cases e
  | GtE =>
    rcases ord_inv (i := fun a b => decide (b ≤ a)) (b := fun _ _ => .none) (s := no) he with ⟨a, b, rfl, rfl, rfl⟩ | ⟨a, rfl, e⟩ | e
    · obtain ⟨t, rfl⟩ := rx; obtain ⟨u, rfl⟩ := ry
      exact RW.still g q fun tk P hP => ge_int (s := X.at h tk) (hP _ _ rfl)
    · cases e
    · cases e
  | LtE =>
    rcases ord_inv (i := fun a b => decide (a ≤ b)) (b := fun _ _ => .none) (s := fun y => (sign? x).bind fun a => (sign? y).bind fun b => some (decide (a ≤ b))) he with ⟨a, b, rfl, rfl, rfl⟩ | ⟨a, rfl, e⟩ | e
    · obtain ⟨t, rfl⟩ := rx; obtain ⟨u, rfl⟩ := ry
      exact RW.still g q fun tk P hP => le_int (s := X.at h tk) (hP _ _ rfl)
    · cases e
    · obtain ⟨a, e1, e⟩ := Option.bind_eq_some_iff.mp e
      obtain ⟨b, e2, e⟩ := Option.bind_eq_some_iff.mp e
      cases e
      cases sign_some e1; cases sign_some e2
      obtain ⟨t, rfl⟩ := rx; obtain ⟨u, rfl⟩ := ry
      refine RW.still g q fun tk P hP => PySem.P.le_str (s := X.at h tk) (hP _ _ (congrArg Value.bool ?_))
      show (!decide ([b] < [a])) = decide (a ≤ b)
      rw [← decide_not]
      exact decide_eq_decide.mpr (List.not_lt.trans (one_le a b))
end
end Mine
namespace Mine
section
variable {X : Fix} {A : Around} {sc : Sc} {env : Env} {h : Heap} {ρ : Env'} {H : Hp}
theorem R_neg (g : Good X.K X.hb h H) {i : Int} {x' : Value} {Q : V → Hp → Prop} (rx : VR (.int i) x') (q : Q (.int (-i)) H) : R X A (unaryOp .USub x') Q h H := by
  obtain ⟨t, rfl⟩ := rx
  exact RW.still g q fun tk P hP => neg_int (s := X.at h tk) (hP _ _ ⟨_, rfl⟩)
theorem R_not (g : Good X.K X.hb h H) {b : Bool} {x' : Value} {Q : V → Hp → Prop} (rx : VR (.bool b) x') (q : Q (.bool (!b)) H) : R X A (unaryOp .Not x') Q h H := by
  cases rx
  exact RW.still g q fun tk P hP => not_of (s := X.at h tk) (wpAny_truthy_bool (hP _ _ rfl))
theorem R_truthy (g : Good X.K X.hb h H) {b : Bool} {x' : Value} {Q : Bool → Hp → Prop} (rx : VR (.bool b) x') (q : Q b H) : RW (fun a a' => a = a') X A [] (truthy x') Q h H := by
  cases rx
  exact RW.still g q fun tk P hP => wpAny_truthy_bool (s := X.at h tk) (hP _ _ rfl)
theorem VRs.last {xs : List V} {ys : List Value} (r : VRs xs ys) {x : V} (e : xs.getLast? = some x) : ∃ y, ys[ys.length - 1]? = some y ∧ VR x y := by
  rw [List.getLast?_eq_getElem?] at e
  obtain ⟨y, e', r'⟩ := r.get e
  rw [r.length] at e'
  exact ⟨y, e', r'⟩
theorem seqIndex_of {k : Int} {n : Nat} (h0 : 0 ≤ k) (h1 : k < n) : seqIndex? k n = some k.toNat := by
  unfold seqIndex?
  rw [if_neg (Int.not_lt.mpr h0)]
  show (if (decide (0 ≤ k) && decide (k < n)) = true then some k.toNat else none) = _
  rw [decide_eq_true h0, decide_eq_true h1]
  rfl
theorem seqIndex_last {n : Nat} (h : 0 < n) : seqIndex? (-1) n = some (n - 1) := by
  obtain ⟨m, rfl⟩ : ∃ m, n = m + 1 := ⟨n - 1, (Nat.sub_add_cancel h).symm⟩
  unfold seqIndex?
  rw [if_pos (show (-1 : Int) < 0 by decide), show (-1 + ((m + 1 : Nat) : Int)) = m from (Int.add_comm _ _).trans (Int.add_sub_cancel m 1)]
  show (if (decide (0 ≤ (m : Int)) && decide ((m : Int) < ((m + 1 : Nat) : Int))) = true then some (m : Int).toNat else none) = _
  rw [decide_eq_true (Int.natCast_nonneg m), decide_eq_true (Int.ofNat_lt.mpr (Nat.lt_succ_self m))]
  rfl
theorem item_at {vs : List V} {is : Array Value} (r : VRs vs is.toList) {k : Int} {v : V} (hv : (if 0 ≤ k ∧ k < 2 ^ 62 then vs[k.toNat]? else if k = -1 then vs.getLast? else .none) = some v) :
    ∃ j y, (0 ≤ k ∧ k < 2 ^ 62 ∧ j = k.toNat ∨ k = -1 ∧ j = is.size - 1) ∧ 0 < is.size ∧ seqIndex? k is.size = some j ∧ is.toList[j]? = some y ∧ VR v y := by
  have hl : vs.length = is.size := r.length.trans Array.length_toList
  have pos : ∀ {y : Value} {j : Nat}, is.toList[j]? = some y → 0 < is.size := fun e => Nat.lt_of_le_of_lt (Nat.zero_le _) (Array.length_toList ▸ (List.getElem?_eq_some_iff.mp e).1)
  by_cases h0 : 0 ≤ k ∧ k < 2 ^ 62
  · rw [if_pos h0] at hv
    have hk : k < is.size := by have := (List.getElem?_eq_some_iff.mp hv).1; omega
    obtain ⟨y, ey, ry⟩ := r.get hv
    exact ⟨k.toNat, y, .inl ⟨h0.1, h0.2, rfl⟩, pos ey, seqIndex_of h0.1 hk, ey, ry⟩
  · rw [if_neg h0] at hv
    by_cases h1 : k = -1
    · rw [if_pos h1] at hv
      obtain ⟨y, ey, ry⟩ := r.last hv
      subst h1
      rw [Array.length_toList] at ey
      exact ⟨_, y, .inr ⟨rfl, rfl⟩, pos ey, seqIndex_last (pos ey), ey, ry⟩
    · rw [if_neg h1] at hv; cases hv
theorem R_idxTail (g : Good X.K X.hb h H) {x i v : V} {x' i' : Value} {value slice : Expr} {Q : V → Hp → Prop} (rx : VR x x') (ri : VR i i') (hv : idxV H x i = some v)
    (hs : subscripted slice false x' i' = operate [x', i'] (getItem x' i')) (q : Q v H) : R X A (subscriptTail value slice x' i') Q h H := by
  cases i with
  | int k =>
    obtain ⟨u, rfl⟩ := ri
    cases x with
    | str s =>
      obtain ⟨t, rfl⟩ := rx
      have hv : (if 0 ≤ k ∧ k < s.length ∧ k < 2 ^ 62 then some (charV (s.cps.getD k.toNat 0)) else .none) = some v := hv
      by_cases hk : 0 ≤ k ∧ k < s.length ∧ k < 2 ^ 62
      · rw [if_pos hk] at hv
        cases hv
        refine RW.still g q fun tk P hP => tail_any (s := X.at h tk) (typeIs_str _ _ _) slot_str_getitem.lookup (PySem.P.getItem_str (s := X.at h tk) (c := s.cps.getD k.toNat 0) (by simp; omega) ?_ (hP _ _ ⟨_, rfl⟩)) hs
        rw [seqIndex_of hk.1 hk.2.1]
        have hlt : k.toNat < s.cps.size := (Int.toNat_lt hk.1).mpr hk.2.1
        show s.cps[k.toNat]? = _
        rw [Array.getElem?_eq_getElem hlt, Array.getD_eq_getD_getElem?, Array.getElem?_eq_getElem hlt]; rfl
      · rw [if_neg hk] at hv; cases hv
    | ref a =>
      cases rx
      obtain ⟨vs, e, hv⟩ := Option.bind_eq_some_iff.mp (show lastO k (H a) = some v from hv)
      rcases seqO_some e with ea | ea
      · obtain ⟨is, n, f, r⟩ := g.lst ea
        obtain ⟨j, y, hj, hp, _, ey, ry⟩ := item_at r hv
        rcases hj with ⟨h0, h1, rfl⟩ | ⟨rfl, rfl⟩
        · exact RW.still g q fun tk P hP => tail_any (s := X.at h tk) ⟨_, f, rfl⟩ slot_list_getitem.lookup (wpAny_getItem_list (s := X.at h tk) (isList_of f) h0 (by omega) (by simpa using ey) (hP _ _ ry)) hs
        · exact RW.still g q fun tk P hP => tail_any (s := X.at h tk) ⟨_, f, rfl⟩ slot_list_getitem.lookup (wpAny_getItem_list_neg (s := X.at h tk) (isList_of f) (by omega) (by omega) (by omega) (by rw [show (-1 + (is.size : Int)).toNat = is.size - 1 by omega]; simpa using ey) (hP _ _ ry)) hs
      · obtain ⟨is, n, f, r⟩ := g.tup ea
        obtain ⟨j, y, hj, hp, hi, ey, ry⟩ := item_at r hv
        exact RW.still g q fun tk P hP => tail_any (s := X.at h tk) ⟨_, f, rfl⟩ slot_tuple_getitem.lookup (PySem.P.getItem_tuple (s := X.at h tk) (k := j) f (by omega) (by omega) hi (by simpa using ey) (hP _ _ ry)) hs
    | _ => cases hv
  | _ => cases hv
end
end Mine
namespace Mine
noncomputable def kdVal (K : Frag) : Kd → Value
  | .int => .type "int"
  | .bool => .type "bool"
  | .str => .type "str"
  | .tuple => .type "tuple"
  | .arr => .ref (clsAddr K .arr)
  | .rf => .ref (clsAddr K .rf)
  | .absent => .ref (clsAddr K .absent)
  | .obj => .ref (addrOf K (Str.ofString "Obj"))
inductive Sh where
  | none | bool | int | str | list | tuple | arr | rf | absent
  deriving DecidableEq
noncomputable def shVal (K : Frag) : Sh → Value
  | .none => .type "NoneType"
  | .bool => .type "bool"
  | .int => .type "int"
  | .str => .type "str"
  | .list => .type "list"
  | .tuple => .type "tuple"
  | .arr => .ref (clsAddr K .arr)
  | .rf => .ref (clsAddr K .rf)
  | .absent => .ref (clsAddr K .absent)
noncomputable def shKd : Sh → Kd → Bool
  | .bool, k => k == .int || k == .bool
  | .int, k => k == .int
  | .str, k => k == .str
  | .tuple, k => k == .tuple
  | .arr, k => k == .arr
  | .rf, k => k == .rf
  | .absent, k => k == .absent
  | _, _ => false
noncomputable def shs : List Sh := [.none, .bool, .int, .str, .list, .tuple, .arr, .rf, .absent]
noncomputable def kds : List Kd := [.int, .bool, .str, .tuple, .arr, .rf, .absent, .obj]
noncomputable def isClsO : Option Obj → Bool
  | none => false
  | some o => (match o.data with
    | .cls _ => true
    | _ => false)
noncomputable def refOk (K : Frag) (a : Addr) : Bool := typeIn K (.ref a) == some (.type "type") && isClsO (K.lookup a)
noncomputable def kdOk (K : Frag) : Kd → Bool
  | .arr => refOk K (clsAddr K .arr)
  | .rf => refOk K (clsAddr K .rf)
  | .absent => refOk K (clsAddr K .absent)
  | .obj => refOk K (addrOf K (Str.ofString "Obj"))
  | _ => true
noncomputable def isiOk (K : Frag) : Bool := kds.all (fun k => kdOk K k && shs.all fun s => subIn K (shVal K s) (kdVal K k) == some (shKd s k) && (shKd s k || !(shVal K s == kdVal K k))) &&
  (([Cls.arr, Cls.rf, Cls.absent].all fun c => refOk K (clsAddr K c) && (hasDictIn K (clsAddr K c) && (findIn K (.ref (clsAddr K c)) "__getattribute__" == some (some (.builtin "object.__getattribute__")) && (findIn K (.ref (clsAddr K c)) "__getattr__" == some none &&
    (findIn K (.ref (clsAddr K c)) "__class__" == some (some (.builtin "object.__class__")) && mroIn K (clsAddr K c) (.type "object") == some true))))) &&
  (specialIn K (.builtin "object.__class__") "__get__" == some (some (.builtin "getset_descriptor.__get__")) && takesIn K (.builtin "object.__class__") == some true))
section
variable {prog : Program} {w : World} {A : Around} {E : Value → Shared → Prop} {s : Shared} {K : Frag} {x C : Addr} {ox : Obj} {od : Obj}
theorem inst_cls {Q : Option Value → Shared → Prop} (X : K.In s.heap) (I : InstAt s.heap x ox C (some od)) (hga : findIn K (.ref C) "__getattribute__" = some (some (.builtin "object.__getattribute__"))) (hk : findIn K (.ref C) "__getattr__" = some none) (hh : hasDictIn K C = true)
    (ha : findIn K (.ref C) "__class__" = some (some (.builtin "object.__class__"))) (hn : specialIn K (.builtin "object.__class__") "__get__" = some (some (.builtin "getset_descriptor.__get__"))) (ht : takesIn K (.builtin "object.__class__") = some true)
    (hm : mroIn K C (.type "object") = some true) (h : Q (some (.ref C)) { s with toks := s.toks + 1 }) : wpAny (model prog w) A (getAttr? (.ref x) "__class__") Q E s := by
  obtain ⟨hh', g, d, t, os⟩ := s
  have L0 := I.type (M := model prog w)
  have L1 := looks_findIn (M := model prog w) X hga
  have hf : findObj K C (some od) "__class__" = some (.bind (.builtin "getset_descriptor.__get__") (.builtin "object.__class__")) := findObj_data (by obtain ⟨cd, hc, _⟩ := any_some hh; rw [hc]; rfl) ha hn ht
  have L3 := looks_find (M := model prog w) X I hf
  have L2 := looks_findIn (M := model prog w) X hk
  unfold getAttr? getAttrBy? getAttrBy
  refine wpAny_bind (wpAny_mkText (wpAny_bind (wpAny_attempt (wpAny_holding (wpAny_bind (L0.at (wpAny_bind (L1.at ?_))))))))
  show wpAny _ _ (getAttrEveryday _ _ _) _ _ _
  refine wpAny_bind (wpAny_onRaise (wpAny_runValue (codeAny_builtin F.plainObj_entry_getattr_hooked ?_)))
  refine wpAny_bind (wpAny_pure (wpAny_bind (L0.at (wpAny_bind (L3.at (wpAny_bind (L2.at ?_)))))))
  show wpAny _ _ (holding [.builtin "object.__class__"] (call (.builtin "getset_descriptor.__get__") [.builtin "object.__class__", .ref x, .ref C]) >>= ret) _ _ _
  refine wpAny_bind (wpAny_holding (wpAny_call (class_get (s := ⟨hh', g, d, t + 1, os⟩) (ox := ox) (od := some od) X I hm ?_)))
  refine wpAny_pure ?_
  show wpAny _ _ (handedOut (.ref C)) _ _ _
  rw [handedOut_of (by rfl)]
  exact wpAny_pure (wpAny_pure h)
variable {v cv tv c : Value}
structure TvAt (h : Heap) (v tv : Value) : Prop where
  L0 : ∀ M, Looks M h (typeOf v) tv
  L4 : ∀ M, Looks M h (isType tv) true
  ca : ∀ {prog : Program} {w : World} {A : Around} {E : Value → Shared → Prop} {Q : Option Value → Shared → Prop} {s : Shared}, s.heap = h → Q (some tv) { s with toks := s.toks + 1 } → wpAny (model prog w) A (getAttr? v "__class__") Q E s
structure IsiAt (h : Heap) (v cv tv : Value) (b : Bool) : Prop where
  t : TvAt h v tv
  L1 : ∀ M, Looks M h (typeOf cv) (.type "type")
  L2 : ∀ M, Looks M h (isType cv) true
  L3 : ∀ M, Looks M h (isSubtype tv cv) b
theorem isn_nest {Q : Fin → Shared → Prop} {dep : Int} {tk : Tok} (hne : (tv == cv) = false) (L : IsiAt s.heap v cv tv false)
    (h : Q (.done (.ret (.bool false))) { s with toks := s.toks + 1 }) : wpAny (model prog w) A (Builtin.«isinstance.nested» ⟨[v, cv, .int dep tk], []⟩) Q E s := by
  obtain ⟨hh, g, d, tt, os⟩ := s
  obtain ⟨⟨L0, L4, ca⟩, L1, L2, L3⟩ := L
  dsimp only at L0 L1 L2 L3 L4
  unfold Builtin.«isinstance.nested»
  refine wpAny_bind ((L0 _).at ?_)
  rw [if_neg (by rw [hne]; decide)]
  refine wpAny_bind ((L1 _).at ?_)
  rw [if_pos (by decide)]
  k_delta "plainIsInstance"
  refine wpAny_bind (wpAny_bind ((L2 _).at ?_))
  simp only [Bool.not_true, Bool.false_eq_true, if_false]
  refine wpAny_bind ((show Looks (model prog w) hh (isInstance v cv) false from (L0 _).andThen (L3 _)).at ?_)
  simp only [Bool.false_eq_true, if_false]
  refine wpAny_bind (ca rfl ?_)
  refine wpAny_bind ((L4 _).at ?_)
  simp only [Bool.not_true, Bool.false_eq_true, if_false]
  refine wpAny_bind (wpAny_rule ?_)
  refine (L3 _).at ?_
  exact wpAny_pure h
theorem isn_gen {Q : Value → Shared → Prop} (hne : (tv == cv) = false) (L : IsiAt s.heap v cv tv false) (hx : v ≠ .builtin "__main__.__loader__#opaque")
    (h : Q (.bool false) { s with toks := s.toks + 1 }) : wpAny (model prog w) A (call (.builtin "isinstance") [v, cv]) Q E s :=
  call_isinstance (S := fun _ R s => IsiAt s.heap v cv tv false ∧ R (.ok (.ret (.bool false))) { s with toks := s.toks + 1 })
    (fun _ _ _ _ _ hs => isinstance_outer (isn_nest hne hs.1 hs.2) hx) ⟨L, h⟩
theorem isy_nest {Q : Fin → Shared → Prop} {dep : Int} {tk : Tok} (L : IsiAt s.heap v cv tv true)
    (h : Q (.done (.ret (.bool true))) s) : wpAny (model prog w) A (Builtin.«isinstance.nested» ⟨[v, cv, .int dep tk], []⟩) Q E s := by
  obtain ⟨hh, g, d, tt, os⟩ := s
  obtain ⟨⟨L0, L4, ca⟩, L1, L2, L3⟩ := L
  dsimp only at L0 L1 L2 L3 L4
  unfold Builtin.«isinstance.nested»
  refine wpAny_bind ((L0 _).at ?_)
  by_cases q : (tv == cv) = true
  · rw [if_pos q]
    exact wpAny_bind (wpAny_rule (wpAny_bind (wpAny_pure (wpAny_pure h))))
  rw [if_neg q]
  refine wpAny_bind ((L1 _).at ?_)
  rw [if_pos (by decide)]
  k_delta "plainIsInstance"
  refine wpAny_bind (wpAny_bind ((L2 _).at ?_))
  simp only [Bool.not_true, Bool.false_eq_true, if_false]
  refine wpAny_bind ((show Looks (model prog w) hh (isInstance v cv) true from (L0 _).andThen (L3 _)).at ?_)
  simp only [if_true]
  exact wpAny_pure (wpAny_pure h)
theorem isy_gen {Q : Value → Shared → Prop} (L : IsiAt s.heap v cv tv true) (hx : v ≠ .builtin "__main__.__loader__#opaque")
    (h : Q (.bool true) s) : wpAny (model prog w) A (call (.builtin "isinstance") [v, cv]) Q E s :=
  call_isinstance (S := fun _ R s => IsiAt s.heap v cv tv true ∧ R (.ok (.ret (.bool true))) s)
    (fun _ _ _ _ _ hs => isinstance_outer (isy_nest hs.1 hs.2) hx) ⟨L, h⟩
theorem looks_ref {M : Model} {h : Heap} (X : K.In h) {a : Addr} (e : refOk K a = true) : Looks M h (typeOf (.ref a)) (.type "type") ∧ Looks M h (isType (.ref a)) true := by
  obtain ⟨e1, e2⟩ := and_of e
  refine ⟨looks_typeIn X (eq_of_beq e1), ?_⟩
  cases ho : K.lookup a with
  | none => rw [ho] at e2; cases e2
  | some o =>
    rw [ho] at e2
    cases o with
    | mk c d data p => cases data with
      | cls cd => exact (Looks.ld (X _ _ ho)).andThen .now
      | _ => cases e2
theorem looks_kd {M : Model} {h : Heap} (X : K.In h) {k : Kd} (e : kdOk K k = true) : Looks M h (typeOf (kdVal K k)) (.type "type") ∧ Looks M h (isType (kdVal K k)) true := by
  cases k with
  | arr => exact looks_ref X e
  | rf => exact looks_ref X e
  | absent => exact looks_ref X e
  | obj => exact looks_ref X e
  | int => exact ⟨Looks.of_pure (by kernel_rfl), .now⟩
  | bool => exact ⟨Looks.of_pure (by kernel_rfl), .now⟩
  | str => exact ⟨Looks.of_pure (by kernel_rfl), .now⟩
  | tuple => exact ⟨Looks.of_pure (by kernel_rfl), .now⟩
end
section
variable {X : Fix} {A : Around} {h : Heap} {H : Hp}
noncomputable def shC : Cls → Option Sh
  | .arr => some .arr
  | .rf => some .rf
  | .absent => some .absent
  | .host => none
  | .frame => none
noncomputable def shO (o : Option O) : Option Sh := O.cs o (fun c _ _ => shC c) (fun _ => some .list) (fun _ => some .tuple) no
noncomputable def shOf (H : Hp) (v : V) : Option Sh := v.cs (some .none) (fun _ => some .bool) (fun _ => some .int) (fun _ => some .str) fun a => shO (H a)
theorem isiO_sh {k : Kd} {o : Option O} {b : Bool} (e : isiO k o = some b) : ∃ s, shO o = some s ∧ b = shKd s k := by
  cases oc_some e with
  | @inst c d fs e => cases c <;> first | (cases e; exact ⟨_, rfl, rfl⟩) | cases e
  | lst e => cases e; exact ⟨_, rfl, rfl⟩
  | tup e => cases e; exact ⟨_, rfl, rfl⟩
  | fro e => cases e
theorem isiV_sh {k : Kd} {v : V} {b : Bool} (e : isiV H k v = some b) : ∃ s, shOf H v = some s ∧ b = shKd s k := by
  cases v with
  | ref a => exact isiO_sh (show isiO k (H a) = some b from e)
  | _ => cases e; exact ⟨_, rfl, rfl⟩
theorem tv_inst (m : Amb X) (ok : isiOk X.K = true) (g : Good X.K X.hb h H) {a d : Addr} {c : Cls} {fs : List V} (eq : H a = some (.inst c d fs)) (hc : c ∈ [Cls.arr, Cls.rf, Cls.absent]) : TvAt h (.ref a) (.ref (clsAddr X.K c)) := by
  obtain ⟨_, ok⟩ := and_of ok
  obtain ⟨ok2, ok⟩ := and_of ok
  obtain ⟨ok3, ok4⟩ := and_of ok
  obtain ⟨k1, k⟩ := and_of (List.all_eq_true.mp ok2 c hc)
  obtain ⟨k2, k⟩ := and_of k
  obtain ⟨k3, k⟩ := and_of k
  obtain ⟨k4, k⟩ := and_of k
  obtain ⟨k5, k6⟩ := and_of k
  obtain ⟨es, n, e3, e6, I⟩ := instAt g eq
  refine ⟨fun _ => I.type, fun _ => (looks_ref (g.K m) k1).2, fun {prog w A E Q s} hs hq => ?_⟩
  subst hs
  exact inst_cls (g.K m) I (eq_of_beq k3) (eq_of_beq k4) k2 (eq_of_beq k5) (eq_of_beq ok3) (eq_of_beq ok4) (eq_of_beq k6) hq
theorem tv_of (m : Amb X) (ok : isiOk X.K = true) (g : Good X.K X.hb h H) {v : V} {v' : Value} (r : VR v v') {sh : Sh} (es : shOf H v = some sh) : TvAt h v' (shVal X.K sh) := by
  cases v with
  | none => cases es; cases r; exact ⟨fun _ => .now, fun _ => .now, fun _ hq => none_cls trivial hq⟩
  | bool b => cases es; cases r; exact ⟨fun _ => .now, fun _ => .now, fun _ hq => bool_cls trivial hq⟩
  | int i => cases es; obtain ⟨t, rfl⟩ := r; exact ⟨fun _ => .now, fun _ => .now, fun _ hq => int_cls trivial hq⟩
  | str s => cases es; obtain ⟨t, rfl⟩ := r; exact ⟨fun _ => .now, fun _ => .now, fun _ hq => str_cls trivial hq⟩
  | ref a =>
    cases r
    have es : shO (H a) = some sh := es
    cases eq : H a with
    | none => rw [eq] at es; cases es
    | some o =>
      rw [eq] at es
      cases o with
      | inst c d fs => cases c with
        | arr => cases es; exact tv_inst m ok g eq (.head _)
        | rf => cases es; exact tv_inst m ok g eq (.tail _ (.head _))
        | absent => cases es; exact tv_inst m ok g eq (.tail _ (.tail _ (.head _)))
        | _ => cases es
      | lst vs =>
        cases es
        obtain ⟨is, n, f, _⟩ := g.lst eq
        exact ⟨fun _ => (Looks.ld f).andThen .now, fun _ => .now, fun hs hq => list_cls ⟨_, hs ▸ f, rfl⟩ hq⟩
      | tup vs =>
        cases es
        obtain ⟨is, n, f, _⟩ := g.tup eq
        exact ⟨fun _ => (Looks.ld f).andThen .now, fun _ => .now, fun hs hq => tuple_cls ⟨_, hs ▸ f, rfl⟩ hq⟩
      | _ => cases es
theorem R_isi (m : Amb X) (ok : isiOk X.K = true) (g : Good X.K X.hb h H) {k : Kd} {v : V} {v' : Value} {b : Bool} {Q : V → Hp → Prop} (r : VR v v') (e : isiV H k v = some b) (q : Q (.bool b) H) : R X A (call (.builtin "isinstance") [v', kdVal X.K k]) Q h H := by
  obtain ⟨sh, es, rfl⟩ := isiV_sh e
  obtain ⟨ok5, ok6⟩ := and_of (List.all_eq_true.mp (and_of ok).1 k (by cases k <;> decide))
  obtain ⟨ok7, ok8⟩ := and_of (List.all_eq_true.mp ok6 sh (by cases sh <;> decide))
  have XK := g.K m
  have hx : v' ≠ .builtin "__main__.__loader__#opaque" := by
    rintro rfl
    cases v with
    | none => cases r
    | bool b => cases r
    | int i => obtain ⟨t, e⟩ := r; cases e
    | str s => obtain ⟨t, e⟩ := r; cases e
    | ref a => cases r
  have key : IsiAt h v' (kdVal X.K k) (shVal X.K sh) (shKd sh k) := ⟨tv_of m ok g r es, fun M => (looks_kd XK ok5).1, fun M => (looks_kd XK ok5).2, fun M => looks_subIn XK (eq_of_beq ok7)⟩
  cases hb : shKd sh k with
  | true =>
    rw [hb] at key q
    exact RW.still g q fun tk P hP => isy_gen (s := X.at h tk) key hx (hP _ _ rfl)
  | false =>
    rw [hb] at key q ok8
    exact RW.still g q fun tk P hP => isn_gen (s := X.at h tk) ((Bool.not_eq_true' _).mp ok8) key hx (hP _ _ rfl)
end
end Mine
namespace Mine
section
variable {X : Fix} {A : Around} {h : Heap} {H : Hp}
theorem R_len (g : Good X.K X.hb h H) {v : V} {v' : Value} {n : Nat} {Q : V → Hp → Prop} (r : VR v v') (e : lenV H v = some n) (hn : n < 2 ^ 62) (q : Q (.int n) H) : R X A (call (.builtin "len") [v']) Q h H := by
  cases v with
  | str s =>
    obtain ⟨t, rfl⟩ := r
    cases e
    exact RW.still g q fun tk P hP => PySem.P.len_str (s := X.at h tk) (by omega) (hP _ _ ⟨_, rfl⟩)
  | ref a =>
    obtain ⟨vs, e1, rfl⟩ := Option.map_eq_some_iff.mp (show (seqO (H a)).map List.length = some n from e)
    cases r
    rcases seqO_some e1 with ea | ea
    · obtain ⟨is, m, f, r⟩ := g.lst ea
      have hl : vs.length = is.size := r.length.trans Array.length_toList
      exact RW.still g q fun tk P hP => len_list (s := X.at h tk) (isList_of f) (by omega) (hP _ _ ⟨_, by rw [hl]⟩)
    · obtain ⟨is, m, f, r⟩ := g.tup ea
      have hl : vs.length = is.size := r.length.trans Array.length_toList
      exact RW.still g q fun tk P hP => PySem.P.len_tuple (s := X.at h tk) f (by omega) (hP _ _ ⟨_, by rw [hl]⟩)
  | _ => cases e
theorem R_ord (g : Good X.K X.hb h H) {v : V} {v' : Value} {c : Nat} {Q : V → Hp → Prop} (r : VR v v') (e : sign? v = some c) (q : Q (.int c) H) : R X A (call (.builtin "ord") [v']) Q h H := by
  cases sign_some e
  obtain ⟨t, rfl⟩ := r
  exact RW.still g q fun tk P hP => PySem.P.ord_of_char (s := X.at h tk) (hP _ _ ⟨_, rfl⟩)
theorem log2_small {a : Nat} (h : a < 2 ^ 64) : a.log2 < 1920 := by
  by_cases z : a = 0
  · subst z; decide
  · exact Nat.lt_trans ((Nat.log2_lt z).mpr h) (by decide)
theorem R_strI (g : Good X.K X.hb h H) {i : Int} {v' : Value} {Q : V → Hp → Prop} (r : VR (.int i) v') (hi : i.natAbs < 2 ^ 64) (q : Q (.str (intText i)) H) : R X A (call (.type "str") [v']) Q h H := by
  obtain ⟨t, rfl⟩ := r
  exact RW.still g q fun tk P hP => PySem.P.str_of_int (s := X.at h tk) (log2_small hi) (hP _ _ ⟨_, rfl⟩)
theorem R_min (g : Good X.K X.hb h H) {n : Nat} (rm : Room A n) {i j : Int} {a' b' : Value} {Q : V → Hp → Prop} (ra : VR (.int i) a') (rb : VR (.int j) b') (q : Q (.int (min i j)) H) : R X A (call (.builtin "min") [a', b']) Q h H := by
  obtain ⟨t, rfl⟩ := ra
  obtain ⟨u, rfl⟩ := rb
  refine RW.grown g q fun tk P hP => min_two_ints (s := X.at h tk) rm.handled fun h' tk' k => ?_
  split
  · exact hP _ _ _ ⟨_, by rw [Int.min_eq_right (by omega)]⟩ k
  · exact hP _ _ _ ⟨_, by rw [Int.min_eq_left (by omega)]⟩ k
theorem ints_items : ∀ {vs : List V} {is : List Int} {L : List Value}, ofInts vs = some is → VRs vs L → ∃ xs : List (Int × Tok), L = xs.map (fun p => Value.int p.1 p.2) ∧ xs.map (·.1) = is
  | [], _, [], e, _ => by cases e; exact ⟨[], rfl, rfl⟩
  | [], _, _ :: _, _, r => r.elim
  | .int i :: vs, is, [], _, r => r.elim
  | .int i :: vs, is, y :: L, e, r => by
    obtain ⟨is', e', rfl⟩ := Option.map_eq_some_iff.mp e
    obtain ⟨⟨t, rfl⟩, r⟩ := r
    obtain ⟨xs, rfl, h2⟩ := ints_items e' r
    exact ⟨(i, t) :: xs, rfl, by simp [h2]⟩
  | .none :: _, _, _, e, _ => by cases e
  | .bool _ :: _, _, _, e, _ => by cases e
  | .str _ :: _, _, _, e, _ => by cases e
  | .ref _ :: _, _, _, e, _ => by cases e
theorem R_max (g : Good X.K X.hb h H) {n : Nat} (rm : Room A n) {v : V} {v' : Value} {vs : List V} {is : List Int} {Q : V → Hp → Prop} (r : VR v v') (e : lstOf H v = some vs) (ei : ofInts vs = some is) (hne : is ≠ [])
    (q : ∀ i, i ∈ is → (∀ j ∈ is, j ≤ i) → Q (.int i) H) : R X A (call (.builtin "max") [v']) Q h H := by
  obtain ⟨a, rfl, ea⟩ := lstOf_some e
  cases r
  obtain ⟨items, m, f, rl⟩ := g.lst ea
  obtain ⟨xs, hx, rfl⟩ := ints_items ei rl
  have hit : items = intItems xs.toArray := by
    apply Array.toList_inj.mp
    rw [hx]; simp [intItems]
  subst hit
  have hpos : 0 < xs.toArray.size := by
    cases xs with
    | nil => exact absurd rfl hne
    | cons a l => simp
  obtain ⟨hb, hmax⟩ := argBest_gt (numAt xs.toArray) (xs.toArray.size - 1)
  generalize hbest : argBest (fun i j => decide (numAt xs.toArray i > numAt xs.toArray j)) (xs.toArray.size - 1) = best at hb hmax
  have num : ∀ k (hk : k < xs.length), numAt xs.toArray k = xs[k].1 := fun k hk => by simp [numAt, hk]
  have hbl : best < xs.length := by simp only [List.size_toArray] at hb hpos; omega
  have q' := q (xs[best].1) (List.mem_map.mpr ⟨_, List.getElem_mem hbl, rfl⟩) fun j hj => by
    obtain ⟨p, hp, rfl⟩ := List.mem_map.mp hj
    obtain ⟨k, hk, rfl⟩ := List.mem_iff_getElem.mp hp
    have := hmax k (by simp only [List.size_toArray]; omega)
    rw [num k hk, num best hbl] at this
    exact this
  refine RW.grown g q' fun tk P hP => max_intList (s := X.at h tk) rm.handled (isList_of f) hpos fun v h' tk' hv k => hP _ _ _ ?_ k
  rw [hbest] at hv
  simp [intItems, hbl] at hv
  exact ⟨_, hv.symm⟩
theorem strs_items : ∀ {vs : List V} {is : List Str} {L : List Value}, ofStrs vs = some is → VRs vs L → ∃ xs : List (Str × Tok), L = strValues xs ∧ xs.map (·.1) = is
  | [], _, [], e, _ => by cases e; exact ⟨[], rfl, rfl⟩
  | [], _, _ :: _, _, r => r.elim
  | .str i :: vs, is, [], _, r => r.elim
  | .str i :: vs, is, y :: L, e, r => by
    obtain ⟨is', e', rfl⟩ := Option.map_eq_some_iff.mp e
    obtain ⟨⟨t, rfl⟩, r⟩ := r
    obtain ⟨xs, rfl, h2⟩ := strs_items e' r
    exact ⟨(i, t) :: xs, rfl, by simp [h2]⟩
  | .none :: _, _, _, e, _ => by cases e
  | .bool _ :: _, _, _, e, _ => by cases e
  | .int _ :: _, _, _, e, _ => by cases e
  | .ref _ :: _, _, _, e, _ => by cases e
theorem R_join (g : Good X.K X.hb h H) {x : Str} {s' v' : Value} {v : V} {vs : List V} {ts : List Str} {Q : V → Hp → Prop} (rs : VR (.str x) s') (r : VR v v') (e : lstOf H v = some vs) (ei : ofStrs vs = some ts) (hok : JoinOk x ts = true)
    (q : Q (.str (Txt.join x ts)) H) : R X A (call (.builtin "str.join") [s', v']) Q h H := by
  obtain ⟨t, rfl⟩ := rs
  obtain ⟨a, rfl, ea⟩ := lstOf_some e
  cases r
  obtain ⟨items, m, f, rl⟩ := g.lst ea
  obtain ⟨xs, hx, rfl⟩ := strs_items ei rl
  have hit : items = (strValues xs).toArray := by rw [← hx]
  subst hit
  exact RW.still g q fun tk P hP => SC.join (s := X.at h tk) (isList_of f) rfl hok fun t' k => hP _ _ ⟨_, rfl⟩
theorem R_replace (g : Good X.K X.hb h H) {x y z : Str} {x' y' z' : Value} {Q : V → Hp → Prop} (rx : VR (.str x) x') (ry : VR (.str y) y') (rz : VR (.str z) z') (he : (Builtin.Str.occurrences x y 0 x.length (x.length + 1)).isEmpty = true)
    (q : Q (.str x) H) : R X A (call (.builtin "str.replace") [x', y', z']) Q h H := by
  obtain ⟨t, rfl⟩ := rx
  obtain ⟨u, rfl⟩ := ry
  obtain ⟨v, rfl⟩ := rz
  refine RW.still g q fun tk P hP => ?_
  have hc : ((Builtin.Str.occurrences x y 0 x.length (x.length + 1)).isEmpty || (y.length == 0 && z.length == 0)) = true := by rw [he]; rfl
  refine call_gives (s := X.at h tk) F.slot_str_replace (typeIs_str _ _ _) F.entry_str_replace (F.args_str_replace_3 _ _ _)
    (gives_str_replace x y z t u v fun hh => by rw [hc] at hh; cases hh) ?_
  rw [hc]
  exact hP _ _ ⟨_, rfl⟩
theorem R_append (g : Good X.K X.hb h H) {a : Addr} {vs : List V} {x : V} {x' : Value} {Q : V → Hp → Prop} (rx : VR x x') (e : H a = some (.lst vs)) (hl : vs.length < 2 ^ 24) (q : Q .none (upd H a (.lst (vs ++ [x])))) :
    R X A (call (.builtin "list.append") [.ref a, x']) Q h H := by
  obtain ⟨items, m, f, rl⟩ := g.lst e
  intro tk
  refine append_at (s := X.at h tk) f (fun h' hs he => ⟨h', tk, .none, _, rfl, q, Step.change g e (fun _ z => nomatch z) hs.extBut ⟨_, _, he, ?_⟩⟩) ?_
  · rw [Array.toList_push]; exact rl.append ⟨rx, trivial⟩
  · have := rl.length; simp at this; rw [sizeLine_eq]; omega
theorem R_pop (g : Good X.K X.hb h H) {a : Addr} {vs : List V} {x : V} {Q : V → Hp → Prop} (e : H a = some (.lst (vs ++ [x]))) (hl : vs.length < 2 ^ 24) (q : Q x (upd H a (.lst vs))) :
    R X A (call (.builtin "list.pop") [.ref a]) Q h H := by
  obtain ⟨items, m, f, rl⟩ := g.lst e
  have hz := rl.length
  simp only [List.length_append, List.length_singleton, Array.length_toList] at hz
  obtain ⟨y, ey, ry⟩ := rl.last (x := x) (by simp)
  intro tk
  refine Copied.pop_at (s := X.at h tk) (y := y) f (by simpa using ey) (fun h' hs he => ⟨h', tk, x, _, ry, q, Step.change g e (fun _ z => nomatch z) hs.extBut ⟨_, _, he, ?_⟩⟩) (by rw [sizeLine_eq]; omega)
  rw [Array.toList_pop]
  have := rl.take vs.length
  rw [List.take_left' rfl] at this
  rw [List.dropLast_eq_take, Array.length_toList, ← hz]
  exact this
theorem R_newList (g : Good X.K X.hb h H) {vs : List V} {L : List Value} {Q : V → Hp → Prop} (r : VRs vs L) (hl : vs.length ≤ 2 ^ 24) (q : ∀ l, H l = none → Q (.ref l) (upd H l (.lst vs))) : R X A (newList L) Q h H :=
  RW.makes g q fun tk P hP => wpAny_newObj_type (s := X.at h tk) (hP _ _ _ (get_size h) (push_keeps _) ⟨L.toArray, 0, Heap.get?_push_size _ rfl, by simpa using r⟩) (by show L.toArray.size ≤ sizeLine; have := r.length; simp; rw [sizeLine_eq]; omega)
theorem R_newTuple (g : Good X.K X.hb h H) {vs : List V} {L : List Value} {Q : V → Hp → Prop} (r : VRs vs L) (hl : vs.length ≤ 2 ^ 24) (q : ∀ l, H l = none → Q (.ref l) (upd H l (.tup vs))) : R X A (newTuple L) Q h H :=
  RW.makes g q fun tk P hP => wpAny_newObj_type (s := X.at h tk) (hP _ _ _ (get_size h) (push_keeps _) ⟨L.toArray, 0, Heap.get?_push_size _ rfl, by simpa using r⟩) (by show L.toArray.size ≤ sizeLine; have := r.length; simp; rw [sizeLine_eq]; omega)
theorem R_listOf (g : Good X.K X.hb h H) {a : Addr} {vs : List V} {Q : V → Hp → Prop} (e : H a = some (.lst vs)) (hl : vs.length ≤ 2 ^ 24) (q : ∀ l, H l = none → Q (.ref l) (upd H l (.lst vs))) : R X A (call (.type "list") [.ref a]) Q h H := by
  obtain ⟨items, m, f, rl⟩ := g.lst e
  refine RW.makes g q fun tk P hP => call_list_seq (s := X.at h tk) a (.inl rfl) f rfl rfl (fun h' c' k he => hP _ _ _ (get_size h) k ⟨_, _, he, rl⟩) ?_
  have := rl.length; simp at this; rw [sizeLine_eq]; omega
theorem R_tupleOf (g : Good X.K X.hb h H) {v : V} {v' : Value} {vs : List V} {Q : V → Hp → Prop} (r : VR v v') (e : lstOf H v = some vs) (hl : vs.length ≤ 2 ^ 24) (q : ∀ l, H l = none → Q (.ref l) (upd H l (.tup vs))) : R X A (call (.type "tuple") [v']) Q h H := by
  obtain ⟨a, rfl, ea⟩ := lstOf_some e
  cases r
  obtain ⟨items, m, f, rl⟩ := g.lst ea
  refine RW.makes g q fun tk P hP => call_tuple_list (s := X.at h tk) (isList_of f) (fun h' k => hP _ _ _ ?_ (fun c o e => Heap.get?_push_of_some _ (k _ _ e)) ⟨_, _, Heap.get?_push_size _ rfl, rl⟩) ?_
  · cases z : h.get? h'.objs.size with
    | none => rfl
    | some o => exact absurd (Heap.lt_size (k _ _ z)) (Nat.lt_irrefl _)
  · have := rl.length; simp at this; rw [sizeLine_eq]; omega
theorem VRs.of_at : ∀ {xs : List V} {ys : List Value}, xs.length = ys.length → (∀ (i : Nat) (x : V) (y : Value), xs[i]? = some x → ys[i]? = some y → VR x y) → VRs xs ys
  | [], [], _, _ => trivial
  | x :: xs, y :: ys, hl, k => ⟨k 0 x y rfl rfl, VRs.of_at (by simpa using hl) fun i a b ha hb => k (i + 1) a b (by simpa using ha) (by simpa using hb)⟩
  | [], _ :: _, hl, _ => by simp at hl
  | _ :: _, [], hl, _ => by simp at hl
theorem range_items {a b : Int} {acc : Array Value} (hacc : ItemsOf (fun i v => ∃ t, v = .int (a + i * 1) t) acc (b - a).toNat) : VRs (rangeL a b) acc.toList := by
  obtain ⟨hs, hat⟩ := hacc
  refine VRs.of_at ?_ fun i x y hx hy => ?_
  · simp [rangeL, hs]
  · obtain ⟨t, rfl⟩ := hat i y (by simpa using hy)
    unfold rangeL at hx
    rw [List.getElem?_map] at hx
    obtain ⟨j, hj, rfl⟩ := Option.map_eq_some_iff.mp hx
    have : i = j := by
      have := List.getElem?_eq_some_iff.mp hj
      obtain ⟨h1, h2⟩ := this
      simpa using h2
    subst this
    exact ⟨t, by rw [Int.mul_one]⟩
end
end Mine
namespace Mine
section
variable {X : Fix} {A : Around} {h : Heap} {H : Hp}
theorem Dat.reads (g : Good X.K X.hb h H) {v : V} {d : PyData} (k : Dat H v d) : ∀ {v' : Value}, VR v v' → ∃ as, Reads h v' d as := by
  refine Dat.rec (motive_1 := fun v d _ => ∀ {v' : Value}, VR v v' → ∃ as, Reads h v' d as) (motive_2 := fun vs ds _ => ∀ {L : List Value}, VRs vs L → ∃ as, ReadsAll h L ds as) ?_ ?_ ?_ ?_ ?_ ?_ ?_ ?_ k
  · intro v' r; cases r; exact ⟨_, .none⟩
  · intro b v' r; cases r; exact ⟨_, .bool b⟩
  · intro i v' r; obtain ⟨t, rfl⟩ := r; exact ⟨_, .int i t⟩
  · intro x v' r; obtain ⟨t, rfl⟩ := r; exact ⟨_, .str x t⟩
  · intro a vs ds e _ ih v' r
    cases r
    obtain ⟨items, n, f, rl⟩ := g.lst e
    exact (ih rl).elim fun as hr => ⟨_, .list f rfl rfl hr⟩
  · intro a vs ds e _ ih v' r
    cases r
    obtain ⟨items, n, f, rl⟩ := g.tup e
    exact (ih rl).elim fun as hr => ⟨_, .tuple f rfl rfl hr⟩
  · intro L r
    cases L with
    | nil => exact ⟨_, .nil⟩
    | cons => exact r.elim
  · intro v vs d ds _ _ h1 h2 L r
    cases L with
    | nil => exact r.elim
    | cons y L => exact (h1 r.1).elim fun as a => (h2 r.2).elim fun bs b => ⟨_, .cons a b⟩
theorem Dat.noDict {v : V} {d : PyData} (k : Dat H v d) : d.hasDict = false :=
  Dat.rec (motive_1 := fun _ d _ => d.hasDict = false) (motive_2 := fun _ ds _ => PyData.hasDictAll ds = false) rfl (fun _ => rfl) (fun _ => rfl) (fun _ => rfl) (fun _ _ ih => ih) (fun _ _ ih => ih) rfl (fun _ _ h1 h2 => Bool.or_eq_false_iff.mpr ⟨h1, h2⟩) k
theorem R_repr (g : Good X.K X.hb h H) {n : Nat} (rm : Room A n) {a : Addr} {d : PyData} {Q : V → Hp → Prop} (e : Dat H (.ref a) d) (hs : d.showable = true) (hd : d.depth ≤ 50) (hz : d.shown.length ≤ sizeLine) (q : Q (.str d.shown) H) :
    R X A (call (.builtin "repr") [.ref a]) Q h H := by
  obtain ⟨as, r⟩ := e.reads g (v' := .ref a) rfl
  have hu := rm.cline
  exact RW.grown g q fun tk P hP => repr_of_reads' (s := X.at h tk) r hs (PyData.noDict_hsm e.noDict) rm.guards (by omega) (fun _ _ e => e) (fun h' u tk' k => hP _ _ _ ⟨u, rfl⟩ k) hz
theorem Good.low (m : Amb X) (g : Good X.K X.hb h H) : sysModules < h.objs.size := by
  obtain ⟨mg, o, es, ep, ho, _⟩ := m.mg
  have := Heap.lt_size (g.base _ _ ho)
  exact Nat.lt_trans (by decide) this
theorem R_newDict (m : Amb X) (g : Good X.K X.hb h H) {Q : V → Hp → Prop} (q : ∀ l, H l = none → Q (.ref l) (upd H l .dct)) : R X A newDict Q h H :=
  RW.makes g q fun tk P hP => wpAny_newObj_type (s := X.at h tk) (hP _ _ _ (get_size h) (push_keeps _) ⟨by have := g.low m; exact beq_eq_false_iff_ne.mpr (Nat.ne_of_gt this), 0, Heap.get?_push_size _ rfl⟩)
theorem Good.dct (g : Good X.K X.hb h H) {a : Addr} (e : H a = some .dct) : (a == sysModules) = false ∧ ∃ n, h.DictAt (strKind X.prog X.w) a [] n := by
  obtain ⟨lo, n, f⟩ := (g.real _ _ e).2
  exact ⟨lo, n, _, _, f, ⟨rfl, rfl, rfl⟩, rfl, fun _ h => (by simp at h), .nil, List.nodup_nil⟩
theorem hint_dict {prog : Program} {w : World} {A : Around} {E : Value → Shared → Prop} {s : Shared} {d : Addr} {Q : Bool → Shared → Prop} (hT : s.TypeIs (.ref d) "dict") (h : Q false s) : wpAny (model prog w) A (Builtin.List.listLengthHint (.ref d)) Q E s := by
  unfold Builtin.List.listLengthHint
  refine wpAny_bind (wpAny_specialOf hT F.slot_dict_len.lookup ?_)
  generalize hid : ("dict.__len__" : String) = id0
  wp_delta
  rw [show splitId id0 = some ("dict", "__len__") from by subst hid; decide +kernel]
  subst hid
  refine wpAny_bind (wpAny_isInstance (T := "dict") (b := true) hT (by rw [isSubtype_type]; kernel_rfl) ?_)
  refine wpAny_ite_split (fun hab => absurd hab (by decide)) (fun _ => ?_)
  refine wpAny_ite_split (fun hab => ?_) (fun hab => absurd (by decide +kernel) hab)
  refine wpAny_bind (wpAny_typeOf hT ?_)
  exact wpAny_pure h
theorem extend_dict {prog : Program} {w : World} {A : Around} {s : Shared} {R : Result → Shared → Prop} {d : Addr} {ep : Nat} (hh : A.handled = none) (lo : (d == sysModules) = false) (hd : s.heap.DictAt (strKind prog w) d [] ep) (S : Addr) (res : Value) (c₀ : Nat) (hS : s.heap.get? S = some { cls := .type "list", data := .seq #[] c₀ })
    (hR : ∀ h' tk acc' c', (∀ b o, b ≠ S → s.heap.get? b = some o → h'.get? b = some o) → h'.get? S = some { cls := .type "list", dict := none, data := .seq acc' c', slots := #[] } →
      acc'.size = 0 → R (.ok (.ret res)) { s with heap := h', toks := tk }) :
    wpAny (model prog w) A.in1 (Builtin.List.listExtendWith (.ref S) (.ref d) res)
      (fun fin s' => match fin with | .done f => R (.ok f) s' | .again c' => c'.quiet = true ∧ codeAny (model prog w) A c' R s') (fun e s' => R (.error e) s') s := by
  have hT : s.TypeIs (.ref d) "dict" := hd.dictOf.typeIs
  have hSd : S ≠ d := fun e => by
    obtain ⟨o, ho, hc⟩ := hT
    rw [← e, hS] at ho; cases ho; exact absurd (show Value.type "list" = Value.type "dict" from hc) (by decide)
  have hSlt : S < s.heap.objs.size := Heap.lt_size hS
  have hSI : S ≠ s.heap.objs.size := Nat.ne_of_lt hSlt
  have hdI : d ≠ s.heap.objs.size := Nat.ne_of_lt hd.lt_size
  have hSf : S ∉ [s.heap.objs.size, d] := fun hm => by
    rcases List.mem_cons.mp hm with e | hm
    · exact hSI e
    · exact hSd (List.mem_singleton.mp hm)
  have W := (Walks.dictKeys (prog := prog) (w := w) (knd := strKind prog w) (A := A.in1) hh s.heap.objs.size d hdI [] ep).toS
  have key : ∀ (h : Heap) (c₁ tk : Nat), h.IsKeyIter s.heap.objs.size d 0 0 ep → h.DictAt (strKind prog w) d [] ep → (∀ b o, b ≠ S → s.heap.get? b = some o → h.get? b = some o) →
      h.get? S = some { cls := .type "list", data := .seq #[] c₁ } → codeAny (model prog w) A (.builtin "list.extend.loop" ⟨[.ref S, .ref s.heap.objs.size, res], []⟩) R { s with heap := h, toks := tk } := by
    intro h c₁ tk hit hd' hk hS₁
    refine codeAny_extend_loopS W (by decide) S hSf res 0 0 _ #[] c₁ rfl (Nat.zero_le _) ⟨hit, hd'⟩ hS₁ (ItemsOf.nil _) fun s' acc' c' hm hS' hacc => ?_
    rw [Moved.eq_with hm]
    refine hR s'.heap s'.toks acc' c' (fun b o hb e => hm.heap b o (fun hmem => ?_) (hk b o hb e)) hS' hacc.1
    rcases List.mem_cons.mp hmem with e' | hmem
    · exact hb e'
    · exact absurd (Heap.lt_size e) (by rw [List.mem_singleton.mp hmem]; exact Nat.lt_irrefl _)
  unfold Builtin.List.listExtendWith
  refine wpAny_bind (wpAny_typeOf (T := "dict") hT ?_)
  have h1 : Builtin.List.listSameRef (.ref S) (.ref d) = false := by simp [Builtin.List.listSameRef, hSd]
  have h2 : (Value.type "dict" == Value.type "list") = false := by decide
  have h3 : (Value.type "dict" == Value.type "tuple") = false := by decide
  simp only [h1, h2, h3, Bool.or_false, Bool.false_eq_true, if_false]
  refine wpAny_bind (wpAny_pyIter_dict lo hd ?_)
  have hd₁ := hd.push { cls := .type "dict_keyiterator", data := .fields #[.ref d, .int 0 0, .int (([] : List (Str × Value)).length : Nat) 0, .int ep 0] }
  refine wpAny_bind (wpAny_holding (hint_dict hd₁.dictOf.typeIs ?_))
  have hit₁ : (s.heap.push { cls := .type "dict_keyiterator", data := .fields #[.ref d, .int 0 0, .int (([] : List (Str × Value)).length : Nat) 0, .int ep 0] }).IsKeyIter s.heap.objs.size d 0 0 ep := ⟨_, Heap.get?_push_size _ rfl, rfl, rfl⟩
  have hS₁ := Heap.get?_push_of_some { cls := .type "dict_keyiterator", data := .fields #[.ref d, .int 0 0, .int (([] : List (Str × Value)).length : Nat) 0, .int ep 0] } hS
  refine wpAny_ite_split (fun _ => ?_) (fun _ => wpAny_pure ⟨plainId_quiet F.plain_extend_loop _, key _ c₀ _ hit₁ hd₁ (fun b o _ e => Heap.get?_push_of_some _ e) hS₁⟩)
  refine wpAny_bind (wpAny_rule ?_)
  refine wpAny_bind ?_
  show wpAny _ _ (updateSeq S (·.push .none) >>= fun _ => updateSeq S (·.pop)) _ _ _
  refine wpAny_bind (wpAny_updateSeq hS₁ rfl ?_)
  have hS₂ := Heap.get?_update_self (Obj.mapSeq (·.push Value.none)) hS₁ rfl
  refine wpAny_updateSeq (hz := by seq_fits) hS₂ rfl ?_
  have hS₃ := Heap.get?_update_self (Obj.mapSeq (·.pop)) hS₂ rfl
  have oth : ∀ b o, b ≠ S → (s.heap.push { cls := .type "dict_keyiterator", data := .fields #[.ref d, .int 0 0, .int (([] : List (Str × Value)).length : Nat) 0, .int ep 0] }).get? b = some o →
      (((s.heap.push { cls := .type "dict_keyiterator", data := .fields #[.ref d, .int 0 0, .int (([] : List (Str × Value)).length : Nat) 0, .int ep 0] }).update S (Obj.mapSeq (·.push Value.none))).update S (Obj.mapSeq (·.pop))).get? b = some o :=
    fun b o hb e => (Heap.get?_update_other _ _ (Ne.symm hb)).trans ((Heap.get?_update_other _ _ (Ne.symm hb)).trans e)
  refine wpAny_pure ⟨plainId_quiet F.plain_extend_loop _, key _ _ _ (hit₁.at fun o e => oth _ _ (Ne.symm hSI) e) (hd₁.at' fun o e => oth _ _ (Ne.symm hSd) e) (fun b o hb e => oth b o hb (Heap.get?_push_of_some _ e)) hS₃⟩
theorem call_list_dict {prog : Program} {w : World} {A : Around} {E : Value → Shared → Prop} {s : Shared} {Q : Value → Shared → Prop} {d : Addr} {ep : Nat} (hh : A.handled = none) (lo : (d == sysModules) = false) (hd : s.heap.DictAt (strKind prog w) d [] ep)
    (hQ : ∀ h' tk acc' c', (∀ b o, s.heap.get? b = some o → h'.get? b = some o) →
      h'.get? s.heap.objs.size = some { cls := .type "list", dict := none, data := .seq acc' c', slots := #[] } → acc'.size = 0 → Q (.ref s.heap.objs.size) { s with heap := h', toks := tk }) :
    wpAny (model prog w) A (call (.type "list") [.ref d]) Q E s := by
  refine callType_codes (Q₁ := fun obj s₁ => obj = .ref s.heap.objs.size ∧ s₁ = { s with heap := s.heap.push { cls := .type "list", data := .seq #[] } }) F.called_list (F.typeCall_list_1 _) F.entry_list_init
    (code_list_new _ ⟨rfl, rfl⟩) fun obj s₁ h₁ => ?_
  obtain ⟨rfl, rfl⟩ := h₁
  have hS : (s.heap.push { cls := .type "list", data := .seq #[] }).get? s.heap.objs.size = some { cls := .type "list", data := .seq #[] } := Heap.get?_push_size _ rfl
  refine ⟨⟨_, hS, rfl⟩, F.args_list_init_2 _ _, ?_⟩
  have hne : s.heap.objs.size ≠ d := Ne.symm (Nat.ne_of_lt hd.lt_size)
  show wpAny _ _ (do let old ← Builtin.List.listItems (.ref s.heap.objs.size); Builtin.List.listUpdate (.ref s.heap.objs.size) (fun _ => #[]); letGo old.toList.reverse; Builtin.List.listExtendWith (.ref s.heap.objs.size) (.ref d) .none) _ _ _
  refine wpAny_bind ?_
  unfold Builtin.List.listItems
  refine wpAny_bind (wpAny_seqItems hS rfl (wpAny_pure ?_))
  show wpAny _ _ (updateSeq s.heap.objs.size (fun _ => #[]) >>= fun _ => letGo (#[] : Array Value).toList.reverse >>= fun _ => Builtin.List.listExtendWith (.ref s.heap.objs.size) (.ref d) .none) _ _ _
  refine wpAny_bind (wpAny_updateSeq hS rfl ?_)
  have hS₂ := Heap.get?_update_self (Obj.mapSeq (fun _ => (#[] : Array Value))) hS rfl
  have oth : ∀ b o, b ≠ s.heap.objs.size → (s.heap.push { cls := .type "list", data := .seq #[] }).get? b = some o → ((s.heap.push { cls := .type "list", data := .seq #[] }).update s.heap.objs.size (Obj.mapSeq (fun _ => (#[] : Array Value)))).get? b = some o :=
    fun b o hb e => (Heap.get?_update_other _ _ (Ne.symm hb)).trans e
  refine wpAny_bind (wpAny_letGo ?_)
  refine extend_dict (A := A.in1) hh lo ((hd.push _).at' fun o e => oth _ _ (Ne.symm hne) e) _ .none _ hS₂ fun h' tk acc' c' hk hS' hacc => ?_
  exact ⟨rfl, hQ h' tk acc' c' (fun b o e => hk b o (Nat.ne_of_lt (Heap.lt_size e)) (oth b o (Nat.ne_of_lt (Heap.lt_size e)) (Heap.get?_push_of_some _ e))) hS' hacc⟩
theorem R_listOfDict (g : Good X.K X.hb h H) {n : Nat} (rm : Room A n) {a : Addr} {Q : V → Hp → Prop} (e : H a = some .dct) (q : ∀ l, H l = none → Q (.ref l) (upd H l (.lst []))) : R X A (call (.type "list") [.ref a]) Q h H := by
  obtain ⟨lo, n, hd⟩ := g.dct e
  refine RW.makes g q fun tk P hP => call_list_dict (s := X.at h tk) rm.handled lo hd fun h' tk' acc' c' k he hz => hP _ _ _ (get_size h) k ⟨_, _, he, ?_⟩
  have : acc'.toList = [] := by simpa using hz
  rw [this]; trivial
end
end Mine
namespace Mine
namespace FD
theorem mro_dict : mroOf (.type "dict") = pure [.type "dict", .type "object"] := by rw [mroOf_type]; kernel_rfl
theorem lookup_dict_new : typeLookup (.type "dict") "__new__" = pure (some (.builtin "dict.__new__")) := by rw [typeLookup_type, builtinLookup_eq_fast]; kernel_rfl
theorem called_dict : TypeCalled "dict" "dict.__new__" "dict.__init__" :=
  ⟨by decide +kernel, by decide +kernel, ⟨_, _, mro_dict⟩, madeBy_type mro_dict lookup_dict_new (by decide +kernel), by decide +kernel, by rw [isSubtype_type]; kernel_rfl, PySem.F.slot_dict_init⟩
theorem typeCall_dict_1 (a : Value) : checkTypeCall "dict" ⟨[a], []⟩ = pure () := by kernel_rfl
theorem newCall_dict_1 (a : Value) : checkBuiltinCall "dict.__new__" ⟨[.type "dict", a], []⟩ = pure () := by kernel_rfl
theorem entry_dict_new : entryFor table "dict.__new__" = some Builtin.«dict.__new__» := entryFor_of_tree (by kernel_rfl)
theorem plain_dict_new : plainId "dict.__new__" = true := by decide +kernel
theorem sub_dict_self : isSubtype (.type "dict") (.type "dict") = pure true := by rw [isSubtype_type]; kernel_rfl
end FD
section
variable {prog : Program} {w : World} {A : Around} {E : Value → Shared → Prop} {s : Shared}
theorem code_dict_new (a : Value) {Q₁ : Value → Shared → Prop}
    (h : Q₁ (.ref s.heap.objs.size) { s with heap := s.heap.push { cls := .type "dict", data := .dict #[] } }) :
    codeAny (model prog w) A (.call (.builtin "dict.__new__") ⟨[.type "dict", a], []⟩) (wants Q₁ E) s := by
  refine codeAny_of_tree ?_
  show wpAny _ A.in1 (do checkBuiltinCall "dict.__new__" ⟨[.type "dict", a], []⟩; again (.builtin "dict.__new__" ⟨[.type "dict", a], []⟩)) _ _ s
  refine wpAny_bind (wpAny_of_eq (FD.newCall_dict_1 a) (wpAny_pure ⟨plainId_quiet FD.plain_dict_new _, codeAny_builtin FD.entry_dict_new ?_⟩))
  have hsub := FD.sub_dict_self
  have hmro := FD.mro_dict
  obtain ⟨hp, g, d, tk, os⟩ := s
  unfold Builtin.«dict.__new__»
  wp_walk
  exact h
theorem call_dict_dict {Q : Value → Shared → Prop} {d : Addr} {ep : Nat} (lo : (d == sysModules) = false) (hd : s.heap.DictAt (strKind prog w) d [] ep)
    (hQ : ∀ h' n, (∀ b o, s.heap.get? b = some o → h'.get? b = some o) → h'.get? s.heap.objs.size = some (dictOf [] n) → Q (.ref s.heap.objs.size) { s with heap := h' }) :
    wpAny (model prog w) A (call (.type "dict") [.ref d]) Q E s := by
  refine callType_codes (Q₁ := fun obj s₁ => obj = .ref s.heap.objs.size ∧ s₁ = { s with heap := s.heap.push { cls := .type "dict", data := .dict #[] } }) FD.called_dict (FD.typeCall_dict_1 _) PySem.F.entry_dict_init
    (code_dict_new _ ⟨rfl, rfl⟩) fun obj s₁ h₁ => ?_
  obtain ⟨rfl, rfl⟩ := h₁
  have hne : s.heap.objs.size ≠ d := Ne.symm (Nat.ne_of_lt hd.lt_size)
  have hn : (s.heap.push { cls := .type "dict", data := .dict #[] }).DictOf (strKind prog w) s.heap.objs.size [] := Heap.DictOf.new _
  have ho : (s.heap.push { cls := .type "dict", data := .dict #[] }).DictOf (strKind prog w) d [] := hd.dictOf.push _
  refine ⟨⟨_, Heap.get?_push_size _ rfl, rfl⟩, PySem.F.args_dict_init_2 _ _, ?_⟩
  unfold Builtin.«dict.__init__»
  refine wpAny_bind ?_
  unfold Builtin.Dict.selfAndRest
  refine wpAny_bind (wpAny_notOrdered_dict (s := { s with heap := s.heap.push { cls := .type "dict", data := .dict #[] } }) hn.typeIs ?_)
  show wpAny _ _ (pure (s.heap.objs.size, [Value.ref d])) _ _ _
  refine wpAny_pure ?_
  show wpAny _ _ (Builtin.Dict.updateFrom "dict.__init__" s.heap.objs.size (.ref d) [] .none) _ _ _
  unfold Builtin.Dict.updateFrom
  refine wpAny_bind (wpAny_typeOf (s := { s with heap := s.heap.push { cls := .type "dict", data := .dict #[] } }) ho.typeIs ?_)
  rw [if_neg (by decide)]
  refine wpAny_bind ?_
  unfold Builtin.Dict.merge
  refine wpAny_bind ?_
  unfold Builtin.Dict.readDirectly
  refine wpAny_bind (wpAny_isInstance (s := { s with heap := s.heap.push { cls := .type "dict", data := .dict #[] } }) ho.typeIs isSubtype_dict_dict ?_)
  simp only [Bool.not_true, Bool.false_eq_true, if_false]
  refine wpAny_bind (wpAny_specialOf (s := { s with heap := s.heap.push { cls := .type "dict", data := .dict #[] } }) ho.typeIs PySem.F.slot_dict_iter.lookup (wpAny_pure ?_))
  simp only [beq_self_eq_true, if_true]
  refine wpAny_bind (wpAny_pure ?_)
  refine wpAny_mergeDict (knd := strKind prog w) (s := { s with heap := s.heap.push { cls := .type "dict", data := .dict #[] } }) (hsz := by decide) hne lo hn ho fun h' hd' ho' hs' => ?_
  show wpAny _ _ (Builtin.Dict.addKeywords s.heap.objs.size [] >>= _) _ _ _
  obtain ⟨o, es, ep', x1, x2, x3, x4, x5, x6⟩ := hd'
  have he : es = #[] := by
    have := x5.length
    have h0 : es.toList = [] := by simpa [merged] using this
    simpa using h0
  subst he
  obtain ⟨y1, y2, y3⟩ := x2
  obtain ⟨oc, od, odt, osl⟩ := o
  simp only at x3 y1 y2 y3
  subst x3 y1 y2 y3
  exact wpAny_bind (wpAny_pure (wpAny_pure ⟨rfl, hQ h' ep' (fun b o e => hs'.extBut _ _ (Nat.ne_of_lt (Heap.lt_size e)) (Heap.get?_push_of_some _ e)) x1⟩))
end
section
variable {X : Fix} {A : Around} {h : Heap} {H : Hp}
theorem R_dictOf (m : Amb X) (g : Good X.K X.hb h H) {a : Addr} {Q : V → Hp → Prop} (e : H a = some .dct) (q : ∀ l, H l = none → Q (.ref l) (upd H l .dct)) : R X A (call (.type "dict") [.ref a]) Q h H := by
  obtain ⟨lo, n, hd⟩ := g.dct e
  refine RW.makes g q fun tk P hP => call_dict_dict (s := X.at h tk) lo hd fun h' n' k he => hP _ _ _ (get_size h) k ⟨?_, _, he⟩
  exact beq_eq_false_iff_ne.mpr (Nat.ne_of_gt (g.low m))
end
end Mine
namespace Mine
section
variable {X : Fix} {A : Around} {sc : Sc} {env : Env} {h : Heap} {ρ : Env'} {H : Hp}
noncomputable def notStar : Expr → Bool
  | .Starred _ _ => false
  | _ => true
theorem starEach_cons {x : Expr} {r : List Expr} (hx : notStar x = true) : starEach (x :: r) env = (false, eval x env) :: starEach r env := by
  cases x <;> first | rfl | cases hx
theorem starEach_plain {pos : Pos} : ∀ {xs : List Expr}, xs.all notStar = true → (backTo pos (starEach xs env)).any (·.1) = false
  | [], _ => rfl
  | x :: r, h => by
    rw [List.all_cons, Bool.and_eq_true] at h
    rw [starEach_cons h.1]
    show (false || _) = false
    rw [Bool.false_or]; exact starEach_plain h.2
theorem R_args_nil (g : Good X.K X.hb h H) {pos : Pos} {P : List V → Hp → Prop} (q : P [] H) : RW VRs X A [] (spliced (backTo pos (starEach [] env))) P h H := RW.pure g (b := []) trivial q
theorem R_args_cons {pos : Pos} {x : Expr} {r : List Expr} (hx : notStar x = true) {P : List V → Hp → Prop}
    (k : R X A (eval x env) (fun v H1 => ∀ h1, Step X.K X.hb h H h1 H1 [] → RW VRs X A [] (spliced (backTo pos (starEach r env))) (fun vs H2 => P (v :: vs) H2) h1 H1) h H) : RW VRs X A [] (spliced (backTo pos (starEach (x :: r) env))) P h H := by
  rw [starEach_cons hx]
  show RW VRs X A [] (do let v ← eval x env; let here ← pure [v]; return here ++ (← holding here (spliced (backTo pos (starEach r env))))) P h H
  refine RW.bind k fun v v' h1 H1 rv q s => ?_
  refine RW.pureBind ?_
  refine RW.bind (RW.holding (q h1 s)) fun vs vs' h2 H2 rvs q s' => ?_
  exact RW.pure s'.good (b := v :: vs) ⟨rv, rvs⟩ q
theorem evalArgs_nil' {M : Model} {A : Around} {E : Value → Shared → Prop} {s : Shared} {f : Value} {Q : Args → Shared → Prop} (h : wpAny M A (spliced []) (fun vs s₁ => Q ⟨vs, []⟩ s₁) E s) : wpAny M A (evalArgs f true [] []) Q E s := by
  unfold evalArgs
  show wpAny M A (spliced [] >>= _) Q E s
  refine wpAny_bind (wpAny_mono h (fun vs s₁ h₁ => wpAny_bind (wpAny_pure ?_)) fun _ _ z => z)
  refine wpAny_holding ?_
  exact wpAny_bind (wpAny_pure (wpAny_bind (wpAny_pure (wpAny_pure h₁))))
theorem R_callWith (m : Amb X) {pos : Pos} {f : Value} {first : List Value} {xs : List Expr} (hx : xs.all notStar = true) (hk : ∀ h, X.K.In h → ∃ k, (k = Keeper.frame ∨ k = Keeper.machine ∨ k = Keeper.boundFrame) ∧ Looks X.M h (keeperOf f) k)
    {Q : V → Hp → Prop} (x : RW VRs X A [] (spliced (backTo pos (starEach xs env))) (fun vs H1 => ∀ vs' h1, VRs vs vs' → Step X.K X.hb h H h1 H1 [] → R X A (call f (first ++ vs') []) Q h1 H1) h H) :
    R X A (callWith pos f first (backTo pos (starEach xs env)) []) Q h H := by
  intro tk
  refine callWith_of (P := X.K.In) (by rw [starEach_plain hx]; rfl) hk ?_
  have key : wpAny X.M A (spliced (backTo pos (starEach xs env))) (fun vs s₁ => X.K.In s₁.heap ∧ wpAny X.M A (call f (first ++ vs) []) (WQ X (RQ VR X [] Q h H)) (fun _ _ => False) s₁) (fun _ _ => False) (X.at h tk) := by
    refine wpAny_mono (x tk) (fun vs' s₁ hs => ?_) fun _ _ z => z
    obtain ⟨h1, tk1, vs, H1, rv, q, s⟩ := hs
    refine ⟨s.good.K m, ?_⟩
    refine wpAny_mono (q vs' h1 rv s tk1) (fun v' s₂ hs₂ => ?_) fun _ _ z => z
    obtain ⟨h2, tk2, v, H2, r2, q2, s2⟩ := hs₂
    exact ⟨h2, tk2, v, H2, r2, q2, s.trans s2⟩
  cases xs with
  | nil => exact evalArgs_nil' key
  | cons a r =>
    rw [starEach_cons (by rw [List.all_cons, Bool.and_eq_true] at hx; exact hx.1)] at key ⊢
    exact Calls.evalArgs_plain key
theorem keeps_builtin (id : String) : ∀ h, X.K.In h → ∃ k, (k = Keeper.frame ∨ k = Keeper.machine ∨ k = Keeper.boundFrame) ∧ Looks X.M h (keeperOf (.builtin id)) k := fun h _ => ⟨.machine, .inr (.inl rfl), .now⟩
theorem keeps_type (id : String) : ∀ h, X.K.In h → ∃ k, (k = Keeper.frame ∨ k = Keeper.machine ∨ k = Keeper.boundFrame) ∧ Looks X.M h (keeperOf (.type id)) k := fun h _ => ⟨.machine, .inr (.inl rfl), .now⟩
noncomputable def notAttr : Expr → Bool
  | .Attribute _ _ _ => false
  | _ => true
theorem eval_Call {f : Expr} (hf : notAttr f = true) (xs : List Expr) (pos : Pos) : eval (.Call f xs [] pos) env = (do callWith pos (← eval f env) [] (backTo pos (starEach xs env)) []) := by
  cases f <;> first | rfl | cases hf
theorem R_Call (m : Amb X) {x : Str} {p pos : Pos} {f : Value} {xs : List Expr} (hx : xs.all notStar = true) (hk : ∀ h, X.K.In h → ∃ k, (k = Keeper.frame ∨ k = Keeper.machine ∨ k = Keeper.boundFrame) ∧ Looks X.M h (keeperOf f) k)
    (g : Good X.K X.hb h H) (hn : ∀ {Q : Value → Heap → Prop}, Q f h → Wp X A (eval (.Name x p) env) Q h)
    {Q : V → Hp → Prop} (k : RW VRs X A [] (spliced (backTo pos (starEach xs env))) (fun vs H1 => ∀ vs' h1, VRs vs vs' → Step X.K X.hb h H h1 H1 [] → R X A (call f vs' []) Q h1 H1) h H) :
    R X A (eval (.Call (.Name x p) xs [] pos) env) Q h H := by
  rw [eval_Call rfl]
  exact Wp.bind (hn (R_callWith m hx hk k))
end
end Mine
namespace Mine
theorem lookup_foldl {slots : List (Str × Value)} (n : Str) : ∀ (L : List (Str × Value)) (slots : List (Str × Value)), (L.foldl (fun s p => if (s.lookup p.1).isNone then s ++ [p] else s) slots).lookup n = (slots.lookup n).or (L.lookup n)
  | [], slots => by simp
  | (a, v) :: L, slots => by
    rw [List.foldl_cons, lookup_foldl (slots := slots) n L]
    by_cases q : (slots.lookup a).isNone = true
    · rw [if_pos q, List.lookup_append]
      by_cases e : n = a
      · subst e
        have : slots.lookup n = none := by simpa using q
        simp [this, List.lookup_cons]
      · have : (n == a) = false := by simpa using e
        simp [List.lookup_cons, this]
    · rw [if_neg q]
      by_cases e : n = a
      · subst e
        cases z : slots.lookup n with
        | none => rw [z] at q; exact absurd rfl q
        | some w => simp
      · have : (n == a) = false := by simpa using e
        simp [List.lookup_cons, this]
theorem lookup_zip : ∀ {ps : List Str} {vs : List Value} {i : Nat} {n : Str}, ps.Nodup → ps[i]? = some n → (ps.zip vs).lookup n = vs[i]?
  | p :: ps, [], i, n, _, _ => by simp
  | p :: ps, v :: vs, 0, n, _, h => by simp at h; subst h; simp [List.lookup_cons]
  | p :: ps, v :: vs, i + 1, n, hn, h => by
    simp at h
    have hne : n ≠ p := by rintro rfl; exact (List.nodup_cons.mp hn).1 (List.mem_of_getElem? h)
    have : (n == p) = false := by simpa using hne
    rw [List.zip_cons_cons, List.lookup_cons, this]
    simpa using lookup_zip (List.nodup_cons.mp hn).2 h
  | [], _, _, _, _, h => by simp at h
theorem filterMap_zip : ∀ {ps : List Str} {L : List Value} {f : Str → Option Value}, ps.length = L.length → (∀ (i : Nat) (n : Str), ps[i]? = some n → f n = L[i]?) → ps.filterMap (fun n => (f n).map (n, ·)) = ps.zip L
  | [], L, f, hl, _ => by simp
  | p :: ps, [], f, hl, _ => by simp at hl
  | p :: ps, v :: L, f, hl, k => by
    have h0 := k 0 p rfl
    simp at h0
    rw [List.filterMap_cons, h0]
    simp only [Option.map_some, List.zip_cons_cons]
    rw [filterMap_zip (by simpa using hl) fun i n hi => by have := k (i + 1) n (by simpa using hi); simpa using this]
noncomputable def bindStep (x : Str × Value) (s : List (Str × Value)) : Sem (ForInStep (List (Str × Value))) := if (s.lookup x.1).isNone = true then pure (.yield (s ++ [(x.1, x.2)])) else pure (.yield s)
noncomputable def bindTail (ps : List Str) (vals ds0 : List Value) (e1 e2 : Sem (List (Str × Value))) : Sem (List (Str × Value)) :=
  if (decide (vals.length > ps.length) && (none : Option Arg).isNone) = true then e1 else
    if (!((ps.take (ps.length - (ds0.drop (ds0.length - ps.length)).length)).filter fun n => ((ps.zip vals).lookup n).isNone).isEmpty) = true then e2 else
      forIn ((ps.drop (ps.length - (ds0.drop (ds0.length - ps.length)).length)).zip (ds0.drop (ds0.length - ps.length))) (ps.zip vals) bindStep >>= fun slots => pure ((ps ++ []).filterMap fun n => (slots.lookup n).map (n, ·))
theorem bind_shape {fd : FuncData} {vals : List Value} {args : List Arg} {kd : List (Option Expr)} {dfl : List Expr} (hp : fd.params = ⟨[], args, none, [], kd, none, dfl⟩) :
    ∃ e1 e2 : Option (Array Value) → Sem (List (Str × Value)), bindArgs fd ⟨vals, []⟩ = seqItems? fd.defaults >>= fun r => bindTail (args.map (·.arg)) vals (r.getD #[]).toList (e1 r) (e2 r) := by
  cases fd
  cases hp
  exact ⟨_, _, rfl⟩
theorem step_foldl : ∀ (l s : List (Str × Value)), forIn l s bindStep = pure (l.foldl (fun s p => if (s.lookup p.1).isNone then s ++ [p] else s) s)
  | [], s => rfl
  | x :: l, s => by
    rw [List.forIn_cons, List.foldl_cons]
    unfold bindStep
    by_cases h : (s.lookup x.1).isNone = true
    · rw [if_pos h, if_pos h]; exact step_foldl l _
    · rw [if_neg h, if_neg h]; exact step_foldl l _
structure Plain (p : Arguments) : Prop where
  po : p.posonlyargs = []
  va : p.vararg = none
  ko : p.kwonlyargs = []
  kw : p.kwarg = none
theorem Plain.eq {p : Arguments} (h : Plain p) : p = ⟨[], p.args, none, [], p.kw_defaults, none, p.defaults⟩ := by
  obtain ⟨h1, h2, h3, h4⟩ := h
  cases p
  cases h1; cases h2; cases h3; cases h4
  rfl
theorem taken_get {α : Type} {l : List α} {k i : Nat} {x : α} (h : (l.take k)[i]? = some x) : i < k ∧ l[i]? = some x := by
  rw [List.getElem?_take] at h
  by_cases q : i < k
  · rw [if_pos q] at h; exact ⟨q, h⟩
  · rw [if_neg q] at h; cases h
theorem tail_plain {ps : List Str} {vals ds : List Value} (hn : ps.Nodup) (h1 : vals.length ≤ ps.length) (h2 : ps.length ≤ vals.length + ds.length) (h3 : ds.length ≤ ps.length) (e1 e2 : Sem (List (Str × Value))) :
    bindTail ps vals ds e1 e2 = pure (ps.zip (vals ++ ds.drop (vals.length + ds.length - ps.length))) := by
  obtain ⟨q, hq⟩ : ∃ q, ps.length = q + ds.length := ⟨_, (Nat.sub_add_cancel h3).symm⟩
  obtain ⟨r, hr⟩ : ∃ r, vals.length = q + r := Nat.exists_eq_add_of_le (Nat.le_of_add_le_add_right (hq ▸ h2))
  have k1 : ps.length - ds.length = q := by rw [hq, Nat.add_sub_cancel]
  have k2 : vals.length + ds.length - ps.length = r := by rw [hq, hr, Nat.add_right_comm, Nat.add_sub_cancel_left]
  have k3 : r ≤ ds.length := Nat.le_of_add_le_add_left (hr ▸ hq ▸ h1)
  unfold bindTail
  rw [show ds.drop (ds.length - ps.length) = ds by rw [Nat.sub_eq_zero_of_le h3]; rfl, k1, k2]
  have c2 : ((ps.take q).filter fun n => ((ps.zip vals).lookup n).isNone) = [] := by
    refine List.filter_eq_nil_iff.mpr fun n hm => ?_
    obtain ⟨i, hi⟩ := List.mem_iff_getElem?.mp hm
    obtain ⟨hlt, hi⟩ := taken_get hi
    rw [lookup_zip hn hi, List.getElem?_eq_getElem (hr ▸ Nat.lt_of_lt_of_le hlt (Nat.le_add_right q r))]
    exact Bool.false_ne_true
  rw [c2, decide_eq_false (Nat.not_lt.mpr h1)]
  refine (if_neg Bool.false_ne_true).trans ((if_neg Bool.false_ne_true).trans ?_)
  rw [step_foldl, pure_bind, List.append_nil]
  refine congrArg pure (filterMap_zip (by rw [List.length_append, List.length_drop, hq, hr, Nat.add_assoc, Nat.add_sub_cancel' k3]) fun i n hi => ?_)
  rw [lookup_foldl (slots := []), lookup_zip hn hi]
  by_cases hi' : i < vals.length
  · rw [List.getElem?_append_left hi', List.getElem?_eq_getElem hi']; rfl
  · obtain ⟨t, rfl⟩ := Nat.exists_eq_add_of_le (Nat.not_lt.mp hi')
    rw [List.getElem?_append_right (Nat.le_add_right _ _), List.getElem?_eq_none (Nat.le_add_right _ _), List.getElem?_drop, Option.none_or, Nat.add_sub_cancel_left]
    rw [hr, Nat.add_assoc] at hi
    exact lookup_zip (hn.sublist (List.drop_sublist _ _)) (List.getElem?_drop.trans hi)
theorem bind_plain {s : Shared} {fd : FuncData} {ps : List Str} {vals ds : List Value} (hp : Plain fd.params) (hps : fd.params.args.map (·.arg) = ps) (hn : ps.Nodup)
    (hd : ∃ r : Option (Array Value), (r.getD #[]).toList = ds ∧ ∀ M A E (Q : Option (Array Value) → Shared → Prop), Q r s → wpAny M A (seqItems? fd.defaults) Q E s) (h1 : vals.length ≤ ps.length) (h2 : ps.length ≤ vals.length + ds.length) (h3 : ds.length ≤ ps.length) :
    BindsTo s fd ⟨vals, []⟩ (ps.zip (vals ++ ds.drop (vals.length + ds.length - ps.length))) := by
  intro M A E Q hq
  obtain ⟨r, hr, hd⟩ := hd
  obtain ⟨e1, e2, e⟩ := bind_shape (vals := vals) hp.eq
  rw [e, hps]
  refine wpAny_bind (hd _ _ _ _ ?_)
  rw [hr, tail_plain hn h1 h2 h3]
  exact wpAny_pure hq
end Mine
namespace Mine
noncomputable def FlR : Fl → Flow → Prop
  | .nxt, f => f = .next
  | .ret v, f => ∃ v', f = .ret v' ∧ VR v v'
inductive SQ (X : Fix) (sc : Sc) (env : Env) (Q : PF) (h : Heap) (H : Hp) (f' : Flow) (h' : Heap) : Prop
  | mk (fl : Fl) (ρ' : Env') (H' : Hp) (r : FlR fl f') (q : Q fl ρ' H') (s : Step X.K X.hb h H h' H' [env.locals]) (F : FrameOk X sc env h' ρ' H')
noncomputable def SW (X : Fix) (A : Around) (sc : Sc) (env : Env) (t : Sem Flow) (Q : Fl → Env' → Hp → Prop) (h : Heap) (H : Hp) : Prop :=
  Wp X A t (SQ X sc env Q h H) h
structure Defs where
  T : Nat → Option Fn
  addr : Nat → Addr
noncomputable def RC (X : Fix) (A : Around) (f : Value) (vs' : List Value) (Q : V → Hp → Prop) (h : Heap) (H : Hp) : Prop :=
  ∀ tk, codeAny X.M A (.call f ⟨vs', []⟩) (fun r s' => match r with | .ok (.ret v') => WQ X (RQ VR X [] Q h H) v' s' | .ok _ => False | .error _ => False) (X.at h tk)
theorem RC.call {X : Fix} {A : Around} {f : Value} {vs' : List Value} {Q : V → Hp → Prop} {h : Heap} {H : Hp} (x : RC X A f vs' Q h H) : R X A (PySem.call f vs' []) Q h H := Wp.call x
noncomputable def CallOk (X : Fix) (D : Defs) (n : Nat) : Prop :=
  ∀ (A : Around), Room A (3 * n) → ∀ f vs vs' Q h H, VRs vs vs' → Good X.K X.hb h H → MC D.T n f vs Q H → RC X A (.ref (D.addr f)) vs' Q h H
noncomputable def isNone (y : Value) : Bool := decide (y.ctorIdx = 0)
noncomputable def isBool (b : Bool) (y : Value) : Bool := if h : y.ctorIdx = 3 then Value.bool.elim (motive := fun _ => Bool) y h fun c => b == c else false
noncomputable def isInt (i : Int) (y : Value) : Bool := if h : y.ctorIdx = 4 then Value.int.elim (motive := fun _ => Bool) y h fun j _ => i == j else false
noncomputable def isStr (s : Str) (y : Value) : Bool := if h : y.ctorIdx = 6 then Value.str.elim (motive := fun _ => Bool) y h fun t _ => s == t else false
noncomputable def vrB (v : V) (y : Value) : Bool := v.cs (isNone y) (fun b => isBool b y) (fun i => isInt i y) (fun s => isStr s y) fun _ => false
noncomputable def vrsB : List V → List Value → Bool
  | [], ys => ys.isEmpty
  | x :: xs, ys => kCons ys fun y ys => vrB x y && vrsB xs ys
theorem vrB_ok {v : V} {v' : Value} (e : vrB v v' = true) : VR v v' := by
  cases v with
  | none => exact Value.none.elim (motive := fun y => VR .none y) v' (of_decide_eq_true e) rfl
  | bool b => exact (dk e).elim fun h e => Value.bool.elim (motive := fun y => ∀ h, Value.bool.elim (motive := fun _ => Bool) y h (fun c => b == c) = true → VR (.bool b) y) v' h (fun c _ e => (congrArg Value.bool (eq_of_beq e)).symm) h e
  | int i => exact (dk e).elim fun h e => Value.int.elim (motive := fun y => ∀ h, Value.int.elim (motive := fun _ => Bool) y h (fun j _ => i == j) = true → VR (.int i) y) v' h (fun j t _ e => ⟨t, congrArg (Value.int · t) (eq_of_beq e).symm⟩) h e
  | str s => exact (dk e).elim fun h e => Value.str.elim (motive := fun y => ∀ h, Value.str.elim (motive := fun _ => Bool) y h (fun u _ => s == u) = true → VR (.str s) y) v' h (fun u t _ e => ⟨t, congrArg (Value.str · t) (eq_of_beq e).symm⟩) h e
  | ref a => cases e
theorem vrsB_ok : ∀ {xs : List V} {ys : List Value}, vrsB xs ys = true → VRs xs ys
  | [], ys, e => nil_e (C := fun ys => VRs [] ys) e trivial
  | x :: xs, ys, e => of_Cons (C := fun ys => VRs (x :: xs) ys) e fun y ys e => ⟨vrB_ok (and_of e).1, vrsB_ok (and_of e).2⟩
noncomputable def seqD : Option Obj → Option (List Value)
  | none => none
  | some o => (match o.data with
    | .seq items _ => some items.toList
    | _ => none)
noncomputable def dflsIn (K : Frag) : Value → Option (List Value)
  | .none => some []
  | .ref T => seqD (K.lookup T)
  | _ => none
inductive DfC (K : Frag) : Value → List Value → Prop
  | none : DfC K .none []
  | ref (T : Addr) (o : Obj) (items : Array Value) (n : Nat) (ho : K.lookup T = some o) (hd : o.data = .seq items n) : DfC K (.ref T) items.toList
theorem seqD_ok {o : Option Obj} {ds : List Value} (e : seqD o = some ds) : ∃ ob items n, o = some ob ∧ ob.data = .seq items n ∧ ds = items.toList := by
  cases o with
  | none => cases e
  | some ob => cases ob with
    | mk c d data p => cases data with
      | seq items n => cases e; exact ⟨_, items, n, rfl, rfl, rfl⟩
      | _ => cases e
theorem df_of {K : Frag} {v : Value} {ds : List Value} (e : dflsIn K v = some ds) : DfC K v ds := by
  cases v with
  | none => cases e; exact .none
  | ref T =>
    obtain ⟨o, items, n, ho, hd, rfl⟩ := seqD_ok (show seqD (K.lookup T) = some ds from e)
    exact .ref T o items n ho hd
  | _ => cases e
theorem dflsIn_ok {K : Frag} {v : Value} {ds : List Value} (e : dflsIn K v = some ds) {s : Shared} (X : K.In s.heap) : ∃ r : Option (Array Value), (r.getD #[]).toList = ds ∧ ∀ M A E (Q : Option (Array Value) → Shared → Prop), Q r s → wpAny M A (seqItems? v) Q E s := by
  cases df_of e with
  | none => exact ⟨none, rfl, fun M A E Q q => wpAny_pure q⟩
  | ref T o items n ho hd => exact ⟨some items, rfl, fun M A E Q q => wpAny_seqItems (X _ _ ho) hd q⟩
noncomputable def plainB (p : Arguments) : Bool := p.posonlyargs.isEmpty && (p.vararg.isNone && (p.kwonlyargs.isEmpty && p.kwarg.isNone))
theorem plainB_ok {p : Arguments} (e : plainB p = true) : Plain p :=
  and_e e fun e1 e => and_e e fun e2 e => and_e e fun e3 e4 => ⟨List.isEmpty_iff.mp e1, Option.isNone_iff_eq_none.mp e2, List.isEmpty_iff.mp e3, Option.isNone_iff_eq_none.mp e4⟩
noncomputable def nodupB : List Str → Bool
  | [] => true
  | x :: r => !r.contains x && nodupB r
theorem nodupB_ok : ∀ {l : List Str}, nodupB l = true → l.Nodup
  | [], _ => .nil
  | x :: r, e => by
    unfold nodupB at e
    rw [Bool.and_eq_true, Bool.not_eq_true', ← Bool.not_eq_true, List.contains_iff_mem] at e
    exact List.nodup_cons.mpr ⟨e.1, nodupB_ok e.2⟩
noncomputable def scOf (F : Fn) (names : List (Str × NameKind)) : Sc := ⟨names, F.vars.zipIdx⟩
structure FnD (K : Frag) (F : Fn) (body : List Stmt) (fd : FuncData) : Prop where
  plain : Plain fd.params
  args : fd.params.args.map (·.arg) = F.vars.take F.pars
  dfl : ∃ ds, dflsIn K fd.defaults = some ds ∧ VRs F.dfl ds
  code : codeIn K fd.code fd.qualname = true
  body : fd.body = .stmts body
  clos : fd.closure = []
  glob : fd.globals = mainGlobals
  blt : fd.builtins = builtinsNs
  kind : fd.scope.kind = .function
  co : fd.scope.isCoroutine = false
  gen : fd.scope.isGenerator = false
structure FnAt (K : Frag) (a : Addr) (F : Fn) (body : List Stmt) (names : List (Str × NameKind)) : Prop where
  at_ : ∃ oc od fd sl, K.lookup a = some ⟨oc, od, .func fd, sl⟩ ∧ FnD K F body fd ∧ fd.scope.names = names
  le : F.pars ≤ F.vars.length
  dle : F.dfl.length ≤ F.pars
  nodup : F.vars.Nodup
  kinds : ∀ x ∈ F.vars.take F.pars, names.lookup x = some .local ∨ names.lookup x = some .cell
  noFree : ∀ p ∈ names, p.2 ≠ .free
noncomputable def fnO (o : Option Obj) (k : FuncData → Bool) : Bool := match o with
  | none => false
  | some o => (match o.data with
    | .func fd => k fd
    | _ => false)
noncomputable def stB (b : FuncBody) (k : List Stmt → Bool) : Bool := match b with
  | .stmts l => k l
  | _ => false
theorem stB_ok {b : FuncBody} {k : List Stmt → Bool} (e : stB b k = true) : ∃ l, b = .stmts l ∧ k l = true := by
  cases b with
  | stmts l => exact ⟨l, rfl, e⟩
  | _ => cases e
noncomputable def fnAt (K : Frag) (a : Addr) (F : Fn) (k : List Stmt → List (Str × NameKind) → Bool) : Bool := fnO (K.lookup a) fun fd => stB fd.body fun body =>
  (plainB fd.params && (fd.params.args.map (·.arg) == F.vars.take F.pars && (kSome (dflsIn K fd.defaults) (vrsB F.dfl) && (codeIn K fd.code fd.qualname && (fd.closure.isEmpty && (fd.globals == mainGlobals && (fd.builtins == builtinsNs && (fd.scope.kind == .function && (!fd.scope.isCoroutine && !fd.scope.isGenerator))))))))) &&
  (decide (F.pars ≤ F.vars.length) && (decide (F.dfl.length ≤ F.pars) && (nodupB F.vars && ((F.vars.take F.pars).all (fun x => fd.scope.names.lookup x == some .local || fd.scope.names.lookup x == some .cell) && (fd.scope.names.all (fun p => p.2 != .free) && k body fd.scope.names)))))
theorem some_of {α : Type} {o : Option α} {k : α → Bool} (h : kSome o k = true) : ∃ x, o = some x ∧ k x = true := of_Some (C := fun o => ∃ x, o = some x ∧ k x = true) h fun x h => ⟨x, rfl, h⟩
theorem fnO_ok {o : Option Obj} {k : FuncData → Bool} (e : fnO o k = true) : ∃ c d fd p, o = some ⟨c, d, .func fd, p⟩ ∧ k fd = true := by
  cases o with
  | none => cases e
  | some ob => cases ob with
    | mk c d data p => cases data with
      | func fd => exact ⟨c, d, fd, p, rfl, e⟩
      | _ => cases e
theorem fnAt_ok {K : Frag} {a : Addr} {F : Fn} {k : List Stmt → List (Str × NameKind) → Bool} (e : fnAt K a F k = true) : ∃ body names, FnAt K a F body names ∧ k body names = true := by
  obtain ⟨oc, od, fd, sl, ho, e⟩ := fnO_ok e
  obtain ⟨body, hb, e⟩ := stB_ok e
  exact ⟨body, fd.scope.names, ⟨⟨_, _, fd, _, ho, ⟨plainB_ok (and_l (and_l e)), eq_of_beq (and_l (and_r (and_l e))), (some_of (and_l (and_r (and_r (and_l e))))).imp fun _ h => ⟨h.1, vrsB_ok h.2⟩, and_l (and_r (and_r (and_r (and_l e)))), hb, List.isEmpty_iff.mp (and_l (and_r (and_r (and_r (and_r (and_l e)))))),
      eq_of_beq (and_l (and_r (and_r (and_r (and_r (and_r (and_l e))))))), eq_of_beq (and_l (and_r (and_r (and_r (and_r (and_r (and_r (and_l e)))))))), eq_of_beq (and_l (and_r (and_r (and_r (and_r (and_r (and_r (and_r (and_l e))))))))), (Bool.not_eq_true' _).mp (and_l (and_r (and_r (and_r (and_r (and_r (and_r (and_r (and_r (and_l e)))))))))), (Bool.not_eq_true' _).mp (and_r (and_r (and_r (and_r (and_r (and_r (and_r (and_r (and_r (and_l e))))))))))⟩, rfl⟩,
    of_decide_eq_true (and_l (and_r e)), of_decide_eq_true (and_l (and_r (and_r e))), nodupB_ok (and_l (and_r (and_r (and_r e)))), fun x hx => (Bool.or_eq_true_iff.mp (List.all_eq_true.mp (and_l (and_r (and_r (and_r (and_r e))))) x hx)).imp eq_of_beq eq_of_beq, fun p hp => bne_iff_ne.mp (List.all_eq_true.mp (and_l (and_r (and_r (and_r (and_r (and_r e)))))) p hp)⟩, and_r (and_r (and_r (and_r (and_r (and_r e)))))⟩
end Mine
namespace Mine
theorem Step.transNew {K : Frag} {hb h h' h'' : Heap} {H H' H'' : Hp} {own : List Addr} (x : Step K hb h H h' H' []) (y : Step K hb h' H' h'' H'' own) (hn : ∀ a ∈ own, h.get? a = none) : Step K hb h H h'' H'' [] := by
  refine ⟨y.good, fun b o e n _ => ?_, fun b o e => ?_, fun b o e n => ?_⟩
  · refine y.keeps b o (x.keeps b o e n (by simp)) (x.out e n) fun hm => ?_
    rw [hn b hm] at e; cases e
  · obtain ⟨o', e'⟩ := x.alive b o e
    exact y.alive b o' e'
  · cases q : H' b with
    | some o' => exact x.fresh b o' q n
    | none =>
      have := y.fresh b o e q
      cases z : h.get? b with
      | none => rfl
      | some o' => obtain ⟨o'', e'⟩ := x.alive b o' z; rw [this] at e'; cases e'
theorem cells_some {x : Str} : ∀ {names : List (Str × NameKind)} {n : Nat} {acc : List (Str × Addr)}, (acc.lookup x).isSome = true → ((cellsFrom n names acc).lookup x).isSome = true
  | [], _, _, h => h
  | (nm, kd) :: r, n, acc, h => by
    unfold cellsFrom
    split
    · refine cells_some ?_
      rw [List.lookup_cons]
      split
      · rfl
      · exact h
    · exact cells_some h
theorem cells_of {x : Str} : ∀ {names : List (Str × NameKind)} {n : Nat} {acc : List (Str × Addr)}, names.lookup x = some .cell → ((cellsFrom n names acc).lookup x).isSome = true
  | [], _, _, h => by simp at h
  | (nm, kd) :: r, n, acc, h => by
    rw [List.lookup_cons] at h
    unfold cellsFrom
    by_cases q : x = nm
    · subst q
      rw [beq_self_eq_true] at h
      cases h
      rw [if_pos (by decide)]
      exact cells_some (by rw [List.lookup_cons, beq_self_eq_true]; rfl)
    · rw [show (x == nm) = false by simpa using q] at h
      split
      · exact cells_of h
      · exact cells_of h
theorem bindL_none {kindOf : Str → Option NameKind} {x : Str} : ∀ {binds : List (Str × Value)} {m : Str → Option Value}, x ∉ binds.map (·.1) → bindL kindOf binds m x = m x
  | [], _, _ => rfl
  | (n, v) :: r, m, h => by
    unfold bindL
    rw [bindL_none fun q => h (List.mem_cons_of_mem _ q)]
    have : x ≠ n := fun e => h (e ▸ .head _)
    split <;> simp [this]
theorem bindL_at {kindOf : Str → Option NameKind} {x : Str} {v : Value} (hk : kindOf x = some .local) : ∀ {binds : List (Str × Value)} {m : Str → Option Value}, (binds.map (·.1)).Nodup → (x, v) ∈ binds → bindL kindOf binds m x = some v
  | [], _, _, h => by cases h
  | (n, u) :: r, m, hn, h => by
    rw [List.map_cons, List.nodup_cons] at hn
    unfold bindL
    rcases List.mem_cons.mp h with e | h
    · cases e
      rw [bindL_none hn.1, if_pos hk]; simp
    · exact bindL_at hk hn.2 h
theorem bindC_none {kindOf : Str → Option NameKind} {x : Str} : ∀ {binds : List (Str × Value)} {m : Str → Option Value}, x ∉ binds.map (·.1) → bindC kindOf binds m x = m x
  | [], _, _ => rfl
  | (n, v) :: r, m, h => by
    unfold bindC
    rw [bindC_none fun q => h (List.mem_cons_of_mem _ q)]
    have : x ≠ n := fun e => h (e ▸ .head _)
    split <;> simp [this]
theorem bindC_at {kindOf : Str → Option NameKind} {x : Str} {v : Value} (hk : kindOf x = some .cell) : ∀ {binds : List (Str × Value)} {m : Str → Option Value}, (binds.map (·.1)).Nodup → (x, v) ∈ binds → bindC kindOf binds m x = some v
  | [], _, _, h => by cases h
  | (n, u) :: r, m, hn, h => by
    rw [List.map_cons, List.nodup_cons] at hn
    unfold bindC
    rcases List.mem_cons.mp h with e | h
    · cases e
      rw [bindC_none hn.1, if_neg (by rw [hk]; decide)]; simp
    · exact bindC_at hk hn.2 h
section
variable {prog : Program} {w : World} {A : Around} {s : Shared}
theorem codeAny_call_gen {R : Result → Shared → Prop} {a : Addr} {o : Obj} {fd : FuncData} {body : List Stmt} {vals : List Value} {binds : List (Str × Value)}
    (hroom : A.depth < recursionLimit) (ho : s.heap.get? a = some o) (hdata : o.data = .func fd) (hlim : s.heap.NoLimit) (hcd : s.heap.CodeRec fd.code fd.qualname)
    (hbody : fd.body = .stmts body) (hbind : BindsTo s fd ⟨vals, []⟩ binds) (hclo : fd.closure = [])
    (hkind : ∀ x ∈ binds, fd.scope.names.lookup x.1 = some .local ∨ (fd.scope.names.lookup x.1 = some .cell ∧ ((cellsFrom (s.heap.objs.size + 1) fd.scope.names []).lookup x.1).isSome = true))
    (h : ∀ s₁, InCallC s (callEnvC fd s.heap.objs.size a).locals (bindL (callEnvC fd s.heap.objs.size a).kindOf binds fun _ => none) (callEnvC fd s.heap.objs.size a).cells
        (bindC (callEnvC fd s.heap.objs.size a).kindOf binds fun _ => none) s₁ →
      wpAny (model prog w) (A.deeper (callEnvC fd s.heap.objs.size a)) (execs body (callEnvC fd s.heap.objs.size a)) (fun f s' => R (.ok (.ret (match f with | .ret v => v | _ => .none))) s')
        (fun e s' => wpAny (model prog w) (A.deeper (callEnvC fd s.heap.objs.size a)) (leaving (callEnvC fd s.heap.objs.size a) e) (fun _ s'' => R (.error e) s'') (fun e' s'' => R (.error e') s'') s') s₁)
    (hco : fd.scope.isCoroutine = false) (hgen : fd.scope.isGenerator = false) (hk : fd.scope.kind = .function) :
    codeAny (model prog w) A (.call (.ref a) ⟨vals, []⟩) R s := by
  refine codeAny_call_function hroom ho hdata hco hgen hbody hcd (hbind _ _ _ _ ?_)
  rw [hclo]
  refine wpAny_newFunctionEnv_cells hk hkind fun env he s' x => ?_
  subst he
  exact ⟨hlim.keeps x.toInCall.keep, codeAny_func (h s' x)⟩
end
section
variable {X : Fix} {A : Around} {h : Heap} {H : Hp}
theorem zipIdx_lookup : ∀ {l : List Str} {k i : Nat} {x : Str}, (l.zipIdx k).lookup x = some i → k ≤ i ∧ l[i - k]? = some x
  | [], k, i, x, e => by simp at e
  | y :: l, k, i, x, e => by
    rw [List.zipIdx_cons, List.lookup_cons] at e
    by_cases q : x = y
    · subst q
      rw [beq_self_eq_true] at e
      cases e
      exact ⟨Nat.le_refl _, by simp⟩
    · rw [show (x == y) = false by simpa using q] at e
      obtain ⟨h1, h2⟩ := zipIdx_lookup (l := l) (k := k + 1) e
      refine ⟨Nat.le_of_succ_le h1, ?_⟩
      rw [show i - k = (i - (k + 1)) + 1 by rw [Nat.sub_succ]; exact (Nat.succ_pred_eq_of_pos (Nat.sub_pos_of_lt h1)).symm]
      simpa using h2
theorem Good.above (g : Good X.K X.hb h H) {c : Addr} (hc : h.objs.size ≤ c) : H c = none ∧ X.hb.get? c = none ∧ h.get? c = none := by
  have hn : h.get? c = none := by
    cases z : h.get? c with
    | none => rfl
    | some o => exact absurd (Heap.lt_size z) (Nat.not_lt.mpr hc)
  refine ⟨g.fresh hn, ?_, hn⟩
  cases z : X.hb.get? c with
  | none => rfl
  | some o => rw [g.base _ _ z] at hn; cases hn
theorem call_frame {a : Addr} {F : Fn} {body : List Stmt} {fd : FuncData} (FA : FnAt X.K a F body fd.scope.names) (D : FnD X.K F body fd) (g : Good X.K X.hb h H) {V1 : List V} {V2 : List Value} (lAll : V1.length = F.pars) (rAll : VRs V1 V2) {s₀ : Shared} (hs : s₀.heap = h) {hh : Heap} {tk' : Nat}
    (ic : InCallC s₀ (callEnvC fd h.objs.size a).locals (bindL (callEnvC fd h.objs.size a).kindOf ((F.vars.take F.pars).zip V2) fun _ => none) (callEnvC fd h.objs.size a).cells (bindC (callEnvC fd h.objs.size a).kindOf ((F.vars.take F.pars).zip V2) fun _ => none) (X.at hh tk')) :
    FrameOk X (scOf F fd.scope.names) (callEnvC fd h.objs.size a) hh (V1.map some ++ List.replicate (F.vars.length - F.pars) none) H := by
  have hL := g.above (Nat.le_refl h.objs.size)
  have hps : (((F.vars.take F.pars).zip V2).map (·.1)).Nodup := by
    rw [List.map_fst_zip]
    · exact FA.nodup.sublist (List.take_sublist _ _)
    · rw [List.length_take, ← rAll.length, lAll]; exact Nat.min_le_left _ _
  have hget : ∀ {x : Str} {i : Nat} {v : V}, (scOf F fd.scope.names).vars.lookup x = some i → (V1.map some ++ List.replicate (F.vars.length - F.pars) none)[i]? = some (some v) → ∃ v', (x, v') ∈ (F.vars.take F.pars).zip V2 ∧ VR v v' := by
    intro x i v e1 e2
    obtain ⟨_, e1⟩ := zipIdx_lookup e1
    have hi : i < F.pars := by
      rcases Nat.lt_or_ge i F.pars with q | q
      · exact q
      · rw [List.getElem?_append_right (by rw [List.length_map, lAll]; exact q)] at e2
        cases (List.mem_replicate.mp (List.mem_of_getElem? e2)).2
    rw [List.getElem?_append_left (by rw [List.length_map, lAll]; exact hi), List.getElem?_map] at e2
    obtain ⟨v0, e3, e4⟩ := Option.map_eq_some_iff.mp e2
    cases e4
    obtain ⟨v', e5, r5⟩ := rAll.get e3
    exact ⟨v', List.mem_of_getElem? (i := i) (List.getElem?_zip_eq_some.mpr ⟨by rw [List.getElem?_take, if_pos hi]; exact e1, e5⟩), r5⟩
  refine ⟨D.kind, rfl, D.glob, D.blt, hL.1, hL.2.1, ⟨_, ic.toInCall.ns, fun x i v e1 e2 e3 => (hget e1 e3).imp fun v' q => ⟨bindL_at e2 hps q.1, q.2⟩⟩, fun x i k e1 e2 e3 => ?_⟩
  have e2' : fd.scope.names.lookup x = some k := e2
  have hkc : k = .cell := e3.resolve_right fun e3 => FA.noFree (x, k) (mem_of_lookup e2') e3
  subst hkc
  obtain ⟨c, hc⟩ := Option.isSome_iff_exists.mp (cells_of (n := h.objs.size + 1) (acc := []) e2')
  obtain ⟨o, f2, f3⟩ := ic.cell x c hc
  have hlt : h.objs.size < c := hs ▸ ic.above x c (mem_of_lookup hc)
  have hcn := g.above (Nat.le_of_lt hlt)
  exact ⟨c, o, _, hc, f2, f3, hcn.1, hcn.2.1, Nat.ne_of_gt hlt, fun v e4 => (hget e1 e4).imp fun v' q => ⟨bindC_at e2' hps q.1, q.2⟩⟩
theorem call_fn (m : Amb X) {n : Nat} (rm : Room A (n + 1)) {a : Addr} {F : Fn} {body : List Stmt} {names : List (Str × NameKind)} (FA : FnAt X.K a F body names) {vs : List V} {vs' : List Value} {Q : V → Hp → Prop} (r : VRs vs vs') (g : Good X.K X.hb h H)
    (h1 : vs.length ≤ F.pars) (h2 : F.pars ≤ vs.length + F.dfl.length)
    (hb : ∀ env hh, FrameOk X (scOf F names) env hh ((vs ++ F.dfl.drop (vs.length + F.dfl.length - F.pars)).map some ++ List.replicate (F.vars.length - F.pars) none) H → Good X.K X.hb hh H → Room (A.deeper env) n →
      SW X (A.deeper env) (scOf F names) env (execs body env) (fun fl _ H' => Q (backV fl) H') hh H) : RC X A (.ref a) vs' Q h H := by
  obtain ⟨oc, od, fd, sl, ho, D, rfl⟩ := FA.at_
  obtain ⟨ds, hds, rds⟩ := D.dfl
  intro tk
  have lr := r.length
  have ld := rds.length
  have hXK := g.K m
  have hd0 := FA.dle
  have hlen : (F.vars.take F.pars).length = F.pars := List.length_take_of_le FA.le
  have hbinds := bind_plain (s := X.at h tk) (ps := F.vars.take F.pars) (vals := vs') (ds := ds) D.plain D.args (FA.nodup.sublist (List.take_sublist _ _)) (dflsIn_ok hds hXK) (by rw [hlen, ← lr]; exact h1) (by rw [hlen, ← lr, ← ld]; exact h2) (by rw [hlen, ← ld]; exact hd0)
  rw [hlen] at hbinds
  have rAll : VRs (vs ++ F.dfl.drop (vs.length + F.dfl.length - F.pars)) (vs' ++ ds.drop (vs'.length + ds.length - F.pars)) := by
    rw [lr, ld]; exact r.append (rds.drop _)
  have lAll : (vs ++ F.dfl.drop (vs.length + F.dfl.length - F.pars)).length = F.pars := by
    rw [List.length_append, List.length_drop]
    obtain ⟨q, hq⟩ : ∃ q, F.pars = q + F.dfl.length := ⟨_, (Nat.sub_add_cancel hd0).symm⟩
    obtain ⟨r', hr⟩ : ∃ r, vs.length = q + r := Nat.exists_eq_add_of_le (Nat.le_of_add_le_add_right (hq ▸ h2))
    rw [hq, hr, show q + r' + F.dfl.length - (q + F.dfl.length) = r' by rw [Nat.add_right_comm, Nat.add_sub_cancel_left], Nat.add_assoc, Nat.add_sub_cancel' (Nat.le_of_add_le_add_left (hr ▸ hq ▸ h1))]
  refine codeAny_call_gen (s := X.at h tk) rm.room (hXK _ _ ho) rfl (m.nolimit.keeps g.base) (codeRec_of hXK D.code) D.body hbinds D.clos (fun x hx => ?_) (fun s₁ ic => ?_) D.co D.gen D.kind
  · exact (FA.kinds x.1 (List.of_mem_zip (a := x.1) (b := x.2) hx).1).imp id fun e => ⟨e, cells_of e⟩
  · obtain ⟨hh, tk', rfl⟩ := ic.toInCall.same
    have hstep : Step X.K X.hb h H hh H [] := Step.grow g ic.toInCall.keep
    refine wpAny_mono (hb _ hh (call_frame FA D g lAll rAll rfl ic) hstep.good rm.deeper tk') (fun f' s₂ hs => ?_) fun _ _ z => z.elim
    obtain ⟨h2', tk2, fl, ρ', H', rf, q, st, _⟩ := hs
    refine ⟨h2', tk2, backV fl, H', ?_, q, hstep.transNew st fun c hc => List.mem_singleton.mp hc ▸ (g.above (Nat.le_refl h.objs.size)).2.2⟩
    cases fl with
    | nxt => cases rf; rfl
    | ret v => obtain ⟨v', rfl, rv⟩ := rf; exact rv
end
end Mine
namespace Mine
section
variable {X : Fix} {A : Around} {h : Heap} {H : Hp}
theorem Room.tcall {n : Nat} (r : Room A (n + 1)) (C : Addr) (vs : List Value) : Room (A.under (.builtin "type.__call__" ⟨.ref C :: vs, []⟩)) n := by
  have hw : (Code.builtin "type.__call__" ⟨.ref C :: vs, []⟩).weight = 1 := by
    kernel_rfl
  have hu : (Code.builtin "type.__call__" ⟨.ref C :: vs, []⟩).cUnits = 1 := by
    kernel_rfl
  have hg : (Code.builtin "type.__call__" ⟨.ref C :: vs, []⟩).guards = [] := by
    kernel_rfl
  refine ⟨?_, ?_, r.handled, ?_⟩
  · show A.depth + (Code.builtin "type.__call__" ⟨.ref C :: vs, []⟩).weight + n ≤ 980
    rw [hw]; have := r.depth; omega
  · show A.units + (Code.builtin "type.__call__" ⟨.ref C :: vs, []⟩).cUnits + 10 * n ≤ 9800
    rw [hu]; have := r.units; omega
  · show pushGuards (Code.builtin "type.__call__" ⟨.ref C :: vs, []⟩).guards A.guards = some []
    rw [hg, r.guards]; rfl
theorem R_new (m : Amb X) {c : Cls} (ok : clsOk X.K c = true) {fI : Addr} (hi : findIn X.K (.ref (clsAddr X.K c)) "__init__" = some (some (.ref fI))) (hf : typeIn X.K (.ref fI) = some (.type "function")) {vs' : List Value} (g : Good X.K X.hb h H) {Q : V → Hp → Prop}
    (k : ∀ a d hh, H a = none → H d = none → a ≠ d → Good X.K X.hb hh (upd (upd H d (.hid a)) a (.inst c d [])) →
      RC X (A.under (.builtin "type.__call__" ⟨.ref (clsAddr X.K c) :: vs', []⟩)) (.ref fI) (.ref a :: vs') (kDone a Q) hh (upd (upd H d (.hid a)) a (.inst c d []))) : RC X A (.ref (clsAddr X.K c)) vs' Q h H := by
  intro tk
  have hXK := g.K m
  have hd := get_size h
  have ha : h.get? (h.objs.size + 1) = none := by
    cases z : h.get? (h.objs.size + 1) with
    | none => rfl
    | some o => exact absurd (Heap.lt_size z) (Nat.not_lt.mpr (Nat.le_succ _))
  have hne : h.objs.size + 1 ≠ h.objs.size := by omega
  have st : Step X.K X.hb h H ((h.push emptyDict).push (instObj (clsAddr X.K c) h.objs.size)) (upd (upd H h.objs.size (.hid (h.objs.size + 1))) (h.objs.size + 1) (.inst c h.objs.size [])) [] := by
    refine Step.make g hd ha hne (fun b o e => Heap.get?_push_of_some _ (Heap.get?_push_of_some _ e)) ?_ ?_
    · have := Heap.get?_push_size (h.push emptyDict) (o := instObj (clsAddr X.K c) h.objs.size) rfl
      rwa [Heap.size_push] at this
    · exact Heap.get?_push_of_some _ (Heap.get?_push_size _ rfl)
  refine make_core (makes_of hXK (clsK ok).makes) (looks_findIn hXK hi) (fun self => bind_fn hXK self hf) (.inl rfl) ?_
  refine codeAny_mono (k (h.objs.size + 1) h.objs.size _ (g.fresh ha) (g.fresh hd) hne st.good tk) fun r s' z => ?_
  rcases r with e | (v | _ | _ | _) <;> first | exact z.elim | skip
  obtain ⟨h', tk', v0, H', rv, q, s'⟩ := z
  obtain ⟨rfl, q⟩ := kDone_ex q
  exact ⟨rv, h', tk', .ref (h.objs.size + 1), H', rfl, q, st.trans s'⟩
end
end Mine
namespace Mine
section
variable {X : Fix} {A : Around} {sc : Sc} {env : Env} {h : Heap} {ρ : Env'} {H : Hp}
noncomputable def notCall0 : Expr → Bool
  | .Call (.Name _ _) [] [] _ => false
  | _ => true
theorem attributeBase_plain {o : Expr} {n : Str} {whole : Sem Value} (e : notCall0 o = true) : attributeBase o n env whole = whole := by
  cases o with
  | Call f xs ks pos => cases f with
    | Name id p => cases xs with
      | nil => cases ks with
        | nil => cases e
        | cons => rfl
      | cons => rfl
    | _ => rfl
  | _ => rfl
theorem methodForm {pos : Pos} {xs : List Expr} (hx : xs.all notStar = true) (hl : xs.length < 30) : methodCallForm (xs.length + ([] : List Keyword).length) (backTo pos (starEach xs env)) (backToKw pos (keywordEach [] env)) = true := by
  have hp := starEach_plain (env := env) (pos := pos) hx
  have : (backTo pos (starEach xs env)).all (fun p => !p.1) = true := List.all_eq_true.mpr fun p hm => (Bool.not_eq_true' _).mpr (Bool.eq_false_iff.mpr (List.any_eq_false.mp hp p hm))
  show ((backTo pos (starEach xs env)).all (fun p => !p.1) && true && decide (xs.length + 0 + 0 < 30)) = true
  rw [this, decide_eq_true (show xs.length + 0 + 0 < 30 from hl)]
  rfl
theorem R_methodCall (m : Amb X) {o : Expr} {name : Str} {apos pos : Pos} {xs : List Expr} (ho : notCall0 o = true) (hx : xs.all notStar = true) (hl : xs.length < 30) (hline : (apos.endLine == pos.line) = true) {Q : V → Hp → Prop}
    (k : R X A (eval o env) (fun x H1 => ∀ x' h1, VR x x' → Step X.K X.hb h H h1 H1 [] → ∃ f first, (∀ h, X.K.In h → ∃ k, (k = Keeper.frame ∨ k = Keeper.machine ∨ k = Keeper.boundFrame) ∧ Looks X.M h (keeperOf f) k) ∧
      (∀ tk pl (P : Value × List Value → Shared → Prop), (∀ tk', P (f, first) (X.at h1 tk')) → wpAny X.M A (getMethod x' name pl) P (fun _ _ => False) (X.at h1 tk)) ∧
      RW VRs X A [] (spliced (backTo pos (starEach xs env))) (fun vs H2 => ∀ vs' h2, VRs vs vs' → Step X.K X.hb h1 H1 h2 H2 [] → R X A (call f (first ++ vs') []) Q h2 H2) h1 H1) h H) :
    R X A (eval (.Call (.Attribute o name apos) xs [] pos) env) Q h H := by
  show RW VR X A [] (do
    let ov ← attributeBase o name env (eval o env)
    standAt apos.atName
    methodCall o name apos pos env ov (xs.length + ([] : List Keyword).length) (backTo pos (starEach xs env)) (backToKw pos (keywordEach [] env))) Q h H
  rw [attributeBase_plain ho]
  refine RW.bind k fun x x' h1 H1 rx q s => ?_
  refine RW.standAt ?_
  obtain ⟨f, first, hk, hm, hargs⟩ := q x' h1 rx s
  unfold methodCall
  rw [methodForm hx hl]
  intro tk
  refine wpAny_bind (wpAny_holding ?_)
  show wpAny _ _ (getMethod x' name _) _ _ _
  refine hm tk _ _ fun tk' => ?_
  refine wpAny_bind ?_
  unfold methodCallPos
  rw [hline, Bool.not_true, Bool.false_or, if_pos rfl]
  exact wpAny_pure (R_callWith m hx hk hargs tk')
theorem getMethod_arr (m : Amb X) {c : Cls} (ok : clsOk X.K c = true) (g : Good X.K X.hb h H) {a d : Addr} {fs : List V} {name : Str} {f : Addr} (e : H a = some (.inst c d fs)) (hn : name ∉ (lay c).map fname) (hf : findIn X.K (.ref (clsAddr X.K c)) name = some (some (.ref f)))
    (ht : typeIn X.K (.ref f) = some (.type "function")) {tk : Nat} {pl : Sem Bool} {P : Value × List Value → Shared → Prop} (q : ∀ tk', P (.ref f, [.ref a]) (X.at h tk')) : wpAny X.M A (getMethod (.ref a) name pl) P (fun _ _ => False) (X.at h tk) := by
  have ck := clsK ok
  obtain ⟨es, n, e3, e6, I⟩ := instAt g e
  refine method_fn (s := X.at h tk) (g.K m) I ck.ga ck.gb hf ht ?_ (q tk)
  have hm := e6.map name
  have : fldMap c fs name = none := by
    unfold fldMap
    have : ∀ {ns : List Str} {vs : List V}, name ∉ ns → lookupZ ns vs name = none := by
      intro ns
      induction ns with
      | nil => intro vs _; cases vs <;> rfl
      | cons n r ih =>
        intro vs hx
        cases vs with
        | nil => rfl
        | cons v vs =>
          unfold lookupZ
          rw [if_neg (fun q : name = n => hx (q ▸ .head _))]
          exact ih fun q => hx (.tail _ q)
    exact this hn
  rw [this] at hm
  show (lookIn name (dictOf es n)).map _ = _
  rw [lookIn_rows e6.keys, hm]; rfl
theorem getMethod_list (g : Good X.K X.hb h H) {a : Addr} {vs : List V} (e : H a = some (.lst vs)) {tk : Nat} {pl : Sem Bool} {P : Value × List Value → Shared → Prop} {id : String} {name : Str} (slot : Slot "list" name id) (hty : typeOf (.builtin id) = pure (.type "method_descriptor"))
    (q : ∀ tk', P (.builtin id, [.ref a]) (X.at h tk')) : wpAny X.M A (getMethod (.ref a) name pl) P (fun _ _ => False) (X.at h tk) := by
  obtain ⟨is, n, f, _⟩ := g.lst e
  exact getMethod_builtin (s := X.at h tk) ⟨_, f, rfl⟩ PySem.F.plainAttrs_list slot hty (fun b eb => by cases eb; exact ⟨_, f, rfl⟩) (q tk)
theorem getMethod_str {x : Str} {t : Tok} {tk : Nat} {pl : Sem Bool} {P : Value × List Value → Shared → Prop} {id : String} {name : Str} (slot : Slot "str" name id) (hty : typeOf (.builtin id) = pure (.type "method_descriptor"))
    (q : ∀ tk', P (.builtin id, [.str x t]) (X.at h tk')) : wpAny X.M A (getMethod (.str x t) name pl) P (fun _ _ => False) (X.at h tk) :=
  getMethod_builtin (s := X.at h tk) (typeIs_str _ _ _) PySem.F.plainAttrs_str slot hty (fun b eb => by cases eb) (q tk)
theorem fld_some {v y : V} {f : Nat} (e : fldOf H v f = some y) : ∃ a c d fs i, v = .ref a ∧ H a = some (.inst c d fs) ∧ fidx c f = some i ∧ fs[i]? = some y := by
  obtain ⟨a, rfl, e1⟩ := rf_some e
  cases z : H a with
  | none => rw [z] at e1; cases e1
  | some o =>
    rw [z] at e1
    cases oc_some e1 with
    | inst e => exact (Option.bind_eq_some_iff.mp e).elim fun i h => ⟨a, _, _, _, i, rfl, z, h.1, h.2⟩
    | lst e => cases e
    | tup e => cases e
    | fro e => cases e
theorem R_Attribute (m : Amb X) (ok : ∀ c, clsOk X.K c = true) {x : Expr} {f : Nat} {pos : Pos} (hx : notCall0 x = true) {Q : V → Hp → Prop}
    (k : R X A (eval x env) (fun v H1 => ∃ y, fldOf H1 v f = some y ∧ Q y H1) h H) : R X A (eval (.Attribute x (fname f) pos) env) Q h H := by
  show RW VR X A [] (do
    let o ← attributeBase x (fname f) env (eval x env)
    standAt pos.atName
    let r ← holding [o] (getAttr o (fname f) true)
    letTemporaryGo x o r
    pure r) Q h H
  rw [attributeBase_plain hx]
  refine RW.bind k fun v v' h1 H1 rv q s => ?_
  refine RW.standAt ?_
  obtain ⟨y, ey, q⟩ := q
  obtain ⟨a, c, d, fs, i, rfl, e1, hi, hv⟩ := fld_some ey
  cases rv
  refine RW.bind (RW.holding (R_getAttr m s.good (ok c) e1 hi hv (Q := Q) q)) fun w w' h2 H2 rw' q2 s2 => ?_
  exact Wp.bind (fun tk => wpAny_letTemporaryGo (s := X.at h2 tk) ⟨h2, tk, Wp.pure ⟨w, H2, rw', q2, .refl s2.good⟩⟩)
noncomputable def notSlice : Expr → Bool
  | .Slice _ _ _ _ => false
  | _ => true
theorem R_Subscript {x s : Expr} {pos : Pos} (hs : notSlice s = true) {Q : V → Hp → Prop}
    (k : R X A (eval x env) (fun v H1 => ∀ h1, Step X.K X.hb h H h1 H1 [] → R X A (eval s env) (fun i H2 => ∃ r, idxV H2 v i = some r ∧ Q r H2) h1 H1) h H) : R X A (eval (.Subscript x s pos) env) Q h H := by
  show RW VR X A [] (do
    let o ← eval x env
    let i ← holding [o] (eval s env)
    standAt pos
    subscriptTail x s o i) Q h H
  refine RW.bind k fun v v' h1 H1 rv q s1 => ?_
  refine RW.bind (RW.holding (q h1 s1)) fun i i' h2 H2 ri q2 s2 => ?_
  obtain ⟨r, er, q2⟩ := q2
  refine RW.standAt ?_
  exact R_idxTail s2.good rv ri er (by cases s <;> first | rfl | cases hs) q2
end
end Mine
namespace Mine
section
variable {X : Fix} {A : Around} {sc : Sc} {env : Env} {h : Heap} {ρ : Env'} {H : Hp}
noncomputable def isName (e : Expr) : Bool := tName e fun _ _ => true
theorem letGo_name {x : Expr} (hx : isName x = true) : ∀ o r, letTemporaryGo x o r = pure () := tof_Name (C := fun x => ∀ o r, letTemporaryGo x o r = pure ()) hx fun _ _ _ _ _ => rfl
theorem R_sliceStr {x l u : Expr} {p pos : Pos} (hx : isName x = true) {Q : V → Hp → Prop}
    (k : R X A (eval x env) (fun v H1 => ∀ h1, Step X.K X.hb h H h1 H1 [] → R X A (eval l env) (fun y H2 => ∀ h2, Step X.K X.hb h1 H1 h2 H2 [] → R X A (eval u env) (fun z H3 => ∃ s i j, v = .str s ∧ y = .int i ∧ z = .int j ∧ s.length ≤ 2 ^ 24 ∧ Q (.str (slcText s i j)) H3) h2 H2) h1 H1) h H) :
    R X A (eval (.Subscript x (.Slice (some l) (some u) none p) pos) env) Q h H := by
  intro tk
  refine wpAny_Subscript_str_slice (wpAny_mono (k tk) (fun o s₁ hs => ?_) fun _ _ z => z) (letGo_name hx)
  obtain ⟨h1, tk1, v, H1, rv, q, s1⟩ := hs
  refine wpAny_mono (q h1 s1 tk1) (fun vl s₂ hs => ?_) fun _ _ z => z
  obtain ⟨h2, tk2, y, H2, ry, q, s2⟩ := hs
  refine wpAny_mono (q h2 s2 tk2) (fun vu s₃ hs => ?_) fun _ _ z => z
  obtain ⟨h3, tk3, z, H3, rz, ⟨s, i, j, rfl, rfl, rfl, hl, q⟩, s3⟩ := hs
  obtain ⟨t, rfl⟩ := rv
  obtain ⟨t1, rfl⟩ := ry
  obtain ⟨t2, rfl⟩ := rz
  refine ⟨s, t, some (i, t1), some (j, t2), rfl, rfl, rfl, ?_⟩
  have g3 : Step X.K X.hb h H (h3.push { cls := .type "slice", data := .fields #[.int i t1, .int j t2, .none] }) H3 [] := ((s1.trans s2).trans s3).trans (Step.grow s3.good fun b o e => Heap.get?_push_of_some _ e)
  have hp : slicePicked s (some (i, t1)) (some (j, t2)) none = Builtin.Str.strSliceIndices (some i) (some j) 1 s.length := rfl
  unfold sliceMade
  rw [hp]
  unfold slcText at q
  split
  · rename_i hc
    simp only [Option.map_none, Option.getD_none, beq_self_eq_true, Bool.true_and] at hc
    rw [if_pos hc] at q
    exact ⟨_, tk3, .str s, H3, ⟨t, rfl⟩, q, g3⟩
  · rename_i hc
    simp only [Option.map_none, Option.getD_none, beq_self_eq_true, Bool.true_and] at hc
    rw [if_neg hc] at q
    refine ⟨?_, _, tk3 + 1, .str _, H3, ⟨_, rfl⟩, q, g3⟩
    have h1 := sliceIndices_le (some i) (some j) s.length
    show ((Builtin.Str.strSliceIndices (some i) (some j) 1 s.length).filterMap (s.cps[·]?)).toArray.size ≤ _
    rw [List.size_toArray, sizeLine_eq]
    exact Nat.le_trans (List.length_filterMap_le _ _) (by omega)
theorem R_sliceList {x : Expr} {l u : Option Expr} {p pos : Pos} (hx : isName x = true) {Q : V → Hp → Prop} {f : Int → List V → List V}
    (hf : (∃ e, l = some e ∧ u = none ∧ f = fun i vs => vs.drop i.toNat) ∨ (∃ e, l = none ∧ u = some e ∧ f = fun i vs => vs.take i.toNat))
    (k : R X A (eval x env) (fun v H1 => ∀ h1, Step X.K X.hb h H h1 H1 [] → R X A (eval ((l.or u).getD x) env) (fun y H2 => ∃ vs j, lfOf H2 v = some vs ∧ vs.length ≤ 2 ^ 24 ∧ y = .int j ∧ 0 ≤ j ∧ ∀ a, H2 a = none → Q (.ref a) (upd H2 a (.lst (f j vs)))) h1 H1) h H) :
    R X A (eval (.Subscript x (.Slice l u none p) pos) env) Q h H := by
  intro tk
  refine wpAny_Subscript_list_slice (wpAny_mono (k tk) (fun o s₁ hs => ?_) fun _ _ z => z) (letGo_name hx)
  obtain ⟨h1, tk1, v, H1, rv, q, s1⟩ := hs
  have fin : ∀ {h2 : Heap} {H2 : Hp} {tk2 : Nat} {vs : List V} {j : Int} {vl vu : Value} {lo hi : Option Int}, Step X.K X.hb h1 H1 h2 H2 [] → lfOf H2 v = some vs → vs.length ≤ 2 ^ 24 → (∀ a, H2 a = none → Q (.ref a) (upd H2 a (.lst (f j vs)))) → IsPart vl lo → IsPart vu hi →
      (∀ items : Array Value, VRs vs items.toList → VRs (f j vs) (slicePick items lo hi none).toList) →
      ∃ l items lo hi, o = Value.ref l ∧ h2.IsList l items ∧ items.size ≤ sizeLine ∧ IsPart vl lo ∧ IsPart vu hi ∧ WQ X (RQ VR X [] Q h H) (.ref (h2.objs.size + 1)) (⟨(h2.push { cls := .type "slice", data := .fields #[vl, vu, .none] }).push { cls := .type "list", data := .seq (slicePick items lo hi none) }, X.g, X.d, tk2, X.os⟩ : Shared) := by
    intro h2 H2 tk2 vs j vl vu lo hi s2 el hl q2 p1 p2 hpick
    obtain ⟨a, items, rfl, fl, r⟩ := s2.good.lf el
    cases rv
    have hlen : vs.length = items.size := by have := r.length; simpa using this
    refine ⟨a, items, lo, hi, rfl, fl, by rw [sizeLine_eq]; omega, p1, p2, _, tk2, .ref (h2.objs.size + 1), upd H2 (h2.objs.size + 1) (.lst (f j vs)), rfl, q2 _ ?_, (s1.trans s2).trans (Step.alloc s2.good ?_ (fun b o e => Heap.get?_push_of_some _ (Heap.get?_push_of_some _ e)) ⟨_, 0, ?_, hpick items r⟩)⟩
    · refine s2.good.fresh ?_
      cases z : h2.get? (h2.objs.size + 1) with
      | none => rfl
      | some o => exact absurd (Heap.lt_size z) (Nat.not_lt.mpr (Nat.le_succ _))
    · cases z : h2.get? (h2.objs.size + 1) with
      | none => rfl
      | some o => exact absurd (Heap.lt_size z) (Nat.not_lt.mpr (Nat.le_succ _))
    · have := Heap.get?_push_size (h2.push { cls := .type "slice", data := .fields #[vl, vu, .none] }) (o := { cls := .type "list", data := .seq (slicePick items lo hi none) }) rfl
      rwa [Heap.size_push] at this
  rcases hf with ⟨e, rfl, rfl, rfl⟩ | ⟨e, rfl, rfl, rfl⟩
  · refine wpAny_mono (q h1 s1 tk1) (fun vl s₂ hs => ?_) fun _ _ z => z
    obtain ⟨h2, tk2, y, H2, ry, ⟨vs, j, el, hl, rfl, hj, q2⟩, s2⟩ := hs
    obtain ⟨t1, rfl⟩ := ry
    refine wpAny_pure (fin s2 el hl q2 (.int j t1) .none fun items r => ?_)
    obtain ⟨n, rfl⟩ := Int.eq_ofNat_of_zero_le hj
    rw [slicePick_from' items n]
    exact r.drop n
  · refine wpAny_pure ?_
    refine wpAny_mono (q h1 s1 tk1) (fun vl s₂ hs => ?_) fun _ _ z => z
    obtain ⟨h2, tk2, y, H2, ry, ⟨vs, j, el, hl, rfl, hj, q2⟩, s2⟩ := hs
    obtain ⟨t1, rfl⟩ := ry
    refine fin s2 el hl q2 .none (.int j t1) fun items r => ?_
    obtain ⟨n, rfl⟩ := Int.eq_ofNat_of_zero_le hj
    rw [slicePick_upto' items n]
    exact r.take n
end
end Mine
namespace Mine
theorem Step.drop {K : Frag} {hb h h' : Heap} {H H' : Hp} {own own' : List Addr} (x : Step K hb h H h' H' own) (k : ∀ a ∈ own, a ∈ own' ∨ h.get? a = none) : Step K hb h H h' H' own' :=
  { good := x.good
    alive := x.alive
    fresh := x.fresh
    keeps := fun b o e n ho => x.keeps b o e n fun hm => (k b hm).elim ho fun q => by rw [q] at e; cases e }
section
variable {X : Fix} {A : Around} {sc : Sc} {env : Env} {h : Heap} {ρ : Env'} {H : Hp}
noncomputable def Inj (sc : Sc) : Prop := ∀ x y i, sc.vars.lookup x = some i → sc.vars.lookup y = some i → x = y
theorem W_bind (F : FrameOk X sc env h ρ H) (inj : Inj sc) (g : Good X.K X.hb h H) {x : Str} {i : Nat} {v : V} {v' : Value} (hx : sc.vars.lookup x = some i) (hk : sc.names.lookup x = some .local) (rv : VR v v') {Q : Unit → Heap → Prop}
    (q : ∀ h', Step X.K X.hb h H h' H [env.locals] → FrameOk X sc env h' (ρ.set i (some v)) H → Q () h') : Wp X A (bindName env x v') Q h := by
  obtain ⟨m, hn, hm⟩ := F.ns
  intro tk
  have kn : env.kindOf x = some .local := by unfold Env.kindOf; rw [F.names]; exact hk
  refine wpAny_bindName (wpAny_storeName_local (s := X.at h tk) kn hn (fun h' hn' hs => ?_) (by rw [F.kind]; rfl))
  have hs' : Heap.ExtBut env.locals h h' := hs.extBut
  have st : Step X.K X.hb h H h' H [env.locals] := Step.outside g hs' F.out F.new (by obtain ⟨o, _, _, ho, _⟩ := hn'; exact ⟨o, ho⟩) (by simp)
  refine ⟨h', tk + 1, q h' st ⟨F.kind, F.names, F.globals, F.builtins, F.out, F.new, ⟨_, hn', fun y j u e1 e2 e3 => ?_⟩, fun y j k e1 e2 e3 => ?_⟩⟩
  · by_cases hy : y = x
    · subst hy
      rw [hx] at e1; cases e1
      have : u = v := by
        rw [List.getElem?_set_self'] at e3
        cases z : ρ[i]? with
        | none => rw [z] at e3; cases e3
        | some w => rw [z] at e3; simp at e3; exact e3.symm
      subst this
      exact ⟨v', by simp, rv⟩
    · have hne : i ≠ j := fun e => hy (inj _ _ j e1 (e ▸ hx))
      rw [List.getElem?_set_ne hne] at e3
      obtain ⟨w, f1, f2⟩ := hm y j u e1 e2 e3
      exact ⟨w, by simp [hy, f1], f2⟩
  · obtain ⟨c, o, w, f1, f2, f3, f4, f5, f6, f7⟩ := F.cells y j k e1 e2 e3
    refine ⟨c, o, w, f1, hs' c o f6 f2, f3, f4, f5, f6, fun u e4 => f7 u ?_⟩
    have hy : y ≠ x := by
      rintro rfl
      rw [hk] at e2; cases e2
      rcases e3 with e3 | e3 <;> cases e3
    have hne : i ≠ j := fun e => hy (inj _ _ j e1 (e ▸ hx))
    rwa [List.getElem?_set_ne hne] at e4
structure Run (X : Fix) (A : Around) (it : Addr) (live : Option Addr) (whole : List V) (St : Nat → Heap → Prop) : Prop where
  frame : ∀ i h h', St i h → (∀ o, h.get? it = some o → h'.get? it = some o) → St i h'
  there : ∀ i h, St i h → ∃ o, h.get? it = some o
  item : ∀ i v h H tk (P : Option Value → Shared → Prop) (E : Value → Shared → Prop), whole[i]? = some v → Good X.K X.hb h H → stays H live whole → St i h → (∀ v' h' tk', VR v v' → St (i + 1) h' → Heap.ExtBut it h h' → P (some v') (X.at h' tk')) → wpAny X.M A (pyNext (.ref it)) P E (X.at h tk)
  done : ∀ h H tk (P : Option Value → Shared → Prop) (E : Value → Shared → Prop), Good X.K X.hb h H → stays H live whole → St whole.length h → (∀ h' tk', Heap.ExtBut it h h' → P none (X.at h' tk')) → wpAny X.M A (pyNext (.ref it)) P E (X.at h tk)
  go : ∀ i h tk target v' (P : Unit → Shared → Prop) (E : Value → Shared → Prop), (isName target = true ∨ live.isSome = true) → St i h → P () (X.at h tk) → wpAny X.M A (letOwnedTupleGo target (.ref it) v') P E (X.at h tk)
  self : ∀ i h tk (P : Value → Shared → Prop) (E : Value → Shared → Prop), St i h → P (.ref it) (X.at h tk) → wpAny X.M A (pyIter (.ref it)) P E (X.at h tk)
theorem go_name {prog : Program} {w : World} {E : Value → Shared → Prop} {s : Shared} {target : Expr} {it v : Value} {Q : Unit → Shared → Prop} (hn : isName target = true) (q : Q () s) : wpAny (model prog w) A (letOwnedTupleGo target it v) Q E s := by
  exact tof_Name (C := fun target => wpAny (model prog w) A (letOwnedTupleGo target it v) Q E s) hn fun _ _ _ => wpAny_pure q
theorem go_list {prog : Program} {w : World} {E : Value → Shared → Prop} {s : Shared} {target : Expr} {I l : Addr} {i : Nat} {v : Value} {Q : Unit → Shared → Prop} (hit : s.heap.IsListIter I l i) (q : Q () s) : wpAny (model prog w) A (letOwnedTupleGo target (.ref I) v) Q E s := by
  obtain ⟨o, ho, hc, hd⟩ := hit
  have fin : ∀ T : Addr, wpAny (model prog w) A (do
      let o ← load I
      match o.cls, o.data with
      | .type n, .fields vs =>
        if ["enumerate", "zip", "dict_itemiterator", "dict_reverseitemiterator", "odict_iterator", "itertools.zip_longest", "itertools.pairwise"].contains n && vs[0]? == some (rawInt T) then
          rule "for.unpacks-the-owned-tuple"
          updateField I 0 .none
      | _, _ => pure () : Sem Unit) Q E s := fun T => by
    refine wpAny_bind (wpAny_load ho ?_)
    rw [hc, hd]
    show wpAny _ A (if (["enumerate", "zip", "dict_itemiterator", "dict_reverseitemiterator", "odict_iterator", "itertools.zip_longest", "itertools.pairwise"].contains "list_iterator" &&
        (#[.ref l, .int i 0] : Array Value)[0]? == some (rawInt T)) = true then _ else _) Q E s
    rw [if_neg (by
      intro h
      rw [show (["enumerate", "zip", "dict_itemiterator", "dict_reverseitemiterator", "odict_iterator", "itertools.zip_longest", "itertools.pairwise"].contains "list_iterator") = false from by decide, Bool.false_and] at h
      cases h)]
    exact wpAny_pure q
  cases target with
  | Tuple => cases v <;> first | exact wpAny_pure q | exact fin _
  | List => cases v <;> first | exact wpAny_pure q | exact fin _
  | _ => exact wpAny_pure q
theorem Run.list {n : Nat} (rm : Room A n) {it a : Addr} {whole : List V} : Run X A it (some a) whole (fun i h => h.IsListIter it a i) where
  frame := fun _ _ _ st k => st.at k
  there := fun _ _ st => let ⟨o, ho, _⟩ := st; ⟨o, ho⟩
  item := fun i v h H tk P E e g st s q => by
    obtain ⟨is, n, f, r⟩ := g.lst st
    obtain ⟨v', e', rv⟩ := r.get e
    exact wpAny_pyNext_list_item (s := X.at h tk) s (isList_of f) (by simpa using e') fun h' s' hs => q v' h' tk rv s' hs.extBut
  done := fun h H tk P E g st s q => by
    obtain ⟨is, n, f, r⟩ := g.lst st
    have hl : whole.length = is.size := by have := r.length; simpa using this
    exact wpAny_pyNext_list_end (s := X.at h tk) rm.handled s (isList_of f) (by simp [hl]) fun h' hs => q h' tk hs
  go := fun i h tk target v' P E _ st q => go_list (s := X.at h tk) st q
  self := fun i h tk P E st q => wpAny_pyIter_listiter (s := X.at h tk) st q
theorem Run.range {n : Nat} (rm : Room A n) {it : Addr} {j k : Int} : Run X A it none (rangeL j k) (fun i h => IsRangeIter h it (j + i) ((((k - j).toNat : Nat) : Int) - i) 1) where
  frame := fun _ _ _ st kk => kk _ st
  there := fun _ _ st => ⟨_, st⟩
  item := fun i v h H tk P E e g st s q => by
    have hi : i < (k - j).toNat ∧ v = .int (j + i) := by
      unfold rangeL at e
      rw [List.getElem?_map] at e
      obtain ⟨x, e1, rfl⟩ := Option.map_eq_some_iff.mp e
      obtain ⟨h1, h2⟩ := List.getElem?_eq_some_iff.mp e1
      simp at h1 h2
      subst h2
      exact ⟨by omega, rfl⟩
    obtain ⟨hi, rfl⟩ := hi
    refine wpAny_pyNext_range_item (s := X.at h tk) s (by omega) fun h' s' hs => q _ h' _ ⟨_, rfl⟩ ?_ hs.extBut
    have e1 : j + ((i + 1 : Nat) : Int) = j + (i : Int) + 1 := by omega
    have e2 : (((k - j).toNat : Nat) : Int) - ((i + 1 : Nat) : Int) = (((k - j).toNat : Nat) : Int) - i - 1 := by omega
    rw [e1, e2]; exact s'
  done := fun h H tk P E g st s q => by
    have : (rangeL j k).length = (k - j).toNat := by simp [rangeL]
    rw [this] at s
    exact wpAny_pyNext_range_end (s := X.at h tk) rm.handled s (by omega) fun h' hs => q h' tk hs
  go := fun i h tk target v' P E hn st q => by
    rcases hn with hn | hn
    · exact go_name hn q
    · cases hn
  self := fun i h tk P E st q => wpAny_pyIter_rangeiter (s := X.at h tk) st q
theorem Run.str {it : Addr} {x : Str} {St : Nat → Heap → Prop} (W : Walks X.prog X.w A it [it] [it] x.cps.size (SignAt x) St) (ht : ∀ i h, St i h → ∃ o, h.get? it = some o) : Run X A it none (x.cps.toList.map charV) St where
  frame := fun _ _ _ st k => W.frame _ _ _ st fun b hb o e => by rw [List.mem_singleton] at hb; subst hb; exact k o e
  there := ht
  item := fun i v h H tk P E e g st s q => by
    rw [List.getElem?_map] at e
    obtain ⟨c, e1, rfl⟩ := Option.map_eq_some_iff.mp e
    have e2 : x.cps[i]? = some c := by simpa using e1
    have hi : i < x.cps.size := (Array.getElem?_eq_some_iff.mp e2).1
    refine W.item i (X.at h tk) P E hi s fun v' h' tk' hp s' hs => ?_
    obtain ⟨c', u, e3, rfl⟩ := hp
    rw [e2] at e3; cases e3
    exact q _ h' tk' ⟨u, rfl⟩ s' fun b o hb e => hs b o (by simpa using hb) e
  done := fun h H tk P E g st s q => by
    have : (x.cps.toList.map charV).length = x.cps.size := by simp
    rw [this] at s
    exact W.done (X.at h tk) P E s fun h' tk' hs => q h' tk' fun b o hb e => hs b o (by simpa using hb) e
  go := fun i h tk target v' P E hn st q => by
    rcases hn with hn | hn
    · exact go_name hn q
    · cases hn
  self := fun i h tk P E st q => W.self i (X.at h tk) P E st q
end
end Mine
namespace Mine
section
variable {X : Fix} {A : Around} {sc : Sc} {env : Env} {h : Heap} {ρ : Env'} {H : Hp}
noncomputable abbrev RT (X : Fix) (A : Around) (t : Sem Bool) (Q : Bool → Hp → Prop) (h : Heap) (H : Hp) : Prop := RW (fun a a' => a = a') X A [] t Q h H
theorem R_BinOp {a b : Expr} {op : Operator} {pos : Pos} {Q : V → Hp → Prop}
    (k : R X A (eval a env) (fun x H1 => ∀ h1, Step X.K X.hb h H h1 H1 [] → R X A (eval b env) (fun y H2 => binV op x y Q H2) h1 H1) h H) : R X A (eval (.BinOp a op b pos) env) Q h H := by
  show RW VR X A [] (do
    let x ← eval a env
    let y ← holding [x] (eval b env)
    standAt pos
    operate [x, y] (binaryOp op x y)) Q h H
  refine RW.bind k fun x x' h1 H1 rx q s1 => ?_
  refine RW.bind (RW.holding (q h1 s1)) fun y y' h2 H2 ry q2 s2 => ?_
  exact RW.standAt (RW.operate (R_binop s2.good rx ry q2))
theorem R_USub {a : Expr} {pos : Pos} {Q : V → Hp → Prop} (k : R X A (eval a env) (fun v H => ∃ i, v = .int i ∧ Q (.int (-i)) H) h H) : R X A (eval (.UnaryOp .USub a pos) env) Q h H := by
  show RW VR X A [] (do let v ← eval a env; standAt pos; holding [v] (unaryOp .USub v)) Q h H
  refine RW.bind k fun x x' h1 H1 rx q s1 => ?_
  obtain ⟨i, rfl, q⟩ := q
  exact RW.standAt (RW.holding (R_neg s1.good rx q))
theorem R_Not {a : Expr} {pos : Pos} {Q : V → Hp → Prop} (k : R X A (eval a env) (fun v H => ∃ t, v = .bool t ∧ Q (.bool (!t)) H) h H) : R X A (eval (.UnaryOp .Not a pos) env) Q h H := by
  show RW VR X A [] (do let v ← eval a env; standAt pos; holding [v] (unaryOp .Not v)) Q h H
  refine RW.bind k fun x x' h1 H1 rx q s1 => ?_
  obtain ⟨i, rfl, q⟩ := q
  exact RW.standAt (RW.holding (R_not s1.good rx q))
noncomputable def notSet : Expr → Bool
  | .Set _ _ _ => false
  | _ => true
theorem markedBehind_plain {op : CmpOp} {e : Expr} {t : Sem Value} (hs : notSet e = true) : markedBehindIn op e t = t := by
  unfold markedBehindIn
  have : behindInMarks op e = false := by cases e <;> first | rfl | cases hs
  rw [this]
theorem R_Compare1 {n : Nat} (rm : Room A n) {a b : Expr} {op : CmpOp} {pos : Pos} (hs : notSet b = true) {Q : V → Hp → Prop}
    (k : R X A (eval a env) (fun x H1 => ∀ h1, Step X.K X.hb h H h1 H1 [] → R X A (eval b env) (fun y H2 => ∃ r, cmpV H2 op x y = some r ∧ Q (.bool r) H2) h1 H1) h H) : R X A (eval (.Compare a [op] [b] pos) env) Q h H := by
  show RW VR X A [] (do
    let x ← eval a env
    compareChain pos x [op] [markedBehindIn op b (eval b env)]) Q h H
  rw [markedBehind_plain hs]
  refine RW.bind k fun x x' h1 H1 rx q s1 => ?_
  show RW VR X A [] (do
    let rv ← holding [x'] (eval b env)
    standAt pos
    operate [x', rv] (compareOp op x' rv)) Q h1 H1
  refine RW.bind (RW.holding (q h1 s1)) fun y y' h2 H2 ry q2 s2 => ?_
  obtain ⟨r, hr, q2⟩ := q2
  exact RW.standAt (RW.operate (R_cmp s2.good rm rx ry hr q2))
theorem RT_Compare1 {n : Nat} (rm : Room A n) {a b : Expr} {op : CmpOp} {pos : Pos} {w : Sem Value} (hs : notSet b = true) {Q : Bool → Hp → Prop}
    (k : R X A (eval a env) (fun x H1 => ∀ h1, Step X.K X.hb h H h1 H1 [] → R X A (eval b env) (fun y H2 => ∃ r, cmpV H2 op x y = some r ∧ Q r H2) h1 H1) h H) : RT X A (isTrue (.Compare a [op] [b] pos) env w) Q h H := by
  show RW _ X A [] (do
    let x ← eval a env
    testChain pos x [op] [markedBehindIn op b (eval b env)]) Q h H
  rw [markedBehind_plain hs]
  refine RW.bind k fun x x' h1 H1 rx q s1 => ?_
  show RW _ X A [] (do
    let rv ← holding [x'] (eval b env)
    standAt pos
    let c ← operate [x', rv] (compareOp op x' rv)
    holding [c] (truthy c)) Q h1 H1
  refine RW.bind (RW.holding (q h1 s1)) fun y y' h2 H2 ry q2 s2 => ?_
  obtain ⟨r, hr, q2⟩ := q2
  refine RW.standAt (RW.bind (RW.operate (R_cmp (Q := fun v H => v = .bool r ∧ Q r H) s2.good rm rx ry hr ⟨rfl, q2⟩)) fun c c' h3 H3 rc q3 s3 => ?_)
  obtain ⟨rfl, q3⟩ := q3
  exact RW.holding (R_truthy s3.good rc q3)
theorem R_Compare2 {n : Nat} (rm : Room A n) {a b c : Expr} {p q : CmpOp} {pos : Pos} (hs : notSet c = true) {Q : V → Hp → Prop}
    (k : R X A (eval a env) (fun x H1 => ∀ h1, Step X.K X.hb h H h1 H1 [] → R X A (eval b env) (fun y H2 => ∃ r, cmpV H2 p x y = some r ∧ ∀ h2, Step X.K X.hb h1 H1 h2 H2 [] →
      (if r then R X A (eval c env) (fun z H3 => ∃ r, cmpV H3 q y z = some r ∧ Q (.bool r) H3) h2 H2 else Q (.bool false) H2)) h1 H1) h H) : R X A (eval (.Compare a [p, q] [b, c] pos) env) Q h H := by
  show RW VR X A [] (do
    let x ← eval a env
    compareChain pos x [p, q] [eval b env, markedBehindIn q c (eval c env)]) Q h H
  rw [markedBehind_plain hs]
  refine RW.bind k fun x x' h1 H1 rx q1 s1 => ?_
  show RW VR X A [] (do
    let rv ← holding [x'] (eval b env)
    standAt pos
    let cc ← holding [x', rv] (compareOp p x' rv)
    release [x', rv] [cc]
    if ← holding [cc, rv] (truthy cc) then compareChain pos rv [q] [eval c env] else pure cc) Q h1 H1
  refine RW.bind (RW.holding (q1 h1 s1)) fun y y' h2 H2 ry q2 s2 => ?_
  obtain ⟨r, hr, q2⟩ := q2
  refine RW.standAt (RW.bind (P := fun v H => v = .bool r ∧ H = H2) (RW.holding (R_cmp s2.good rm rx ry hr ⟨rfl, rfl⟩)) fun cc cc' h3 H3 rc q3 s3 => ?_)
  obtain ⟨rfl, rfl⟩ := q3
  refine RW.release ?_
  refine RW.bind (P := fun b H => b = r ∧ H = H3) (RW.holding (R_truthy s3.good rc ⟨rfl, rfl⟩)) fun t t' h4 H4 rt q4 s4 => ?_
  subst rt
  obtain ⟨rfl, rfl⟩ := q4
  have h5 := q2 h4 ((s2.trans s3).trans s4)
  cases t with
  | false => exact RW.pure s4.good rc h5
  | true =>
    show RW VR X A [] (do
      let rv ← holding [y'] (eval c env)
      standAt pos
      operate [y', rv] (compareOp q y' rv)) Q h4 H4
    refine RW.bind (RW.holding h5) fun z z' h5 H5 rz q5 s5 => ?_
    obtain ⟨r, hr, q5⟩ := q5
    exact RW.standAt (RW.operate (R_cmp s5.good rm ry rz hr q5))
theorem RT_Compare2 {n : Nat} (rm : Room A n) {a b c : Expr} {p q : CmpOp} {pos : Pos} {w : Sem Value} (hs : notSet c = true) {Q : Bool → Hp → Prop}
    (k : R X A (eval a env) (fun x H1 => ∀ h1, Step X.K X.hb h H h1 H1 [] → R X A (eval b env) (fun y H2 => ∃ r, cmpV H2 p x y = some r ∧ ∀ h2, Step X.K X.hb h1 H1 h2 H2 [] →
      (if r then R X A (eval c env) (fun z H3 => ∃ r, cmpV H3 q y z = some r ∧ Q r H3) h2 H2 else Q false H2)) h1 H1) h H) : RT X A (isTrue (.Compare a [p, q] [b, c] pos) env w) Q h H := by
  show RW _ X A [] (do
    let x ← eval a env
    testChain pos x [p, q] [eval b env, markedBehindIn q c (eval c env)]) Q h H
  rw [markedBehind_plain hs]
  refine RW.bind k fun x x' h1 H1 rx q1 s1 => ?_
  show RW _ X A [] (do
    let rv ← holding [x'] (eval b env)
    standAt pos
    let cc ← holding [x', rv] (compareOp p x' rv)
    release [x', rv] [cc]
    if ← holding [cc, rv] (truthy cc) then testChain pos rv [q] [eval c env] else pure false) Q h1 H1
  refine RW.bind (RW.holding (q1 h1 s1)) fun y y' h2 H2 ry q2 s2 => ?_
  obtain ⟨r, hr, q2⟩ := q2
  refine RW.standAt (RW.bind (P := fun v H => v = .bool r ∧ H = H2) (RW.holding (R_cmp s2.good rm rx ry hr ⟨rfl, rfl⟩)) fun cc cc' h3 H3 rc q3 s3 => ?_)
  obtain ⟨rfl, rfl⟩ := q3
  refine RW.release ?_
  refine RW.bind (P := fun b H => b = r ∧ H = H3) (RW.holding (R_truthy s3.good rc ⟨rfl, rfl⟩)) fun t t' h4 H4 rt q4 s4 => ?_
  subst rt
  obtain ⟨rfl, rfl⟩ := q4
  have h5 := q2 h4 ((s2.trans s3).trans s4)
  cases t with
  | false => exact RW.pure s4.good rfl h5
  | true =>
    show RW _ X A [] (do
      let rv ← holding [y'] (eval c env)
      standAt pos
      let c ← operate [y', rv] (compareOp q y' rv)
      holding [c] (truthy c)) Q h4 H4
    refine RW.bind (RW.holding h5) fun z z' h5 H5 rz q5 s5 => ?_
    obtain ⟨r, hr, q5⟩ := q5
    refine RW.standAt (RW.bind (RW.operate (R_cmp (Q := fun v H => v = .bool r ∧ Q r H) s5.good rm ry rz hr ⟨rfl, q5⟩)) fun c c' h3 H3 rc q3 s3 => ?_)
    obtain ⟨rfl, q3⟩ := q3
    exact RW.holding (R_truthy s3.good rc q3)
theorem R_IfExp {c a b : Expr} {pos : Pos} {Q : V → Hp → Prop}
    (k : RT X A (isTrue c env (eval c env)) (fun t H1 => ∀ h1, Step X.K X.hb h H h1 H1 [] → (if t then R X A (eval a env) Q h1 H1 else R X A (eval b env) Q h1 H1)) h H) : R X A (eval (.IfExp c a b pos) env) Q h H := by
  show RW VR X A [] (do if ← isTrue c env (eval c env) then eval a env else eval b env) Q h H
  refine RW.bind k fun t t' h1 H1 rt q s => ?_
  subst rt
  have q := q h1 s
  cases t <;> exact q
theorem RT_Not {a : Expr} {pos : Pos} {w : Sem Value} {Q : Bool → Hp → Prop} (k : RT X A (isTrue a env (eval a env)) (fun t H => Q (!t) H) h H) : RT X A (isTrue (.UnaryOp .Not a pos) env w) Q h H := by
  show RW _ X A [] (do return !(← isTrue a env (eval a env))) Q h H
  refine RW.bind k fun t t' h1 H1 rt q s => ?_
  subst rt
  exact RW.pure s.good rfl q
theorem RT_IfExp {c a b : Expr} {pos : Pos} {w : Sem Value} {Q : Bool → Hp → Prop}
    (k : RT X A (isTrue c env (eval c env)) (fun t H1 => ∀ h1, Step X.K X.hb h H h1 H1 [] → (if t then RT X A (isTrue a env (eval a env)) Q h1 H1 else RT X A (isTrue b env (eval b env)) Q h1 H1)) h H) : RT X A (isTrue (.IfExp c a b pos) env w) Q h H := by
  show RW _ X A [] (do if ← isTrue c env (eval c env) then isTrue a env (eval a env) else isTrue b env (eval b env)) Q h H
  refine RW.bind k fun t t' h1 H1 rt q s => ?_
  subst rt
  have q := q h1 s
  cases t <;> exact q
noncomputable def plainTest : Expr → Bool
  | .UnaryOp .Not _ _ => false
  | .BoolOp _ _ _ => false
  | .IfExp _ _ _ _ => false
  | .Compare _ _ _ _ => false
  | _ => true
theorem RT_plain {e : Expr} (he : plainTest e = true) {Q : Bool → Hp → Prop} (k : R X A (eval e env) (fun v H => ∃ t, v = .bool t ∧ Q t H) h H) : RT X A (isTrue e env (eval e env)) Q h H := by
  have key : isTrue e env (eval e env) = (do let v ← eval e env; standAt e.pos; holding [v] (truthy v)) := by
    cases e <;> first | rfl | cases he | skip
    rename_i op x pos
    cases op <;> first | rfl | cases he
  rw [key]
  refine RW.bind k fun v v' h1 H1 rv q s => ?_
  obtain ⟨t, rfl, q⟩ := q
  exact RW.standAt (RW.holding (R_truthy s.good rv q))
theorem R_List {es : List Expr} {pos : Pos} {Q : V → Hp → Prop} (k : RW VRs X A [] (spliced (backTo pos (starEach es env))) (fun vs H => vs.length ≤ 64 ∧ ∀ l, H l = none → Q (.ref l) (upd H l (.lst vs))) h H) : R X A (eval (.List es pos) env) Q h H := by
  show RW VR X A [] (do standAt pos; newList (← spliced (backTo pos (starEach es env)))) Q h H
  refine RW.standAt (RW.bind k fun vs vs' h1 H1 rv q s => ?_)
  exact R_newList s.good rv (Nat.le_trans q.1 (by decide)) q.2
theorem R_Tuple {es : List Expr} {kk : Nat} {pos : Pos} {Q : V → Hp → Prop} (k : RW VRs X A [] (spliced (backTo pos (starEach es env))) (fun vs H => vs.length ≤ 64 ∧ ∀ l, H l = none → Q (.ref l) (upd H l (.tup vs))) h H) : R X A (eval (.Tuple es kk pos) env) Q h H := by
  show RW VR X A [] (do standAt pos; newTuple (← spliced (backTo pos (starEach es env)))) Q h H
  refine RW.standAt (RW.bind k fun vs vs' h1 H1 rv q s => ?_)
  exact R_newTuple s.good rv (Nat.le_trans q.1 (by decide)) q.2
theorem R_Dict (m : Amb X) (g : Good X.K X.hb h H) {pos : Pos} {Q : V → Hp → Prop} (q : ∀ l, H l = none → Q (.ref l) (upd H l .dct)) : R X A (eval (.Dict [] [] pos) env) Q h H := by
  have e : eval (.Dict [] [] pos) env = (do standAt pos; newDict) := rfl
  rw [e]
  exact RW.standAt (R_newDict m g q)
end
end Mine
namespace Mine
section
variable {X : Fix} {A : Around} {sc : Sc} {env : Env} {h : Heap} {ρ : Env'} {H : Hp}
theorem SW.mono {t : Sem Flow} {Q Q' : Fl → Env' → Hp → Prop} (x : SW X A sc env t Q h H) (k : ∀ fl ρ' H', Q fl ρ' H' → Q' fl ρ' H') : SW X A sc env t Q' h H :=
  Wp.mono x fun f' h' ⟨fl, ρ', H', r, q, s, F⟩ => ⟨fl, ρ', H', r, k _ _ _ q, s, F⟩
theorem SW.bindR {α β : Type} {rel : β → α → Prop} {t : Sem α} {k : α → Sem Flow} {P : β → Hp → Prop} {Q : Fl → Env' → Hp → Prop} (F : FrameOk X sc env h ρ H) (x : RW rel X A [] t P h H)
    (y : ∀ v v' h1 H1, rel v v' → P v H1 → Good X.K X.hb h1 H1 → FrameOk X sc env h1 ρ H1 → SW X A sc env (k v') Q h1 H1) : SW X A sc env (t >>= k) Q h H :=
  Wp.bind (Wp.mono x fun v' h1 ⟨v, H1, r, p, s⟩ => Wp.mono (y v v' h1 H1 r p s.good (F.step s)) fun _ _ ⟨fl, ρ', H2, r', q, s', F'⟩ => ⟨fl, ρ', H2, r', q, s.any.trans s', F'⟩)
theorem SW.pure (g : Good X.K X.hb h H) (F : FrameOk X sc env h ρ H) {fl : Fl} {f : Flow} {Q : Fl → Env' → Hp → Prop} (r : FlR fl f) (q : Q fl ρ H) : SW X A sc env (Pure.pure f) Q h H := Wp.pure ⟨fl, ρ, H, r, q, .refl g, F⟩
theorem SW.standAt {p : Pos} {k : Unit → Sem Flow} {Q : Fl → Env' → Hp → Prop} (x : SW X A sc env (k ()) Q h H) : SW X A sc env (PySem.standAt p >>= k) Q h H := Wp.bind (Wp.standAt x)
theorem execs_one (st : Stmt) : execs [st] env = exec st env := by
  rw [execs_cons]
  conv => rhs; rw [← bind_pure (exec st env)]
  congr 1
  funext f
  cases f <;> rfl
theorem S_nil (g : Good X.K X.hb h H) (F : FrameOk X sc env h ρ H) {Q : Fl → Env' → Hp → Prop} (q : Q .nxt ρ H) : SW X A sc env (execs [] env) Q h H := SW.pure (fl := .nxt) g F rfl q
theorem S_cons {st : Stmt} {rest : List Stmt} {Q : Fl → Env' → Hp → Prop}
    (k : SW X A sc env (execs [st] env) (fun fl ρ' H' => match fl with | .nxt => ∀ h', Good X.K X.hb h' H' → FrameOk X sc env h' ρ' H' → SW X A sc env (execs rest env) Q h' H' | .ret v => Q (.ret v) ρ' H') h H) : SW X A sc env (execs (st :: rest) env) Q h H := by
  rw [execs_one] at k
  rw [execs_cons]
  refine Wp.bind (Wp.mono k fun f' h1 ⟨fl, ρ1, H1, r, q, s, F1⟩ => ?_)
  cases fl with
  | nxt =>
    cases r
    exact Wp.mono (q h1 s.good F1) fun _ _ ⟨fl, ρ', H2, r', q, s', F'⟩ => ⟨fl, ρ', H2, r', q, s.trans s', F'⟩
  | ret v =>
    obtain ⟨v', rfl, rv⟩ := r
    exact Wp.pure ⟨.ret v, ρ1, H1, ⟨v', rfl, rv⟩, q, s, F1⟩
noncomputable def notComp : Expr → Bool
  | .ListComp _ _ _ _ => false
  | .SetComp _ _ _ _ => false
  | .DictComp _ _ _ _ _ => false
  | _ => true
theorem swaps_not {value : Expr} {t : Option Expr} {l : Nat} (hc : notComp value = true) : swapsWith value t l env = Pure.pure false := by
  cases value <;> first | rfl | cases hc
theorem interactive_fn (F : FrameOk X sc env h ρ H) : interactive env = false := by
  unfold interactive; rw [F.kind]; rfl
theorem S_Expr (F : FrameOk X sc env h ρ H) {e : Expr} {pos : Pos} (hc : notComp e = true) {Q : Fl → Env' → Hp → Prop} (k : R X A (eval e env) (fun _ H' => Q .nxt ρ H') h H) : SW X A sc env (exec (.Expr e pos) env) Q h H := by
  rw [exec_Expr env e pos (interactive_fn F) (swaps_not hc)]
  refine SW.standAt (SW.bindR F k fun v v' h1 H1 rv q g1 F1 => ?_)
  exact fun tk => wpAny_dropValue ⟨h1, tk, .nxt, ρ, H1, rfl, q, .refl g1, F1⟩
theorem S_Return (F : FrameOk X sc env h ρ H) {e : Expr} {pos : Pos} {Q : Fl → Env' → Hp → Prop} (k : R X A (eval e env) (fun v H' => Q (.ret v) ρ H') h H) : SW X A sc env (exec (.Return (some e) pos) env) Q h H := by
  rw [exec_Return_some]
  exact SW.standAt (SW.bindR F k fun v v' h1 H1 rv q g1 F1 => SW.pure (fl := .ret v) g1 F1 ⟨v', rfl, rv⟩ q)
theorem S_ReturnNone (g : Good X.K X.hb h H) (F : FrameOk X sc env h ρ H) {pos : Pos} {Q : Fl → Env' → Hp → Prop} (q : Q (.ret .none) ρ H) : SW X A sc env (exec (.Return none pos) env) Q h H := by
  rw [exec_Return_none]
  exact SW.standAt (SW.pure (fl := .ret .none) g F ⟨.none, rfl, rfl⟩ q)
theorem S_If (F : FrameOk X sc env h ρ H) {c : Expr} {s t : List Stmt} {pos : Pos} {Q : Fl → Env' → Hp → Prop}
    (k : RT X A (isTrue c env (eval c env)) (fun b H1 => ∀ h1, Good X.K X.hb h1 H1 → FrameOk X sc env h1 ρ H1 → (if b then SW X A sc env (execs s env) Q h1 H1 else SW X A sc env (execs t env) Q h1 H1)) h H) : SW X A sc env (exec (.If c s t pos) env) Q h H := by
  rw [exec_If]
  refine SW.standAt (SW.bindR F k fun b b' h1 H1 rb q g1 F1 => ?_)
  subst rb
  have q := q h1 g1 F1
  cases b <;> exact q
theorem S_AssignName (inj : Inj sc) (F : FrameOk X sc env h ρ H) {x : Str} {i : Nat} {e : Expr} {p pos : Pos} (hc : notComp e = true) (hx : sc.vars.lookup x = some i) (hk : sc.names.lookup x = some .local) {Q : Fl → Env' → Hp → Prop}
    (k : R X A (eval e env) (fun v H' => Q .nxt (ρ.set i (some v)) H') h H) : SW X A sc env (exec (.Assign [.Name x p] e pos) env) Q h H := by
  rw [exec_Assign_Name _ _ _ _ _ (swaps_not hc)]
  refine SW.standAt (SW.bindR F k fun v v' h1 H1 rv q g1 F1 => ?_)
  refine SW.standAt (Wp.bind (W_bind F1 inj g1 hx hk rv fun h2 s2 F2 => ?_))
  exact Wp.pure ⟨.nxt, _, H1, rfl, q, s2, F2⟩
theorem S_AssignAttr (m : Amb X) (ok : ∀ c, clsOk X.K c = true) (F : FrameOk X sc env h ρ H) {e o : Expr} {f : Nat} {p pos : Pos} {Q : Fl → Env' → Hp → Prop}
    (k : R X A (eval e env) (fun v H1 => ∀ h1, Good X.K X.hb h1 H1 → FrameOk X sc env h1 ρ H1 → R X A (eval o env) (kAs2 f v ρ Q) h1 H1) h H) :
    SW X A sc env (exec (.Assign [.Attribute o (fname f) p] e pos) env) Q h H := by
  have hs : swapsWith e (some (.Attribute o (fname f) p)) pos.line env = Pure.pure false := by cases e <;> rfl
  rw [plainObj_exec_Assign_Attribute _ _ _ _ _ hs]
  simp only [assign_Attribute]
  refine SW.standAt (SW.bindR F k fun v v' h1 H1 rv q g1 F1 => ?_)
  refine Wp.bind (Wp.bind ?_)
  refine Wp.holding (Wp.mono (q h1 g1 F1) fun x' h2 ⟨x, H2, rx, q2, s2⟩ => ?_)
  obtain ⟨a, c, d, fs, o', rfl, e2, e3, q2⟩ := kAs2_ex q2
  cases rx
  refine Wp.bind (Wp.standAt (Wp.bind (Wp.holding (Wp.mono (R_setAttr (own := []) m s2.good (ok c) e2 rv e3 (Q := fun _ H => H = upd H2 a o') rfl) fun _ h3 ⟨_, H3, _, q3, s3⟩ => ?_))))
  subst q3
  refine Wp.release ?_
  exact Wp.pure ⟨.nxt, ρ, _, rfl, q2, (s2.trans s3).any, (F1.step s2).step s3⟩
theorem S_AssignItem (F : FrameOk X sc env h ρ H) {e o i : Expr} {p pos : Pos} {Q : Fl → Env' → Hp → Prop}
    (k : R X A (eval e env) (fun v H1 => ∀ h1, Good X.K X.hb h1 H1 → FrameOk X sc env h1 ρ H1 → R X A (eval o env) (fun x H2 => ∀ h2, Good X.K X.hb h2 H2 → FrameOk X sc env h2 ρ H2 → R X A (eval i env) (kAi3 v x ρ Q) h2 H2) h1 H1) h H) :
    SW X A sc env (exec (.Assign [.Subscript o i p] e pos) env) Q h H := by
  have hs : swapsWith e (some (.Subscript o i p)) pos.line env = Pure.pure false := by cases e <;> rfl
  intro tk
  refine wpAny_Assign_Subscript ?_ hs
  refine wpAny_mono (k tk) (fun v' s₁ hs => ?_) fun _ _ z => z
  obtain ⟨h1, tk1, v, H1, rv, q, s1⟩ := hs
  refine wpAny_mono (q h1 s1.good (F.step s1) tk1) (fun x' s₂ hs => ?_) fun _ _ z => z
  obtain ⟨h2, tk2, x, H2, rx, q, s2⟩ := hs
  refine wpAny_mono (q h2 s2.good ((F.step s1).step s2) tk2) (fun y' s₃ hs => ?_) fun _ _ z => z
  obtain ⟨h3, tk3, y, H3, ry, q, s3⟩ := hs
  obtain ⟨a, rfl, q1⟩ := kR_ex q
  obtain ⟨kk, rfl, vs, ea, k0, k1, k2, q⟩ := kI_ex q1
  cases rx
  obtain ⟨u, rfl⟩ := ry
  obtain ⟨is, n, f, r⟩ := s3.good.lst ea
  have hl : vs.length = is.size := by have := r.length; simpa using this
  have st := (s1.trans s2).trans s3
  refine ki_setAt (s := X.at h3 tk3) f k0 (by omega) (by omega) ?_
  have hget := Heap.get?_update_self (Obj.mapSeq (·.setIfInBounds kk.toNat v')) f rfl
  have st2 : Step X.K X.hb h3 H3 (h3.update a (Obj.mapSeq (·.setIfInBounds kk.toNat v'))) (upd H3 a (.lst (vs.set kk.toNat v))) [] :=
    Step.change s3.good ea (fun _ z => nomatch z) (Heap.SameBut.update ..).extBut ⟨_, _, hget, by rw [Array.toList_setIfInBounds]; exact r.set rv⟩
  exact ⟨_, tk3, .nxt, ρ, _, rfl, q, (st.trans st2).any, ((F.step s1).step (s2.trans s3)).step st2⟩
theorem W_load (F : FrameOk X sc env h ρ H) {x : Str} {i : Nat} {v : V} (hx : sc.vars.lookup x = some i) (hk : sc.names.lookup x = some .local) (hv : ρ[i]? = some (some v)) {Q : Value → Heap → Prop} (q : ∀ v', VR v v' → Q v' h) : Wp X A (loadName env x) Q h := by
  have kn : env.kindOf x = some .local := by unfold Env.kindOf; rw [F.names]; exact hk
  obtain ⟨mm, hn, hm⟩ := F.ns
  obtain ⟨v', ev, rv⟩ := hm x i v hx hk hv
  exact fun tk => wpAny_loadName_local (s := X.at h tk) F.kind kn hn ev ⟨h, tk, q v' rv⟩
theorem R_inplace (g : Good X.K X.hb h H) {a b : Int} {a' b' : Value} {op : Operator} {r : Int} (ra : VR (.int a) a') (rb : VR (.int b) b') (ho : augI op a b = some r) {Q : V → Hp → Prop} (q : Q (.int r) H) : R X A (inplaceOp op a' b') Q h H := by
  obtain ⟨t, rfl⟩ := ra
  obtain ⟨u, rfl⟩ := rb
  cases op with
  | Add => cases ho; exact RW.still g q fun tk P hP => iadd_int (s := X.at h tk) (hP _ _ ⟨_, rfl⟩)
  | Sub => cases ho; exact RW.still g q fun tk P hP => isub_int (s := X.at h tk) (hP _ _ ⟨_, rfl⟩)
  | _ => cases ho
theorem S_AugName (inj : Inj sc) (g : Good X.K X.hb h H) (F : FrameOk X sc env h ρ H) {x : Str} {i : Nat} {e : Expr} {op : Operator} {p pos : Pos} {v : V} (hx : sc.vars.lookup x = some i) (hk : sc.names.lookup x = some .local) (hv : ρ[i]? = some (some v)) {Q : Fl → Env' → Hp → Prop}
    (k : R X A (eval e env) (kAug2 i op v ρ Q) h H) :
    SW X A sc env (exec (.AugAssign (.Name x p) op e pos) env) Q h H := by
  rw [exec_AugAssign_Name]
  refine SW.standAt (Wp.bind (W_load F hx hk hv fun v' rv => ?_))
  refine SW.bindR F (RW.holding k) fun y y' h1 H1 ry q g1 F1 => SW.standAt ?_
  obtain ⟨a, rfl, q1⟩ := kI_ex q
  obtain ⟨b, rfl, q2⟩ := kI_ex q1
  obtain ⟨r, ho, q⟩ := kInt_ex q2
  refine SW.bindR F1 (RW.operate (R_inplace g1 rv ry ho (Q := fun w H => w = .int r ∧ H = H1) ⟨rfl, rfl⟩)) fun w w' h2 H2 rw2 q2 g2 F2 => ?_
  obtain ⟨rfl, rfl⟩ := q2
  refine SW.standAt (Wp.bind (W_bind F2 inj g2 hx hk rw2 fun h3 s3 F3 => ?_))
  exact Wp.pure ⟨.nxt, _, _, rfl, q, s3, F3⟩
theorem S_AugAttr (m : Amb X) (ok : ∀ c, clsOk X.K c = true) (F : FrameOk X sc env h ρ H) {o e : Expr} {f : Nat} {op : Operator} {p pos : Pos} {Q : Fl → Env' → Hp → Prop}
    (k : R X A (eval o env) (fun x H1 => ∃ v, fldOf H1 x f = some v ∧ ∀ h1, Good X.K X.hb h1 H1 → FrameOk X sc env h1 ρ H1 → R X A (eval e env) (kAugA3 f op x v ρ Q) h1 H1) h H) :
    SW X A sc env (exec (.AugAssign (.Attribute o (fname f) p) op e pos) env) Q h H := by
  intro tk
  refine wpAny_AugAssign_AttributeAny ?_
  refine wpAny_mono (k tk) (fun x' s₁ hs => ?_) fun _ _ z => z
  obtain ⟨h1, tk1, x, H1, rx, ⟨v, ev, q⟩, s1⟩ := hs
  have F1 := F.step s1
  have hget : R X A (getAttr x' (fname f) true) (fun w H' => w = v ∧ H' = H1) h1 H1 := by
    obtain ⟨a, c, d, fs, i, rfl, e1, hi, hv⟩ := fld_some ev
    cases rx
    exact R_getAttr m s1.good (ok c) e1 hi hv ⟨rfl, rfl⟩
  refine wpAny_mono (hget tk1) (fun v' s₂ hs => ?_) fun _ _ z => z
  obtain ⟨h2, tk2, v0, H2, rv, ⟨rfl, rfl⟩, s2⟩ := hs
  have F2 := F1.step s2
  refine wpAny_mono (q h2 s2.good F2 tk2) (fun y' s₃ hs => ?_) fun _ _ z => z
  obtain ⟨h3, tk3, y, H3, ry, q, s3⟩ := hs
  obtain ⟨a, rfl, q1⟩ := kI_ex q
  obtain ⟨b, rfl, q2⟩ := kI_ex q1
  obtain ⟨r, ho, q3⟩ := kInt_ex q2
  obtain ⟨ad, c, d, fs, o', rfl, ea, es, q⟩ := kAs2_ex q3
  cases rx
  refine wpAny_mono (R_inplace s3.good rv ry ho (Q := fun w H => w = .int r ∧ H = H3) ⟨rfl, rfl⟩ tk3) (fun w' s₄ hs => ?_) fun _ _ z => z
  obtain ⟨h4, tk4, w, H4, rw', ⟨rfl, rfl⟩, s4⟩ := hs
  refine wpAny_mono (R_setAttr (own := []) m s4.good (ok c) ea rw' es (Q := fun _ H => H = upd H4 ad o') rfl tk4) (fun _ s₅ hs => ?_) fun _ _ z => z
  obtain ⟨h5, tk5, _, H5, _, rfl, s5⟩ := hs
  have st := (((s1.trans s2).trans s3).trans s4).trans s5
  exact ⟨h5, tk5, .nxt, ρ, _, rfl, q, st.any, F.step st⟩
inductive WhI (X : Fix) (sc : Sc) (env : Env) (test : (Bool → Hp → Prop) → Env' → Hp → Prop) (bd : PF → Env' → Hp → Prop) (Q : PF) (h : Heap) (H : Hp) (n : Nat) : Shared → Prop
  | mk (h' : Heap) (tk' : Nat) (ρ' : Env') (H' : Hp) (F : FrameOk X sc env h' ρ' H') (s : Step X.K X.hb h H h' H' [env.locals]) (k : exW test bd n Q ρ' H') : WhI X sc env test bd Q h H n (X.at h' tk')
theorem S_While (g : Good X.K X.hb h H) (F : FrameOk X sc env h ρ H) {c : Expr} {body : List Stmt} {pos : Pos} {test : (Bool → Hp → Prop) → Env' → Hp → Prop} {bd : (Fl → Env' → Hp → Prop) → Env' → Hp → Prop}
    (T : ∀ h H ρ R, Good X.K X.hb h H → FrameOk X sc env h ρ H → test R ρ H → RT X A (isTrue c env (eval c env)) R h H)
    (B : ∀ h H ρ R, Good X.K X.hb h H → FrameOk X sc env h ρ H → bd R ρ H → SW X A sc env (execs body env) R h H)
    {n : Nat} {Q : Fl → Env' → Hp → Prop} (k : exW test bd n Q ρ H) : SW X A sc env (exec (.While c body [] pos) env) Q h H := by
  intro tk
  refine wpAny_While ?_
  refine codeAny_whileLoop (WhI X sc env test bd Q h H) (fun n s hI => ?_) n ⟨h, tk, ρ, H, F, .refl g, k⟩
  obtain ⟨h1, tk1, ρ1, H1, F1, s1, k1⟩ := hI
  have g1 := s1.good
  cases n with
  | zero => exact k1.elim
  | succ n =>
    refine wpAny_mono (T h1 H1 ρ1 _ g1 F1 k1 tk1) (fun b' s₂ hs => ?_) fun _ _ z => z.elim
    obtain ⟨h2, tk2, b, H2, rfl, q, s2⟩ := hs
    cases b with
    | false => exact wpAny_pure ⟨h2, tk2, .nxt, ρ1, H2, rfl, q, s1.trans s2.any, F1.step s2⟩
    | true =>
      refine wpAny_mono (B h2 H2 ρ1 _ s2.good (F1.step s2) q tk2) (fun f' s₃ hs => ?_) fun _ _ z => z.elim
      obtain ⟨h3, tk3, fl, ρ3, H3, rf, q3, s3, F3⟩ := hs
      cases fl with
      | nxt => cases rf; exact ⟨n, Nat.lt_succ_self _, h3, tk3, ρ3, H3, F3, (s1.trans s2.any).trans s3, q3⟩
      | ret v => obtain ⟨v', rfl, rv⟩ := rf; exact ⟨h3, tk3, .ret v, ρ3, H3, ⟨v', rfl, rv⟩, q3, (s1.trans s2.any).trans s3, F3⟩
theorem W_unpack2 {n : Nat} (rm : Room A n) (inj : Inj sc) (g : Good X.K X.hb h H) (F : FrameOk X sc env h ρ H) {x y : Str} {i j : Nat} {px py : Pos} {kk : Nat} {pos : Pos} {a : V} {b : V} {tp : Addr} {is : Array Value} {nn : Nat} (ht : h.get? tp = some { cls := .type "tuple", data := .seq is nn })
    (hr : VRs [a, b] is.toList) (hx : sc.vars.lookup x = some i) (hkx : sc.names.lookup x = some .local) (hy : sc.vars.lookup y = some j) (hky : sc.names.lookup y = some .local) {Q : Unit → Heap → Prop}
    (q : ∀ h', Step X.K X.hb h H h' H [env.locals] → FrameOk X sc env h' ((ρ.set i (some a)).set j (some b)) H → Q () h') : Wp X A (assign (.Tuple [.Name x px, .Name y py] kk pos) env (.ref tp)) Q h := by
  intro tk
  cases is with
  | mk l =>
  obtain ⟨a', b', hl, ra, rb⟩ := vr2 hr
  cases (show l = [a', b'] from hl)
  refine assign_Tuple_tuple (s := X.at h tk) rm.handled ⟨_, ht, rfl, nn, rfl⟩ rfl rfl fun h' he => ?_
  have st : Step X.K X.hb h H h' H [] := Step.grow g fun b o e => he b o (Nat.ne_of_lt (Heap.lt_size e)) e
  have key : Wp X A (assignInOrder [assign (.Name x px) env, assign (.Name y py) env] [a', b']) Q h' := by
    show Wp X A (do holding [b'] (do standAt px; bindName env x a'); holding [] (do standAt py; bindName env y b'); Pure.pure ()) Q h'
    refine Wp.bind (Wp.holding (Wp.bind (Wp.standAt (W_bind (F.step st) inj st.good hx hkx ra fun h1 s1 F1 => ?_))))
    refine Wp.bind (Wp.holding (Wp.bind (Wp.standAt (W_bind F1 inj s1.good hy hky rb fun h2 s2 F2 => ?_))))
    exact Wp.pure (q h2 ((st.any.trans s1).trans s2) F2)
  exact key tk
theorem S_AssignTuple {n : Nat} (rm : Room A n) (inj : Inj sc) (F : FrameOk X sc env h ρ H) {x y : Str} {i j : Nat} {px py : Pos} {kk : Nat} {e : Expr} {p pos : Pos} (hc : notComp e = true) (hT : ∀ es k p, e ≠ .Tuple es k p)
    (hx : sc.vars.lookup x = some i) (hkx : sc.names.lookup x = some .local) (hy : sc.vars.lookup y = some j) (hky : sc.names.lookup y = some .local) {Q : Fl → Env' → Hp → Prop}
    (k : R X A (eval e env) (kAt i j ρ Q) h H) : SW X A sc env (exec (.Assign [.Tuple [.Name x px, .Name y py] kk p] e pos) env) Q h H := by
  rw [exec_Assign_arm]
  have h1 : swapsWithSole [.Tuple [.Name x px, .Name y py] kk p] e pos.line env = Pure.pure false := by unfold swapsWithSole; exact swaps_not hc
  have h2 : swappedStores [.Tuple [.Name x px, .Name y py] kk p] e env = Pure.pure none := by
    cases e <;> first | rfl | exact absurd rfl (hT _ _ _)
  rw [h1, h2]
  refine SW.standAt ?_
  rw [pure_bind]
  simp only [Bool.false_eq_true, if_false, pure_bind]
  refine SW.bindR F k fun v v' h1 H1 rv q g1 F1 => ?_
  obtain ⟨a, b, et, q1⟩ := kAt_ex q
  obtain ⟨tp, rfl, ea⟩ := tupOf_some et
  cases rv
  obtain ⟨is, nn, f, r⟩ := g1.tup ea
  show Wp X A (do assign (.Tuple [.Name x px, .Name y py] kk p) env (.ref tp); Pure.pure Flow.next) _ h1
  exact Wp.bind (W_unpack2 rm inj g1 F1 f r hx hkx hy hky fun h2 s2 F2 => Wp.pure ⟨.nxt, _, H1, rfl, q1, s2, F2⟩)
end
end Mine
namespace Mine
noncomputable def notStarred : Expr → Bool
  | .Starred _ _ => false
  | _ => true
noncomputable def isStarredB : Expr → Bool
  | .Starred .. => true
  | _ => false
theorem isStarredB_of {a : Expr} (h : notStarred a = true) : isStarredB a = false := by
  cases a <;> first | rfl | cases h
theorem swapped_pair {env : Env} {a b : Expr} {x y : Str} {px py p p' : Pos} {kk kk' : Nat} (ha : notStarred a = true) (hb : notStarred b = true) (hf : (foldedForSure 8 a && foldedForSure 8 b) = false) (hcst : (constantsAlone 8 a && constantsAlone 8 b) = false)
    (hline : (py.line == px.line) = true) (hne : x ≠ y) (hk : env.scope.kind = .function) (kx : env.kindOf x = some .local) (ky : env.kindOf y = some .local) :
    swappedStores [.Tuple [.Name x px, .Name y py] kk p] (.Tuple [a, b] kk' p') env = pure (some [x, y]) := by
  have hbk : env.blockKind = ScopeKind.function := by unfold Env.blockKind; rw [hk]; rfl
  have hnm : ([Expr.Name x px, Expr.Name y py].filterMap fun
        | .Name id pos => if env.kindOf id == some .local && pos.line == px.line then some id else none
        | _ => none) = [x, y] := by
    simp [List.filterMap_cons, kx, ky, eq_of_beq hline]
  have hd : [x, y].eraseDups.length = 2 := by
    simp [List.eraseDups_cons, Ne.symm hne]
  have hstar : ([a, b].any fun | .Starred .. => true | _ => false) = false := by
    show (isStarredB a || (isStarredB b || false)) = false
    rw [isStarredB_of ha, isStarredB_of hb]; rfl
  have hnm' : ([Expr.Name x px, Expr.Name y py].filterMap fun
        | .Name id pos => if env.kindOf id == some .local && pos.line == (([Expr.Name x px, Expr.Name y py].head?.map (·.pos.line)).getD 0) then some id else none
        | _ => none) = [x, y] := hnm
  show (if (!((2 == 2) || (2 == 3)) || 2 != 2 || env.blockKind != .function) = true then pure none else
    if ([a, b].any fun | .Starred .. => true | _ => false) = true then pure none else
    if ((([Expr.Name x px, Expr.Name y py].filterMap fun
        | .Name id pos => if env.kindOf id == some .local && pos.line == (([Expr.Name x px, Expr.Name y py].head?.map (·.pos.line)).getD 0) then some id else none
        | _ => none).length != 2) || (([Expr.Name x px, Expr.Name y py].filterMap fun
        | .Name id pos => if env.kindOf id == some .local && pos.line == (([Expr.Name x px, Expr.Name y py].head?.map (·.pos.line)).getD 0) then some id else none
        | _ => none).eraseDups.length != ([Expr.Name x px, Expr.Name y py].filterMap fun
        | .Name id pos => if env.kindOf id == some .local && pos.line == (([Expr.Name x px, Expr.Name y py].head?.map (·.pos.line)).getD 0) then some id else none
        | _ => none).length)) = true then pure none else
    if (foldedForSure 8 a && (foldedForSure 8 b && true)) = true then pure none else
    if (constantsAlone 8 a && (constantsAlone 8 b && true)) = true then unsupported "assign.tuple-of-constant-expressions:order-of-the-stores" else pure (some ([Expr.Name x px, Expr.Name y py].filterMap fun
        | .Name id pos => if env.kindOf id == some .local && pos.line == (([Expr.Name x px, Expr.Name y py].head?.map (·.pos.line)).getD 0) then some id else none
        | _ => none)) : Sem _) = _
  rw [hbk, hstar, hnm', hd, Bool.and_true, Bool.and_true, hf, hcst]
  rfl
section
variable {X : Fix} {A : Around} {sc : Sc} {env : Env} {h : Heap} {ρ : Env'} {H : Hp}
theorem W_newTuple {L : List Value} (hl : L.length ≤ 2 ^ 24) {Q : Value → Heap → Prop} (q : Q (.ref h.objs.size) (h.push { cls := .type "tuple", data := .seq L.toArray })) : Wp X A (newTuple L) Q h :=
  fun tk => wpAny_newObj_type (s := X.at h tk) ⟨_, tk, q⟩ (by show L.toArray.size ≤ sizeLine; simp; rw [sizeLine_eq]; omega)
theorem S_AssignPair {n : Nat} (rm : Room A n) (inj : Inj sc) (F : FrameOk X sc env h ρ H) {x y : Str} {i j : Nat} {px py : Pos} {kk kk' : Nat} {a b : Expr} {p p' pos : Pos}
    (ha : notStarred a = true) (hb : notStarred b = true) (hf : (foldedForSure 8 a && foldedForSure 8 b) = false) (hcst : (constantsAlone 8 a && constantsAlone 8 b) = false) (hline : (py.line == px.line) = true) (hne : x ≠ y)
    (hx : sc.vars.lookup x = some i) (hkx : sc.names.lookup x = some .local) (hy : sc.vars.lookup y = some j) (hky : sc.names.lookup y = some .local) {Q : Fl → Env' → Hp → Prop}
    (k : RW VRs X A [] (spliced (backTo p' (starEach [a, b] env))) (fun vs H' => ∃ u v, vs = [u, v] ∧ Q .nxt ((ρ.set i (some u)).set j (some v)) H') h H) :
    SW X A sc env (exec (.Assign [.Tuple [.Name x px, .Name y py] kk p] (.Tuple [a, b] kk' p') pos) env) Q h H := by
  rw [exec_Assign_arm]
  have h1 : swapsWithSole [.Tuple [.Name x px, .Name y py] kk p] (.Tuple [a, b] kk' p') pos.line env = Pure.pure false := rfl
  have hij : i ≠ j := fun e => hne (inj _ _ j (e ▸ hx) hy)
  have kx : env.kindOf x = some .local := by unfold Env.kindOf; rw [F.names]; exact hkx
  have ky : env.kindOf y = some .local := by unfold Env.kindOf; rw [F.names]; exact hky
  rw [h1, swapped_pair ha hb hf hcst hline hne F.kind kx ky]
  refine SW.standAt ?_
  rw [pure_bind]
  simp only [Bool.false_eq_true, if_false, pure_bind]
  have e0 : eval (.Tuple [a, b] kk' p') env = (do PySem.standAt p'; newTuple (← spliced (backTo p' (starEach [a, b] env)))) := rfl
  rw [e0]
  simp only [bind_assoc]
  refine SW.standAt (SW.bindR F k fun vs vs' h1 H1 rv q g1 F1 => ?_)
  obtain ⟨u, v, rfl, q⟩ := q
  obtain ⟨u', v', rfl, ru, rv⟩ : ∃ u' v', vs' = [u', v'] ∧ VR u u' ∧ VR v v' := by
    match vs', rv with
    | [u', v'], r => exact ⟨u', v', rfl, r.1, r.2.1⟩
  refine Wp.bind (W_newTuple (by show 2 ≤ _; decide) ?_)
  have st1 : Step X.K X.hb h1 H1 (h1.push { cls := .type "tuple", data := .seq [u', v'].toArray }) H1 [] := Step.grow g1 fun b o e => Heap.get?_push_of_some _ e
  show Wp X A (do rule "assign.swapped-stores"; let items ← unpackItems (.ref h1.objs.size) 2 none; assignInOrder [bindName env y, bindName env x] items.reverse; Pure.pure Flow.next) _ _
  refine Wp.bind (Wp.rule (Wp.bind ?_))
  intro tk
  refine unpackItems_tuple (s := X.at (h1.push { cls := .type "tuple", data := .seq [u', v'].toArray }) tk) (items := #[u', v']) rm.handled ⟨_, Heap.get?_push_size _ rfl, rfl, _, rfl⟩ fun h' he => ?_
  have st2 : Step X.K X.hb (h1.push { cls := .type "tuple", data := .seq [u', v'].toArray }) H1 h' H1 [] := Step.grow st1.good fun b o e => he b o (Nat.ne_of_lt (Heap.lt_size e)) e
  refine ⟨h', tk, ?_⟩
  show Wp X A (do (do holding [u'] (bindName env y v'); holding [] (bindName env x u'); Pure.pure ()); Pure.pure Flow.next) _ _
  refine Wp.bind (Wp.bind (Wp.holding (W_bind ((F1.step st1).step st2) inj st2.good hy hky rv fun h3 s3 F3 => ?_)))
  refine Wp.bind (Wp.holding (W_bind F3 inj s3.good hx hkx ru fun h4 s4 F4 => ?_))
  refine Wp.pure (Wp.pure ⟨.nxt, _, H1, rfl, q, (((st1.trans st2).any).trans s3).trans s4, ?_⟩)
  rw [List.set_comm _ _ hij]
  exact F4
noncomputable def locAt (sc : Sc) (x : Str) (i : Nat) : Bool := sc.vars.lookup x == some i && sc.names.lookup x == some .local
theorem locAt_ok {sc : Sc} {x : Str} {i : Nat} (h : locAt sc x i = true) : sc.vars.lookup x = some i ∧ sc.names.lookup x = some .local := ⟨eq_of_beq (and_of h).1, eq_of_beq (and_of h).2⟩
noncomputable def tgtOk (sc : Sc) (ts : List Nat) (target : Expr) : Bool := match ts with
  | [] => false
  | i :: r => (match r with
    | [] => tName target fun x _ => locAt sc x i
    | j :: r => r.isEmpty && tTuple target fun us _ _ => k2 us fun u v => tName u fun x _ => tName v fun y _ => locAt sc x i && locAt sc y j)
inductive TgtC (sc : Sc) : List Nat → Expr → Prop
  | one (i : Nat) (x : Str) (p : Pos) (h : locAt sc x i = true) : TgtC sc [i] (.Name x p)
  | two (i j : Nat) (x y : Str) (p p' : Pos) (k : Nat) (q : Pos) (h : locAt sc x i = true) (h' : locAt sc y j = true) : TgtC sc [i, j] (.Tuple [.Name x p, .Name y p'] k q)
theorem tgt_of {ts : List Nat} {target : Expr} (ok : tgtOk sc ts target = true) : TgtC sc ts target := by
  cases ts with
  | nil => cases ok
  | cons i r => cases r with
    | nil => exact tof_Name ok fun x p h => .one i x p h
    | cons j r =>
      refine and_e ok fun h1 ok => ?_
      exact nil_e (C := fun r => TgtC sc (i :: j :: r) target) h1 <| tof_Tuple ok fun us k q ok => of_2 (C := fun us => TgtC sc [i, j] (.Tuple us k q)) ok fun u v ok => tof_Name (C := fun u => TgtC sc [i, j] (.Tuple [u, v] k q)) ok fun x p ok => tof_Name (C := fun v => TgtC sc [i, j] (.Tuple [.Name x p, v] k q)) ok fun y p' ok => and_e ok fun h h' => .two i j x y p p' k q h h'
theorem pair_some {i j : Nat} {ρ ρ' : Env'} {vs : List V} (e : pairT i j ρ vs = some ρ') : ∃ x y, vs = [x, y] ∧ ρ' = (ρ.set i (some x)).set j (some y) := by
  cases vs with
  | nil => cases e
  | cons x r => cases r with
    | nil => cases e
    | cons y r => cases r with
      | nil => cases e; exact ⟨x, y, rfl, rfl⟩
      | cons => cases e
inductive BindC (H : Hp) (v : V) (ρ : Env') : List Nat → Env' → Prop
  | one (i : Nat) : BindC H v ρ [i] (ρ.set i (some v))
  | two (i j : Nat) (x y : V) (e : tupOf H v = some [x, y]) : BindC H v ρ [i, j] ((ρ.set i (some x)).set j (some y))
theorem bind_of {ts : List Nat} {v : V} {ρ' : Env'} (hb : bindT H ts v ρ = some ρ') : BindC H v ρ ts ρ' := by
  cases ts with
  | nil => cases hb
  | cons i r => cases r with
    | nil => cases hb; exact .one i
    | cons j r => cases r with
      | nil =>
        obtain ⟨vs, e, hb⟩ := Option.bind_eq_some_iff.mp (show (tupOf H v).bind (pairT i j ρ) = some ρ' from hb)
        obtain ⟨x, y, rfl, rfl⟩ := pair_some hb
        exact .two i j x y e
      | cons => cases hb
theorem W_target {n : Nat} (rm : Room A n) (inj : Inj sc) (g : Good X.K X.hb h H) (F : FrameOk X sc env h ρ H) {ts : List Nat} {target : Expr} (ok : tgtOk sc ts target = true) {v : V} {v' : Value} (rv : VR v v') {ρ' : Env'} (hb : bindT H ts v ρ = some ρ') {Q : Unit → Heap → Prop}
    (q : ∀ h', Step X.K X.hb h H h' H [env.locals] → FrameOk X sc env h' ρ' H → Q () h') : Wp X A (assign target env v') Q h := by
  cases tgt_of ok with
  | one i x p h1 =>
    cases bind_of hb
    exact Wp.bind (Wp.standAt (W_bind F inj g (locAt_ok h1).1 (locAt_ok h1).2 rv q))
  | two i j x y p p' k pos h1 h2 =>
    cases bind_of hb with
    | two i j a b et =>
      obtain ⟨tp, rfl, ea⟩ := tupOf_some et
      cases rv
      obtain ⟨is, nn, f, r⟩ := g.tup ea
      exact W_unpack2 rm inj g F f r (locAt_ok h1).1 (locAt_ok h1).2 (locAt_ok h2).1 (locAt_ok h2).2 q
theorem tgt_go {sc : Sc} {ts : List Nat} {target : Expr} (ok : tgtOk sc ts target = true) : isName target = true ∨ ts.length = 2 := by
  cases tgt_of ok with
  | one => exact .inl rfl
  | two => exact .inr rfl
end
end Mine
namespace Mine
section
variable {X : Fix} {A : Around} {sc : Sc} {env : Env} {h : Heap} {ρ : Env'} {H : Hp}
noncomputable def IterOk (X : Fix) (A : Around) (x' : Value) (h1 : Heap) (live : Option Addr) (whole : List V) : Prop := ∀ tk (PP : Value → Shared → Prop),
  (∀ it h2 tk2 St, h1.get? it = none → (∀ b o, h1.get? b = some o → h2.get? b = some o) → Run X A it live whole St → St 0 h2 → PP (.ref it) (X.at h2 tk2)) → wpAny X.M A (pyIter x') PP (fun _ _ => False) (X.at h1 tk)
theorem IterOk.src {n : Nat} (rm : Room A n) (g : Good X.K X.hb h H) {v : V} {v' : Value} {whole : List V} {live : Option Addr} (rv : VR v v') (e : srcV H v = some (whole, live)) : IterOk X A v' h live whole := by
  intro tk PP hP
  cases v with
  | str s =>
    cases e
    obtain ⟨t, rfl⟩ := rv
    have there : ∀ {id : String} (i : Nat) (h' : Heap), h'.IsStrIter h.objs.size id s t i → ∃ o, h'.get? h.objs.size = some o := fun i h' st => let ⟨o, ho, _⟩ := st; ⟨o, ho⟩
    cases ha : s.cps.all (· < 128)
    · exact wpAny_pyIter_wide (s := X.at h tk) ha (hP _ (h.push _) tk _ (get_size h) (push_keeps _) (Run.str (Walks.strWide rm.handled _ s t) there) ⟨_, Heap.get?_push_size _ rfl, rfl, rfl⟩)
    · exact wpAny_pyIter_ascii (s := X.at h tk) ha (hP _ (h.push _) tk _ (get_size h) (push_keeps _) (Run.str (Walks.strAscii rm.handled _ s t) there) ⟨_, Heap.get?_push_size _ rfl, rfl, rfl⟩)
  | ref a =>
    have e : srcO a (H a) = some (whole, live) := e
    cases ea : H a with
    | none => rw [ea] at e; cases e
    | some o =>
      rw [ea] at e
      cases o with
      | lst vs =>
        cases e
        cases rv
        obtain ⟨is, nn, f, r⟩ := g.lst ea
        exact wpAny_pyIter_list (s := X.at h tk) (isList_of f) (hP _ (h.push { cls := .type "list_iterator", data := .fields #[.ref a, .int 0 0] }) tk _ (get_size h) (push_keeps _) (Run.list rm) ⟨_, Heap.get?_push_size _ rfl, rfl, rfl⟩)
      | _ => cases e
  | _ => cases e
theorem IterOk.range {n : Nat} (rm : Room A n) {r : Addr} {j k : Int} {t u v : Tok} (hr : IsRange h r j k 1 t u v) (hj : 0 ≤ j) (hj' : j < 2 ^ 24) (hk : 0 ≤ k) (hk' : k < 2 ^ 24) : IterOk X A (.ref r) h none (rangeL j k) := by
  intro tk PP hP
  have e : Builtin.Range.rangeSize j k 1 = (((k - j).toNat : Nat) : Int) := by rw [rangeSize_one]; split <;> omega
  refine wpAny_pyIter_range (s := X.at h tk) hr (small_one (by omega) (by omega) (by omega) (by omega)) ?_
  rw [e]
  refine hP _ (h.push _) tk _ (get_size h) (push_keeps _) (Run.range rm) ?_
  show IsRangeIter _ _ (j + ((0 : Nat) : Int)) ((((k - j).toNat : Nat) : Int) - ((0 : Nat) : Int)) 1
  rw [show j + ((0 : Nat) : Int) = j by omega, show (((k - j).toNat : Nat) : Int) - ((0 : Nat) : Int) = (((k - j).toNat : Nat) : Int) by omega]
  exact Heap.get?_push_size _ rfl
theorem W_range1 {k : Int} {v' : Value} (rv : VR (.int k) v') {Q : Value → Heap → Prop} (q : ∀ r h' t u v, IsRange h' r 0 k 1 t u v → (∀ b o, h.get? b = some o → h'.get? b = some o) → Q (.ref r) h') : Wp X A (call (.type "range") [v']) Q h := by
  obtain ⟨t, rfl⟩ := rv
  exact fun tk => call_range_1 (s := X.at h tk) ⟨_, _, q _ _ _ _ _ (IsRange.new h 0 k 1 tk t (tk + 1)) (push_keeps _)⟩
theorem W_range2 {j k : Int} {u' v' : Value} (ru : VR (.int j) u') (rv : VR (.int k) v') {Q : Value → Heap → Prop} (q : ∀ r h' t u v, IsRange h' r j k 1 t u v → (∀ b o, h.get? b = some o → h'.get? b = some o) → Q (.ref r) h') : Wp X A (call (.type "range") [u', v']) Q h := by
  obtain ⟨t, rfl⟩ := ru
  obtain ⟨u, rfl⟩ := rv
  exact fun tk => call_range_2 (s := X.at h tk) ⟨_, _, q _ _ _ _ _ (IsRange.new h j k 1 t u tk) (push_keeps _)⟩
theorem ext_step (g : Good X.K X.hb h H) {it : Addr} {h' : Heap} {own : List Addr} (hs : Heap.ExtBut it h h') (ha : H it = none) (hna : X.hb.get? it = none) (hal : ∃ o, h'.get? it = some o) (ho : it ∈ own) : Step X.K X.hb h H h' H own := Step.outside g hs ha hna hal ho
noncomputable def FrameHas (sc : Sc) (env : Env) (a : Addr) : Prop := a = env.locals ∨ ∃ x i k, sc.vars.lookup x = some i ∧ sc.names.lookup x = some k ∧ (k = .cell ∨ k = .free) ∧ env.cells.lookup x = some a
theorem FrameOk.has (F : FrameOk X sc env h ρ H) {a : Addr} (e : h.get? a = none) : ¬ FrameHas sc env a := by
  rintro (rfl | ⟨x, i, k, e1, e2, e3, e4⟩)
  · obtain ⟨m, ⟨o, _, _, ho, _⟩, _⟩ := F.ns
    rw [e] at ho; cases ho
  · obtain ⟨c, o, w, f1, f2, _⟩ := F.cells x i k e1 e2 e3
    rw [e4] at f1; cases f1
    rw [e] at f2; cases f2
theorem FrameOk.stepOff {own : List Addr} (F : FrameOk X sc env h ρ H) {h' : Heap} {H' : Hp} (s : Step X.K X.hb h H h' H' own) (hn : ∀ a ∈ own, ¬ FrameHas sc env a) : FrameOk X sc env h' ρ H' := by
  obtain ⟨m, ⟨o, es, ep, ho, hm0⟩, hm⟩ := F.ns
  refine ⟨F.kind, F.names, F.globals, F.builtins, s.out ho F.out, F.new, ⟨m, ⟨o, es, ep, s.keeps _ _ ho F.out fun q => hn _ q (.inl rfl), hm0⟩, hm⟩, fun x i k e1 e2 e3 => ?_⟩
  obtain ⟨c, o, w, f1, f2, f3, f4, f5, f6, f7⟩ := F.cells x i k e1 e2 e3
  exact ⟨c, o, w, f1, s.keeps _ _ f2 f4 fun q => hn _ q (.inr ⟨x, i, k, e1, e2, e3, f1⟩), f3, s.out f2 f4, f5, f6, f7⟩
theorem Good.nbase (g : Good X.K X.hb h H) {a : Addr} (e : h.get? a = none) : X.hb.get? a = none := by
  cases z : X.hb.get? a with
  | none => rfl
  | some o => rw [g.base _ _ z] at e; cases e
theorem FrameOk.ext (F : FrameOk X sc env h ρ H) {it : Addr} {h' : Heap} (k : Heap.ExtBut it h h') (hn : ¬ FrameHas sc env it) : FrameOk X sc env h' ρ H := by
  obtain ⟨m, ⟨o, es, ep, ho, hm0⟩, hm⟩ := F.ns
  refine ⟨F.kind, F.names, F.globals, F.builtins, F.out, F.new, ⟨m, ⟨o, es, ep, k _ _ (fun q => hn (.inl q.symm)) ho, hm0⟩, hm⟩, fun x i k' e1 e2 e3 => ?_⟩
  obtain ⟨c, o, w, f1, f2, f3, f4, f5, f6, f7⟩ := F.cells x i k' e1 e2 e3
  exact ⟨c, o, w, f1, k _ _ (fun q => hn (.inr ⟨x, i, k', e1, e2, e3, q ▸ f1⟩)) f2, f3, f4, f5, f6, f7⟩
theorem Step.endIt {K : Frag} {hb h h1 h2 : Heap} {H H1 : Hp} {own : List Addr} {it : Addr} (s : Step K hb h H h1 H1 (it :: own)) (hn : h.get? it = none) (k : Heap.ExtBut it h1 h2) (ha : H1 it = none) (hna : hb.get? it = none) : Step K hb h H h2 H1 own := by
  have ne : ∀ b o, H1 b = some o → b ≠ it := fun b o e q => by rw [q, ha] at e; cases e
  have neb : ∀ b o, h.get? b = some o → b ≠ it := fun b o e q => by rw [q, hn] at e; cases e
  refine ⟨⟨fun b o e => k b o (fun q => by rw [q, hna] at e; cases e) (s.good.base b o e), fun c o e => ⟨(s.good.real c o e).1, (s.good.real c o e).2.keeps (fun b ob e' hc => k b ob ?_ e') fun _ e => e⟩⟩,
    fun b o e n ho => k b o (neb b o e) (s.keeps b o e n fun q => ?_), fun b o e => ?_, s.fresh⟩
  · rcases hc with rfl | hc
    · exact ne _ _ e
    · exact ne _ _ hc
  · rcases List.mem_cons.mp q with q | q
    · exact neb b o e q
    · exact ho q
  · obtain ⟨o', e'⟩ := s.alive b o e
    exact ⟨o', k b o' (neb b o e) e'⟩
inductive ForI (X : Fix) (A : Around) (sc : Sc) (env : Env) (ts : List Nat) (bd : Env' → PF → Hp → Prop) (it : Addr) (live : Option Addr) (whole : List V) (St : Nat → Heap → Prop) (h0 : Heap) (H0 : Hp) (Q : PF) (k : Nat) : Shared → Prop
  | mk (i : Nat) (h : Heap) (tk : Nat) (ρ : Env') (H : Hp) (hk : k = whole.length - i) (hi : i ≤ whole.length) (hit : H it = none) (F : FrameOk X sc env h ρ H) (s : Step X.K X.hb h0 H0 h H [it, env.locals]) (st : St i h) (kf : exFor (kStep ts bd) live whole (whole.drop i) Q ρ H) : ForI X A sc env ts bd it live whole St h0 H0 Q k (X.at h tk)
theorem off_env {it : Addr} (hfr : ¬ FrameHas sc env it) : it ∉ [env.locals] := fun h => hfr (.inl (List.mem_singleton.mp h))
theorem S_ForCore {n : Nat} (rm : Room A n) (inj : Inj sc) {ts : List Nat} {target : Expr} (tok : tgtOk sc ts target = true) {body : List Stmt} {bd : Env' → PF → Hp → Prop}
    (B : ∀ h H ρ R, Good X.K X.hb h H → FrameOk X sc env h ρ H → bd ρ R H → SW X A sc env (execs body env) R h H)
    {it : Addr} {live : Option Addr} {whole : List V} {St : Nat → Heap → Prop} (Rn : Run X A it live whole St) (hgo : isName target = true ∨ live.isSome = true ∨ whole = []) (hit : H it = none) (hnb : X.hb.get? it = none) (hfr : ¬ FrameHas sc env it)
    {h0 : Heap} {H0 : Hp} (s0 : Step X.K X.hb h0 H0 h H [it, env.locals]) (h0n : h0.get? it = none)
    (F : FrameOk X sc env h ρ H) (st : St 0 h) {Q : PF} (k : exFor (kStep ts bd) live whole whole Q ρ H) {tk : Nat} {RR : Result → Shared → Prop}
    (hR : ∀ fl ρ' h' H' f' tk', FlR fl f' → Q fl ρ' H' → Step X.K X.hb h0 H0 h' H' [env.locals] → FrameOk X sc env h' ρ' H' → RR (.ok f') (X.at h' tk')) : codeAny X.M A (.forLoop target (.ref it) body [] env) RR (X.at h tk) := by
  refine codeAny_forLoop_any (ForI X A sc env ts bd it live whole St h0 H0 Q) (fun k s hI => ?_) whole.length ⟨0, h, tk, ρ, H, rfl, Nat.zero_le _, hit, F, s0, st, k⟩
  cases hI with
  | mk i h1 tk1 ρ1 H1 hk hi hit1 F1 s1 st1 k1 =>
  have hne := off_env hfr
  have g1 := s1.good
  rcases Nat.lt_or_ge i whole.length with hlt | hge
  · rw [List.drop_eq_getElem_cons hlt] at k1
    obtain ⟨hst, kb⟩ := k1
    obtain ⟨ρ2, hb, kb⟩ := kStep_ex kb
    refine Rn.item i _ h1 H1 tk1 _ _ (List.getElem?_eq_getElem hlt) g1 hst st1 fun v' h2 tk2 rv st2 hs2 => ?_
    obtain ⟨o2, ho2⟩ := Rn.there _ _ st2
    have s2 : Step X.K X.hb h1 H1 h2 H1 [it] := ext_step g1 hs2 hit1 hnb ⟨o2, ho2⟩ (.head _)
    have F2 := F1.stepOff s2 fun a ha => List.mem_singleton.mp ha ▸ hfr
    refine Rn.go (i + 1) h2 tk2 target v' _ _ (hgo.imp_right fun q => q.resolve_right fun e => absurd (e ▸ hlt) (Nat.not_lt_zero _)) st2 ?_
    refine wpAny_mono (W_target (Q := fun _ h3 => Step X.K X.hb h2 H1 h3 H1 [env.locals] ∧ FrameOk X sc env h3 ρ2 H1) rm inj s2.good F2 tok rv hb (fun h3 s3 F3 => ⟨s3, F3⟩) tk2) (fun _ s₃ hs => ?_) fun _ _ z => z.elim
    obtain ⟨h3, tk3, s3, F3⟩ := hs
    refine wpAny_mono (B h3 H1 ρ2 _ s3.good F3 kb tk3) (fun f' s₄ hs => ?_) fun _ _ z => z.elim
    obtain ⟨h4, tk4, fl, ρ4, H4, rf, q4, s4, F4⟩ := hs
    have ho3 := s3.keeps _ _ ho2 hit1 hne
    have up : ∀ b ∈ [env.locals], b ∈ [it, env.locals] := fun b hb => .tail _ hb
    have sAll := ((s1.trans (s2.mono fun b hb => List.mem_singleton.mp hb ▸ .head _)).trans (s3.mono up)).trans (s4.mono up)
    cases fl with
    | nxt =>
      cases rf
      exact ⟨whole.length - (i + 1), hk ▸ Nat.sub_lt_sub_left hlt (Nat.lt_succ_self i), .mk (i + 1) h4 tk4 ρ4 H4 rfl hlt (s4.out ho3 hit1) F4 sAll (Rn.frame _ _ _ st2 fun o e => s4.keeps _ _ (s3.keeps _ _ e hit1 hne) hit1 hne) q4⟩
    | ret v0 =>
      obtain ⟨v0', rfl, rv0⟩ := rf
      exact hR (.ret v0) ρ4 h4 H4 (.ret v0') tk4 ⟨v0', rfl, rv0⟩ q4 (sAll.endIt h0n (fun _ _ _ e => e) (s4.out ho3 hit1) hnb) F4
  · cases Nat.le_antisymm hi hge
    rw [List.drop_length] at k1
    exact Rn.done h1 H1 tk1 _ _ g1 k1.1 st1 fun h2 tk2 hs2 => wpAny_pure (hR .nxt ρ1 h2 H1 .next tk2 rfl k1.2 (s1.endIt h0n hs2 hit1 hnb) (F1.ext hs2 hfr))
inductive SrcOk (X : Fix) (A : Around) (target : Expr) (h : Heap) (H : Hp) (body : Option Addr → List V → Hp → Prop) (x' : Value) (h1 : Heap) : Prop
  | mk (H1 : Hp) (live : Option Addr) (whole : List V) (s : Step X.K X.hb h H h1 H1 []) (it : IterOk X A x' h1 live whole) (go : isName target = true ∨ live.isSome = true ∨ whole = []) (k : body live whole H1)
theorem S_For {n : Nat} (rm : Room A n) (inj : Inj sc) {ts : List Nat} {target iter : Expr} (tok : tgtOk sc ts target = true) (hns : notSet iter = true) {body : List Stmt} {pos : Pos} {bd : Env' → PF → Hp → Prop}
    (B : ∀ h H ρ R, Good X.K X.hb h H → FrameOk X sc env h ρ H → bd ρ R H → SW X A sc env (execs body env) R h H) (F : FrameOk X sc env h ρ H) {Q : Fl → Env' → Hp → Prop}
    (k : Wp X A (eval iter env) (SrcOk X A target h H fun live whole H => exFor (kStep ts bd) live whole whole Q ρ H) h) : SW X A sc env (exec (.For target iter body [] pos) env) Q h H := by
  intro tk
  refine wpAny_For (wpAny_mono (k tk) (fun x' s₁ hs => ?_) fun _ _ z => z) fun x => by cases iter <;> first | rfl | cases hns
  obtain ⟨h1, tk1, H1, live, whole, s1, hio, hgo, kf⟩ := hs
  refine hio tk1 _ fun it h2 tk2 St hnew hk Rn st => ?_
  have F1 := F.step s1
  have s2 : Step X.K X.hb h1 H1 h2 H1 [] := Step.grow s1.good hk
  have hn : h.get? it = none := by
    cases z : h.get? it with
    | none => rfl
    | some o => obtain ⟨o', e'⟩ := s1.alive _ _ z; rw [hnew] at e'; cases e'
  refine S_ForCore rm inj tok B Rn hgo (s1.good.fresh hnew) (s1.good.nbase hnew) (F1.has hnew) (s1.any.trans s2.any) hn (F1.step s2) st kf fun fl ρ' h' H' f' tk' rf q s3 F3 => ?_
  exact ⟨h', tk', fl, ρ', H', rf, q, s3, F3⟩
end
end Mine
namespace Mine
noncomputable def compNames (sc : Sc) (scope : Scope) : List (Str × NameKind) := scope.names.map fun (n, k) => if (k == .free && sc.names.lookup n == some .cell) then (n, .cell) else (n, k)
noncomputable def tgtVars : List Nat → Expr → List (Str × Nat)
  | [i], .Name x _ => [(x, i)]
  | [i, j], .Tuple [.Name x _, .Name y _] _ _ => [(x, i), (y, j)]
  | _, _ => []
noncomputable def compVars (sc : Sc) (scope : Scope) (ts : List Nat) (target : Expr) : List (Str × Nat) := tgtVars ts target ++ sc.vars.filter fun (n, i) => scope.names.lookup n == some .free && !(ts.contains i)
noncomputable def compSc (sc : Sc) (scope : Scope) (ts : List Nat) (target : Expr) : Sc := ⟨compNames sc scope, compVars sc scope ts target⟩
noncomputable def injB (l : List (Str × Nat)) : Bool := l.all fun p => l.all fun q => !(p.2 == q.2) || p.1 == q.1
theorem lookup_mem {α β : Type} [BEq α] [LawfulBEq α] : ∀ {l : List (α × β)} {x : α} {y : β}, l.lookup x = some y → (x, y) ∈ l
  | (a, b) :: l, x, y, h => by
    rw [List.lookup_cons] at h
    by_cases q : x = a
    · subst q; rw [beq_self_eq_true] at h; cases h; exact .head _
    · rw [show (x == a) = false by simpa using q] at h; exact .tail _ (lookup_mem h)
  | [], _, _, h => by simp at h
theorem injB_ok {sc : Sc} (e : injB sc.vars = true) : Inj sc := by
  intro x y i h1 h2
  unfold injB at e
  rw [List.all_eq_true] at e
  have := List.all_eq_true.mp (e _ (lookup_mem h1)) _ (lookup_mem h2)
  simpa using this
noncomputable def compOk (sc : Sc) (scope : Scope) (ts : List Nat) (target : Expr) : Bool :=
  scope.kind == .function && (injB (compVars sc scope ts target) &&
  (scope.names.all (fun p => p.2 != .cell && ((p.2 != .local || (scope.names.lookup p.1 == some .local && (((tgtVars ts target).lookup p.1).isSome || ((compVars sc scope ts target).lookup p.1).isNone))) &&
    (p.2 != .free || (sc.names.lookup p.1 == some .cell && ((sc.vars.lookup p.1).isSome && (compVars sc scope ts target).lookup p.1 == sc.vars.lookup p.1))))) &&
  (tgtVars ts target).all (fun p => ts.contains p.2)))
structure CompK (sc : Sc) (scope : Scope) (ts : List Nat) (target : Expr) : Prop where
  kind : scope.kind = .function
  inj : injB (compVars sc scope ts target) = true
  cell : ∀ p ∈ scope.names, p.2 ≠ .cell
  loc : ∀ p ∈ scope.names, p.2 = .local → scope.names.lookup p.1 = some .local ∧ (((tgtVars ts target).lookup p.1).isSome = true ∨ ((compVars sc scope ts target).lookup p.1).isNone = true)
  free : ∀ p ∈ scope.names, p.2 = .free → sc.names.lookup p.1 = some .cell ∧ (sc.vars.lookup p.1).isSome = true ∧ (compVars sc scope ts target).lookup p.1 = sc.vars.lookup p.1
  tgt : ∀ p ∈ tgtVars ts target, ts.contains p.2 = true
theorem or_ne {k l : NameKind} {b : Bool} (h : (k != l || b) = true) (e : k = l) : b = true := (Bool.or_eq_true_iff.mp h).resolve_left fun q => bne_iff_ne.mp q e
theorem compK {sc : Sc} {scope : Scope} {ts : List Nat} {target : Expr} (ok : compOk sc scope ts target = true) : CompK sc scope ts target :=
  and_e ok fun h1 ok => and_e ok fun h2 ok => and_e ok fun h3 h4 => ⟨eq_of_beq h1, h2, fun p hp => bne_iff_ne.mp (and_of (List.all_eq_true.mp h3 p hp)).1,
    fun p hp e => and_e (or_ne (and_of (and_of (List.all_eq_true.mp h3 p hp)).2).1 e) fun a b => ⟨eq_of_beq a, Bool.or_eq_true_iff.mp b⟩,
    fun p hp e => and_e (or_ne (and_of (and_of (List.all_eq_true.mp h3 p hp)).2).2 e) fun a b => and_e b fun b c => ⟨eq_of_beq a, b, eq_of_beq c⟩, List.all_eq_true.mp h4⟩
noncomputable def closL (cells : List (Str × Addr)) : List (Str × NameKind) → List (Str × Addr) → List (Str × Addr)
  | [], acc => acc
  | (n, k) :: r, acc => closL cells r (if k == .free then (n, (cells.lookup n).getD 0) :: acc else acc)
theorem clos_eq {env : Env} {scope : Scope} (h : ∀ p ∈ scope.names, p.2 = .free → (env.cells.lookup p.1).isSome = true) : closureFor scope env = pure (closL env.cells scope.names []) := by
  unfold closureFor
  have key : ∀ (l : List (Str × NameKind)) (acc : List (Str × Addr)), (∀ p ∈ l, p.2 = .free → (env.cells.lookup p.1).isSome = true) →
      (forIn l acc fun (x : Str × NameKind) (cs : List (Str × Addr)) => if (x.2 == NameKind.free) = true then (do let c ← cellOf env x.1; pure (ForInStep.yield ((x.1, c) :: cs)) : Sem _) else pure (ForInStep.yield cs)) = pure (closL env.cells l acc) := by
    intro l
    induction l with
    | nil => intro acc _; rfl
    | cons p r ih =>
      intro acc hp
      obtain ⟨n, k⟩ := p
      rw [List.forIn_cons]
      have ih' := fun acc => ih acc fun p hm => hp p (.tail _ hm)
      by_cases q : k = .free
      · subst q
        obtain ⟨c, hc⟩ := Option.isSome_iff_exists.mp (hp _ (.head _) rfl)
        simp only [beq_self_eq_true, if_true]
        have : cellOf env n = pure c := by unfold cellOf; rw [hc]
        rw [this]
        simp only [pure_bind]
        rw [ih']
        show _ = pure (closL env.cells r (if (NameKind.free == NameKind.free) = true then (n, (List.lookup n env.cells).getD 0) :: acc else acc))
        rw [show List.lookup n env.cells = some c from hc]; rfl
      · have : (k == NameKind.free) = false := by simpa using q
        simp only [this, Bool.false_eq_true, if_false, pure_bind]
        rw [ih']
        conv => rhs; unfold closL
        rw [this]; rfl
  have := key scope.names [] h
  rw [bind_pure]
  exact this
theorem clos_some {cells : List (Str × Addr)} {x : Str} : ∀ {l : List (Str × NameKind)} {acc : List (Str × Addr)}, (acc.lookup x = some ((cells.lookup x).getD 0) ∨ ∃ k, (x, k) ∈ l ∧ k = .free) → (closL cells l acc).lookup x = some ((cells.lookup x).getD 0)
  | [], acc, h => by
    rcases h with h | ⟨k, h, _⟩
    · exact h
    · cases h
  | (n, k) :: r, acc, h => by
    unfold closL
    by_cases q : k = .free
    · subst q
      rw [beq_self_eq_true, if_pos rfl]
      by_cases qn : x = n
      · subst qn
        exact clos_some (.inl (by rw [List.lookup_cons, beq_self_eq_true]))
      · have hb : (x == n) = false := by simpa using qn
        rcases h with h | ⟨k', h, hk⟩
        · exact clos_some (.inl (by rw [List.lookup_cons, hb]; exact h))
        · rcases List.mem_cons.mp h with h | h
          · cases h; exact absurd rfl qn
          · exact clos_some (.inr ⟨k', h, hk⟩)
    · have hb : (k == NameKind.free) = false := by simpa using q
      rw [hb]
      rcases h with h | ⟨k', h, hk⟩
      · exact clos_some (.inl h)
      · rcases List.mem_cons.mp h with h | h
        · cases h; exact absurd hk q
        · exact clos_some (.inr ⟨k', h, hk⟩)
section
variable {X : Fix} {A : Around} {sc : Sc} {env : Env} {h : Heap} {ρ : Env'} {H : Hp}
theorem Step.adopt {K : Frag} {hb h h' : Heap} {H H' : Hp} {own : List Addr} {D : Addr} {o : O} (s : Step K hb h H h' H' own) (hn : h.get? D = none) (hD : H' D = none) (hnb : hb.get? D = none) (r : Real K h' (upd H' D o) D o) : Step K hb h H h' (upd H' D o) own := by
  refine ⟨⟨s.good.base, fun c oc e => ?_⟩, s.keeps, s.alive, fun b ob e n => ?_⟩
  · by_cases q : c = D
    · subst q; rw [upd_self] at e; cases e; exact ⟨.inr hnb, r⟩
    · rw [upd_ne q] at e
      exact ⟨(s.good.real c oc e).1, (s.good.real c oc e).2.keeps (fun _ _ e _ => e) fun d e => upd_ne' e hD⟩
  · by_cases q : b = D
    · subst q; exact hn
    · rw [upd_ne q] at e; exact s.fresh b ob e n
noncomputable abbrev testsOf (ifs : List Expr) (cenv : Env) : Sem Bool := forIn ifs true fun c r => if r = true then do let ok ← isTrue c cenv (eval c cenv); pure (ForInStep.yield ok) else pure (ForInStep.yield r)
noncomputable def clearT (ts : List Nat) (ρ : Env') : Env' := ts.foldl (fun ρ i => ρ.set i none) ρ
theorem set_swap {l : Env'} {i j : Nat} {x y : Option V} : (((l.set i none).set j none).set i x).set j y = (l.set i x).set j y := by
  by_cases h : j = i
  · subst h; rw [List.set_set, List.set_set, List.set_set, List.set_set]
  · rw [List.set_comm _ _ h, List.set_set, List.set_set]
theorem bindT_clear {ts : List Nat} {v : V} {ρ' : Env'} (hb : bindT H ts v ρ = some ρ') : bindT H ts v (clearT ts ρ) = some ρ' := by
  cases bind_of hb with
  | one i => exact congrArg some (List.set_set ..)
  | two i j x y e =>
    show (tupOf H v).bind (pairT i j _) = _
    rw [e]
    exact congrArg some set_swap
theorem set_none {ρ : Env'} {t i : Nat} {w : V} (h : (ρ.set t none)[i]? = some (some w)) : t ≠ i ∧ ρ[i]? = some (some w) := by
  rw [List.getElem?_set] at h
  by_cases q : t = i
  · rw [if_pos q] at h
    by_cases q' : t < ρ.length
    · rw [if_pos q'] at h; cases h
    · rw [if_neg q'] at h; cases h
  · rw [if_neg q] at h; exact ⟨q, h⟩
theorem clear_has {ts : List Nat} : ∀ {ρ : Env'} {i : Nat} {w : V}, (clearT ts ρ)[i]? = some (some w) → i ∉ ts ∧ ρ[i]? = some (some w) := by
  induction ts with
  | nil => intro ρ i w e; exact ⟨List.not_mem_nil, e⟩
  | cons t ts ih =>
    intro ρ i w e
    obtain ⟨h1, h2⟩ := ih (ρ := ρ.set t none) e
    obtain ⟨q, h2⟩ := set_none h2
    exact ⟨fun hm => (List.mem_cons.mp hm).elim (fun e => q e.symm) h1, h2⟩
theorem clear_less {ts : List Nat} {v : V} {ρ' : Env'} (hb : bindT H ts v ρ = some ρ') (k : Nat) (w : V) (e : (clearT ts ρ)[k]? = some (some w)) : ρ'[k]? = some (some w) := by
  obtain ⟨hn, e1⟩ := clear_has e
  cases bind_of hb with
  | one i => rw [List.getElem?_set_ne (show i ≠ k from fun q => hn (List.mem_cons.mpr (.inl q.symm)))]; exact e1
  | two i j x y _ => rw [List.getElem?_set_ne (show j ≠ k from fun q => hn (.tail _ (List.mem_cons.mpr (.inl q.symm)))), List.getElem?_set_ne (show i ≠ k from fun q => hn (List.mem_cons.mpr (.inl q.symm)))]; exact e1
theorem FrameOk.less (F : FrameOk X sc env h ρ H) {ρ' : Env'} (k : ∀ (i : Nat) (w : V), ρ'[i]? = some (some w) → ρ[i]? = some (some w)) : FrameOk X sc env h ρ' H := by
  obtain ⟨m, hn, hm⟩ := F.ns
  refine ⟨F.kind, F.names, F.globals, F.builtins, F.out, F.new, ⟨m, hn, fun x i v e1 e2 e3 => hm x i v e1 e2 (k _ _ e3)⟩, fun x i k' e1 e2 e3 => ?_⟩
  obtain ⟨c, o, w, f1, f2, f3, f4, f5, f6, f7⟩ := F.cells x i k' e1 e2 e3
  exact ⟨c, o, w, f1, f2, f3, f4, f5, f6, fun v e => f7 v (k _ _ e)⟩
end
section
variable {X : Fix} {A : Around} {sc : Sc} {env : Env} {h : Heap} {ρ : Env'} {H : Hp}
inductive CompI (X : Fix) (sc' : Sc) (cenv : Env) (ρ : Env') (ts : List Nat) (tst el : Env' → P1 → Hp → Prop) (it D : Addr) (live : Option Addr) (whole : List V) (St : Nat → Heap → Prop) (h0 : Heap) (H0 : Hp) (Q : List V → Hp → Prop) (k : Nat) : Shared → Prop
  | mk (i : Nat) (h : Heap) (tk : Nat) (H : Hp) (acc : List V) (items : Array Value) (nn : Nat) (hk : k = whole.length - i) (hi : i ≤ whole.length) (hit : H it = none) (hD : H D = none) (hC : H cenv.locals = none) (F : FrameOk X sc' cenv h (clearT ts ρ) H) (s : Step X.K X.hb h0 H0 h H [it, D, cenv.locals]) (st : St i h) (hDo : h.get? D = some (listOf items nn)) (ra : VRs acc items.toList) (kf : evComp (kTurn ts ρ tst el) live whole (whole.drop i) acc Q H) : CompI X sc' cenv ρ ts tst el it D live whole St h0 H0 Q k (X.at h tk)
theorem CompI.next {cenv : Env} {sc' : Sc} {ts : List Nat} {tst el : Env' → P1 → Hp → Prop} {it D : Addr} {live : Option Addr} {whole : List V} {St : Nat → Heap → Prop} {h0 : Heap} {H0 : Hp} {Q : List V → Hp → Prop} {k i : Nat} (hk : k = whole.length - i) (hlt : i < whole.length) {h4 h5 : Heap} {H4 H5 : Hp} {tk5 nn' : Nat} {acc' : List V} {items' : Array Value} {ρ2 : Env'} {v : V}
    (hit4 : H4 it = none) (hD4 : H4 D = none) (hI : ∃ o, h4.get? it = some o) (hDo : ∃ o, h4.get? D = some o) (hDi : D ≠ it) (hb : bindT H ts v ρ = some ρ2) (sAll : Step X.K X.hb h0 H0 h4 H4 [it, D, cenv.locals]) (stA : ∀ {h5 : Heap}, (∀ o, h4.get? it = some o → h5.get? it = some o) → St (i + 1) h5)
    (s5 : Step X.K X.hb h4 H4 h5 H5 [D]) (hD5 : h5.get? D = some (listOf items' nn')) (ra : VRs acc' items'.toList) (F5 : FrameOk X sc' cenv h5 ρ2 H5) (k5 : evComp (kTurn ts ρ tst el) live whole (whole.drop (i + 1)) acc' Q H5) :
    ∃ m, m < k ∧ CompI X sc' cenv ρ ts tst el it D live whole St h0 H0 Q m (X.at h5 tk5) :=
  let ⟨_, hI⟩ := hI
  let ⟨_, hDo⟩ := hDo
  ⟨whole.length - (i + 1), hk ▸ Nat.sub_lt_sub_left hlt (Nat.lt_succ_self i), .mk (i + 1) h5 tk5 H5 acc' items' nn' rfl hlt (s5.out hI hit4) (s5.out hDo hD4) F5.out (F5.less (clear_less hb)) (sAll.trans (s5.mono fun b hb => List.mem_singleton.mp hb ▸ .tail _ (.head _))) (stA fun o e => s5.keeps _ _ e hit4 fun h => hDi (List.mem_singleton.mp h).symm) hD5 ra k5⟩
theorem C_Core {n : Nat} (rm : Room A n) {cenv : Env} {sc' : Sc} (inj : Inj sc') {ts : List Nat} {target iter elt : Expr} {ifs : List Expr} {scope : Scope} {pos : Pos} (tok : tgtOk sc' ts target = true)
    {ρ : Env'} {tst el : Env' → P1 → Hp → Prop}
    (T : ∀ h H ρ R, Good X.K X.hb h H → FrameOk X sc' cenv h ρ H → tst ρ (kB R) H → RT X A (testsOf ifs cenv) R h H)
    (B : ∀ h H ρ P, Good X.K X.hb h H → FrameOk X sc' cenv h ρ H → el ρ P H → R X A (eval elt cenv) P h H)
    {it D : Addr} {live : Option Addr} {whole : List V} {St : Nat → Heap → Prop} (Rn : Run X A it live whole St) (hgo : isName target = true ∨ live.isSome = true ∨ whole = []) (hit : H it = none) (hnb : X.hb.get? it = none) (hfr : ¬ FrameHas sc' cenv it)
    (hD : H D = none) (hDb : X.hb.get? D = none) (hDf : ¬ FrameHas sc' cenv D) (hDi : D ≠ it) (hCi : H cenv.locals = none) {nD : Nat} (hDo : h.get? D = some (listOf #[] nD))
    {h0 : Heap} {H0 : Hp} (s0 : Step X.K X.hb h0 H0 h H [it, D, cenv.locals]) (h0n : h0.get? it = none) (h0D : h0.get? D = none) (h0C : h0.get? cenv.locals = none)
    (F : FrameOk X sc' cenv h (clearT ts ρ) H) (st : St 0 h) {Q : List V → Hp → Prop} (k : evComp (kTurn ts ρ tst el) live whole whole [] Q H) {tk : Nat} {RR : Result → Shared → Prop}
    (hR : ∀ vs h' H' tk' items nn, Q vs H' → Step X.K X.hb h0 H0 h' H' [] → h'.get? D = some (listOf items nn) → VRs vs items.toList → H' D = none → H' cenv.locals = none → (∃ m, h'.Ns cenv.locals m) → RR (.ok .next) (X.at h' tk')) :
    codeAny X.M A (.compLoop (.ListComp elt [⟨target, iter, ifs, 0⟩] scope pos) 0 (.ref it) (.ref D) cenv) RR (X.at h tk) := by
  have hDC' : D ∉ [cenv.locals] := fun h => hDf (.inl (List.mem_singleton.mp h))
  have hIC' : it ∉ [cenv.locals] := fun h => hfr (.inl (List.mem_singleton.mp h))
  refine codeAny_loop rfl (CompI X sc' cenv ρ ts tst el it D live whole St h0 H0 Q) (fun k s hI => ?_) whole.length ⟨0, h, tk, H, [], #[], nD, rfl, Nat.zero_le _, hit, hD, hCi, F, s0, st, hDo, trivial, k⟩
  cases hI with
  | mk i h1 tk1 H1 acc items nn hk hi hit1 hD1 hC1 F1 s1 st1 hDo1 racc k1 =>
  have g1 := s1.good
  refine wpAny_noted ?_
  rw [compTurn_list]
  refine wpAny_bind (wpAny_standAt (wpAny_bind ?_))
  rcases Nat.lt_or_ge i whole.length with hlt | hge
  · rw [List.drop_eq_getElem_cons hlt] at k1
    obtain ⟨hst, hacc, kb⟩ := k1
    obtain ⟨ρ2, hb, kb⟩ := kTurn_ex kb
    refine Rn.item i _ h1 H1 tk1 _ _ (List.getElem?_eq_getElem hlt) g1 hst st1 fun v' h2 tk2 rv st2 hs2 => ?_
    obtain ⟨o2, ho2⟩ := Rn.there _ _ st2
    have s2 : Step X.K X.hb h1 H1 h2 H1 [it] := ext_step g1 hs2 hit1 hnb ⟨o2, ho2⟩ (.head _)
    have F2 := F1.stepOff s2 fun a ha => List.mem_singleton.mp ha ▸ hfr
    refine wpAny_bind (Rn.go (i + 1) h2 tk2 target v' _ _ (hgo.imp_right fun q => q.resolve_right fun e => absurd (e ▸ hlt) (Nat.not_lt_zero _)) st2 ?_)
    refine wpAny_bind (wpAny_mono (W_target (Q := fun _ h3 => Step X.K X.hb h2 H1 h3 H1 [cenv.locals] ∧ FrameOk X sc' cenv h3 ρ2 H1) rm inj s2.good F2 tok rv (bindT_clear hb) (fun h3 s3 F3 => ⟨s3, F3⟩) tk2) (fun _ s₃ hs => ?_) fun _ _ z => z.elim)
    obtain ⟨h3, tk3, s3, F3⟩ := hs
    refine wpAny_bind (wpAny_mono (T h3 H1 ρ2 _ s3.good F3 kb tk3) (fun ok' s₄ hs => ?_) fun _ _ z => z.elim)
    obtain ⟨h4, tk4, ok, H4, rfl, q4, s4⟩ := hs
    have hD3 := s3.keeps _ _ (hs2 D _ hDi hDo1) hD1 hDC'
    have hD4 := s4.keeps _ _ hD3 hD1 List.not_mem_nil
    have hI3 := s3.keeps _ _ ho2 hit1 hIC'
    have hI4 := s4.keeps _ _ hI3 hit1 List.not_mem_nil
    have hit4 := s4.out hI3 hit1
    have hDH4 := s4.out hD3 hD1
    have stA : ∀ {h5 : Heap}, (∀ o, h4.get? it = some o → h5.get? it = some o) → St (i + 1) h5 := fun kk => Rn.frame _ _ _ st2 fun o e => kk _ (s4.keeps _ _ (s3.keeps _ _ e hit1 hIC') hit1 List.not_mem_nil)
    have F4 := F3.step s4
    have sAll : Step X.K X.hb h0 H0 h4 H4 [it, D, cenv.locals] := ((s1.trans (s2.mono fun b hb => List.mem_singleton.mp hb ▸ .head _)).trans (s3.mono fun b hb => .tail _ (.tail _ hb))).trans s4.any
    cases ok with
    | false => exact wpAny_pure ⟨rfl, CompI.next hk hlt hit4 hDH4 ⟨_, hI4⟩ ⟨_, hD4⟩ hDi hb sAll stA (.refl s4.good) hD4 racc F4 q4⟩
    | true =>
      refine wpAny_bind (wpAny_bind (wpAny_mono (B h4 H4 ρ2 _ s4.good F4 q4 tk4) (fun x' s₅ hs => ?_) fun _ _ z => z.elim))
      obtain ⟨h5, tk5, x, H5, rx, q5, s5⟩ := hs
      have hD5 := s5.keeps _ _ hD4 hDH4 List.not_mem_nil
      have hDH5 := s5.out hD4 hDH4
      have hl : items.size ≤ sizeLine := by rw [← Array.length_toList, ← racc.length, sizeLine_eq]; omega
      refine wpAny_bind (append_at (s := X.at h5 tk5) hD5 (fun h6 hs6 he6 => wpAny_pure (wpAny_pure ⟨rfl, ?_⟩)) hl)
      have s6 : Step X.K X.hb h5 H5 h6 H5 [D] := ext_step s5.good hs6.extBut hDH5 hDb ⟨_, he6⟩ (.head _)
      exact CompI.next hk hlt hit4 hDH4 ⟨_, hI4⟩ ⟨_, hD4⟩ hDi hb sAll stA (s5.any.trans s6) he6 (by rw [Array.toList_push]; exact racc.append ⟨rx, trivial⟩) ((F4.step s5).stepOff s6 fun a ha => List.mem_singleton.mp ha ▸ hDf) q5
  · cases Nat.le_antisymm hi hge
    rw [List.drop_length] at k1
    refine Rn.done h1 H1 tk1 _ _ g1 k1.1 st1 fun h2 tk2 hs2 => ?_
    obtain ⟨m, hn, _⟩ := (F1.ext hs2 hfr).ns
    exact wpAny_pure (hR acc h2 H1 tk2 items nn k1.2 ((s1.endIt h0n hs2 hit1 hnb).drop fun a ha => (List.mem_cons.mp ha).elim (fun e => .inr (e ▸ h0D)) fun ha => .inr (List.mem_singleton.mp ha ▸ h0C)) (hs2 D _ hDi hDo1) racc hD1 hC1 ⟨m, hn⟩)
end
end Mine
namespace Mine
theorem lookup_mapK {f : Str → NameKind → NameKind} {x : Str} : ∀ {l : List (Str × NameKind)}, (l.map fun p => (p.1, f p.1 p.2)).lookup x = (l.lookup x).map (f x)
  | [] => rfl
  | (a, b) :: l => by
    rw [List.map_cons, List.lookup_cons, List.lookup_cons]
    by_cases q : x = a
    · subst q; simp
    · have : (x == a) = false := by simpa using q
      simp only [this]; exact lookup_mapK
theorem compNames_eq {sc : Sc} {scope : Scope} : compNames sc scope = scope.names.map fun p => (p.1, if (p.2 == .free && sc.names.lookup p.1 == some .cell) = true then .cell else p.2) := by
  unfold compNames
  apply List.map_congr_left
  rintro ⟨n, k⟩ _
  show (if _ then _ else _) = _
  split <;> rfl
section
variable {X : Fix} {A : Around} {sc : Sc} {env : Env} {h : Heap} {ρ : Env'} {H : Hp}
theorem comp_look {scope : Scope} {x : Str} {k : NameKind} (e : (compNames sc scope).lookup x = some k) : ∃ k0, scope.names.lookup x = some k0 ∧ k = if (k0 == .free && sc.names.lookup x == some .cell) = true then .cell else k0 := by
  rw [compNames_eq, lookup_mapK (f := fun x k => if (k == .free && sc.names.lookup x == some .cell) = true then .cell else k)] at e
  obtain ⟨k0, e1, e2⟩ := Option.map_eq_some_iff.mp e
  exact ⟨k0, e1, e2.symm⟩
theorem comp_cell {scope : Scope} {ts : List Nat} {target : Expr} (ok : CompK sc scope ts target) (F : FrameOk X sc env h ρ H) {x : Str} {i : Nat} {k : NameKind} (e1 : (compVars sc scope ts target).lookup x = some i) (e2 : (compNames sc scope).lookup x = some k) (e3 : k = .cell ∨ k = .free) :
    ∃ c o w, (closL env.cells scope.names []).lookup x = some c ∧ h.get? c = some o ∧ o.data = .cell w ∧ H c = none ∧ X.hb.get? c = none ∧ ∀ v, ρ[i]? = some (some v) → ∃ v', w = some v' ∧ VR v v' := by
  obtain ⟨k0, f1, f2⟩ := comp_look e2
  have hk0 : k0 = .free := by
    cases k0 with
    | free => rfl
    | cell => exact absurd rfl (ok.cell _ (lookup_mem f1))
    | _ => rcases e3 with rfl | rfl <;> cases f2
  subst hk0
  obtain ⟨h3, h4, h5⟩ := ok.free _ (lookup_mem f1) rfl
  obtain ⟨c, o, w, g1, g2, g3, g4, g5, g6, g7⟩ := F.cells x i .cell (h5.symm.trans e1) h3 (.inl rfl)
  refine ⟨c, o, w, ?_, g2, g3, g4, g5, g7⟩
  have := clos_some (cells := env.cells) (x := x) (l := scope.names) (acc := []) (.inr ⟨.free, lookup_mem f1, rfl⟩)
  rw [g1] at this; exact this
theorem comp_frame {scope : Scope} {ts : List Nat} {target : Expr} (ok : CompK sc scope ts target) (F : FrameOk X sc env h ρ H) {C : Addr} {h' : Heap} (kh : ∀ b o, h.get? b = some o → h'.get? b = some o) (hC : h.get? C = none) (hCH : H C = none) (hCb : X.hb.get? C = none)
    (hns : h'.Ns C fun _ => none) : FrameOk X (compSc sc scope ts target) (compEnvC scope (closL env.cells scope.names []) C env) h' (clearT ts ρ) H := by
  have hnames : (relabel scope env).names = compNames sc scope := by
    unfold relabel compNames
    apply List.map_congr_left
    rintro ⟨n, k⟩ _
    have : env.kindOf n = sc.names.lookup n := by unfold Env.kindOf; rw [F.names]
    show (if (k == .free && env.scope.kind == .function && env.kindOf n == some .cell) = true then (n, NameKind.cell) else (n, k)) = if (k == .free && sc.names.lookup n == some .cell) = true then (n, NameKind.cell) else (n, k)
    rw [F.kind, this, show (ScopeKind.function == ScopeKind.function) = true from rfl, Bool.and_true]
  refine ⟨ok.kind, hnames, F.globals, F.builtins, hCH, hCb, ⟨_, hns, fun x i v e1 e2 e3 => ?_⟩, fun x i k e1 e2 e3 => ?_⟩
  · exfalso
    obtain ⟨k0, f1, f2⟩ := comp_look e2
    have hk0 : k0 = .local := by
      cases c : (k0 == .free && sc.names.lookup x == some .cell) with
      | true => rw [c] at f2; cases f2
      | false => rw [c] at f2; exact f2.symm
    subst hk0
    have e1' : (compVars sc scope ts target).lookup x = some i := e1
    obtain ⟨j, hj⟩ := Option.isSome_iff_exists.mp ((ok.loc _ (lookup_mem f1) rfl).2.resolve_right fun z => by
      have z' : ((compVars sc scope ts target).lookup x).isNone = true := z
      rw [e1'] at z'; cases z')
    have : (compVars sc scope ts target).lookup x = some j := by
      unfold compVars; rw [List.lookup_append, hj]; rfl
    rw [this] at e1'; cases e1'
    exact (clear_has e3).1 (List.contains_iff_mem.mp (ok.tgt _ (lookup_mem hj)))
  · obtain ⟨c, o, w, g1, g2, g3, g4, g5, g7⟩ := comp_cell ok F e1 e2 e3
    refine ⟨c, o, w, g1, kh _ _ g2, g3, g4, g5, fun q => ?_, fun v e => g7 v (clear_has e).2⟩
    rw [show c = C from q, hC] at g2; cases g2
theorem C_Comp {n : Nat} (rm : Room A n) {ts : List Nat} {target iter elt : Expr} {ifs : List Expr} {scope : Scope} {pos : Pos} (ok : compOk sc scope ts target = true) (tok : tgtOk (compSc sc scope ts target) ts target = true) (hns : notSet iter = true)
    (F : FrameOk X sc env h ρ H) {tst el : Env' → P1 → Hp → Prop}
    (T : ∀ env' h H ρ P, Good X.K X.hb h H → FrameOk X (compSc sc scope ts target) env' h ρ H → tst ρ (kB P) H → RT X A (testsOf ifs env') P h H)
    (B : ∀ env' h H ρ P, Good X.K X.hb h H → FrameOk X (compSc sc scope ts target) env' h ρ H → el ρ P H → R X A (eval elt env') P h H)
    {Qc : List V → Hp → Prop}
    (k : Wp X A (eval iter env) (SrcOk X A target h H fun live whole H => evComp (kTurn ts ρ tst el) live whole whole [] Qc H) h)
    {use : Option (Value → Sem Unit)} {pp : Pos} {tk : Nat} {Q : Value → Shared → Prop}
    (hP : ∀ D C vs h' H' tk', Qc vs H' → Step X.K X.hb h H h' (upd H' D (.lst vs)) [] → H' D = none → h.get? C = none → upd H' D (.lst vs) C = none → X.hb.get? C = none → C ≠ D → C ≠ env.locals → (∃ m, h'.Ns C m) →
      compPost X.M A (fun _ _ => False) use Q (.ref D) C (.ok .next) (X.at h' tk')) :
    wpAny X.M A (comprehension (.ListComp elt [⟨target, iter, ifs, 0⟩] scope pos) scope env pp (newList []) false (eval iter env) use) Q (fun _ _ => False) (X.at h tk) := by
  have ck := compK ok
  have hclos : closureFor scope env = pure (closL env.cells scope.names []) := by
    refine clos_eq fun p hp hf => ?_
    obtain ⟨h3, h4, _⟩ := ck.free p hp hf
    obtain ⟨i, hi⟩ := Option.isSome_iff_exists.mp h4
    obtain ⟨c, _, _, e, _⟩ := F.cells p.1 i .cell hi h3 (.inl rfl)
    rw [e]; rfl
  refine wpAny_comprehension_free (use := use) rfl (fun x => by cases iter <;> first | rfl | cases hns) hclos ck.kind (fun x hx hl => (ck.loc x hx hl).1) ?_
  refine wpAny_mono (k tk) (fun x' s₁ hs => ?_) fun _ _ z => z
  obtain ⟨h1, tk1, H1, live, whole, s1, hio, hgo, kf⟩ := hs
  have F1 := F.step s1
  refine hio tk1 _ fun it h2 tk2 St hnew hk Rn st => ?_
  refine wpAny_newObj_type (s := X.at h2 tk2) ?_ (by show _ ≤ sizeLine; simp)
  have hDo : (h2.push { cls := .type "list", data := .seq ([] : List Value).toArray }).get? h2.objs.size = some (listOf #[] 0) := Heap.get?_push_size _ rfl
  generalize hh3 : h2.push { cls := .type "list", data := .seq ([] : List Value).toArray } = h3 at *
  have k3 : ∀ b o, h2.get? b = some o → h3.get? b = some o := fun b o e => hh3 ▸ push_keeps _ b o e
  have hsz : h3.objs.size = h2.objs.size + 1 := by rw [← hh3, Heap.size_push]
  refine wpAny_newFunctionEnv (s := X.at h3 tk2) ck.cell (fun x hx => by cases hx) (fun h4 hns4 hsb4 => ?_) ck.kind
  have k4 : ∀ b o, h3.get? b = some o → h4.get? b = some o := fun b o e => hsb4.extBut b o (Nat.ne_of_lt (Heap.lt_size e)) (push_keeps _ b o e)
  show codeAny X.M A (.compStart (.ListComp elt [⟨target, iter, ifs, 0⟩] scope pos) 0 (.ref it) (.ref h2.objs.size) (compEnvC scope (closL env.cells scope.names []) h3.objs.size env)) (compPost X.M A (fun _ _ => False) use Q (.ref h2.objs.size) h3.objs.size) (X.at h4 tk2)
  have hD1 : h1.get? h2.objs.size = none := by
    cases z : h1.get? h2.objs.size with
    | none => rfl
    | some o => exact absurd (Heap.lt_size (hk _ _ z)) (Nat.lt_irrefl _)
  have hC1 : h1.get? h3.objs.size = none := by
    cases z : h1.get? h3.objs.size with
    | none => rfl
    | some o => exact absurd (Heap.lt_size (k3 _ _ (hk _ _ z))) (Nat.lt_irrefl _)
  have s14 : Step X.K X.hb h1 H1 h4 H1 [] := Step.grow s1.good fun b o e => k4 _ _ (k3 _ _ (hk _ _ e))
  have gH := s1.good
  have F4 : FrameOk X (compSc sc scope ts target) (compEnvC scope (closL env.cells scope.names []) h3.objs.size env) h4 (clearT ts ρ) H1 :=
    comp_frame ck F1 (fun b o e => k4 _ _ (k3 _ _ (hk _ _ e))) hC1 (gH.fresh hC1) (gH.nbase hC1) hns4
  have hhas : ∀ a, h1.get? a = none → a ≠ h3.objs.size → ¬ FrameHas (compSc sc scope ts target) (compEnvC scope (closL env.cells scope.names []) h3.objs.size env) a := by
    rintro a ha hne (rfl | ⟨x, i, kk, e1, e2, e3, e4⟩)
    · exact hne rfl
    · obtain ⟨c, o, w, g1, g2, _⟩ := comp_cell ck F1 e1 e2 e3
      have e4 : (closL env.cells scope.names []).lookup x = some a := e4
      rw [e4] at g1; cases g1
      rw [ha] at g2; cases g2
  have hit2 : it < h2.objs.size := by obtain ⟨o, ho⟩ := Rn.there _ _ st; exact Heap.lt_size ho
  have hIC : it ≠ h3.objs.size := Nat.ne_of_lt (by rw [hsz]; exact Nat.lt_succ_of_lt hit2)
  have hDC : h2.objs.size ≠ h3.objs.size := by omega
  have hDI : h2.objs.size ≠ it := Nat.ne_of_gt hit2
  have stA : St 0 h4 := Rn.frame _ _ _ st fun o e => k4 _ _ (k3 _ _ e)
  have loop : codeAny X.M A (.compLoop (.ListComp elt [⟨target, iter, ifs, 0⟩] scope pos) 0 (.ref it) (.ref h2.objs.size) (compEnvC scope (closL env.cells scope.names []) h3.objs.size env)) (compPost X.M A (fun _ _ => False) use Q (.ref h2.objs.size) h3.objs.size) (X.at h4 tk2) := by
    refine C_Core rm (injB_ok ck.inj) tok (T _) (B _) Rn hgo (gH.fresh hnew) (gH.nbase hnew) (hhas _ hnew hIC) (gH.fresh hD1) (gH.nbase hD1) (hhas _ hD1 hDC) hDI (gH.fresh hC1) (k4 _ _ hDo) s14.any hnew hD1 hC1 F4 stA kf ?_
    intro vs h' H' tk' items nn q s5 hDo' rv hDn hCn hm
    refine hP h2.objs.size h3.objs.size vs h' H' tk' q (Step.adopt (s1.trans s5) ?_ hDn (gH.nbase hD1) ⟨items, nn, hDo', rv⟩) hDn ?_ ?_ (gH.nbase hC1) (Ne.symm hDC) ?_ hm
    · cases z : h.get? h2.objs.size with
      | none => rfl
      | some o => obtain ⟨o', e'⟩ := s1.alive _ _ z; rw [hD1] at e'; cases e'
    · cases z : h.get? h3.objs.size with
      | none => rfl
      | some o => obtain ⟨o', e'⟩ := s1.alive _ _ z; rw [hC1] at e'; cases e'
    · have hCn : H' h3.objs.size = none := hCn
      rw [upd_ne (Ne.symm hDC)]; exact hCn
    · rintro e
      exact F1.has hC1 (.inl e)
  exact codeAny_compStart_list loop (wpAny_mono (Rn.self 0 h4 tk2 (fun it' s' => it' = .ref it ∧ s' = X.at h4 tk2) (fun _ _ => False) stA ⟨rfl, rfl⟩) (fun it' s' ⟨e1, e2⟩ => by subst e1 e2; exact loop) fun _ _ z => z.elim)
theorem R_Comp {n : Nat} (rm : Room A n) {ts : List Nat} {target iter elt : Expr} {ifs : List Expr} {scope : Scope} {pos : Pos} (ok : compOk sc scope ts target = true) (tok : tgtOk (compSc sc scope ts target) ts target = true) (hns : notSet iter = true)
    (F : FrameOk X sc env h ρ H) {tst el : Env' → P1 → Hp → Prop}
    (T : ∀ env' h H ρ P, Good X.K X.hb h H → FrameOk X (compSc sc scope ts target) env' h ρ H → tst ρ (kB P) H → RT X A (testsOf ifs env') P h H)
    (B : ∀ env' h H ρ P, Good X.K X.hb h H → FrameOk X (compSc sc scope ts target) env' h ρ H → el ρ P H → R X A (eval elt env') P h H)
    {Q : V → Hp → Prop}
    (k : Wp X A (eval iter env) (SrcOk X A target h H fun live whole H => evComp (kTurn ts ρ tst el) live whole whole [] (fun vs H => ∀ l, H l = none → Q (.ref l) (upd H l (.lst vs))) H) h) :
    R X A (eval (.ListComp elt [⟨target, iter, ifs, 0⟩] scope pos) env) Q h H := by
  intro tk
  show wpAny _ _ (comprehension (.ListComp elt [⟨target, iter, ifs, 0⟩] scope pos) scope env _ (newList []) false (eval iter env) none) _ _ _
  refine C_Comp rm ok tok hns F T B k fun D C vs h' H' tk' q s hD hC hCn hCb hCD _ hm => ?_
  obtain ⟨m, hm⟩ := hm
  refine ⟨m, hm, fun h'' hs => ?_⟩
  have s' : Step X.K X.hb h H h'' (upd H' D (.lst vs)) [] := Step.endIt (it := C) (s.mono (by simp)) hC hs.extBut hCn hCb
  exact ⟨h'', tk', .ref D, _, rfl, q D hD, s'⟩
theorem S_AssignComp {n : Nat} (rm : Room A n) (inj : Inj sc) {ts : List Nat} {target iter elt : Expr} {ifs : List Expr} {scope : Scope} {pos spos py : Pos} {y : Str} {j : Nat} (ok : compOk sc scope ts target = true) (tok : tgtOk (compSc sc scope ts target) ts target = true) (hns : notSet iter = true)
    (hy : sc.vars.lookup y = some j) (hky : sc.names.lookup y = some .local) (hline : (py.line == pos.line) = true) (hno : (scope.names.any fun (n, k) => n == y && (k == .local || k == .cell)) = false)
    (F : FrameOk X sc env h ρ H) {tst el : Env' → P1 → Hp → Prop}
    (T : ∀ env' h H ρ P, Good X.K X.hb h H → FrameOk X (compSc sc scope ts target) env' h ρ H → tst ρ (kB P) H → RT X A (testsOf ifs env') P h H)
    (B : ∀ env' h H ρ P, Good X.K X.hb h H → FrameOk X (compSc sc scope ts target) env' h ρ H → el ρ P H → R X A (eval elt env') P h H)
    {Q : Fl → Env' → Hp → Prop}
    (k : Wp X A (eval iter env) (SrcOk X A target h H fun live whole H => evComp (kTurn ts ρ tst el) live whole whole [] (fun vs H => ∀ l, H l = none → Q .nxt (ρ.set j (some (.ref l))) (upd H l (.lst vs))) H) h) :
    SW X A sc env (exec (.Assign [.Name y py] (.ListComp elt [⟨target, iter, ifs, 0⟩] scope pos) spos) env) Q h H := by
  have ky : env.kindOf y = some .local := by unfold Env.kindOf; rw [F.names]; exact hky
  have hbk : env.blockKind = ScopeKind.function := by unfold Env.blockKind; rw [F.kind]; rfl
  have hsw : swapsWith (.ListComp elt [⟨target, iter, ifs, 0⟩] scope pos) (some (.Name y py)) spos.line env = Pure.pure true := by
    show (Pure.pure (env.blockKind == .function && env.kindOf y == some .local && py.line == pos.line && !(scope.names.any fun (n, k) => n == y && (k == .local || k == .cell))) : Sem Bool) = _
    rw [hbk, ky, hline, hno]; rfl
  rw [exec_Assign_Name_used _ _ _ _ hsw]
  refine SW.standAt ?_
  intro tk
  refine wpAny_bind ?_
  show wpAny _ _ (do let _ ← comprehension (.ListComp elt [⟨target, iter, ifs, 0⟩] scope pos) scope env _ (newList []) false (eval iter env) (some (assign (.Name y py) env))) _ _ _
  refine wpAny_bind (wpAny_mono (C_Comp (Q := fun _ => WQ X (SQ X sc env Q h H) .next) rm ok tok hns F T B k fun D C vs h' H' tk' q s hD hC hCn hCb hCD hCl hm => ?_) (fun _ s' hq => wpAny_pure (wpAny_pure hq)) fun _ _ z => z)
  obtain ⟨m, hm⟩ := hm
  have key : Wp X A (assign (.Name y py) env (.ref D)) (fun _ h2 => Step X.K X.hb h' (upd H' D (.lst vs)) h2 (upd H' D (.lst vs)) [env.locals] ∧ FrameOk X sc env h2 (ρ.set j (some (.ref D))) (upd H' D (.lst vs))) h' := by
    show Wp X A (do PySem.standAt py; bindName env y (.ref D)) _ _
    exact Wp.bind (Wp.standAt (W_bind (F.step s) inj s.good hy hky (v := .ref D) rfl fun h2 s2 F2 => ⟨s2, F2⟩))
  refine wpAny_mono (key tk') (fun _ s₂ hs => ?_) fun _ _ z => z
  obtain ⟨h2, tk2, s2, F2⟩ := hs
  obtain ⟨o, es, ep, ho, hd⟩ := hm
  have hC2 := s2.keeps _ _ ho hCn (by rw [List.mem_singleton]; exact hCl)
  refine ⟨m, ⟨o, es, ep, hC2, hd⟩, fun h3 hs3 => ?_⟩
  have sA : Step X.K X.hb h H h3 (upd H' D (.lst vs)) [env.locals] := Step.endIt (it := C) ((s.mono (by simp)).trans (s2.mono (by simp))) hC hs3.extBut hCn hCb
  have hnf : ¬ FrameHas sc env C := F.has hC
  exact ⟨h3, tk2, .nxt, _, _, rfl, q D hD, sA, F2.ext hs3.extBut hnf⟩
end
end Mine
namespace Mine
structure Names where
  top : Nat → Option Str
  meth : Nat → Option Str
noncomputable def bltName : List (String × Value) := [("isinstance", .builtin "isinstance"), ("len", .builtin "len"), ("ord", .builtin "ord"), ("str", .type "str"), ("repr", .builtin "repr"), ("list", .type "list"), ("tuple", .type "tuple"), ("dict", .type "dict"), ("max", .builtin "max"), ("min", .builtin "min"), ("range", .type "range"), ("int", .type "int"), ("bool", .type "bool")]
noncomputable def kdName : Kd → Str
  | .int => Str.ofString "int"
  | .bool => Str.ofString "bool"
  | .str => Str.ofString "str"
  | .tuple => Str.ofString "tuple"
  | .arr => Str.ofString "Arr"
  | .rf => Str.ofString "Ref"
  | .absent => Str.ofString "Absent"
  | .obj => Str.ofString "Obj"
noncomputable def topOk (K : Frag) (addr : Nat → Addr) (f : Nat) (x : Str) : Bool := nsIn K mainGlobals x == some (some (.ref (addr f))) && keepIn K (.ref (addr f)) && !(x == ("__debug__" : Str))
noncomputable def methOk (K : Frag) (addr : Nat → Addr) (f : Nat) (x : Str) : Bool := findIn K (.ref (clsAddr K .arr)) x == some (some (.ref (addr f))) && typeIn K (.ref (addr f)) == some (.type "function") && keepIn K (.ref (addr f)) && !(((lay .arr).map fname).contains x)
noncomputable def initOk (K : Frag) (addr : Nat → Addr) (c : Cls) : Bool := findIn K (.ref (clsAddr K c)) "__init__" == some (some (.ref (addr (1000 + fbase c)))) && typeIn K (.ref (addr (1000 + fbase c))) == some (.type "function") && keepIn K (.ref (clsAddr K c))
noncomputable def bltOk (K : Frag) : Bool := bltName.all fun p => nsIn K mainGlobals (Str.ofString p.1) == some none
structure Prg (X : Fix) (D : Defs) (N : Names) : Prop where
  amb : Amb X
  cls : ∀ c, clsOk X.K c = true
  isi : isiOk X.K = true
  obj : nsIn X.K mainGlobals (Str.ofString "Obj") = some (some (.ref (addrOf X.K (Str.ofString "Obj"))))
  blt : bltOk X.K = true
  top : ∀ f x, N.top f = some x → topOk X.K D.addr f x = true
  meth : ∀ f x, N.meth f = some x → methOk X.K D.addr f x = true
  init : ∀ c, initOk X.K D.addr c = true
theorem blt_boot : bltName.all (fun p => bootBuiltins (Str.ofString p.1) == some p.2 && !(Str.ofString p.1 == ("__name__" : Str)) && !(Str.ofString p.1 == ("__debug__" : Str))) = true := by decide +kernel
section
variable {X : Fix} {A : Around} {sc : Sc} {env : Env} {h : Heap} {ρ : Env'} {H : Hp} {D : Defs} {N : Names}
theorem W_blt (P : Prg X D N) (F : FrameOk X sc env h ρ H) (g : Good X.K X.hb h H) {x : String} {v : Value} {kk : Nat} (hm : bltName[kk]? = some (x, v)) {p : Pos} (hk : sc.names.lookup (Str.ofString x) = some .globalImplicit) {Q : Value → Heap → Prop} (q : Q v h) : Wp X A (eval (.Name (Str.ofString x) p) env) Q h := by
  have h1 := List.all_eq_true.mp P.blt _ (List.mem_of_getElem? hm)
  have h2 := List.all_eq_true.mp blt_boot _ (List.mem_of_getElem? hm)
  simp only [Bool.and_eq_true, beq_iff_eq, Bool.not_eq_true', beq_eq_false_iff_ne] at h1 h2
  exact W_builtin P.amb F g hk h1 h2.1.1 h2.1.2 (beq_eq_false_iff_ne.mpr h2.2) q
theorem W_cls (P : Prg X D N) (F : FrameOk X sc env h ρ H) (g : Good X.K X.hb h H) {c : Cls} {p : Pos} (hk : sc.names.lookup (clsName c) = some .globalImplicit) {Q : Value → Heap → Prop} (q : Q (.ref (clsAddr X.K c)) h) : Wp X A (eval (.Name (clsName c) p) env) Q h :=
  W_global P.amb F g hk (clsK (P.cls c)).ns (by cases c <;> decide +kernel) q
theorem W_top (P : Prg X D N) (F : FrameOk X sc env h ρ H) (g : Good X.K X.hb h H) {f : Nat} {x : Str} (hf : N.top f = some x) {p : Pos} (hk : sc.names.lookup x = some .globalImplicit) {Q : Value → Heap → Prop} (q : Q (.ref (D.addr f)) h) : Wp X A (eval (.Name x p) env) Q h := by
  have h1 := P.top f x hf
  simp only [topOk, Bool.and_eq_true, beq_iff_eq, Bool.not_eq_true'] at h1
  exact W_global P.amb F g hk h1.1.1 h1.2 q
theorem W_kd (P : Prg X D N) (F : FrameOk X sc env h ρ H) (g : Good X.K X.hb h H) {k : Kd} {p : Pos} (hk : sc.names.lookup (kdName k) = some .globalImplicit) {Q : Value → Heap → Prop} (q : Q (kdVal X.K k) h) : Wp X A (eval (.Name (kdName k) p) env) Q h := by
  cases k
  · exact W_blt P F g (x := "int") (v := .type "int") (kk := 11) rfl hk q
  · exact W_blt P F g (x := "bool") (v := .type "bool") (kk := 12) rfl hk q
  · exact W_blt P F g (x := "str") (v := .type "str") (kk := 3) rfl hk q
  · exact W_blt P F g (x := "tuple") (v := .type "tuple") (kk := 6) rfl hk q
  · exact W_cls P F g (c := .arr) hk q
  · exact W_cls P F g (c := .rf) hk q
  · exact W_cls P F g (c := .absent) hk q
  · exact W_global P.amb F g hk P.obj (by decide +kernel) q
noncomputable def isBlt : Value → Bool
  | .builtin _ => true
  | .type _ => true
  | _ => false
theorem blt_is : bltName.all (fun p => isBlt p.2) = true := rfl
theorem blt_keeps {x : String} {f : Value} {kk : Nat} (hm : bltName[kk]? = some (x, f)) : ∀ h, X.K.In h → ∃ k, (k = Keeper.frame ∨ k = Keeper.machine ∨ k = Keeper.boundFrame) ∧ Looks X.M h (keeperOf f) k := by
  have h := List.all_eq_true.mp blt_is _ (List.mem_of_getElem? hm)
  cases f with
  | builtin _ => exact keeps_builtin _
  | type _ => exact keeps_type _
  | _ => cases h
theorem R_call1 (P : Prg X D N) (g : Good X.K X.hb h H) (F : FrameOk X sc env h ρ H) {x : String} {f : Value} {kk : Nat} (hm : bltName[kk]? = some (x, f)) (hk : sc.names.lookup (Str.ofString x) = some .globalImplicit) {e : Expr} (he : notStar e = true) {p pos : Pos} {Q : V → Hp → Prop}
    (k : R X A (eval e env) (fun v H1 => ∀ v' h1, VR v v' → Good X.K X.hb h1 H1 → R X A (call f [v'] []) Q h1 H1) h H) : R X A (eval (.Call (.Name (Str.ofString x) p) [e] [] pos) env) Q h H := by
  refine R_Call P.amb (f := f) (by rw [List.all_cons, he]; rfl) (blt_keeps hm) g (fun q => W_blt P F g hm hk q) ?_
  refine R_args_cons he (RW.mono k fun v H1 q h1 s1 => ?_)
  exact R_args_nil s1.good fun vs' h2 rv s2 => by
    obtain ⟨v', rfl, rv1⟩ := vr1 rv
    exact q v' h2 rv1 s2.good
theorem R_call2 (P : Prg X D N) (g : Good X.K X.hb h H) (F : FrameOk X sc env h ρ H) {x : String} {f : Value} {kk : Nat} (hm : bltName[kk]? = some (x, f)) (hk : sc.names.lookup (Str.ofString x) = some .globalImplicit) {a b : Expr} (ha : notStar a = true) (hb : notStar b = true) {p pos : Pos} {Q : V → Hp → Prop}
    (k : R X A (eval a env) (fun u H1 => ∀ h1, Good X.K X.hb h1 H1 → FrameOk X sc env h1 ρ H1 → R X A (eval b env) (fun v H2 => ∀ u' v' h2, VR u u' → VR v v' → Good X.K X.hb h2 H2 → R X A (call f [u', v'] []) Q h2 H2) h1 H1) h H) :
    R X A (eval (.Call (.Name (Str.ofString x) p) [a, b] [] pos) env) Q h H := by
  refine R_Call P.amb (f := f) (by rw [List.all_cons, ha, List.all_cons, hb]; rfl) (blt_keeps hm) g (fun q => W_blt P F g hm hk q) ?_
  refine R_args_cons ha (RW.mono k fun u H1 q h1 s1 => ?_)
  refine R_args_cons hb (RW.mono (q h1 s1.good (F.step s1)) fun v H2 q h2 s2 => ?_)
  exact R_args_nil s2.good fun vs' h3 rv s3 => by
    obtain ⟨u', v', rfl, ru, rv1⟩ := vr2 rv
    exact q u' v' h3 ru rv1 s3.good
theorem R_isinstance (P : Prg X D N) (g : Good X.K X.hb h H) (F : FrameOk X sc env h ρ H) (hk : sc.names.lookup (Str.ofString "isinstance") = some .globalImplicit) {e : Expr} (he : notStar e = true) {k : Kd} (hkd : sc.names.lookup (kdName k) = some .globalImplicit) {p p' pos : Pos} {Q : V → Hp → Prop}
    (x : R X A (eval e env) (fun v H => ∃ b, isiV H k v = some b ∧ Q (.bool b) H) h H) : R X A (eval (.Call (.Name (Str.ofString "isinstance") p) [e, .Name (kdName k) p'] [] pos) env) Q h H := by
  rw [eval_Call rfl]
  refine Wp.bind (W_blt P F g (x := "isinstance") (v := .builtin "isinstance") (kk := 0) rfl hk ?_)
  intro tk
  refine callWith_of (P := X.K.In) (by rw [starEach_plain (by rw [List.all_cons, he]; rfl)]; rfl) (keeps_builtin _) ?_
  rw [starEach_cons he]
  refine Calls.evalArgs_plain ?_
  have key : Wp X A (do let v ← eval e env; let here ← Pure.pure [v]; return here ++ (← holding here (do let v ← eval (.Name (kdName k) p') env; let here ← Pure.pure [v]; return here ++ (← holding here (Pure.pure [])))))
      (fun vs h1 => ∃ v v' H1 b, vs = [v', kdVal X.K k] ∧ VR v v' ∧ isiV H1 k v = some b ∧ Q (.bool b) H1 ∧ Step X.K X.hb h H h1 H1 []) h := by
    refine Wp.bind (Wp.mono x fun v' h1 ⟨v, H1, rv, ⟨b, eb, q⟩, s1⟩ => ?_)
    refine Wp.bind (Wp.pure (Wp.bind (Wp.holding (Wp.bind (W_kd P (F.step s1) s1.good hkd ?_)))))
    exact Wp.bind (Wp.pure (Wp.bind (Wp.holding (Wp.pure (Wp.pure (Wp.pure ⟨v, v', H1, b, rfl, rv, eb, q, s1⟩))))))
  refine wpAny_mono (key tk) (fun vs s₁ hs => ?_) fun _ _ z => z
  obtain ⟨h1, tk1, v, v', H1, b, rfl, rv, eb, q, s1⟩ := hs
  refine ⟨s1.good.K P.amb, ?_⟩
  refine wpAny_mono (R_isi P.amb P.isi s1.good rv eb q tk1) (fun w' s₂ hs => ?_) fun _ _ z => z
  obtain ⟨h2, tk2, w, H2, r2, q2, s2⟩ := hs
  exact ⟨h2, tk2, w, H2, r2, q2, s1.trans s2⟩
theorem R_callTop (P : Prg X D N) (g : Good X.K X.hb h H) (F : FrameOk X sc env h ρ H) {n : Nat} (rm : Room A (3 * n)) (ok : CallOk X D n) {f : Nat} {x : Str} (hf : N.top f = some x) (hk : sc.names.lookup x = some .globalImplicit) {es : List Expr} (he : es.all notStar = true) {p pos : Pos} {Q : V → Hp → Prop}
    (k : RW VRs X A [] (spliced (backTo pos (starEach es env))) (fun vs H => MC D.T n f vs Q H) h H) : R X A (eval (.Call (.Name x p) es [] pos) env) Q h H := by
  have h1 := P.top f x hf
  simp only [topOk, Bool.and_eq_true, beq_iff_eq, Bool.not_eq_true'] at h1
  refine R_Call P.amb (f := .ref (D.addr f)) he (keeps_K h1.1.2) g (fun q => W_top P F g hf hk q) ?_
  exact RW.mono k fun vs H1 q vs' h1 rv s1 => RC.call (ok A rm f vs vs' Q h1 H1 rv s1.good q)
theorem R_callMeth (P : Prg X D N) {n : Nat} (rm : Room A (3 * n)) (ok : CallOk X D n) {f : Nat} {x : Str} (hf : N.meth f = some x) {o : Expr} {es : List Expr} (ho : notCall0 o = true) (he : es.all notStar = true) (hl : es.length < 30) {p pos : Pos} (hline : (p.endLine == pos.line) = true) {Q : V → Hp → Prop}
    (k : R X A (eval o env) (fun v H1 => ∃ a d fs, v = .ref a ∧ H1 a = some (.inst .arr d fs) ∧ ∀ h1, Step X.K X.hb h H h1 H1 [] → RW VRs X A [] (spliced (backTo pos (starEach es env))) (fun vs H => MC D.T n f (v :: vs) Q H) h1 H1) h H) :
    R X A (eval (.Call (.Attribute o x p) es [] pos) env) Q h H := by
  have hm := P.meth f x hf
  simp only [methOk, Bool.and_eq_true, beq_iff_eq, Bool.not_eq_true'] at hm
  obtain ⟨⟨⟨m1, m2⟩, m3⟩, m4⟩ := hm
  refine R_methodCall P.amb ho he hl hline (RW.mono k fun v H1 q v' h1 rv s1 => ?_)
  obtain ⟨a, d, fs, rfl, ea, q⟩ := q
  cases rv
  refine ⟨.ref (D.addr f), [.ref a], keeps_K m3, fun tk pl PP hP => getMethod_arr P.amb (P.cls .arr) s1.good ea (fun hin => ?_) m1 m2 hP, RW.mono (q h1 s1) fun vs H2 q2 vs' h2 rvs s2 => ?_⟩
  · rw [← List.contains_iff_mem, m4] at hin; cases hin
  · exact RC.call (ok A rm f (.ref a :: vs) (.ref a :: vs') Q h2 H2 ⟨rfl, rvs⟩ s2.good q2)
theorem R_callNew (P : Prg X D N) (g : Good X.K X.hb h H) (F : FrameOk X sc env h ρ H) {n : Nat} (rm : Room A (3 * n + 1)) (ok : CallOk X D n) {c : Cls} (hk : sc.names.lookup (clsName c) = some .globalImplicit) {es : List Expr} (he : es.all notStar = true) {p pos : Pos} {Q : V → Hp → Prop}
    (k : RW VRs X A [] (spliced (backTo pos (starEach es env))) (fun vs H => ∀ a d, H a = none → H d = none → a ≠ d → MC D.T n (1000 + fbase c) (.ref a :: vs) (kDone a Q) (upd (upd H d (.hid a)) a (.inst c d []))) h H) :
    R X A (eval (.Call (.Name (clsName c) p) es [] pos) env) Q h H := by
  have hi := P.init c
  simp only [initOk, Bool.and_eq_true, beq_iff_eq] at hi
  refine R_Call P.amb (f := .ref (clsAddr X.K c)) he (keeps_K hi.2) g (fun q => W_cls P F g hk q) ?_
  refine RW.mono k fun vs H1 q vs' h1 rv s1 => RC.call (R_new P.amb (P.cls c) hi.1.1 hi.1.2 s1.good fun a d hh ea ed hne gg => ?_)
  exact ok _ (rm.tcall (clsAddr X.K c) vs') (1000 + fbase c) (.ref a :: vs) (.ref a :: vs') _ _ _ ⟨rfl, rv⟩ gg (q a d ea ed hne)
theorem R_listMeth (P : Prg X D N) {o : Expr} {es : List Expr} {x : Str} {id : String} (slot : Slot "list" x id) (hty : typeOf (.builtin id) = pure (.type "method_descriptor")) (ho : notCall0 o = true) (he : es.all notStar = true) (hl : es.length < 30) {p pos : Pos} (hline : (p.endLine == pos.line) = true) {Q : V → Hp → Prop}
    (k : R X A (eval o env) (fun v H1 => ∃ a vs, v = .ref a ∧ H1 a = some (.lst vs) ∧ ∀ h1, Step X.K X.hb h H h1 H1 [] → RW VRs X A [] (spliced (backTo pos (starEach es env))) (fun vs H2 => ∀ vs' h2, VRs vs vs' → Good X.K X.hb h2 H2 → R X A (PySem.call (.builtin id) (.ref a :: vs') []) Q h2 H2) h1 H1) h H) :
    R X A (eval (.Call (.Attribute o x p) es [] pos) env) Q h H := by
  refine R_methodCall P.amb ho he hl hline (RW.mono k fun v H1 q v' h1 rv s1 => ?_)
  obtain ⟨a, vs, rfl, ea, q⟩ := q
  cases rv
  exact ⟨.builtin id, [.ref a], keeps_builtin _, fun tk pl PP hP => getMethod_list s1.good ea slot hty hP, RW.mono (q h1 s1) fun vs H2 q2 vs' h2 rvs s2 => q2 vs' h2 rvs s2.good⟩
theorem R_strMeth (P : Prg X D N) {o : Expr} {es : List Expr} {x : Str} {id : String} (slot : Slot "str" x id) (hty : typeOf (.builtin id) = pure (.type "method_descriptor")) (ho : notCall0 o = true) (he : es.all notStar = true) (hl : es.length < 30) {p pos : Pos} (hline : (p.endLine == pos.line) = true) {Q : V → Hp → Prop}
    (k : R X A (eval o env) (fun v H1 => ∃ s, v = .str s ∧ ∀ h1 s', VR (.str s) s' → Step X.K X.hb h H h1 H1 [] → RW VRs X A [] (spliced (backTo pos (starEach es env))) (fun vs H2 => ∀ vs' h2, VRs vs vs' → Good X.K X.hb h2 H2 → R X A (PySem.call (.builtin id) (s' :: vs') []) Q h2 H2) h1 H1) h H) :
    R X A (eval (.Call (.Attribute o x p) es [] pos) env) Q h H := by
  refine R_methodCall P.amb ho he hl hline (RW.mono k fun v H1 q v' h1 rv s1 => ?_)
  obtain ⟨s, rfl, q⟩ := q
  have rv0 := rv
  obtain ⟨t, rfl⟩ := rv
  exact ⟨.builtin id, [.str s t], keeps_builtin _, fun tk pl PP hP => getMethod_str slot hty hP, RW.mono (q h1 _ rv0 s1) fun vs H2 q2 vs' h2 rvs s2 => q2 vs' h2 rvs s2.good⟩
end
end Mine
namespace Mine
section
variable {C : Expr → Prop}
noncomputable def gl (sc : Sc) (x : Str) : Bool := sc.names.lookup x == some .globalImplicit
noncomputable def kCallN (sc : Sc) (e : Expr) (k : Str → List Expr → Bool) : Bool := tCall e fun f xs ks _ => ks.isEmpty && tName f fun x _ => gl sc x && (xs.all notStar && k x xs)
theorem of_CallN {sc : Sc} {e : Expr} {k : Str → List Expr → Bool} (hc : kCallN sc e k = true) (z : ∀ x p xs pos, sc.names.lookup x = some .globalImplicit → xs.all notStar = true → k x xs = true → C (.Call (.Name x p) xs [] pos)) : C e :=
  tof_Call hc fun f xs ks pos hc => and_e hc fun h1 hc => nil_e (C := fun ks => C (.Call f xs ks pos)) h1 <| tof_Name (C := fun f => C (.Call f xs [] pos)) hc fun x p hc => and_e hc fun h2 hc => and_e hc fun h3 hc => z x p xs pos (eq_of_beq h2) h3 hc
noncomputable def kCallA (e : Expr) (k : Expr → Str → List Expr → Bool) : Bool := tCall e fun f xs ks pos => ks.isEmpty && tAttribute f fun y x p => notCall0 y && (xs.all notStar && (decide (xs.length < 30) && (p.endLine == pos.line && k y x xs)))
theorem of_CallA {e : Expr} {k : Expr → Str → List Expr → Bool} (hc : kCallA e k = true) (z : ∀ y x p xs pos, notCall0 y = true → xs.all notStar = true → xs.length < 30 → (p.endLine == pos.line) = true → k y x xs = true → C (.Call (.Attribute y x p) xs [] pos)) : C e :=
  tof_Call hc fun f xs ks pos hc => and_e hc fun h1 hc => nil_e (C := fun ks => C (.Call f xs ks pos)) h1 <| tof_Attribute (C := fun f => C (.Call f xs [] pos)) hc fun y x p hc => and_e hc fun h2 hc => and_e hc fun h3 hc => and_e hc fun h4 hc => and_e hc fun h5 hc => z y x p xs pos h2 h3 (of_decide_eq_true h4) h5 hc
theorem star1 {x : Expr} (h : [x].all notStar = true) : notStar x = true := (and_of h).1
theorem star2 {x y : Expr} (h : [x, y].all notStar = true) : notStar x = true ∧ notStar y = true := ⟨(and_of h).1, star1 (and_of h).2⟩
noncomputable def c1 (x : String) (sc : Sc) (e : Expr) (k : Expr → Bool) : Bool := kCallN sc e fun n xs => n == Str.ofString x && k1 xs k
theorem of_c1 {x : String} {sc : Sc} {e : Expr} {k : Expr → Bool} (hc : c1 x sc e k = true) (z : ∀ p y pos, sc.names.lookup (Str.ofString x) = some .globalImplicit → notStar y = true → k y = true → C (.Call (.Name (Str.ofString x) p) [y] [] pos)) : C e :=
  of_CallN hc fun n p xs pos h1 h2 hc => and_e hc fun h3 hk => by
    cases eq_of_beq h3
    exact of_1 (C := fun xs => xs.all notStar = true → C (.Call (.Name (Str.ofString x) p) xs [] pos)) hk (fun y hc h2 => z p y pos h1 (star1 h2) hc) h2
noncomputable def c2 (x : String) (sc : Sc) (e : Expr) (k : Expr → Expr → Bool) : Bool := kCallN sc e fun n xs => n == Str.ofString x && k2 xs k
theorem of_c2 {x : String} {sc : Sc} {e : Expr} {k : Expr → Expr → Bool} (hc : c2 x sc e k = true) (w : ∀ p y z pos, sc.names.lookup (Str.ofString x) = some .globalImplicit → notStar y = true → notStar z = true → k y z = true → C (.Call (.Name (Str.ofString x) p) [y, z] [] pos)) : C e :=
  of_CallN hc fun n p xs pos h1 h2 hc => and_e hc fun h3 hk => by
    cases eq_of_beq h3
    exact of_2 (C := fun xs => xs.all notStar = true → C (.Call (.Name (Str.ofString x) p) xs [] pos)) hk (fun y z hc h2 => w p y z pos h1 (star2 h2).1 (star2 h2).2 hc) h2
end
noncomputable def restE (op : BoolOp) (pos : Pos) (y : Expr) : List Expr → Expr
  | [] => y
  | z :: r => .BoolOp op (y :: z :: r) pos
noncomputable def constOf : V → Option Const
  | .none => some .none
  | .bool b => some (.bool b)
  | .int i => some (.int i)
  | .str s => some (.str s)
  | .ref _ => none
noncomputable def varOk (sc : Sc) (x : Str) (i : Nat) : Bool := sc.vars.lookup x == some i && ((sc.names.lookup x == some .local || (sc.names.lookup x == some .cell || sc.names.lookup x == some .free)) && (!(x == ("__debug__" : Str)) && !(x == ("__classdict__" : Str))))
noncomputable def isC (c : ME) (v : V) : Bool := if h : c.ctorIdx = 1 then ME.cst.elim (motive_1 := fun _ => Bool) c h (fun w => decide (w = v)) else false
noncomputable def compG (sc : Sc) (scope : Scope) (ts : List Nat) (g : Comprehension) : Bool := decide (g.is_async = 0) && (compOk sc scope ts g.target && (tgtOk (compSc sc scope ts g.target) ts g.target && notSet g.iter))
noncomputable def condOk (ifs : List Expr) (b : Bool) (k : Expr → Bool) : Bool := match ifs with
  | [] => b
  | x :: r => r.isEmpty && k x
mutual
noncomputable def chkE (N : Names) : ME → Sc → Expr → Bool
  | .var i, sc, e => tName e fun x _ => varOk sc x i
  | .cst v, _, e => tConstant e fun c _ _ => decide (constOf v = some c)
  | .attr o f, sc, e => tAttribute e fun x a _ => a == fname f && (notCall0 x && chkE N o sc x)
  | .bin op a b, sc, e => tBinOp e fun x op' y _ => decide (op = op') && (chkE N a sc x && chkE N b sc y)
  | .neg a, sc, e => tUnaryOp e fun op x _ => decide (op = .USub) && chkE N a sc x
  | .cmp op a b, sc, e => tCompare e fun x ops ys _ => k1 ops fun op' => k1 ys fun y => decide (op = op') && (notSet y && (chkE N a sc x && chkE N b sc y))
  | .cmp2 a p b q c, sc, e => tCompare e fun x ops ys _ => k2 ops fun p' q' => k2 ys fun y z => decide (p = p') && (decide (q = q') && (notSet z && (chkE N a sc x && (chkE N b sc y && chkE N c sc z))))
  | .and a b, sc, e => tBoolOp e fun op vs pos => decide (op = .And) && kCons vs fun x r => kCons r fun y r => chkE N a sc x && chkE N b sc (restE .And pos y r)
  | .or a b, sc, e => tBoolOp e fun op vs pos => decide (op = .Or) && kCons vs fun x r => kCons r fun y r => chkE N a sc x && chkE N b sc (restE .Or pos y r)
  | .not a, sc, e => tUnaryOp e fun op x _ => decide (op = .Not) && chkE N a sc x
  | .ite c a b, sc, e => tIfExp e fun t x y _ => chkE N c sc t && (chkE N a sc x && chkE N b sc y)
  | .idx a i, sc, e => tSubscript e fun x s _ => notSlice s && (chkE N a sc x && chkE N i sc s)
  | .slc a lo hi, sc, e => tSubscript e fun x s _ => tSlice s fun l u st _ => kSome l fun l => kSome u fun u => st.isNone && (isName x && (chkE N a sc x && (chkE N lo sc l && chkE N hi sc u)))
  | .sto a hi, sc, e => tSubscript e fun x s _ => tSlice s fun l u st _ => l.isNone && kSome u fun u => st.isNone && (isName x && (chkE N a sc x && chkE N hi sc u))
  | .sfr a lo, sc, e => tSubscript e fun x s _ => tSlice s fun l u st _ => u.isNone && kSome l fun l => st.isNone && (isName x && (chkE N a sc x && chkE N lo sc l))
  | .lst es, sc, e => tList e fun xs _ => chkEs N es sc xs
  | .tup es, sc, e => tTuple e fun xs _ _ => chkEs N es sc xs
  | .dct, _, e => tDict e fun ks vs _ => ks.isEmpty && vs.isEmpty
  | .call f es, sc, e => kCallN sc e fun x xs => N.top f == some x && chkEs N es sc xs
  | .meth o f es, sc, e => kCallA e fun y x xs => N.meth f == some x && (chkE N o sc y && chkEs N es sc xs)
  | .new c es, sc, e => kCallN sc e fun x xs => x == clsName c && chkEs N es sc xs
  | .isi a k, sc, e => kCallN sc e fun x xs => x == Str.ofString "isinstance" && k2 xs fun y z => tName z fun n _ => n == kdName k && (gl sc n && chkE N a sc y)
  | .len a, sc, e => c1 "len" sc e fun y => chkE N a sc y
  | .ord a, sc, e => c1 "ord" sc e fun y => chkE N a sc y
  | .strI a, sc, e => c1 "str" sc e fun y => chkE N a sc y
  | .repr a, sc, e => c1 "repr" sc e fun y => chkE N a sc y
  | .listOf a, sc, e => c1 "list" sc e fun y => chkE N a sc y
  | .listR a, sc, e => c1 "list" sc e fun y => c1 "range" sc y fun z => chkE N a sc z
  | .tupleOf a, sc, e => c1 "tuple" sc e fun y => chkE N a sc y
  | .dictOf a, sc, e => c1 "dict" sc e fun y => chkE N a sc y
  | .max a, sc, e => c1 "max" sc e fun y => chkE N a sc y
  | .min a b, sc, e => c2 "min" sc e fun y z => chkE N a sc y && chkE N b sc z
  | .join s a, sc, e => kCallA e fun y x xs => x == ("join" : Str) && k1 xs fun z => chkE N s sc y && chkE N a sc z
  | .replace s a b, sc, e => kCallA e fun y x xs => x == ("replace" : Str) && k2 xs fun z w => chkE N s sc y && (chkE N a sc z && chkE N b sc w)
  | .append l a, sc, e => kCallA e fun y x xs => x == ("append" : Str) && k1 xs fun z => chkE N l sc y && chkE N a sc z
  | .pop l, sc, e => kCallA e fun y x xs => x == ("pop" : Str) && (xs.isEmpty && chkE N l sc y)
  | .comp ts src c a, sc, e => tListComp e fun elt gs scope _ => k1 gs fun g => compG sc scope ts g && (chkE N src sc g.iter && (condOk g.ifs (isC c (.bool true)) (fun t => chkE N c (compSc sc scope ts g.target) t) && chkE N a (compSc sc scope ts g.target) elt))
  | .compR ts n c a, sc, e => tListComp e fun elt gs scope _ => k1 gs fun g => compG sc scope ts g && ((c1 "range" sc g.iter fun y => chkE N n sc y) && (condOk g.ifs (isC c (.bool true)) (fun t => chkE N c (compSc sc scope ts g.target) t) && chkE N a (compSc sc scope ts g.target) elt))
  | .dead, _, _ => true
noncomputable def chkEs (N : Names) : MEs → Sc → List Expr → Bool
  | .nil, _, xs => xs.isEmpty
  | .cons a r, sc, xs => kCons xs fun x xs => notStar x && (chkE N a sc x && chkEs N r sc xs)
end
end Mine
namespace Mine
section
variable {X : Fix} {A : Around} {sc : Sc} {env : Env} {h : Heap} {ρ : Env'} {H : Hp}
theorem eval_rest {op : BoolOp} {pos : Pos} {y : Expr} {r : List Expr} : eval (restE op pos y r) env = boolOp pos op (evalEach (y :: r) env) := by
  cases r <;> rfl
noncomputable def isAnd : BoolOp → Bool
  | .And => true
  | .Or => false
theorem R_BoolG {op : BoolOp} {a y : Expr} {r : List Expr} {pos : Pos} {Q : V → Hp → Prop}
    (k : R X A (eval a env) (kB fun t H1 => ∀ h1, Step X.K X.hb h H h1 H1 [] → kIf (fun H1 => R X A (eval (restE op pos y r) env) Q h1 H1) (Q (.bool t)) (t == isAnd op) H1) h H) : R X A (eval (.BoolOp op (a :: y :: r) pos) env) Q h H := by
  show RW VR X A [] (do
    let v ← eval a env
    standAt pos
    let t ← holding [v] (truthy v)
    match op, t with
    | .And, false | .Or, true => pure v
    | _, _ => boolOp pos op (evalEach (y :: r) env)) Q h H
  rw [← eval_rest]
  refine RW.bind k fun v v' h1 H1 rv q s => ?_
  obtain ⟨t, rfl, q⟩ := kB_ex q
  refine RW.standAt (RW.bind (P := fun b H => b = t ∧ H = H1) (RW.holding (R_truthy s.good rv ⟨rfl, rfl⟩)) fun b b' h2 H2 rb q2 s2 => ?_)
  subst rb
  obtain ⟨rfl, rfl⟩ := q2
  have q := q h2 (s.trans s2)
  cases op <;> cases b <;> first | exact RW.pure s2.good rv q | exact q
theorem RT_rest {op : BoolOp} {pos : Pos} {y : Expr} {r : List Expr} {Q : Bool → Hp → Prop} (k : RT X A (isTrue (restE op pos y r) env (eval (restE op pos y r) env)) Q h H) : RT X A (allTrue op (y :: r) env) Q h H := by
  cases r with
  | nil =>
    show RW _ X A [] (do
      match op, ← isTrue y env (eval y env) with
      | .And, false => pure false
      | .Or, true => pure true
      | _, _ => pure (op == .And)) Q h H
    refine RW.bind k fun t t' h1 H1 rt q s => ?_
    subst rt
    cases op <;> cases t <;> exact RW.pure s.good rfl q
  | cons z r => exact k
theorem RT_BoolG {op : BoolOp} {a y : Expr} {r : List Expr} {pos : Pos} {w : Sem Value} {Q : Bool → Hp → Prop}
    (k : RT X A (isTrue a env (eval a env)) (fun t H1 => ∀ h1, Step X.K X.hb h H h1 H1 [] → kIf (fun H1 => RT X A (isTrue (restE op pos y r) env (eval (restE op pos y r) env)) Q h1 H1) (Q t) (t == isAnd op) H1) h H) : RT X A (isTrue (.BoolOp op (a :: y :: r) pos) env w) Q h H := by
  show RW _ X A [] (do
    match op, ← isTrue a env (eval a env) with
    | .And, false => pure false
    | .Or, true => pure true
    | _, _ => allTrue op (y :: r) env) Q h H
  refine RW.bind k fun t t' h1 H1 rt q s => ?_
  subst rt
  have q := q h1 s
  cases op <;> cases t <;> first | exact RW.pure s.good rfl q | exact RT_rest q
end
section
variable {X : Fix} {A : Around} {D : Defs} {N : Names} {n : Nat} {Δ : Calls} {a b c i o s l u : ME} {es : MEs} {f : Nat}
noncomputable def Sd (X : Fix) (A : Around) (Δ : Calls) (me : ME) (e : Expr) (env : Env) (h : Heap) (ρ : Env') (H : Hp) : Prop :=
  (∀ Q, EV Δ me ρ Q H → R X A (eval e env) Q h H) ∧ (∀ Q : Bool → Hp → Prop, EV Δ me ρ (kB Q) H → RT X A (isTrue e env (eval e env)) Q h H)
noncomputable def PE (X : Fix) (A : Around) (N : Names) (Δ : Calls) (me : ME) : Prop := ∀ (sc : Sc) (e : Expr), chkE N me sc e = true → ∀ (env : Env) (h : Heap) (ρ : Env') (H : Hp), Good X.K X.hb h H → FrameOk X sc env h ρ H → Sd X A Δ me e env h ρ H
noncomputable def PEs (X : Fix) (A : Around) (N : Names) (Δ : Calls) (ms : MEs) : Prop := ∀ (sc : Sc) (es : List Expr), chkEs N ms sc es = true → ∀ (env : Env) (h : Heap) (ρ : Env') (H : Hp), Good X.K X.hb h H → FrameOk X sc env h ρ H →
  ∀ Q pos, EVs Δ ms ρ Q H → RW VRs X A [] (spliced (backTo pos (starEach es env))) Q h H
theorem both {me : ME} {env : Env} {ρ : Env'} {h : Heap} {H : Hp} {e : Expr} (hp : plainTest e = true) (k : ∀ Q, EV Δ me ρ Q H → R X A (eval e env) Q h H) : Sd X A Δ me e env h ρ H :=
  ⟨k, fun Q q => RT_plain hp (RW.mono (k _ q) fun _ _ => kB_ex)⟩
theorem PE_dead : PE X A N Δ .dead := fun sc e _ env h ρ H _ _ => ⟨fun Q q => q.elim, fun Q q => q.elim⟩
theorem PE_var {i : Nat} : PE X A N Δ (.var i) := by
  intro sc e hc env h ρ H g F
  apply tof_Name hc
  intro x p hc
  refine and_e hc fun h1 hc => ?_
  refine and_e hc fun h2 hc => ?_
  refine and_e hc fun h3 h4 => ?_
  refine both rfl fun Q q => ?_
  obtain ⟨v, hv, q⟩ := kV_ex q
  obtain ⟨k, hk, hkk⟩ : ∃ k, sc.names.lookup x = some k ∧ (k = .local ∨ k = .cell ∨ k = .free) :=
    (Bool.or_eq_true_iff.mp h2).elim (fun h => ⟨_, eq_of_beq h, .inl rfl⟩) fun h => (Bool.or_eq_true_iff.mp h).elim (fun h => ⟨_, eq_of_beq h, .inr (.inl rfl)⟩) fun h => ⟨_, eq_of_beq h, .inr (.inr rfl)⟩
  exact R_var F g (eq_of_beq h1) hk hkk ((Bool.not_eq_true' _).mp h3) ((Bool.not_eq_true' _).mp h4) hv q
theorem PE_cst {v : V} : PE X A N Δ (.cst v) := by
  intro sc e hc env h ρ H g F
  apply tof_Constant hc
  intro k n p hc0
  refine both rfl fun Q q => ?_
  cases v with
  | none => cases of_decide_eq_true hc0; exact R_none g q
  | bool b => cases of_decide_eq_true hc0; exact R_bool g q
  | int i => cases of_decide_eq_true hc0; exact R_int g q
  | str s => cases of_decide_eq_true hc0; exact R_str g q
  | ref a => exact absurd (of_decide_eq_true hc0) (fun h => nomatch h)
theorem PE_attr (P : Prg X D N) (io : PE X A N Δ o) : PE X A N Δ (.attr o f) := by
  intro sc e hc env h ρ H g F
  apply tof_Attribute hc
  intro x a p hc
  refine and_e hc fun h1 hc => ?_
  refine and_e hc fun h2 h3 => ?_
  apply beq_e h1
  exact both rfl fun Q q => R_Attribute P.amb P.cls h2 (RW.mono ((io sc _ h3 env h ρ H g F).1 _ q) fun _ _ => kO_ex)
theorem PE_bin {op : Operator} (ia : PE X A N Δ a) (ib : PE X A N Δ b) : PE X A N Δ (.bin op a b) := by
  intro sc e hc env h ρ H g F
  apply tof_BinOp hc
  intro x op' y p hc
  refine and_e hc fun h1 hc => ?_
  refine and_e hc fun h2 h3 => ?_
  apply dec_e h1
  exact both rfl fun Q q => R_BinOp (RW.mono ((ia sc _ h2 env h ρ H g F).1 _ q) fun x H1 q h1 s1 => (ib sc _ h3 env h1 ρ H1 s1.good (F.step s1)).1 _ q)
theorem PE_neg (ia : PE X A N Δ a) : PE X A N Δ (.neg a) := by
  intro sc e hc env h ρ H g F
  apply tof_UnaryOp hc
  intro op x p hc
  refine and_e hc fun h1 hc => ?_
  apply dec_e' h1
  exact both rfl fun Q q => R_USub (RW.mono ((ia sc _ hc env h ρ H g F).1 _ q) fun _ _ => kI_ex)
theorem PE_cmp (rm : Room A n) {op : CmpOp} (ia : PE X A N Δ a) (ib : PE X A N Δ b) : PE X A N Δ (.cmp op a b) := by
  intro sc e hc env h ρ H g F
  apply tof_Compare hc
  intro x ops ys p hc
  apply of_1 hc
  intro op' hc
  apply of_1 hc
  intro y hc
  refine and_e hc fun h0 hc => ?_
  refine and_e hc fun h1 hc => ?_
  refine and_e hc fun h2 h3 => ?_
  apply dec_e h0
  exact ⟨fun Q q => R_Compare1 rm h1 (RW.mono ((ia sc _ h2 env h ρ H g F).1 _ q) fun x H1 q h1 s1 => RW.mono ((ib sc _ h3 env h1 ρ H1 s1.good (F.step s1)).1 _ q) fun _ _ => kC_ex),
    fun Q q => RT_Compare1 rm h1 (RW.mono ((ia sc _ h2 env h ρ H g F).1 _ q) fun x H1 q h1 s1 => RW.mono ((ib sc _ h3 env h1 ρ H1 s1.good (F.step s1)).1 _ q) fun _ _ => kC_ex)⟩
theorem PE_cmp2 (rm : Room A n) {p q : CmpOp} (ia : PE X A N Δ a) (ib : PE X A N Δ b) (ic : PE X A N Δ c) : PE X A N Δ (.cmp2 a p b q c) := by
  intro sc e hc env h ρ H g F
  apply tof_Compare hc
  intro x ops ys pos hc
  apply of_2 hc
  intro p' q' hc
  apply of_2 hc
  intro y z hc
  refine and_e hc fun e1 hc => ?_
  refine and_e hc fun e2 hc => ?_
  refine and_e hc fun h1 hc => ?_
  refine and_e hc fun h2 hc => ?_
  refine and_e hc fun h3 h4 => ?_
  apply dec_e e1
  apply dec_e e2
  refine ⟨fun Q q => R_Compare2 rm h1 (RW.mono ((ia sc _ h2 env h ρ H g F).1 _ q) fun x H1 q h1 s1 => RW.mono ((ib sc _ h3 env h1 ρ H1 s1.good (F.step s1)).1 _ q) fun y H2 q => ?_),
    fun Q q => RT_Compare2 rm h1 (RW.mono ((ia sc _ h2 env h ρ H g F).1 _ q) fun x H1 q h1 s1 => RW.mono ((ib sc _ h3 env h1 ρ H1 s1.good (F.step s1)).1 _ q) fun y H2 q => ?_)⟩
  · obtain ⟨r, hr, q⟩ := kC_ex q
    refine ⟨r, hr, fun h2 s2 => ?_⟩
    cases r with
    | true => exact RW.mono ((ic sc _ h4 env h2 ρ H2 s2.good ((F.step s1).step s2)).1 _ q) fun _ _ => kC_ex
    | false => exact q
  · obtain ⟨r, hr, q⟩ := kC_ex q
    refine ⟨r, hr, fun h2 s2 => ?_⟩
    cases r with
    | true => exact RW.mono ((ic sc _ h4 env h2 ρ H2 s2.good ((F.step s1).step s2)).1 _ q) fun _ _ => kC_ex
    | false => exact q
theorem PE_bool {op : BoolOp} {me : ME} (ia : PE X A N Δ a) (ib : PE X A N Δ b) (hm : ∀ sc e, chkE N me sc e = true → ∀ C : Expr → Prop, (∀ x y r pos, chkE N a sc x = true → chkE N b sc (restE op pos y r) = true → C (.BoolOp op (x :: y :: r) pos)) → C e)
    (hq : ∀ ρ H Q, EV Δ me ρ Q H → ∃ P : Bool → Hp → Prop, EV Δ a ρ (kB P) H ∧ ∀ t H, P t H → kIf (EV Δ b ρ Q) (Q (.bool t)) (t == isAnd op) H) : PE X A N Δ me := by
  intro sc e hc env h ρ H g F
  apply hm sc e hc
  intro x y r pos h1 h2
  refine ⟨fun Q q => ?_, fun Q q => ?_⟩
  · obtain ⟨P, q, hP⟩ := hq ρ H Q q
    refine R_BoolG (RW.mono ((ia sc _ h1 env h ρ H g F).1 _ q) fun v H1 q => ?_)
    obtain ⟨t, rfl, q⟩ := kB_ex q
    refine fun h1 s1 => ?_
    have q := hP t H1 q
    revert q
    cases (t == isAnd op) with
    | false => exact fun q => q
    | true => exact fun q => (ib sc _ h2 env h1 ρ H1 s1.good (F.step s1)).1 _ q
  · obtain ⟨P, q, hP⟩ := hq ρ H _ q
    refine RT_BoolG (RW.mono ((ia sc _ h1 env h ρ H g F).2 _ q) fun t H1 q h1 s1 => ?_)
    have q := hP t H1 q
    revert q
    cases (t == isAnd op) with
    | false => exact fun q => q
    | true => exact fun q => (ib sc _ h2 env h1 ρ H1 s1.good (F.step s1)).2 _ q
theorem chk_bool {op : BoolOp} {sc : Sc} {e : Expr} (hc : (tBoolOp e fun op' vs pos => decide (op' = op) && kCons vs fun x r => kCons r fun y r => chkE N a sc x && chkE N b sc (restE op pos y r)) = true) (C : Expr → Prop) (z : ∀ x y r pos, chkE N a sc x = true → chkE N b sc (restE op pos y r) = true → C (.BoolOp op (x :: y :: r) pos)) : C e :=
  tof_BoolOp hc fun _ vs pos hc => and_e hc fun h1 hc => dec_e' (C := fun o => C (.BoolOp o vs pos)) h1 <| of_Cons (C := fun vs => C (.BoolOp op vs pos)) hc fun x _ hc => of_Cons (C := fun r => C (.BoolOp op (x :: r) pos)) hc fun y r hc => and_e hc fun h1 h2 => z x y r pos h1 h2
theorem PE_and (ia : PE X A N Δ a) (ib : PE X A N Δ b) : PE X A N Δ (.and a b) := PE_bool (op := .And) ia ib (fun _ _ hc => chk_bool hc) fun ρ H Q q => ⟨_, q, fun t H q => by cases t <;> exact q⟩
theorem PE_or (ia : PE X A N Δ a) (ib : PE X A N Δ b) : PE X A N Δ (.or a b) := PE_bool (op := .Or) ia ib (fun _ _ hc => chk_bool hc) fun ρ H Q q => ⟨_, q, fun t H q => by cases t <;> exact q⟩
theorem PE_not (ia : PE X A N Δ a) : PE X A N Δ (.not a) := by
  intro sc e hc env h ρ H g F
  apply tof_UnaryOp hc
  intro op x p hc
  refine and_e hc fun h1 hc => ?_
  apply dec_e' h1
  exact ⟨fun Q q => R_Not (RW.mono ((ia sc _ hc env h ρ H g F).1 _ q) fun _ _ => kB_ex), fun Q q => RT_Not ((ia sc _ hc env h ρ H g F).2 _ q)⟩
end
end Mine
namespace Mine
section
variable {X : Fix} {A : Around} {D : Defs} {N : Names} {n : Nat} {Δ : Calls} {a b c i o s l u : ME} {es : MEs} {f : Nat}
theorem PE_ite (ic : PE X A N Δ c) (ia : PE X A N Δ a) (ib : PE X A N Δ b) : PE X A N Δ (.ite c a b) := by
  intro sc e hc env h ρ H g F
  apply tof_IfExp hc
  intro t x y p hc
  refine and_e hc fun h1 hc => ?_
  refine and_e hc fun h2 h3 => ?_
  refine ⟨fun Q q => R_IfExp (RW.mono ((ic sc _ h1 env h ρ H g F).2 _ q) fun t H1 q h1 s1 => ?_), fun Q q => RT_IfExp (RW.mono ((ic sc _ h1 env h ρ H g F).2 _ q) fun t H1 q h1 s1 => ?_)⟩
  · cases t with
    | true => exact (ia sc _ h2 env h1 ρ H1 s1.good (F.step s1)).1 _ q
    | false => exact (ib sc _ h3 env h1 ρ H1 s1.good (F.step s1)).1 _ q
  · cases t with
    | true => exact (ia sc _ h2 env h1 ρ H1 s1.good (F.step s1)).2 _ q
    | false => exact (ib sc _ h3 env h1 ρ H1 s1.good (F.step s1)).2 _ q
theorem PE_idx (ia : PE X A N Δ a) (ii : PE X A N Δ i) : PE X A N Δ (.idx a i) := by
  intro sc e hc env h ρ H g F
  apply tof_Subscript hc
  intro x s p hc
  refine and_e hc fun h1 hc => ?_
  refine and_e hc fun h2 h3 => ?_
  exact both rfl fun Q q => R_Subscript h1 (RW.mono ((ia sc _ h2 env h ρ H g F).1 _ q) fun v H1 q h1 s1 => RW.mono ((ii sc _ h3 env h1 ρ H1 s1.good (F.step s1)).1 _ q) fun _ _ => kO_ex)
theorem PE_slc (ia : PE X A N Δ a) (il : PE X A N Δ l) (iu : PE X A N Δ u) : PE X A N Δ (.slc a l u) := by
  intro sc e hc env h ρ H g F
  apply tof_Subscript hc
  intro x s p hc
  apply tof_Slice hc
  intro lo hi st q hc
  apply of_Some hc
  intro lo hc
  apply of_Some hc
  intro hi hc
  refine and_e hc fun h0 hc => ?_
  refine and_e hc fun h1 hc => ?_
  refine and_e hc fun h2 hc => ?_
  refine and_e hc fun h3 h4 => ?_
  apply none_e h0
  refine both rfl fun Q q => R_sliceStr h1 (RW.mono ((ia sc _ h2 env h ρ H g F).1 _ q) fun v H1 q h1 s1 => RW.mono ((il sc _ h3 env h1 ρ H1 s1.good (F.step s1)).1 _ q) fun y H2 q h2 s2 => RW.mono ((iu sc _ h4 env h2 ρ H2 s2.good ((F.step s1).step s2)).1 _ q) fun z H3 q => ?_)
  obtain ⟨s, rfl, q1⟩ := kS_ex q
  obtain ⟨i, rfl, q2⟩ := kI_ex q1
  obtain ⟨j, rfl, q3⟩ := kI_ex q2
  exact ⟨s, i, j, rfl, rfl, rfl, q3⟩
theorem PE_sto (ia : PE X A N Δ a) (iu : PE X A N Δ u) : PE X A N Δ (.sto a u) := by
  intro sc e hc env h ρ H g F
  apply tof_Subscript hc
  intro x s p hc
  apply tof_Slice hc
  intro lo hi st q hc
  refine and_e hc fun h0 hc => ?_
  apply of_Some hc
  intro hi hc
  obtain ⟨h0', hc⟩ := and_of hc
  refine and_e hc fun h1 hc => ?_
  refine and_e hc fun h2 h3 => ?_
  apply none_e h0
  cases Option.isNone_iff_eq_none.mp h0'
  refine both rfl fun Q q => R_sliceList (f := fun i vs => vs.take i.toNat) h1 (.inr ⟨_, rfl, rfl, rfl⟩) (RW.mono ((ia sc _ h2 env h ρ H g F).1 _ q) fun v H1 q h1 s1 => RW.mono ((iu sc _ h3 env h1 ρ H1 s1.good (F.step s1)).1 _ q) fun y H2 q => ?_)
  obtain ⟨vs, e1, e2, q⟩ := kL_ex q
  obtain ⟨j, rfl, e4, e5, q⟩ := kI_ex q
  exact ⟨vs, j, e1, e2, rfl, e4, q⟩
theorem PE_sfr (ia : PE X A N Δ a) (iu : PE X A N Δ u) : PE X A N Δ (.sfr a u) := by
  intro sc e hc env h ρ H g F
  apply tof_Subscript hc
  intro x s p hc
  apply tof_Slice hc
  intro lo hi st q hc
  refine and_e hc fun h0 hc => ?_
  apply of_Some hc
  intro lo hc
  obtain ⟨h0', hc⟩ := and_of hc
  refine and_e hc fun h1 hc => ?_
  refine and_e hc fun h2 h3 => ?_
  apply none_e h0
  cases Option.isNone_iff_eq_none.mp h0'
  refine both rfl fun Q q => R_sliceList (f := fun i vs => vs.drop i.toNat) h1 (.inl ⟨_, rfl, rfl, rfl⟩) (RW.mono ((ia sc _ h2 env h ρ H g F).1 _ q) fun v H1 q h1 s1 => RW.mono ((iu sc _ h3 env h1 ρ H1 s1.good (F.step s1)).1 _ q) fun y H2 q => ?_)
  obtain ⟨vs, e1, e2, q⟩ := kL_ex q
  obtain ⟨j, rfl, e4, e5, q⟩ := kI_ex q
  exact ⟨vs, j, e1, e2, rfl, e4, q⟩
theorem PE_lst (i : PEs X A N Δ es) : PE X A N Δ (.lst es) := by
  intro sc e hc env h ρ H g F
  apply tof_List hc
  intro xs p hc
  exact both rfl fun Q q => R_List (RW.mono (i sc _ hc env h ρ H g F _ _ q) fun _ _ => kLst_ex)
theorem PE_tup (i : PEs X A N Δ es) : PE X A N Δ (.tup es) := by
  intro sc e hc env h ρ H g F
  apply tof_Tuple hc
  intro xs k p hc
  exact both rfl fun Q q => R_Tuple (RW.mono (i sc _ hc env h ρ H g F _ _ q) fun _ _ => kLst_ex)
theorem PE_dct (P : Prg X D N) : PE X A N Δ .dct := by
  intro sc e hc env h ρ H g F
  apply tof_Dict hc
  intro ks vs p hc
  refine and_e hc fun h1 h2 => ?_
  apply nil_e h1
  apply nil_e h2
  exact both rfl fun Q q => R_Dict P.amb g q
theorem PEs_nil : PEs X A N Δ .nil := by
  intro sc es hc env h ρ H g F Q pos q
  apply nil_e hc
  exact R_args_nil g q
theorem PEs_cons {r : MEs} (ia : PE X A N Δ a) (ir : PEs X A N Δ r) : PEs X A N Δ (.cons a r) := by
  intro sc es hc env h ρ H g F Q pos q
  apply of_Cons hc
  intro x xs hc
  refine and_e hc fun h1 hc => ?_
  refine and_e hc fun h2 h3 => ?_
  exact R_args_cons h1 (RW.mono ((ia sc _ h2 env h ρ H g F).1 _ q) fun v H1 q h1 s1 => ir sc _ h3 env h1 ρ H1 s1.good (F.step s1) _ _ q)
theorem PE_call (P : Prg X D N) (rm : Room A (3 * n)) (ok : CallOk X D n) (i : PEs X A N (MC D.T n) es) : PE X A N (MC D.T n) (.call f es) := by
  intro sc e hc env h ρ H g F
  apply of_CallN hc
  intro x p xs pos h1 h2 hc
  refine and_e hc fun h3 hc => ?_
  exact both rfl fun Q q => R_callTop P g F rm ok (eq_of_beq h3) h1 h2 (i sc _ hc env h ρ H g F _ _ q)
theorem PE_meth (P : Prg X D N) (rm : Room A (3 * n)) (ok : CallOk X D n) (io : PE X A N (MC D.T n) o) (i : PEs X A N (MC D.T n) es) : PE X A N (MC D.T n) (.meth o f es) := by
  intro sc e hc env h ρ H g F
  apply of_CallA hc
  intro y x p xs pos h2 h3 h4 h5 hc
  refine and_e hc fun h1 hc => ?_
  refine and_e hc fun h6 h7 => ?_
  refine both rfl fun Q q => R_callMeth P rm ok (eq_of_beq h1) h2 h3 h4 h5 (RW.mono ((io sc _ h6 env h ρ H g F).1 _ q) fun v H1 q => ?_)
  obtain ⟨a, rfl, ⟨d, fs, ea⟩, q⟩ := kR_ex q
  exact ⟨a, d, fs, rfl, ea, fun h1 s1 => i sc _ h7 env h1 ρ H1 s1.good (F.step s1) _ _ q⟩
theorem PE_new (P : Prg X D N) (rm : Room A (3 * n + 1)) (ok : CallOk X D n) {c : Cls} (i : PEs X A N (MC D.T n) es) : PE X A N (MC D.T n) (.new c es) := by
  intro sc e hc env h ρ H g F
  apply of_CallN hc
  intro x p xs pos h1 h2 hc
  refine and_e hc fun h3 hk => ?_
  apply beq_e h3
  exact both rfl fun Q q => R_callNew P g F rm ok (eq_of_beq h3 ▸ h1) h2 (i sc _ hk env h ρ H g F _ _ q)
theorem PE_isi (P : Prg X D N) {k : Kd} (ia : PE X A N Δ a) : PE X A N Δ (.isi a k) := by
  intro sc e hc env h ρ H g F
  apply of_CallN hc
  intro x p xs pos h1 h2 hc
  refine and_e hc fun h3 hc => ?_
  revert h2
  apply of_2 hc
  intro y z hc h2
  apply tof_Name hc
  intro w p' hc
  refine and_e hc fun h4 hc => ?_
  refine and_e hc fun h5 h6 => ?_
  apply beq_e h3
  apply beq_e h4
  exact both rfl fun Q q => R_isinstance P g F (eq_of_beq h3 ▸ h1) (star2 h2).1 (eq_of_beq h4 ▸ eq_of_beq h5) (RW.mono ((ia sc _ h6 env h ρ H g F).1 _ q) fun _ _ => kC_ex)
theorem PE_b1 (P : Prg X D N) {me : ME} (kk : Nat) {x : String} {fv : Value} (hm : bltName[kk]? = some (x, fv)) (ia : PE X A N Δ a) (hk : ∀ sc e, chkE N me sc e = true → c1 x sc e (fun y => chkE N a sc y) = true)
    (hq : ∀ ρ H Q, EV Δ me ρ Q H → ∃ P : V → Hp → Prop, EV Δ a ρ P H ∧ ∀ v H v' h, P v H → VR v v' → Good X.K X.hb h H → R X A (PySem.call fv [v'] []) Q h H) : PE X A N Δ me := by
  intro sc e hc env h ρ H g F
  apply of_c1 (hk sc e hc)
  intro p y pos h1 hy hc
  refine both rfl fun Q q => ?_
  obtain ⟨P', q, hP⟩ := hq ρ H Q q
  exact R_call1 P g F hm h1 hy (RW.mono ((ia sc _ hc env h ρ H g F).1 _ q) fun v H1 q v' h1 rv g1 => hP v H1 v' h1 q rv g1)
theorem PE_len (P : Prg X D N) (ia : PE X A N Δ a) : PE X A N Δ (.len a) := PE_b1 P 1 rfl ia (fun _ _ hc => hc) fun ρ H Q q => ⟨_, q, fun v H v' h q rv g => by
  obtain ⟨m, e, hm, q⟩ := kN_ex q
  exact R_len g rv e hm q⟩
theorem PE_ord (P : Prg X D N) (ia : PE X A N Δ a) : PE X A N Δ (.ord a) := PE_b1 P 2 rfl ia (fun _ _ hc => hc) fun ρ H Q q => ⟨_, q, fun v H v' h q rv g => by
  obtain ⟨m, e, q⟩ := kN_ex q
  exact R_ord g rv e q⟩
theorem PE_strI (P : Prg X D N) (ia : PE X A N Δ a) : PE X A N Δ (.strI a) := PE_b1 P 3 rfl ia (fun _ _ hc => hc) fun ρ H Q q => ⟨_, q, fun v H v' h q rv g => by
  obtain ⟨i, rfl, hi, q⟩ := kI_ex q
  exact R_strI g rv hi q⟩
theorem PE_repr (P : Prg X D N) (rm : Room A n) (ia : PE X A N Δ a) : PE X A N Δ (.repr a) := PE_b1 P 4 rfl ia (fun _ _ hc => hc) fun ρ H Q q => ⟨_, q, fun v H v' h q rv g => by
  obtain ⟨a, d, rfl, e1, e2, e3, e4, q⟩ := q
  cases rv
  exact R_repr g rm e1 e2 e3 e4 q⟩
theorem PE_listOf (P : Prg X D N) (rm : Room A n) (ia : PE X A N Δ a) : PE X A N Δ (.listOf a) := PE_b1 P 5 rfl ia (fun _ _ hc => hc) fun ρ H Q q => ⟨_, q, fun v H v' h q rv g => by
  obtain ⟨a, rfl, vs, hl, ea, q⟩ := kR_ex q
  cases rv
  rcases ea with ea | ⟨ea, rfl⟩
  · exact R_listOf g ea hl q
  · exact R_listOfDict g rm ea q⟩
theorem PE_tupleOf (P : Prg X D N) (ia : PE X A N Δ a) : PE X A N Δ (.tupleOf a) := PE_b1 P 6 rfl ia (fun _ _ hc => hc) fun ρ H Q q => ⟨_, q, fun v H v' h q rv g => by
  obtain ⟨vs, e, hl, q⟩ := kL_ex q
  exact R_tupleOf g rv e hl q⟩
theorem PE_dictOf (P : Prg X D N) (ia : PE X A N Δ a) : PE X A N Δ (.dictOf a) := PE_b1 P 7 rfl ia (fun _ _ hc => hc) fun ρ H Q q => ⟨_, q, fun v H v' h q rv g => by
  obtain ⟨a, rfl, ea, q⟩ := kR_ex q
  cases rv
  exact R_dictOf P.amb g ea q⟩
theorem PE_max (P : Prg X D N) (rm : Room A n) (ia : PE X A N Δ a) : PE X A N Δ (.max a) := PE_b1 P 8 rfl ia (fun _ _ hc => hc) fun ρ H Q q => ⟨_, q, fun v H v' h q rv g => by
  obtain ⟨vs, is, e1, e2, e3, q⟩ := q
  exact R_max g rm rv e1 e2 e3 q⟩
theorem PE_min (P : Prg X D N) (rm : Room A n) (ia : PE X A N Δ a) (ib : PE X A N Δ b) : PE X A N Δ (.min a b) := by
  intro sc e hc env h ρ H g F
  apply of_c2 hc
  intro p y z pos h1 hy hz hc
  refine and_e hc fun h2 h3 => ?_
  refine both rfl fun Q q => R_call2 P g F (kk := 9) rfl h1 hy hz (RW.mono ((ia sc _ h2 env h ρ H g F).1 _ q) fun u H1 q h1 g1 F1 => RW.mono ((ib sc _ h3 env h1 ρ H1 g1 F1).1 _ q) fun v H2 q u' v' h2 ru rv g2 => ?_)
  obtain ⟨i, rfl, q1⟩ := kI_ex q
  obtain ⟨j, rfl, q2⟩ := kI_ex q1
  exact R_min g2 rm ru rv q2
theorem PE_join (P : Prg X D N) (is : PE X A N Δ s) (ia : PE X A N Δ a) : PE X A N Δ (.join s a) := by
  intro sc e hc env h ρ H g F
  apply of_CallA hc
  intro y x p xs pos h2 h3 h4 h5 hc
  refine and_e hc fun h1 hc => ?_
  revert h3 h4
  apply of_1 hc
  intro z hk h3 h4
  refine and_e hk fun h6 h7 => ?_
  apply beq_e h1
  refine both rfl fun Q q => R_strMeth P PySem.F.slot_str_join (by rfl) h2 h3 h4 h5 (RW.mono ((is sc _ h6 env h ρ H g F).1 _ q) fun v H1 q => ?_)
  obtain ⟨x, rfl, q⟩ := kS_ex q
  refine ⟨x, rfl, fun h1 s' rs s1 => R_args_cons (star1 h3) (RW.mono ((ia sc _ h7 env h1 ρ H1 s1.good (F.step s1)).1 _ q) fun v H2 q h2 s2 => R_args_nil s2.good fun vs' h3 rv g3 => ?_)⟩
  obtain ⟨vs, ts, e1, e2, e3, q⟩ := q
  obtain ⟨v', rfl, rv1⟩ := vr1 rv
  exact R_join g3 rs rv1 e1 e2 e3 q
theorem PE_replace (P : Prg X D N) (is : PE X A N Δ s) (ia : PE X A N Δ a) (ib : PE X A N Δ b) : PE X A N Δ (.replace s a b) := by
  intro sc e hc env h ρ H g F
  apply of_CallA hc
  intro y x p xs pos h2 h3 h4 h5 hc
  refine and_e hc fun h1 hc => ?_
  revert h3 h4
  apply of_2 hc
  intro z w hk h3 h4
  refine and_e hk fun h6 hk => ?_
  refine and_e hk fun h7 h8 => ?_
  apply beq_e h1
  refine both rfl fun Q q => R_strMeth P PySem.F.slot_str_replace (by rfl) h2 h3 h4 h5 (RW.mono ((is sc _ h6 env h ρ H g F).1 _ q) fun v H1 q => ?_)
  obtain ⟨x, rfl, q⟩ := kS_ex q
  refine ⟨x, rfl, fun h1 s' rs s1 => R_args_cons (star2 h3).1 (RW.mono ((ia sc _ h7 env h1 ρ H1 s1.good (F.step s1)).1 _ q) fun u H2 q h2 s2 => R_args_cons (star2 h3).2 (RW.mono ((ib sc _ h8 env h2 ρ H2 s2.good ((F.step s1).step s2)).1 _ q) fun v H3 q h3 s3 => R_args_nil s3.good fun vs' h3 rv g3 => ?_))⟩
  obtain ⟨y, rfl, q1⟩ := kS_ex q
  obtain ⟨z, rfl, e3, q2⟩ := kS_ex q1
  obtain ⟨u', v', rfl, ru, rv⟩ := vr2 rv
  exact R_replace g3 rs ru rv e3 q2
theorem PE_append (P : Prg X D N) (il : PE X A N Δ l) (ia : PE X A N Δ a) : PE X A N Δ (.append l a) := by
  intro sc e hc env h ρ H g F
  apply of_CallA hc
  intro y x p xs pos h2 h3 h4 h5 hc
  refine and_e hc fun h1 hc => ?_
  revert h3 h4
  apply of_1 hc
  intro z hk h3 h4
  refine and_e hk fun h6 h7 => ?_
  apply beq_e h1
  refine both rfl fun Q q => R_listMeth P PySem.F.slot_list_append (by rfl) h2 h3 h4 h5 (RW.mono ((il sc _ h6 env h ρ H g F).1 _ q) fun v H1 q => ?_)
  obtain ⟨l, rfl, ⟨vs0, el⟩, q⟩ := kR_ex q
  refine ⟨l, vs0, rfl, el, fun h1 s1 => R_args_cons (star1 h3) (RW.mono ((ia sc _ h7 env h1 ρ H1 s1.good (F.step s1)).1 _ q) fun v H2 q h2 s2 => R_args_nil s2.good fun vs' h3 rv g3 => ?_)⟩
  obtain ⟨vs, e1, e2, q⟩ := q
  obtain ⟨v', rfl, rv1⟩ := vr1 rv
  exact R_append g3 rv1 e1 e2 q
theorem PE_pop (P : Prg X D N) (il : PE X A N Δ l) : PE X A N Δ (.pop l) := by
  intro sc e hc env h ρ H g F
  apply of_CallA hc
  intro y x p xs pos h2 h3 h4 h5 hc
  refine and_e hc fun h1 hc => ?_
  refine and_e hc fun h6 h7 => ?_
  apply beq_e h1
  revert h4
  apply nil_e h6
  intro h4
  refine both rfl fun Q q => R_listMeth P PySem.F.slot_list_pop (by rfl) h2 rfl h4 h5 (RW.mono ((il sc _ h7 env h ρ H g F).1 _ q) fun v H1 q => ?_)
  obtain ⟨l, rfl, vs0, x, el, hl, q⟩ := kR_ex q
  refine ⟨l, _, rfl, el, fun h1 s1 => R_args_nil s1.good fun vs' h3 rv g3 => ?_⟩
  cases vs' with
  | nil => exact R_pop g3 el hl q
  | cons => exact rv.elim
end
end Mine
namespace Mine
section
variable {X : Fix} {A : Around} {D : Defs} {N : Names} {n : Nat} {Δ : Calls} {a b c m src : ME}
theorem W_call1 (P : Prg X D N) {sc : Sc} {env : Env} {h : Heap} {ρ : Env'} {H : Hp} (g : Good X.K X.hb h H) (F : FrameOk X sc env h ρ H) {x : String} {f : Value} {kk : Nat} (hm : bltName[kk]? = some (x, f)) (hk : sc.names.lookup (Str.ofString x) = some .globalImplicit) {e : Expr} (he : notStar e = true) {p pos : Pos} {Q : Value → Heap → Prop}
    (k : Wp X A (eval e env) (fun v' h1 => X.K.In h1 ∧ Wp X A (PySem.call f [v'] []) Q h1) h) : Wp X A (eval (.Call (.Name (Str.ofString x) p) [e] [] pos) env) Q h := by
  rw [eval_Call rfl]
  refine Wp.bind (W_blt P F g hm hk ?_)
  intro tk
  refine callWith_of (P := X.K.In) (by rw [starEach_plain (by rw [List.all_cons, he]; rfl)]; rfl) (blt_keeps hm) ?_
  rw [starEach_cons he]
  refine Calls.evalArgs_plain ?_
  have key : Wp X A (do let v ← eval e env; let here ← Pure.pure [v]; return here ++ (← holding here (Pure.pure []))) (fun vs h1 => X.K.In h1 ∧ Wp X A (PySem.call f vs []) Q h1) h :=
    Wp.bind (Wp.mono k fun v' h1 q => Wp.bind (Wp.pure (Wp.bind (Wp.holding (Wp.pure (Wp.pure q))))))
  refine wpAny_mono (key tk) (fun vs s₁ hs => ?_) fun _ _ z => z
  obtain ⟨h1, tk1, q1, q2⟩ := hs
  exact ⟨q1, q2 tk1⟩
theorem W_call2 (P : Prg X D N) {sc : Sc} {env : Env} {h : Heap} {ρ : Env'} {H : Hp} (g : Good X.K X.hb h H) (F : FrameOk X sc env h ρ H) {x : String} {f : Value} {kk : Nat} (hm : bltName[kk]? = some (x, f)) (hk : sc.names.lookup (Str.ofString x) = some .globalImplicit) {e e' : Expr} (he : notStar e = true) (he' : notStar e' = true) {p pos : Pos} {Q : Value → Heap → Prop}
    (k : Wp X A (eval e env) (fun v' h1 => Wp X A (eval e' env) (fun w' h2 => X.K.In h2 ∧ Wp X A (PySem.call f [v', w'] []) Q h2) h1) h) : Wp X A (eval (.Call (.Name (Str.ofString x) p) [e, e'] [] pos) env) Q h := by
  rw [eval_Call rfl]
  refine Wp.bind (W_blt P F g hm hk ?_)
  intro tk
  refine callWith_of (P := X.K.In) (by rw [starEach_plain (by rw [List.all_cons, he, List.all_cons, he']; rfl)]; rfl) (blt_keeps hm) ?_
  rw [starEach_cons he, starEach_cons he']
  refine Calls.evalArgs_plain ?_
  have key : Wp X A (do let v ← eval e env; let here ← Pure.pure [v]; return here ++ (← holding here (do let v ← eval e' env; let here ← Pure.pure [v]; return here ++ (← holding here (Pure.pure []))))) (fun vs h1 => X.K.In h1 ∧ Wp X A (PySem.call f vs []) Q h1) h :=
    Wp.bind (Wp.mono k fun v' h1 q => Wp.bind (Wp.pure (Wp.bind (Wp.holding (Wp.bind (Wp.mono q fun w' h2 q => Wp.bind (Wp.pure (Wp.bind (Wp.holding (Wp.pure (Wp.pure (Wp.pure q))))))))))))
  refine wpAny_mono (key tk) (fun vs s₁ hs => ?_) fun _ _ z => z
  obtain ⟨h1, tk1, q1, q2⟩ := hs
  exact ⟨q1, q2 tk1⟩
theorem W_rangeSrc (P : Prg X D N) {sc : Sc} {env : Env} {h : Heap} {ρ : Env'} {H : Hp} (g : Good X.K X.hb h H) (F : FrameOk X sc env h ρ H) (ib : PE X A N Δ b) {y : Expr} (hc : (c1 "range" sc y fun y => chkE N b sc y) = true) {P' : List V → Hp → Prop} (q : EV Δ b ρ (kRng P') H) {Q : Value → Heap → Prop}
    (hQ : ∀ i H1 r h2 t u v, 0 ≤ i → i < 2 ^ 24 → P' (rangeL 0 i) H1 → Step X.K X.hb h H h2 H1 [] → IsRange h2 r 0 i 1 t u v → Q (.ref r) h2) : Wp X A (eval y env) Q h := by
  apply of_c1 hc
  intro p' z pos' hk' hz hc'
  refine W_call1 P g F (kk := 10) rfl hk' hz (Wp.mono ((ib sc _ hc' env h ρ H g F).1 _ q) fun v' h1 hs => ?_)
  obtain ⟨v, H1, rv, q1, s1⟩ := hs
  obtain ⟨i, rfl, h0, hlt, q2⟩ := kI_ex q1
  exact ⟨s1.good.K P.amb, W_range1 rv fun r h2 t u w hr kk => hQ i H1 r h2 t u w h0 hlt q2 (s1.trans (Step.grow s1.good kk)) hr⟩
theorem W_range2Src (P : Prg X D N) {sc : Sc} {env : Env} {h : Heap} {ρ : Env'} {H : Hp} (g : Good X.K X.hb h H) (F : FrameOk X sc env h ρ H) (ia : PE X A N Δ a) (ib : PE X A N Δ b) {y : Expr} (hc : (c2 "range" sc y fun y z => chkE N a sc y && chkE N b sc z) = true) {P' : List V → Hp → Prop} (q : EV Δ a ρ (kRg1 (EV Δ b ρ) P') H) {Q : Value → Heap → Prop}
    (hQ : ∀ i j H1 r h2 t u v, 0 ≤ i → i < 2 ^ 24 → 0 ≤ j → j < 2 ^ 24 → P' (rangeL i j) H1 → Step X.K X.hb h H h2 H1 [] → IsRange h2 r i j 1 t u v → Q (.ref r) h2) : Wp X A (eval y env) Q h := by
  apply of_c2 hc
  intro p' z w pos' hk' hz hw hc'
  obtain ⟨h1, h2⟩ := and_of hc'
  refine W_call2 P g F (kk := 10) rfl hk' hz hw (Wp.mono ((ia sc _ h1 env h ρ H g F).1 _ q) fun u' h1 hs => ?_)
  obtain ⟨u, H1, ru, q1, s1⟩ := hs
  refine Wp.mono ((ib sc _ h2 env h1 ρ H1 s1.good (F.step s1)).1 _ q1) fun v' h2 hs => ?_
  obtain ⟨v, H2, rv, q2, s2⟩ := hs
  obtain ⟨i, rfl, q3⟩ := kI_ex q2
  obtain ⟨j, rfl, k1, k2, k3, k4, q4⟩ := kI_ex q3
  exact ⟨s2.good.K P.amb, W_range2 ru rv fun r h3 t uu w hr kk => hQ i j H2 r h3 t uu w k1 k2 k3 k4 q4 ((s1.trans s2).trans (Step.grow s2.good kk)) hr⟩
theorem R_listRange {h : Heap} {H : Hp} (g : Good X.K X.hb h H) (rm : Room A n) {r : Addr} {k : Int} {t u v : Tok} (hr : IsRange h r 0 k 1 t u v) (hk : k < 2 ^ 24) (hk0 : 0 ≤ k) {Q : V → Hp → Prop} (q : ∀ l, H l = none → Q (.ref l) (upd H l (.lst (rangeL 0 k)))) : R X A (call (.type "list") [.ref r]) Q h H := by
  refine RW.makes g q fun tk P hP => ?_
  have hn : Builtin.Range.rangeSize 0 k 1 = ((k - 0).toNat : Int) := by rw [rangeSize_one]; split <;> omega
  exact call_list_range (s := X.at h tk) rm.handled hr (small_one (by decide) (by decide) (by omega) (by omega)) hn (by omega) fun h' tk' acc' c' kk he hacc => hP _ _ _ (get_size h) kk ⟨_, _, he, range_items hacc⟩
theorem PE_listR (P : Prg X D N) (rm : Room A n) (ib : PE X A N Δ b) : PE X A N Δ (.listR b) := by
  intro sc e hc env h ρ H g F
  apply of_c1 hc
  intro p y pos hk hy hc
  refine both rfl fun Q q => W_call1 P g F (kk := 5) rfl hk hy (W_rangeSrc P g F ib hc q fun i H1 r h2 t u v h0 hlt q1 s2 hr => ⟨s2.good.K P.amb, Wp.mono (R_listRange s2.good rm hr hlt h0 q1) fun _ _ hs => ?_⟩)
  obtain ⟨w, H3, rw', q3, s3⟩ := hs
  exact ⟨w, H3, rw', q3, s2.trans s3⟩
theorem go_of {sc : Sc} {ts : List Nat} {target : Expr} (tok : tgtOk sc ts target = true) {H : Hp} {ρ : Env'} {live : Option Addr} {whole : List V} (hb : ∀ v r, whole = v :: r → ∃ ρ', bindT H ts v ρ = some ρ') (hl : live.isSome = true ∨ ∀ v ∈ whole, ∀ a, v ≠ .ref a) : isName target = true ∨ live.isSome = true ∨ whole = [] := by
  refine (tgt_go tok).imp id fun h => hl.imp id fun hl => ?_
  cases whole with
  | nil => rfl
  | cons v r =>
    obtain ⟨ρ', e⟩ := hb v r rfl
    cases bind_of e with
    | one => cases h
    | two i j x y et =>
      obtain ⟨tp, rfl, _⟩ := tupOf_some et
      exact absurd rfl (hl _ (.head _) tp)
theorem src_live {H : Hp} {v : V} {whole : List V} {live : Option Addr} (e : srcV H v = some (whole, live)) : live.isSome = true ∨ ∀ v ∈ whole, ∀ a, v ≠ .ref a := by
  cases v with
  | str s =>
    cases e
    refine .inr fun v hv a hva => ?_
    obtain ⟨c, _, rfl⟩ := List.mem_map.mp hv
    cases hva
  | ref a =>
    have e : srcO a (H a) = some (whole, live) := e
    cases z : H a with
    | none => rw [z] at e; cases e
    | some o =>
      rw [z] at e
      cases o with
      | lst vs => cases e; exact .inl rfl
      | _ => cases e
  | _ => cases e
theorem range_live {j k : Int} : ∀ v ∈ rangeL j k, ∀ a, v ≠ V.ref a := by
  intro v hv a hva
  obtain ⟨i, _, rfl⟩ := List.mem_map.mp hv
  cases hva
section
variable {sc sc' : Sc} {env : Env} {h : Heap} {ρ : Env'} {H : Hp} {iter target : Expr} {ts : List Nat} {body : Option Addr → List V → Hp → Prop}
theorem src_any (rm : Room A n) (g : Good X.K X.hb h H) (F : FrameOk X sc env h ρ H) (is : PE X A N Δ src) (hc : chkE N src sc iter = true) (tok : tgtOk sc' ts target = true) (hb : ∀ live v r H, body live (v :: r) H → ∃ ρ', bindT H ts v ρ = some ρ')
    {P : V → Hp → Prop} (q : EV Δ src ρ P H) (hP : ∀ v H, P v H → ∃ vs l, srcV H v = some (vs, l) ∧ body l vs H) : Wp X A (eval iter env) (SrcOk X A target h H body) h := by
  refine Wp.mono ((is sc iter hc env h ρ H g F).1 _ q) fun x' h1 hs => ?_
  obtain ⟨v, H1, rv, q1, s1⟩ := hs
  obtain ⟨vs, l, es, q1⟩ := hP v H1 q1
  exact ⟨H1, l, vs, s1, IterOk.src rm s1.good rv es, go_of tok (fun v r e => hb l v r H1 (e ▸ q1)) (src_live es), q1⟩
theorem src_r1 (P : Prg X D N) (rm : Room A n) (g : Good X.K X.hb h H) (F : FrameOk X sc env h ρ H) (ib : PE X A N Δ b) (hc : (c1 "range" sc iter fun y => chkE N b sc y) = true) (tok : tgtOk sc' ts target = true) (hb : ∀ live v r H, body live (v :: r) H → ∃ ρ', bindT H ts v ρ = some ρ')
    (q : EV Δ b ρ (kRng (body none)) H) : Wp X A (eval iter env) (SrcOk X A target h H body) h :=
  W_rangeSrc P g F ib hc q fun i H1 r h2 t u v h0 hlt q1 s2 hr => ⟨H1, none, _, s2, IterOk.range rm hr (by decide) (by decide) h0 hlt, go_of tok (fun v r e => hb none v r H1 (e ▸ q1)) (.inr range_live), q1⟩
theorem src_r2 (P : Prg X D N) (rm : Room A n) (g : Good X.K X.hb h H) (F : FrameOk X sc env h ρ H) (ia : PE X A N Δ a) (ib : PE X A N Δ b) (hc : (c2 "range" sc iter fun y z => chkE N a sc y && chkE N b sc z) = true) (tok : tgtOk sc' ts target = true) (hb : ∀ live v r H, body live (v :: r) H → ∃ ρ', bindT H ts v ρ = some ρ')
    (q : EV Δ a ρ (kRg1 (EV Δ b ρ) (body none)) H) : Wp X A (eval iter env) (SrcOk X A target h H body) h :=
  W_range2Src P g F ia ib hc q fun i j H1 r h2 t u v k1 k2 k3 k4 q1 s2 hr => ⟨H1, none, _, s2, IterOk.range rm hr k1 k2 k3 k4, go_of tok (fun v r e => hb none v r H1 (e ▸ q1)) (.inr range_live), q1⟩
end
theorem of_isC {c : ME} {v : V} (h : isC c v = true) : c = .cst v := by
  obtain ⟨h, hc⟩ := dk h
  exact ME.cst.elim (motive_1 := fun t => ∀ h, ME.cst.elim (motive_1 := fun _ => Bool) t h (fun w => decide (w = v)) = true → t = .cst v) c h (fun w _ hc => congrArg ME.cst (of_decide_eq_true hc)) h hc
theorem tests_ok {cenv : Env} {sc : Sc} {ifs : List Expr} (ic : PE X A N Δ c) (hc : condOk ifs (isC c (.bool true)) (fun t => chkE N c sc t) = true) {h : Heap} {ρ : Env'} {H : Hp} (g : Good X.K X.hb h H) (F : FrameOk X sc cenv h ρ H) {Q : Bool → Hp → Prop} (q : EV Δ c ρ (kB Q) H) : RT X A (testsOf ifs cenv) Q h H := by
  cases ifs with
  | nil =>
    cases of_isC hc
    exact RW.pure g rfl q
  | cons t r =>
    refine and_e hc fun h1 h2 => ?_
    apply nil_e h1
    exact fun tk => wpAny_tests_one ((ic sc t h2 cenv h ρ H g F).2 Q q tk)
theorem gens_parts {sc : Sc} {elt : Expr} {gs : List Comprehension} {scope : Scope} {C : List Comprehension → Prop} {ts : List Nat} {k : Expr → Bool} (hc : (k1 gs fun g => compG sc scope ts g && (k g.iter && (condOk g.ifs (isC c (.bool true)) (fun t => chkE N c (compSc sc scope ts g.target) t) && chkE N a (compSc sc scope ts g.target) elt))) = true)
    (z : ∀ target iter ifs, compOk sc scope ts target = true → tgtOk (compSc sc scope ts target) ts target = true → notSet iter = true → k iter = true → condOk ifs (isC c (.bool true)) (fun t => chkE N c (compSc sc scope ts target) t) = true → chkE N a (compSc sc scope ts target) elt = true → C [⟨target, iter, ifs, 0⟩]) : C gs :=
  of_1 hc fun g hk => and_e hk fun h1 hk => and_e hk fun h2 hk => and_e hk fun h3 h4 => and_e h1 fun h5 h1 => and_e h1 fun h6 h1 => and_e h1 fun h7 h8 => by
    cases g with
    | mk target iter ifs async => exact dec_e' (C := fun n => C [⟨target, iter, ifs, n⟩]) h5 (z target iter ifs h6 h7 h8 h2 h3 h4)
theorem comp_head {ts : List Nat} {ρ : Env'} {C E : Env' → P1 → Hp → Prop} {Q : List V → Hp → Prop} (live : Option Addr) (v : V) (r : List V) (H : Hp) : evComp (kTurn ts ρ C E) live (v :: r) (v :: r) [] Q H → ∃ ρ', bindT H ts v ρ = some ρ' := fun q => (kTurn_ex q.2.2).imp fun _ h => h.1
theorem for_head {ts : List Nat} {ρ : Env'} {S : Env' → PF → Hp → Prop} {Q : PF} (live : Option Addr) (v : V) (r : List V) (H : Hp) : exFor (kStep ts S) live (v :: r) (v :: r) Q ρ H → ∃ ρ', bindT H ts v ρ = some ρ' := fun q => (kStep_ex q.2).imp fun _ h => h.1
theorem kComp_ex {ts : List Nat} {ρ : Env'} {C E : Env' → P1 → Hp → Prop} {Q : P1} {v : V} {H : Hp} (q : kComp ts ρ C E Q v H) : ∃ vs l, srcV H v = some (vs, l) ∧ evComp (kTurn ts ρ C E) l vs vs [] (kNewL .lst Q) H := by
  unfold kComp at q
  cases e : srcV H v with
  | none => rw [e] at q; exact q.elim
  | some p => rw [e] at q; exact ⟨p.1, p.2, rfl, q⟩
theorem kFor_ex {ts : List Nat} {ρ : Env'} {S : Env' → PF → Hp → Prop} {Q : PF} {v : V} {H : Hp} (q : kFor ts S ρ Q v H) : ∃ vs l, srcV H v = some (vs, l) ∧ exFor (kStep ts S) l vs vs Q ρ H := by
  unfold kFor at q
  cases e : srcV H v with
  | none => rw [e] at q; exact q.elim
  | some p => rw [e] at q; exact ⟨p.1, p.2, rfl, q⟩
end
end Mine
namespace Mine
section
variable {X : Fix} {A : Around} {D : Defs} {N : Names} {n : Nat} {Δ : Calls} {a b c m src : ME}
theorem PE_comp (rm : Room A n) {ts : List Nat} (is : PE X A N Δ src) (ic : PE X A N Δ c) (ia : PE X A N Δ a) : PE X A N Δ (.comp ts src c a) := by
  intro sc e hc env h ρ H g F
  apply tof_ListComp hc
  intro elt gs scope pos hc
  apply gens_parts (k := fun y => chkE N src sc y) hc
  intro target iter ifs h2 h3 h4 h1 h5 h6
  exact both rfl fun Q q => R_Comp (tst := EV Δ c) (el := EV Δ a) rm h2 h3 h4 F (fun env' h H ρ R g F q => tests_ok ic h5 g F q) (fun env' h H ρ R g F q => (ia _ _ h6 env' h ρ H g F).1 _ q)
    (src_any (ts := ts) (ρ := ρ) rm g F is h1 h3 comp_head q fun _ _ => kComp_ex)
theorem PE_compR (P : Prg X D N) (rm : Room A n) {ts : List Nat} (im : PE X A N Δ m) (ic : PE X A N Δ c) (ia : PE X A N Δ a) : PE X A N Δ (.compR ts m c a) := by
  intro sc e hc env h ρ H g F
  apply tof_ListComp hc
  intro elt gs scope pos hc
  apply gens_parts (k := fun y => c1 "range" sc y fun y => chkE N m sc y) hc
  intro target iter ifs h2 h3 h4 h1 h5 h6
  exact both rfl fun Q q => R_Comp (tst := EV Δ c) (el := EV Δ a) rm h2 h3 h4 F (fun env' h H ρ R g F q => tests_ok ic h5 g F q) (fun env' h H ρ R g F q => (ia _ _ h6 env' h ρ H g F).1 _ q)
    (src_r1 (ts := ts) (ρ := ρ) P rm g F im h1 h3 comp_head q)
theorem E_all (P : Prg X D N) (rm : Room A (3 * n + 1)) (ok : CallOk X D n) (me : ME) : PE X A N (MC D.T n) me :=
  have rm' := rm.le (Nat.le_succ _)
  ME.rec (motive_1 := fun me => PE X A N (MC D.T n) me) (motive_2 := fun ms => PEs X A N (MC D.T n) ms) (fun _ => PE_var) (fun _ => PE_cst) (fun _ _ i => PE_attr P i) (fun _ _ _ i j => PE_bin i j) (fun _ i => PE_neg i) (fun _ _ _ i j => PE_cmp rm i j) (fun _ _ _ _ _ i j k => PE_cmp2 rm i j k)
    (fun _ _ i j => PE_and i j) (fun _ _ i j => PE_or i j) (fun _ i => PE_not i) (fun _ _ _ i j k => PE_ite i j k) (fun _ _ i j => PE_idx i j) (fun _ _ _ i j k => PE_slc i j k) (fun _ _ i j => PE_sto i j) (fun _ _ i j => PE_sfr i j) (fun _ i => PE_lst i) (fun _ i => PE_tup i) (PE_dct P)
    (fun _ _ i => PE_call P rm' ok i) (fun _ _ _ i j => PE_meth P rm' ok i j) (fun _ _ i => PE_new P rm ok i) (fun _ _ i => PE_isi P i) (fun _ i => PE_len P i) (fun _ i => PE_ord P i) (fun _ i => PE_strI P i) (fun _ i => PE_repr P rm i) (fun _ i => PE_listOf P rm i) (fun _ i => PE_listR P rm i) (fun _ i => PE_tupleOf P i) (fun _ i => PE_dictOf P i)
    (fun _ i => PE_max P rm i) (fun _ _ i j => PE_min P rm i j) (fun _ _ i j => PE_join P i j) (fun _ _ _ i j k => PE_replace P i j k) (fun _ _ i j => PE_append P i j) (fun _ i => PE_pop P i) (fun _ _ _ _ i j k => PE_comp rm i j k) (fun _ _ _ _ i j k => PE_compR P rm i j k) PE_dead PEs_nil (fun _ _ i j => PEs_cons i j) me
end
noncomputable def notTuple (e : Expr) : Bool := !decide (e.ctorIdx = 25)
noncomputable def chkC (N : Names) (i : Nat) (ts : List Nat) (c a : ME) (sc : Sc) (ss : List Stmt) (k : Expr → Bool) : Bool := k1 ss fun st => sAssign st fun vs y _ => k1 vs fun v => tName v fun x p => locAt sc x i &&
  tListComp y fun elt gs scope cp => (p.line == cp.line && !(scope.names.any fun q => q.1 == x && (q.2 == .local || q.2 == .cell))) && k1 gs fun g => compG sc scope ts g && (k g.iter && (condOk g.ifs (isC c (.bool true)) (fun t => chkE N c (compSc sc scope ts g.target) t) && chkE N a (compSc sc scope ts g.target) elt))
noncomputable def chkS (N : Names) : MS → Sc → List Stmt → Bool
  | .skip, _, ss => ss.isEmpty
  | .seq s r, sc, ss => kCons ss fun st rest => chkS N s sc [st] && chkS N r sc rest
  | .expr e, sc, ss => k1 ss fun st => sExpr st fun x _ => notComp x && chkE N e sc x
  | .asg i e, sc, ss => k1 ss fun st => sAssign st fun ts y _ => k1 ts fun t => tName t fun x _ => locAt sc x i && (notComp y && chkE N e sc y)
  | .asgC i ts src c a, sc, ss => chkC N i ts c a sc ss fun y => chkE N src sc y
  | .asgCR i ts n c a, sc, ss => chkC N i ts c a sc ss fun y => c1 "range" sc y fun y => chkE N n sc y
  | .asgA o f e, sc, ss => k1 ss fun st => sAssign st fun ts y _ => k1 ts fun t => tAttribute t fun x a _ => a == fname f && (chkE N e sc y && chkE N o sc x)
  | .asgI o i e, sc, ss => k1 ss fun st => sAssign st fun ts y _ => k1 ts fun t => tSubscript t fun x z _ => chkE N e sc y && (chkE N o sc x && chkE N i sc z)
  | .asgT i j e, sc, ss => k1 ss fun st => sAssign st fun ts z _ => k1 ts fun t => tTuple t fun us _ _ => k2 us fun u v => tName u fun x _ => tName v fun y _ => locAt sc x i && (locAt sc y j && (notComp z && (notTuple z && chkE N e sc z)))
  | .asg2 i j a b, sc, ss => k1 ss fun st => sAssign st fun ts z _ => k1 ts fun t => tTuple t fun us _ _ => k2 us fun u v => tName u fun x px => tName v fun y py => tTuple z fun ws _ _ => k2 ws fun u v =>
      (locAt sc x i && (locAt sc y j && (notStarred u && (notStarred v && (notStar u && notStar v))))) && (!(foldedForSure 8 u && foldedForSure 8 v) && (!(constantsAlone 8 u && constantsAlone 8 v) && (py.line == px.line && (!(x == y) && (chkE N a sc u && chkE N b sc v)))))
  | .aug i op e, sc, ss => k1 ss fun st => sAugAssign st fun t op' y _ => tName t fun x _ => locAt sc x i && (decide (op = op') && chkE N e sc y)
  | .augA o f op e, sc, ss => k1 ss fun st => sAugAssign st fun t op' y _ => tAttribute t fun x a _ => a == fname f && (decide (op = op') && (chkE N o sc x && chkE N e sc y))
  | .ife c s t, sc, ss => k1 ss fun st => sIf st fun x b o _ => chkE N c sc x && (chkS N s sc b && chkS N t sc o)
  | .wh c s, sc, ss => k1 ss fun st => sWhile st fun x b o _ => o.isEmpty && (chkE N c sc x && chkS N s sc b)
  | .for_ ts src s, sc, ss => k1 ss fun st => sFor st fun t i b o _ => o.isEmpty && (tgtOk sc ts t && (notSet i && (chkE N src sc i && chkS N s sc b)))
  | .forR ts n s, sc, ss => k1 ss fun st => sFor st fun t i b o _ => o.isEmpty && (tgtOk sc ts t && (notSet i && ((c1 "range" sc i fun y => chkE N n sc y) && chkS N s sc b)))
  | .forR2 ts m n s, sc, ss => k1 ss fun st => sFor st fun t i b o _ => o.isEmpty && (tgtOk sc ts t && (notSet i && ((c2 "range" sc i fun y z => chkE N m sc y && chkE N n sc z) && chkS N s sc b)))
  | .ret e, sc, ss => k1 ss fun st => sReturn st fun v _ => match v with
    | some x => chkE N e sc x
    | none => isC e .none
  | .dead, _, _ => true
section
variable {X : Fix} {A : Around} {D : Defs} {N : Names} {n : Nat} {Δ : Calls} {sc : Sc} {env : Env} {a b c e i o m src : ME} {s t r : MS} {j k : Nat} {ts : List Nat}
noncomputable def PS (X : Fix) (A : Around) (N : Names) (Δ : Calls) (sc : Sc) (env : Env) (ms : MS) : Prop := ∀ (ss : List Stmt), chkS N ms sc ss = true → ∀ (h : Heap) (ρ : Env') (H : Hp), Good X.K X.hb h H → FrameOk X sc env h ρ H → ∀ Q, EX Δ ms ρ Q H → SW X A sc env (execs ss env) Q h H
theorem PS_skip : PS X A N Δ sc env .skip := by
  intro ss hc h ρ H g F Q q
  apply nil_e hc
  exact S_nil g F q
theorem PS_seq (is : PS X A N Δ sc env s) (ir : PS X A N Δ sc env r) : PS X A N Δ sc env (.seq s r) := by
  intro ss hc h ρ H g F Q q
  apply of_Cons hc
  intro st rest hc1
  refine and_e hc1 fun h1 h2 => ?_
  refine S_cons (SW.mono (is _ h1 h ρ H g F _ q) fun fl ρ' H' q => ?_)
  cases fl with
  | nxt => exact fun h' g' F' => ir _ h2 h' ρ' H' g' F' Q q
  | ret v => exact q
theorem PS_expr (ie : PE X A N Δ e) : PS X A N Δ sc env (.expr e) := by
  intro ss hc h ρ H g F Q q
  apply of_1 hc
  intro st hc1
  apply sof_Expr hc1
  intro x p hc2
  refine and_e hc2 fun h1 h2 => ?_
  rw [execs_one]
  exact S_Expr F h1 ((ie sc _ h2 env h ρ H g F).1 _ q)
theorem PS_asg (inj : Inj sc) (ie : PE X A N Δ e) : PS X A N Δ sc env (.asg j e) := by
  intro ss hc h ρ H g F Q q
  apply of_1 hc
  intro st hc1
  apply sof_Assign hc1
  intro ts y pos hc2
  apply of_1 hc2
  intro t hc3
  apply tof_Name hc3
  intro x p hc4
  refine and_e hc4 fun h1 hc5 => ?_
  refine and_e hc5 fun h2 h3 => ?_
  rw [execs_one]
  exact S_AssignName inj F h2 (locAt_ok h1).1 (locAt_ok h1).2 ((ie sc _ h3 env h ρ H g F).1 _ q)
theorem PS_comp {ms : MS} {kk : Expr → Bool} (rm : Room A n) (inj : Inj sc) (ic : PE X A N Δ c) (ia : PE X A N Δ a) (hk : ∀ ss, chkS N ms sc ss = true → chkC N j ts c a sc ss kk = true)
    (hq : ∀ iter sc' target, kk iter = true → tgtOk sc' ts target = true → ∀ h ρ H Q, Good X.K X.hb h H → FrameOk X sc env h ρ H → EX Δ ms ρ Q H → Wp X A (eval iter env) (SrcOk X A target h H fun live whole H => evComp (kTurn ts ρ (EV Δ c) (EV Δ a)) live whole whole [] (kNewL .lst (kAsg j ρ Q)) H) h) : PS X A N Δ sc env ms := by
  intro ss hc h ρ H g F Q q
  apply of_1 (hk ss hc)
  intro st hc1
  apply sof_Assign hc1
  intro vs y pos hc2
  apply of_1 hc2
  intro t hc3
  apply tof_Name hc3
  intro x p hc4
  refine and_e hc4 fun h1 hc5 => ?_
  apply tof_ListComp hc5
  intro elt gs scope cp hc6
  refine and_e hc6 fun h7 hc7 => ?_
  refine and_e h7 fun h7 h8 => ?_
  apply gens_parts (c := c) (a := a) (k := kk) hc7
  intro target iter ifs h2 h3 h4 h5 h6 h9
  rw [execs_one]
  exact S_AssignComp (tst := EV Δ c) (el := EV Δ a) rm inj h2 h3 h4 (locAt_ok h1).1 (locAt_ok h1).2 h7 ((Bool.not_eq_true' _).mp h8) F (fun env' h H ρ R g F q => tests_ok ic h6 g F q) (fun env' h H ρ R g F q => (ia _ _ h9 env' h ρ H g F).1 _ q) (hq iter _ target h5 h3 h ρ H Q g F q)
theorem PS_asgC (rm : Room A n) (inj : Inj sc) (is : PE X A N Δ src) (ic : PE X A N Δ c) (ia : PE X A N Δ a) : PS X A N Δ sc env (.asgC j ts src c a) :=
  PS_comp rm inj ic ia (fun _ hc => hc) fun iter sc' target h1 h2 h ρ H Q g F q => src_any (ts := ts) (ρ := ρ) rm g F is h1 h2 comp_head q fun _ _ => kComp_ex
theorem PS_asgCR (P : Prg X D N) (rm : Room A n) (inj : Inj sc) (im : PE X A N Δ m) (ic : PE X A N Δ c) (ia : PE X A N Δ a) : PS X A N Δ sc env (.asgCR j ts m c a) :=
  PS_comp rm inj ic ia (fun _ hc => hc) fun iter sc' target h1 h2 h ρ H Q g F q => src_r1 (ts := ts) (ρ := ρ) P rm g F im h1 h2 comp_head q
theorem PS_asgA (P : Prg X D N) (io : PE X A N Δ o) (ie : PE X A N Δ e) : PS X A N Δ sc env (.asgA o k e) := by
  intro ss hc h ρ H g F Q q
  apply of_1 hc
  intro st hc1
  apply sof_Assign hc1
  intro ts y pos hc2
  apply of_1 hc2
  intro t hc3
  apply tof_Attribute hc3
  intro x f p hc4
  refine and_e hc4 fun h1 hc5 => ?_
  refine and_e hc5 fun h2 h3 => ?_
  apply beq_e h1
  rw [execs_one]
  exact S_AssignAttr P.amb P.cls F (RW.mono ((ie sc _ h2 env h ρ H g F).1 _ q) fun v H1 q h1 g1 F1 => (io sc _ h3 env h1 ρ H1 g1 F1).1 _ q)
theorem PS_asgI (io : PE X A N Δ o) (ii : PE X A N Δ i) (ie : PE X A N Δ e) : PS X A N Δ sc env (.asgI o i e) := by
  intro ss hc h ρ H g F Q q
  apply of_1 hc
  intro st hc1
  apply sof_Assign hc1
  intro ts y pos hc2
  apply of_1 hc2
  intro t hc3
  apply tof_Subscript hc3
  intro x z p hc4
  refine and_e hc4 fun h1 hc5 => ?_
  refine and_e hc5 fun h2 h3 => ?_
  rw [execs_one]
  exact S_AssignItem F (RW.mono ((ie sc _ h1 env h ρ H g F).1 _ q) fun v H1 q h1 g1 F1 => RW.mono ((io sc _ h2 env h1 ρ H1 g1 F1).1 _ q) fun x H2 q h2 g2 F2 => (ii sc _ h3 env h2 ρ H2 g2 F2).1 _ q)
theorem PS_asgT (rm : Room A n) (inj : Inj sc) (ie : PE X A N Δ e) : PS X A N Δ sc env (.asgT j k e) := by
  intro ss hc h ρ H g F Q q
  apply of_1 hc
  intro st hc1
  apply sof_Assign hc1
  intro ts z pos hc2
  apply of_1 hc2
  intro t hc3
  apply tof_Tuple hc3
  intro us kk p hc4
  apply of_2 hc4
  intro u v hc5
  apply tof_Name hc5
  intro x px hc6
  apply tof_Name hc6
  intro y py hc7
  refine and_e hc7 fun h1 hc8 => ?_
  refine and_e hc8 fun h2 hc9 => ?_
  refine and_e hc9 fun h3 hc10 => ?_
  refine and_e hc10 fun h4 h5 => ?_
  rw [execs_one]
  exact S_AssignTuple rm inj F h3 (fun es k p e => by subst e; cases h4) (locAt_ok h1).1 (locAt_ok h1).2 (locAt_ok h2).1 (locAt_ok h2).2 ((ie sc _ h5 env h ρ H g F).1 _ q)
theorem PS_asg2 (rm : Room A n) (inj : Inj sc) (ia : PE X A N Δ a) (ib : PE X A N Δ b) : PS X A N Δ sc env (.asg2 j k a b) := by
  intro ss hc h ρ H g F Q q
  apply of_1 hc
  intro st hc1
  apply sof_Assign hc1
  intro ts z pos hc2
  apply of_1 hc2
  intro t hc3
  apply tof_Tuple hc3
  intro us kk p hc4
  apply of_2 hc4
  intro u v hc5
  apply tof_Name hc5
  intro x px hc6
  apply tof_Name hc6
  intro y py hc7
  apply tof_Tuple hc7
  intro ws kk' p' hc8
  apply of_2 hc8
  intro u v hc9
  refine and_e hc9 fun h1 hc10 => ?_
  refine and_e h1 fun h1 h2 => ?_
  refine and_e h2 fun h2 h3 => ?_
  refine and_e h3 fun h3 h4 => ?_
  refine and_e h4 fun h4 h5 => ?_
  refine and_e h5 fun h5 h6 => ?_
  refine and_e hc10 fun h7 hc11 => ?_
  refine and_e hc11 fun h8 hc12 => ?_
  refine and_e hc12 fun h9 hc13 => ?_
  refine and_e hc13 fun h10 hc14 => ?_
  refine and_e hc14 fun h11 h12 => ?_
  rw [execs_one]
  refine S_AssignPair rm inj F h3 h4 ((Bool.not_eq_true' _).mp h7) ((Bool.not_eq_true' _).mp h8) h9 (beq_eq_false_iff_ne.mp ((Bool.not_eq_true' _).mp h10)) (locAt_ok h1).1 (locAt_ok h1).2 (locAt_ok h2).1 (locAt_ok h2).2 (R_args_cons h5 (RW.mono ((ia sc _ h11 env h ρ H g F).1 _ q) fun u H1 q h1 s1 => ?_))
  exact R_args_cons h6 (RW.mono ((ib sc _ h12 env h1 ρ H1 s1.good (F.step s1)).1 _ q) fun v H2 q h2 s2 => R_args_nil s2.good ⟨u, v, rfl, q⟩)
theorem PS_aug {op : Operator} (inj : Inj sc) (ie : PE X A N Δ e) : PS X A N Δ sc env (.aug j op e) := by
  intro ss hc h ρ H g F Q q
  apply of_1 hc
  intro st hc1
  apply sof_AugAssign hc1
  intro t op' y p hc2
  apply tof_Name hc2
  intro x p' hc3
  refine and_e hc3 fun h1 hc4 => ?_
  refine and_e hc4 fun h2 h3 => ?_
  apply dec_e h2
  obtain ⟨v, hv, q⟩ := kV_ex q
  rw [execs_one]
  exact S_AugName inj g F (locAt_ok h1).1 (locAt_ok h1).2 hv ((ie sc _ h3 env h ρ H g F).1 _ q)
theorem PS_augA {op : Operator} (P : Prg X D N) (io : PE X A N Δ o) (ie : PE X A N Δ e) : PS X A N Δ sc env (.augA o k op e) := by
  intro ss hc h ρ H g F Q q
  apply of_1 hc
  intro st hc1
  apply sof_AugAssign hc1
  intro t op' y p hc2
  apply tof_Attribute hc2
  intro x f p' hc3
  refine and_e hc3 fun h1 hc4 => ?_
  refine and_e hc4 fun h2 hc5 => ?_
  refine and_e hc5 fun h3 h4 => ?_
  apply beq_e h1
  apply dec_e h2
  rw [execs_one]
  refine S_AugAttr P.amb P.cls F (RW.mono ((io sc _ h3 env h ρ H g F).1 _ q) fun x H1 q => ?_)
  obtain ⟨v, ev, q⟩ := kO_ex q
  exact ⟨v, ev, fun h1 g1 F1 => (ie sc _ h4 env h1 ρ H1 g1 F1).1 _ q⟩
theorem PS_ife (ic : PE X A N Δ c) (is : PS X A N Δ sc env s) (it : PS X A N Δ sc env t) : PS X A N Δ sc env (.ife c s t) := by
  intro ss hc h ρ H g F Q q
  apply of_1 hc
  intro st hc1
  apply sof_If hc1
  intro x b o p hc2
  refine and_e hc2 fun h1 hc3 => ?_
  refine and_e hc3 fun h2 h3 => ?_
  rw [execs_one]
  refine S_If F (RW.mono ((ic sc _ h1 env h ρ H g F).2 _ q) fun b H1 q h1 g1 F1 => ?_)
  cases b with
  | true => exact is _ h2 h1 ρ H1 g1 F1 Q q
  | false => exact it _ h3 h1 ρ H1 g1 F1 Q q
theorem PS_wh (ic : PE X A N Δ c) (is : PS X A N Δ sc env s) : PS X A N Δ sc env (.wh c s) := by
  intro ss hc h ρ H g F Q q
  apply of_1 hc
  intro st hc1
  apply sof_While hc1
  intro x b o p hc2
  refine and_e hc2 fun h1 hc3 => ?_
  refine and_e hc3 fun h2 h3 => ?_
  apply nil_e h1
  obtain ⟨m, q⟩ := q
  rw [execs_one]
  exact S_While g F (fun h H ρ R g F q => (ic sc _ h2 env h ρ H g F).2 R q) (fun h H ρ R g F q => is _ h3 h ρ H g F R q) q
theorem for_parts {kk : Expr → Bool} {ss : List Stmt} {C : List Stmt → Prop} (hc : (k1 ss fun st => sFor st fun t i b o _ => o.isEmpty && (tgtOk sc ts t && (notSet i && (kk i && chkS N s sc b)))) = true) (z : ∀ t i b p, tgtOk sc ts t = true → notSet i = true → kk i = true → chkS N s sc b = true → C [.For t i b [] p]) : C ss :=
  of_1 hc fun st hc => sof_For (C := fun st => C [st]) hc fun t i b o p hc => and_e hc fun h1 hc => and_e hc fun h2 hc => and_e hc fun h3 hc => and_e hc fun h4 h5 => nil_e (C := fun o => C [.For t i b o p]) h1 (z t i b p h2 h3 h4 h5)
theorem PS_for (rm : Room A n) (inj : Inj sc) (ie : PE X A N Δ src) (is : PS X A N Δ sc env s) : PS X A N Δ sc env (.for_ ts src s) := by
  intro ss hc h ρ H g F Q q
  apply for_parts (kk := fun y => chkE N src sc y) hc
  intro t i b p h1 h2 h3 h4
  rw [execs_one]
  exact S_For rm inj h1 h2 (bd := EX Δ s) (fun h H ρ R g F q => is _ h4 h ρ H g F R q) F (src_any (ts := ts) (ρ := ρ) rm g F ie h3 h1 for_head q fun _ _ => kFor_ex)
theorem PS_forR (P : Prg X D N) (rm : Room A n) (inj : Inj sc) (im : PE X A N Δ m) (is : PS X A N Δ sc env s) : PS X A N Δ sc env (.forR ts m s) := by
  intro ss hc h ρ H g F Q q
  apply for_parts (kk := fun y => c1 "range" sc y fun y => chkE N m sc y) hc
  intro t i b p h1 h2 h3 h4
  rw [execs_one]
  exact S_For rm inj h1 h2 (bd := EX Δ s) (fun h H ρ R g F q => is _ h4 h ρ H g F R q) F (src_r1 (ts := ts) (ρ := ρ) P rm g F im h3 h1 for_head q)
theorem PS_forR2 (P : Prg X D N) (rm : Room A n) (inj : Inj sc) (ia : PE X A N Δ a) (im : PE X A N Δ m) (is : PS X A N Δ sc env s) : PS X A N Δ sc env (.forR2 ts a m s) := by
  intro ss hc h ρ H g F Q q
  apply for_parts (kk := fun y => c2 "range" sc y fun y z => chkE N a sc y && chkE N m sc z) hc
  intro t i b p h1 h2 h3 h4
  rw [execs_one]
  exact S_For rm inj h1 h2 (bd := EX Δ s) (fun h H ρ R g F q => is _ h4 h ρ H g F R q) F (src_r2 (ts := ts) (ρ := ρ) P rm g F ia im h3 h1 for_head q)
theorem PS_ret (ie : PE X A N Δ e) : PS X A N Δ sc env (.ret e) := by
  intro ss hc h ρ H g F Q q
  apply of_1 hc
  intro st hc1
  apply sof_Return hc1
  intro v p hc2
  rw [execs_one]
  cases v with
  | some x => exact S_Return F ((ie sc _ hc2 env h ρ H g F).1 _ q)
  | none =>
    cases of_isC hc2
    exact S_ReturnNone g F q
theorem PS_dead : PS X A N Δ sc env .dead := fun ss hc h ρ H g F Q q => q.elim
theorem S_all (P : Prg X D N) (rm : Room A (3 * n + 1)) (ok : CallOk X D n) (inj : Inj sc) (ms : MS) : PS X A N (MC D.T n) sc env ms :=
  have E := E_all P rm ok
  MS.rec (motive := fun ms => PS X A N (MC D.T n) sc env ms) PS_skip (fun _ _ i j => PS_seq i j) (fun e => PS_expr (E e)) (fun _ e => PS_asg inj (E e)) (fun _ _ s c a => PS_asgC rm inj (E s) (E c) (E a)) (fun _ _ m c a => PS_asgCR P rm inj (E m) (E c) (E a)) (fun o _ e => PS_asgA P (E o) (E e)) (fun o i e => PS_asgI (E o) (E i) (E e)) (fun _ _ e => PS_asgT rm inj (E e)) (fun _ _ a b => PS_asg2 rm inj (E a) (E b)) (fun _ _ e => PS_aug inj (E e)) (fun o _ _ e => PS_augA P (E o) (E e))
    (fun c _ _ i j => PS_ife (E c) i j) (fun c _ i => PS_wh (E c) i) (fun _ s _ i => PS_for rm inj (E s) i) (fun _ m _ i => PS_forR P rm inj (E m) i) (fun _ a m _ i => PS_forR2 P rm inj (E a) (E m) i) (fun e => PS_ret (E e)) PS_dead ms
end
noncomputable def FnsOk (X : Fix) (D : Defs) (N : Names) : Prop := ∀ f F, D.T f = some F → fnAt X.K (D.addr f) F (fun body names => injB F.vars.zipIdx && chkS N F.body (scOf F names) body) = true
theorem kFn_ex {o : Option Fn} {P : Fn → Prop} (q : kFn o P) : ∃ F, o = some F ∧ P F := by
  cases o with
  | none => exact q.elim
  | some F => exact ⟨F, rfl, q⟩
theorem args_ex {F : Fn} {vs : List V} {P : Env' → Prop} (q : kEnv (argsOf F vs) P) : vs.length ≤ F.pars ∧ F.pars ≤ vs.length + F.dfl.length ∧ P ((vs ++ F.dfl.drop (vs.length + F.dfl.length - F.pars)).map some ++ List.replicate (F.vars.length - F.pars) none) := by
  unfold argsOf at q
  cases e : (Nat.ble vs.length F.pars && Nat.ble F.pars (vs.length + F.dfl.length)) with
  | false => rw [e] at q; exact q.elim
  | true => rw [e] at q; exact ⟨Nat.le_of_ble_eq_true (and_of e).1, Nat.le_of_ble_eq_true (and_of e).2, q⟩
theorem call_ok {X : Fix} {D : Defs} {N : Names} (P : Prg X D N) (fns : FnsOk X D N) (n : Nat) : CallOk X D n := by
  induction n with
  | zero => exact fun A _ f vs vs' Q h H _ _ q => q.elim
  | succ n ih =>
    intro A rm f vs vs' Q h H rv g q
    obtain ⟨F, hT, q⟩ := kFn_ex q
    obtain ⟨h1, h2, q⟩ := args_ex q
    obtain ⟨body, names, FA, hc1⟩ := fnAt_ok (fns f F hT)
    refine and_e hc1 fun hi hc2 => ?_
    have inj : Inj (scOf F names) := injB_ok (sc := scOf F names) hi
    exact call_fn P.amb (n := 3 * n + 2) rm FA rv g h1 h2 fun env hh F0 g0 rm' => S_all P (rm'.le (Nat.le_succ _)) ih inj F.body body hc2 hh _ H g0 F0 _ q
end Mine
namespace Mine
noncomputable def f_least : Fn := ⟨0, [], [],
  (.seq (.ret (.neg (.bin .Pow (.cst (.int 2)) (.cst (.int 63))))) .skip)⟩
noncomputable def f_greatest : Fn := ⟨0, [], [],
  (.seq (.ret (.bin .Sub (.bin .Pow (.cst (.int 2)) (.cst (.int 63))) (.cst (.int 1)))) .skip)⟩
noncomputable def f_Ref_init : Fn := ⟨2, [Str.ofString "self", Str.ofString "value"], [.none],
  (.seq (.asgA (.var 0) 11 (.var 1)) (.seq (.asgA (.var 0) 12 (.cst (.int 0))) (.seq (.asgA (.var 0) 13 (.lst .nil)) .skip)))⟩
noncomputable def f_Absent_init : Fn := ⟨2, [Str.ofString "self", Str.ofString "was_unset"], [(.bool false)],
  (.seq (.asgA (.var 0) 14 (.var 1)) .skip)⟩
noncomputable def f_deref : Fn := ⟨1, [Str.ofString "slot"], [],
  (.seq (.ife (.isi (.var 0) .rf) (.seq (.asg 0 (.attr (.var 0) 11)) .skip) .skip) (.seq (.ife (.isi (.var 0) .absent) (.seq (.ret (.cst .none)) .skip) .skip) (.seq (.ret (.var 0)) .skip)))⟩
noncomputable def f_hold : Fn := ⟨1, [Str.ofString "ref"], [],
  (.seq (.augA (.var 0) 12 .Add (.cst (.int 1))) (.seq (.ret (.var 0)) .skip))⟩
noncomputable def f_Arr_init : Fn := ⟨2, [Str.ofString "self", Str.ofString "size"], [(.int 8)],
  (.seq (.asgA (.var 0) 0 (.cst (.bool true))) (.seq (.asgA (.var 0) 1 (.lst .nil)) (.seq (.asgA (.var 0) 2 (.lst .nil)) (.seq (.asgA (.var 0) 3 (.lst .nil)) (.seq (.asgA (.var 0) 4 (.lst .nil)) (.seq (.asgA (.var 0) 5 (.var 1)) (.seq (.asgA (.var 0) 6 (.cst (.int 0))) (.seq (.asgA (.var 0) 7 (.call 1 .nil)) (.seq (.asgA (.var 0) 8 (.cst (.int 0))) (.seq (.asgA (.var 0) 9 (.cst (.bool false))) (.seq (.asgA (.var 0) 10 .dct) .skip)))))))))))⟩
noncomputable def f_m_find : Fn := ⟨2, [Str.ofString "self", Str.ofString "key", Str.ofString "place"], [],
  (.seq (.ife (.attr (.var 0) 0) (.seq (.ret (.ite (.and (.isi (.var 1) .int) (.call 5 (.cons (.var 0) (.cons (.var 1) .nil)))) (.var 1) (.neg (.cst (.int 1))))) .skip) .skip) (.seq (.asg 2 (.idx (.attr (.var 0) 3) (.bin .Mod (.call 6 (.cons (.var 1) .nil)) (.attr (.var 0) 5)))) (.seq (.wh (.and (.cmp .GtE (.var 2) (.cst (.int 0))) (.cmp .NotEq (.idx (.attr (.var 0) 1) (.var 2)) (.var 1))) (.seq (.asg 2 (.idx (.attr (.var 0) 4) (.var 2))) .skip)) (.seq (.ret (.var 2)) .skip))))⟩
noncomputable def f_m_has : Fn := ⟨2, [Str.ofString "self", Str.ofString "key"], [],
  (.seq (.ret (.cmp .GtE (.meth (.var 0) 101 (.cons (.var 1) .nil)) (.cst (.int 0)))) .skip)⟩
noncomputable def f_m_slot : Fn := ⟨2, [Str.ofString "self", Str.ofString "key", Str.ofString "place"], [],
  (.seq (.asg 2 (.meth (.var 0) 101 (.cons (.var 1) .nil))) (.seq (.ret (.ite (.cmp .Lt (.var 2) (.cst (.int 0))) (.cst .none) (.idx (.attr (.var 0) 2) (.var 2)))) .skip))⟩
noncomputable def f_m_put : Fn := ⟨3, [Str.ofString "self", Str.ofString "key", Str.ofString "slot", Str.ofString "place"], [],
  (.seq (.asg 3 (.meth (.var 0) 101 (.cons (.var 1) .nil))) (.seq (.ife (.cmp .GtE (.var 3) (.cst (.int 0))) (.seq (.asgI (.attr (.var 0) 2) (.var 3) (.var 2)) .skip) (.seq (.expr (.call 17 (.cons (.var 0) (.cons (.var 1) (.cons (.var 2) .nil))))) .skip)) .skip))⟩
noncomputable def f_m_append : Fn := ⟨2, [Str.ofString "self", Str.ofString "slot", Str.ofString "key"], [],
  (.seq (.asg 2 (.ite (.cmp .Eq (.attr (.var 0) 7) (.call 1 .nil)) (.cst (.int 0)) (.attr (.var 0) 7))) (.seq (.ife (.and (.cmp .Eq (.var 2) (.call 2 .nil)) (.meth (.var 0) 102 (.cons (.var 2) .nil))) (.seq .dead .skip) .skip) (.seq (.expr (.call 17 (.cons (.var 0) (.cons (.var 2) (.cons (.var 1) .nil))))) (.seq (.ret (.var 2)) .skip))))⟩
noncomputable def f_m_drop : Fn := ⟨2, [Str.ofString "self", Str.ofString "key", Str.ofString "place", Str.ofString "slot"], [],
  (.seq (.asg 2 (.meth (.var 0) 101 (.cons (.var 1) .nil))) (.seq (.ife (.cmp .Lt (.var 2) (.cst (.int 0))) (.seq (.ret (.cst .none)) .skip) .skip) (.seq (.asg 3 (.idx (.attr (.var 0) 2) (.var 2))) (.seq (.ife (.not (.attr (.var 0) 0)) (.seq (.expr (.call 8 (.cons (.var 0) (.cons (.var 2) .nil)))) (.seq (.asgI (.attr (.var 0) 1) (.var 2) (.cst .none)) .skip)) .skip) (.seq (.asgI (.attr (.var 0) 2) (.var 2) (.new .absent .nil)) (.seq (.augA (.var 0) 6 .Sub (.cst (.int 1))) (.seq (.expr (.call 18 (.cons (.var 0) (.cons (.var 2) .nil)))) (.seq (.ret (.var 3)) .skip))))))))⟩
noncomputable def f_m_key_at : Fn := ⟨2, [Str.ofString "self", Str.ofString "place"], [],
  (.seq (.ret (.ite (.attr (.var 0) 0) (.var 1) (.idx (.attr (.var 0) 1) (.var 1)))) .skip)⟩
noncomputable def f_is_living : Fn := ⟨2, [Str.ofString "arr", Str.ofString "place"], [],
  (.seq (.ret (.and (.cmp2 (.cst (.int 0)) .LtE (.var 1) .Lt (.len (.attr (.var 0) 2))) (.not (.isi (.idx (.attr (.var 0) 2) (.var 1)) .absent)))) .skip)⟩
noncomputable def f_hash_of : Fn := ⟨1, [Str.ofString "key", Str.ofString "found", Str.ofString "sign"], [],
  (.seq (.ife (.isi (.var 0) .int) (.seq (.ret (.bin .Mod (.var 0) (.bin .Pow (.cst (.int 2)) (.cst (.int 64))))) .skip) .skip) (.seq (.asg 1 (.cst (.int 5381))) (.seq (.for_ [2] (.var 0) (.seq (.asg 1 (.bin .Mod (.bin .Add (.bin .Mult (.var 1) (.cst (.int 33))) (.ord (.var 2))) (.bin .Pow (.cst (.int 2)) (.cst (.int 64))))) .skip)) (.seq (.ret (.bin .BitOr (.var 1) (.bin .Pow (.cst (.int 2)) (.cst (.int 63))))) .skip))))⟩
noncomputable def f_link : Fn := ⟨2, [Str.ofString "arr", Str.ofString "place", Str.ofString "chain"], [],
  (.seq (.asg 2 (.bin .Mod (.call 6 (.cons (.idx (.attr (.var 0) 1) (.var 1)) .nil)) (.attr (.var 0) 5))) (.seq (.asgI (.attr (.var 0) 4) (.var 1) (.idx (.attr (.var 0) 3) (.var 2))) (.seq (.asgI (.attr (.var 0) 3) (.var 2) (.var 1)) .skip)))⟩
noncomputable def f_unlink : Fn := ⟨2, [Str.ofString "arr", Str.ofString "place", Str.ofString "chain", Str.ofString "ahead", Str.ofString "here"], [],
  (.seq (.asg 2 (.bin .Mod (.call 6 (.cons (.idx (.attr (.var 0) 1) (.var 1)) .nil)) (.attr (.var 0) 5))) (.seq (.asg 3 (.neg (.cst (.int 1)))) (.seq (.asg 4 (.idx (.attr (.var 0) 3) (.var 2))) (.seq (.wh (.cmp .NotEq (.var 4) (.var 1)) (.seq (.asg 3 (.var 4)) (.seq (.asg 4 (.idx (.attr (.var 0) 4) (.var 4))) .skip))) (.seq (.ife (.cmp .Lt (.var 3) (.cst (.int 0))) (.seq (.asgI (.attr (.var 0) 3) (.var 2) (.idx (.attr (.var 0) 4) (.var 1))) .skip) (.seq (.asgI (.attr (.var 0) 4) (.var 3) (.idx (.attr (.var 0) 4) (.var 1))) .skip)) .skip)))))⟩
noncomputable def f_chains : Fn := ⟨1, [Str.ofString "arr", Str.ofString "place"], [],
  (.seq (.asgA (.var 0) 3 (.bin .Mult (.lst (.cons (.neg (.cst (.int 1))) .nil)) (.attr (.var 0) 5))) (.seq (.asgA (.var 0) 4 (.bin .Mult (.lst (.cons (.neg (.cst (.int 1))) .nil)) (.len (.attr (.var 0) 2)))) (.seq (.forR [1] (.len (.attr (.var 0) 2)) (.seq (.ife (.call 5 (.cons (.var 0) (.cons (.var 1) .nil))) (.seq (.expr (.call 7 (.cons (.var 0) (.cons (.var 1) .nil)))) .skip) .skip) .skip)) .skip)))⟩
noncomputable def f_next_place : Fn := ⟨2, [Str.ofString "arr", Str.ofString "place"], [],
  (.seq (.wh (.and (.cmp .Lt (.var 1) (.len (.attr (.var 0) 2))) (.not (.call 5 (.cons (.var 0) (.cons (.var 1) .nil))))) (.seq (.aug 1 .Add (.cst (.int 1))) .skip)) (.seq (.ret (.min (.var 1) (.len (.attr (.var 0) 2)))) .skip))⟩
noncomputable def f_many_ahead : Fn := ⟨2, [Str.ofString "living", Str.ofString "place", Str.ofString "other'1"], [],
  (.seq (.ret (.len (.comp [2] (.var 0) (.cmp .Lt (.var 2) (.var 1)) (.var 2)))) .skip)⟩
noncomputable def f_rehash : Fn := ⟨1, [Str.ofString "arr", Str.ofString "living", Str.ofString "number", Str.ofString "place'1", Str.ofString "place'2", Str.ofString "place'3"], [],
  (.seq (.asgCR 1 [3] (.len (.attr (.var 0) 2)) (.call 5 (.cons (.var 0) (.cons (.var 3) .nil))) (.var 3)) (.seq (.asgA (.var 0) 8 (.call 11 (.cons (.var 1) (.cons (.attr (.var 0) 8) .nil)))) (.seq (.for_ [2] (.listOf (.attr (.var 0) 10)) (.seq (.asgI (.attr (.var 0) 10) (.var 2) (.call 11 (.cons (.var 1) (.cons (.idx (.attr (.var 0) 10) (.var 2)) .nil)))) .skip)) (.seq (.asgA (.var 0) 1 (.comp [4] (.var 1) (.cst (.bool true)) (.idx (.attr (.var 0) 1) (.var 4)))) (.seq (.asgA (.var 0) 2 (.comp [5] (.var 1) (.cst (.bool true)) (.idx (.attr (.var 0) 2) (.var 5)))) (.seq (.expr (.call 9 (.cons (.var 0) .nil))) .skip))))))⟩
noncomputable def f_to_hash : Fn := ⟨1, [Str.ofString "arr"], [],
  (.seq (.asgA (.var 0) 1 (.listR (.len (.attr (.var 0) 2)))) (.seq (.asgA (.var 0) 0 (.cst (.bool false))) (.seq (.expr (.call 12 (.cons (.var 0) .nil))) .skip)))⟩
noncomputable def f_takes_packed : Fn := ⟨2, [Str.ofString "arr", Str.ofString "key"], [],
  (.seq (.ife (.or (.not (.isi (.var 1) .int)) (.cmp .Lt (.var 1) (.len (.attr (.var 0) 2)))) (.seq (.ret (.cst (.bool false))) .skip) .skip) (.seq (.ife (.and (.cmp .GtE (.var 1) (.attr (.var 0) 5)) (.and (.cmp .Lt (.bin .RShift (.var 1) (.cst (.int 1))) (.attr (.var 0) 5)) (.cmp .Lt (.bin .RShift (.attr (.var 0) 5) (.cst (.int 1))) (.attr (.var 0) 6)))) (.seq (.asgA (.var 0) 5 (.bin .Mult (.attr (.var 0) 5) (.cst (.int 2)))) .skip) .skip) (.seq (.ret (.cmp .Lt (.var 1) (.attr (.var 0) 5))) .skip)))⟩
noncomputable def f_add_packed : Fn := ⟨3, [Str.ofString "arr", Str.ofString "key", Str.ofString "slot"], [],
  (.seq (.wh (.cmp .Lt (.len (.attr (.var 0) 2)) (.var 1)) (.seq (.expr (.append (.attr (.var 0) 2) (.new .absent .nil))) .skip)) (.seq (.expr (.append (.attr (.var 0) 2) (.var 2))) .skip))⟩
noncomputable def f_add_hashed : Fn := ⟨3, [Str.ofString "arr", Str.ofString "key", Str.ofString "slot", Str.ofString "used"], [],
  (.seq (.asg 3 (.len (.attr (.var 0) 2))) (.seq (.ife (.cmp .GtE (.var 3) (.attr (.var 0) 5)) (.seq (.ife (.cmp .Gt (.var 3) (.bin .Add (.attr (.var 0) 6) (.bin .RShift (.attr (.var 0) 6) (.cst (.int 5))))) (.seq (.expr (.call 12 (.cons (.var 0) .nil))) .skip) (.seq (.asgA (.var 0) 5 (.bin .Mult (.attr (.var 0) 5) (.cst (.int 2)))) (.seq (.expr (.call 9 (.cons (.var 0) .nil))) .skip))) .skip) .skip) (.seq (.expr (.append (.attr (.var 0) 1) (.var 1))) (.seq (.expr (.append (.attr (.var 0) 2) (.var 2))) (.seq (.expr (.append (.attr (.var 0) 4) (.neg (.cst (.int 1))))) (.seq (.expr (.call 7 (.cons (.var 0) (.cons (.bin .Sub (.len (.attr (.var 0) 2)) (.cst (.int 1))) .nil)))) .skip))))))⟩
noncomputable def f_add : Fn := ⟨3, [Str.ofString "arr", Str.ofString "key", Str.ofString "slot"], [],
  (.seq (.ife (.and (.attr (.var 0) 0) (.not (.call 14 (.cons (.var 0) (.cons (.var 1) .nil))))) (.seq (.ife (.cmp .GtE (.len (.attr (.var 0) 2)) (.attr (.var 0) 5)) (.seq (.asgA (.var 0) 5 (.bin .Mult (.attr (.var 0) 5) (.cst (.int 2)))) .skip) .skip) (.seq (.expr (.call 13 (.cons (.var 0) .nil))) .skip)) .skip) (.seq (.ife (.attr (.var 0) 0) (.seq (.expr (.call 15 (.cons (.var 0) (.cons (.var 1) (.cons (.var 2) .nil))))) .skip) (.seq (.expr (.call 16 (.cons (.var 0) (.cons (.var 1) (.cons (.var 2) .nil))))) .skip)) (.seq (.augA (.var 0) 6 .Add (.cst (.int 1))) (.seq (.ife (.and (.isi (.var 1) .int) (.cmp .GtE (.var 1) (.attr (.var 0) 7))) (.seq (.asgA (.var 0) 7 (.min (.bin .Add (.var 1) (.cst (.int 1))) (.call 2 .nil))) .skip) .skip) .skip))))⟩
noncomputable def f_go_on : Fn := ⟨2, [Str.ofString "arr", Str.ofString "place", Str.ofString "behind", Str.ofString "is_last", Str.ofString "used", Str.ofString "number", Str.ofString "there"], [],
  (.seq (.asg 2 (.call 10 (.cons (.var 0) (.cons (.var 1) .nil)))) (.seq (.asg 3 (.cmp .Eq (.var 1) (.bin .Sub (.len (.attr (.var 0) 2)) (.cst (.int 1))))) (.seq (.wh (.and (.var 3) (.and (.cmp .Gt (.len (.attr (.var 0) 2)) (.cst (.int 0))) (.isi (.idx (.attr (.var 0) 2) (.neg (.cst (.int 1)))) .absent))) (.seq (.expr (.pop (.attr (.var 0) 2))) (.seq (.ife (.not (.attr (.var 0) 0)) (.seq (.expr (.pop (.attr (.var 0) 1))) (.seq (.expr (.pop (.attr (.var 0) 4))) .skip)) .skip) .skip))) (.seq (.asg 4 (.len (.attr (.var 0) 2))) (.seq (.asgA (.var 0) 8 (.min (.ite (.cmp .Eq (.attr (.var 0) 8) (.var 1)) (.var 2) (.attr (.var 0) 8)) (.var 4))) (.seq (.for_ [5] (.listOf (.attr (.var 0) 10)) (.seq (.asg 6 (.idx (.attr (.var 0) 10) (.var 5))) (.seq (.asgI (.attr (.var 0) 10) (.var 5) (.min (.ite (.cmp .Eq (.var 6) (.var 1)) (.var 2) (.var 6)) (.var 4))) .skip))) .skip))))))⟩
noncomputable def f_marked : Fn := ⟨1, [Str.ofString "value"], [],
  (.seq (.ife (.isi (.var 0) .arr) (.seq (.asgA (.var 0) 9 (.cst (.bool true))) .skip) .skip) (.seq (.ret (.var 0)) .skip))⟩
noncomputable def f_entries : Fn := ⟨1, [Str.ofString "arr", Str.ofString "key'1", Str.ofString "slot'2"], [],
  (.seq (.ret (.comp [1, 2] (.call 21 (.cons (.var 0) .nil)) (.cst (.bool true)) (.tup (.cons (.var 1) (.cons (.call 19 (.cons (.call 3 (.cons (.var 2) .nil)) .nil)) .nil))))) .skip)⟩
noncomputable def f_slots_of : Fn := ⟨1, [Str.ofString "arr", Str.ofString "place'1"], [],
  (.seq (.ret (.compR [1] (.len (.attr (.var 0) 2)) (.call 5 (.cons (.var 0) (.cons (.var 1) .nil))) (.tup (.cons (.meth (.var 0) 107 (.cons (.var 1) .nil)) (.cons (.idx (.attr (.var 0) 2) (.var 1)) .nil))))) .skip)⟩
noncomputable def f_keys_of : Fn := ⟨1, [Str.ofString "arr", Str.ofString "place'1"], [],
  (.seq (.ret (.compR [1] (.len (.attr (.var 0) 2)) (.call 5 (.cons (.var 0) (.cons (.var 1) .nil))) (.meth (.var 0) 107 (.cons (.var 1) .nil)))) .skip)⟩
noncomputable def f_copied : Fn := ⟨1, [Str.ofString "slot"], [],
  (.seq (.ife (.isi (.var 0) .absent) (.seq (.ret (.new .absent .nil)) .skip) .skip) (.seq (.ife (.isi (.var 0) .rf) (.seq (.ife (.cmp .Gt (.attr (.var 0) 12) (.cst (.int 1))) (.seq (.ret (.call 4 (.cons (.var 0) .nil))) .skip) .skip) (.seq (.asg 0 (.attr (.var 0) 11)) .skip)) .skip) (.seq (.ret (.call 19 (.cons (.var 0) .nil))) .skip)))⟩
noncomputable def f_copy : Fn := ⟨1, [Str.ofString "arr", Str.ofString "made", Str.ofString "slot'1"], [],
  (.seq (.asg 1 (.new .arr (.cons (.attr (.var 0) 5) .nil))) (.seq (.asgA (.var 1) 0 (.attr (.var 0) 0)) (.seq (.asgA (.var 1) 1 (.listOf (.attr (.var 0) 1))) (.seq (.asgA (.var 1) 2 (.comp [2] (.attr (.var 0) 2) (.cst (.bool true)) (.call 23 (.cons (.var 2) .nil)))) (.seq (.asgA (.var 1) 6 (.attr (.var 0) 6)) (.seq (.asgA (.var 1) 7 (.attr (.var 0) 7)) (.seq (.asgA (.var 1) 8 (.ite (.cmp .Lt (.attr (.var 0) 8) (.len (.attr (.var 0) 2))) (.attr (.var 0) 8) (.call 10 (.cons (.var 0) (.cons (.cst (.int 0)) .nil))))) (.seq (.asgA (.var 1) 10 (.dictOf (.attr (.var 0) 10))) (.seq (.ife (.not (.attr (.var 1) 0)) (.seq (.expr (.call 12 (.cons (.var 1) .nil))) .skip) .skip) (.seq (.ret (.var 1)) .skip))))))))))⟩
noncomputable def f_kind : Fn := ⟨1, [Str.ofString "value"], [],
  (.seq (.ife (.cmp .Is (.var 0) (.cst .none)) (.seq (.ret (.cst (.str (Str.ofString "null")))) .skip) .skip) (.seq (.ife (.isi (.var 0) .bool) (.seq (.ret (.cst (.str (Str.ofString "bool")))) .skip) .skip) (.seq (.ife (.isi (.var 0) .int) (.seq (.ret (.cst (.str (Str.ofString "int")))) .skip) .skip) (.seq (.ife (.isi (.var 0) .str) (.seq (.ret (.cst (.str (Str.ofString "string")))) .skip) .skip) (.seq (.ife (.isi (.var 0) .arr) (.seq (.ret (.cst (.str (Str.ofString "array")))) .skip) .skip) (.seq (.ife (.isi (.var 0) .obj) (.seq (.ret (.cst (.str (Str.ofString "object")))) .skip) .skip) (.seq .dead .skip)))))))⟩
noncomputable def f_same : Fn := ⟨2, [Str.ofString "a", Str.ofString "b"], [],
  (.seq (.ret (.call 27 (.cons (.var 0) (.cons (.var 1) (.cons (.cst (.int 0)) .nil))))) .skip)⟩
noncomputable def f_same_at : Fn := ⟨3, [Str.ofString "a", Str.ofString "b", Str.ofString "depth", Str.ofString "sort"], [],
  (.seq (.asg 3 (.call 25 (.cons (.var 0) .nil))) (.seq (.ife (.cmp .NotEq (.var 3) (.call 25 (.cons (.var 1) .nil))) (.seq (.ret (.cst (.bool false))) .skip) .skip) (.seq (.ife (.cmp .Eq (.var 3) (.cst (.str (Str.ofString "array")))) (.seq (.ret (.or (.cmp .Is (.var 0) (.var 1)) (.call 28 (.cons (.var 0) (.cons (.var 1) (.cons (.var 2) .nil)))))) .skip) .skip) (.seq (.ife (.cmp .Eq (.var 3) (.cst (.str (Str.ofString "object")))) (.seq (.ret (.cmp .Is (.var 0) (.var 1))) .skip) .skip) (.seq (.ret (.cmp .Eq (.var 0) (.var 1))) .skip)))))⟩
noncomputable def f_same_arrays : Fn := ⟨3, [Str.ofString "a", Str.ofString "b", Str.ofString "depth", Str.ofString "others", Str.ofString "at", Str.ofString "key", Str.ofString "slot", Str.ofString "other_key", Str.ofString "other"], [],
  (.seq (.ife (.cmp .NotEq (.attr (.var 0) 6) (.attr (.var 1) 6)) (.seq (.ret (.cst (.bool false))) .skip) .skip) (.seq (.ife (.cmp .GtE (.var 2) (.cst (.int 40))) (.seq .dead .skip) .skip) (.seq (.asg 3 (.call 21 (.cons (.var 1) .nil))) (.seq (.asg 4 (.cst (.int 0))) (.seq (.for_ [5, 6] (.call 21 (.cons (.var 0) .nil)) (.seq (.asgT 7 8 (.idx (.var 3) (.var 4))) (.seq (.ife (.or (.cmp .NotEq (.var 5) (.var 7)) (.not (.call 27 (.cons (.call 3 (.cons (.var 6) .nil)) (.cons (.call 3 (.cons (.var 8) .nil)) (.cons (.bin .Add (.var 2) (.cst (.int 1))) .nil)))))) (.seq (.ret (.cst (.bool false))) .skip) .skip) (.seq (.aug 4 .Add (.cst (.int 1))) .skip)))) (.seq (.ret (.cst (.bool true))) .skip))))))⟩
noncomputable def f_compare_texts : Fn := ⟨2, [Str.ofString "a", Str.ofString "b"], [],
  (.seq (.ife (.cmp .Eq (.var 0) (.var 1)) (.seq (.ret (.cst (.int 0))) .skip) .skip) (.seq (.ret (.ite (.cmp .Lt (.var 0) (.var 1)) (.neg (.cst (.int 1))) (.cst (.int 1)))) .skip))⟩
noncomputable def f_plain : Fn := ⟨1, [Str.ofString "value"], [],
  (.seq (.ret (.call 31 (.cons (.var 0) (.cons (.lst .nil) .nil)))) .skip)⟩
noncomputable def f_plain_at : Fn := ⟨2, [Str.ofString "value", Str.ofString "above", Str.ofString "up", Str.ofString "rows", Str.ofString "key", Str.ofString "slot"], [],
  (.seq (.ife (.isi (.var 0) .obj) (.seq (.ret (.tup (.cons (.cst (.str (Str.ofString "object"))) (.cons .dead (.cons .dead .nil))))) .skip) .skip) (.seq (.ife (.not (.isi (.var 0) .arr)) (.seq (.ret (.tup (.cons (.call 25 (.cons (.var 0) .nil)) (.cons (.var 0) .nil)))) .skip) .skip) (.seq (.forR [2] (.len (.var 1)) (.seq (.ife (.cmp .Is (.idx (.var 1) (.var 2)) (.var 0)) (.seq (.ret (.tup (.cons (.cst (.str (Str.ofString "again"))) (.cons (.bin .Sub (.len (.var 1)) (.var 2)) .nil)))) .skip) .skip) .skip)) (.seq (.asg 3 (.lst .nil)) (.seq (.for_ [4, 5] (.call 21 (.cons (.var 0) .nil)) (.seq (.expr (.append (.var 3) (.tup (.cons (.var 4) (.cons (.call 31 (.cons (.call 3 (.cons (.var 5) .nil)) (.cons (.bin .Add (.var 1) (.lst (.cons (.var 0) .nil))) .nil))) .nil))))) .skip)) (.seq (.ret (.tup (.cons (.cst (.str (Str.ofString "array"))) (.cons (.tupleOf (.var 3)) .nil)))) .skip))))))⟩
noncomputable def f_is_list : Fn := ⟨1, [Str.ofString "arr", Str.ofString "due", Str.ofString "key"], [],
  (.seq (.asg 1 (.cst (.int 0))) (.seq (.for_ [2] (.call 22 (.cons (.var 0) .nil)) (.seq (.ife (.cmp .NotEq (.var 2) (.var 1)) (.seq (.ret (.cst (.bool false))) .skip) .skip) (.seq (.aug 1 .Add (.cst (.int 1))) .skip))) (.seq (.ret (.cst (.bool true))) .skip)))⟩
noncomputable def f_Frame_init : Fn := ⟨5, [Str.ofString "self", Str.ofString "func", Str.ofString "this", Str.ofString "cls", Str.ofString "static"], [.none, .none, .none, .none],
  (.seq (.asgA (.var 0) 40 (.var 1)) (.seq (.asgA (.var 0) 41 (.var 2)) (.seq (.asgA (.var 0) 42 (.var 3)) (.seq (.asgA (.var 0) 43 (.var 4)) (.seq (.asgA (.var 0) 44 .dct) (.seq (.asgA (.var 0) 45 (.lst .nil)) .skip))))))⟩
noncomputable def f_Host_init : Fn := ⟨3, [Str.ofString "self", Str.ofString "limit", Str.ofString "fuel"], [(.int 12), .none],
  (.seq (.asgA (.var 0) 20 .dct) (.seq (.asgA (.var 0) 21 .dct) (.seq (.asgA (.var 0) 22 .dct) (.seq (.asgA (.var 0) 23 (.new .frame .nil)) (.seq (.asgA (.var 0) 24 (.attr (.var 0) 23)) (.seq (.asgA (.var 0) 25 (.lst .nil)) (.seq (.asgA (.var 0) 26 (.cst (.int 0))) (.seq (.asgA (.var 0) 27 (.lst .nil)) (.seq (.asgA (.var 0) 28 (.lst .nil)) (.seq (.asgA (.var 0) 29 (.cst (.int 0))) (.seq (.asgA (.var 0) 30 (.var 1)) (.seq (.asgA (.var 0) 31 (.cst (.int 0))) (.seq (.asgA (.var 0) 32 (.var 2)) (.seq (.asgA (.var 0) 33 (.cst (.int 0))) (.seq (.asgA (.var 0) 34 .dct) (.seq (.asgA (.var 0) 35 .dct) (.seq (.asgA (.var 0) 36 .dct) (.seq (.asgA (.var 0) 37 (.lst .nil)) (.seq (.asgA (.var 0) 38 (.lst .nil)) (.seq (.asgA (.var 0) 39 (.cst (.bool false))) .skip))))))))))))))))))))⟩
noncomputable def f_is_digit : Fn := ⟨2, [Str.ofString "text", Str.ofString "at"], [],
  (.seq (.ret (.and (.cmp .Lt (.var 1) (.len (.var 0))) (.cmp2 (.cst (.str (Str.ofString "0"))) .LtE (.idx (.var 0) (.var 1)) .LtE (.cst (.str (Str.ofString "9")))))) .skip)⟩
noncomputable def f_digits_behind : Fn := ⟨2, [Str.ofString "text", Str.ofString "at"], [],
  (.seq (.wh (.call 33 (.cons (.var 0) (.cons (.var 1) .nil))) (.seq (.aug 1 .Add (.cst (.int 1))) .skip)) (.seq (.ret (.var 1)) .skip))⟩
noncomputable def f_digits_value : Fn := ⟨3, [Str.ofString "text", Str.ofString "first", Str.ofString "behind", Str.ofString "value", Str.ofString "at"], [],
  (.seq (.asg 3 (.cst (.int 0))) (.seq (.forR2 [4] (.var 1) (.var 2) (.seq (.asg 3 (.bin .Sub (.bin .Add (.bin .Mult (.var 3) (.cst (.int 10))) (.ord (.idx (.var 0) (.var 4)))) (.cst (.int 48)))) (.seq (.ife (.cmp .Gt (.var 3) (.bin .Pow (.cst (.int 2)) (.cst (.int 63)))) (.seq (.ret (.bin .Add (.bin .Pow (.cst (.int 2)) (.cst (.int 63))) (.cst (.int 1)))) .skip) .skip) .skip))) (.seq (.ret (.var 3)) .skip)))⟩
noncomputable def f_signed : Fn := ⟨2, [Str.ofString "is_minus", Str.ofString "value", Str.ofString "n"], [],
  (.seq (.asg 2 (.ite (.var 0) (.neg (.var 1)) (.var 1))) (.seq (.ife (.or (.cmp .Lt (.var 2) (.call 1 .nil)) (.cmp .Gt (.var 2) (.call 2 .nil))) (.seq (.ret (.cst .none)) .skip) .skip) (.seq (.ret (.var 2)) .skip)))⟩
noncomputable def f_exponent_behind : Fn := ⟨2, [Str.ofString "text", Str.ofString "at", Str.ofString "first"], [],
  (.seq (.ife (.cmp .NotIn (.slc (.var 0) (.var 1) (.bin .Add (.var 1) (.cst (.int 1)))) (.tup (.cons (.cst (.str (Str.ofString "e"))) (.cons (.cst (.str (Str.ofString "E"))) .nil)))) (.seq (.ret (.var 1)) .skip) .skip) (.seq (.asg 2 (.bin .Add (.var 1) (.cst (.int 1)))) (.seq (.ife (.cmp .In (.slc (.var 0) (.var 2) (.bin .Add (.var 2) (.cst (.int 1)))) (.tup (.cons (.cst (.str (Str.ofString "+"))) (.cons (.cst (.str (Str.ofString "-"))) .nil)))) (.seq (.aug 2 .Add (.cst (.int 1))) .skip) .skip) (.seq (.ife (.call 33 (.cons (.var 0) (.cons (.var 2) .nil))) (.seq (.ret (.call 34 (.cons (.var 0) (.cons (.var 2) .nil)))) .skip) .skip) (.seq (.ret (.var 1)) .skip)))))⟩
noncomputable def f_blanks_behind : Fn := ⟨2, [Str.ofString "text", Str.ofString "at"], [],
  (.seq (.wh (.and (.cmp .Lt (.var 1) (.len (.var 0))) (.cmp .In (.idx (.var 0) (.var 1)) (.tup (.cons (.cst (.str (Str.ofString " "))) (.cons (.cst (.str (Str.ofString "\t"))) (.cons (.cst (.str (Str.ofString "\n"))) (.cons (.cst (.str (Str.ofString "\x0d"))) (.cons (.cst (.str (Str.ofString "\x0b"))) (.cons (.cst (.str (Str.ofString "\x0c"))) .nil))))))))) (.seq (.aug 1 .Add (.cst (.int 1))) .skip)) (.seq (.ret (.var 1)) .skip))⟩
noncomputable def f_numeric : Fn := ⟨1, [Str.ofString "text", Str.ofString "first", Str.ofString "is_minus", Str.ofString "behind", Str.ofString "is_pointed", Str.ofString "far", Str.ofString "value"], [],
  (.seq (.asg 1 (.call 38 (.cons (.var 0) (.cons (.cst (.int 0)) .nil)))) (.seq (.asg 2 (.cmp .Eq (.slc (.var 0) (.var 1) (.bin .Add (.var 1) (.cst (.int 1)))) (.cst (.str (Str.ofString "-"))))) (.seq (.ife (.cmp .In (.slc (.var 0) (.var 1) (.bin .Add (.var 1) (.cst (.int 1)))) (.tup (.cons (.cst (.str (Str.ofString "+"))) (.cons (.cst (.str (Str.ofString "-"))) .nil)))) (.seq (.aug 1 .Add (.cst (.int 1))) .skip) .skip) (.seq (.asg 3 (.call 34 (.cons (.var 0) (.cons (.var 1) .nil)))) (.seq (.asg 4 (.and (.cmp .Eq (.slc (.var 0) (.var 3) (.bin .Add (.var 3) (.cst (.int 1)))) (.cst (.str (Str.ofString ".")))) (.or (.cmp .Gt (.var 3) (.var 1)) (.call 33 (.cons (.var 0) (.cons (.bin .Add (.var 3) (.cst (.int 1))) .nil)))))) (.seq (.ife (.and (.cmp .Eq (.var 3) (.var 1)) (.not (.var 4))) (.seq (.ret (.tup (.cons (.cst (.int 0)) (.cons (.cst (.int 0)) .nil)))) .skip) .skip) (.seq (.asg 5 (.var 3)) (.seq (.ife (.var 4) (.seq (.asg 5 (.call 34 (.cons (.var 0) (.cons (.bin .Add (.var 3) (.cst (.int 1))) .nil)))) .skip) .skip) (.seq (.asg 5 (.call 37 (.cons (.var 0) (.cons (.var 5) .nil)))) (.seq (.asg 6 (.cst .none)) (.seq (.ife (.cmp .Eq (.var 5) (.var 3)) (.seq (.asg 6 (.call 36 (.cons (.var 2) (.cons (.call 35 (.cons (.var 0) (.cons (.var 1) (.cons (.var 3) .nil)))) .nil)))) .skip) .skip) (.seq (.ife (.cmp .Eq (.call 38 (.cons (.var 0) (.cons (.var 5) .nil))) (.len (.var 0))) (.seq (.ret (.tup (.cons (.cst (.int 2)) (.cons (.var 6) .nil)))) .skip) .skip) (.seq (.ret (.tup (.cons (.cst (.int 1)) (.cons (.var 6) .nil)))) .skip)))))))))))))⟩
noncomputable def f_number_of : Fn := ⟨1, [Str.ofString "text", Str.ofString "n"], [],
  (.seq (.asg 1 (.idx (.call 39 (.cons (.var 0) .nil)) (.cst (.int 1)))) (.seq (.ife (.cmp .Is (.var 1) (.cst .none)) (.seq .dead .skip) .skip) (.seq (.ret (.var 1)) .skip)))⟩
noncomputable def f_to_bool : Fn := ⟨1, [Str.ofString "value", Str.ofString "sort"], [],
  (.seq (.asg 1 (.call 25 (.cons (.var 0) .nil))) (.seq (.ife (.cmp .Eq (.var 1) (.cst (.str (Str.ofString "null")))) (.seq (.ret (.cst (.bool false))) .skip) .skip) (.seq (.ife (.cmp .Eq (.var 1) (.cst (.str (Str.ofString "string")))) (.seq (.ret (.cmp .NotIn (.var 0) (.tup (.cons (.cst (.str (Str.ofString ""))) (.cons (.cst (.str (Str.ofString "0"))) .nil))))) .skip) .skip) (.seq (.ife (.cmp .Eq (.var 1) (.cst (.str (Str.ofString "array")))) (.seq (.ret (.cmp .Gt (.attr (.var 0) 6) (.cst (.int 0)))) .skip) .skip) (.seq (.ife (.cmp .Eq (.var 1) (.cst (.str (Str.ofString "object")))) (.seq (.ret (.cst (.bool true))) .skip) .skip) (.seq (.ret (.cmp .NotEq (.var 0) (.cst (.int 0)))) .skip))))))⟩
noncomputable def f_sign_of : Fn := ⟨2, [Str.ofString "a", Str.ofString "b"], [],
  (.seq (.ife (.cmp .Lt (.var 0) (.var 1)) (.seq (.ret (.neg (.cst (.int 1)))) .skip) .skip) (.seq (.ret (.ite (.cmp .Gt (.var 0) (.var 1)) (.cst (.int 1)) (.cst (.int 0)))) .skip))⟩
noncomputable def f_smart : Fn := ⟨2, [Str.ofString "a", Str.ofString "b"], [],
  (.seq (.ife (.and (.cmp .Eq (.idx (.call 39 (.cons (.var 0) .nil)) (.cst (.int 0))) (.cst (.int 2))) (.cmp .Eq (.idx (.call 39 (.cons (.var 1) .nil)) (.cst (.int 0))) (.cst (.int 2)))) (.seq (.ret (.call 42 (.cons (.call 40 (.cons (.var 0) .nil)) (.cons (.call 40 (.cons (.var 1) .nil)) .nil)))) .skip) .skip) (.seq (.ret (.call 29 (.cons (.var 0) (.cons (.var 1) .nil)))) .skip))⟩
noncomputable def f_check_depth : Fn := ⟨1, [Str.ofString "depth"], [],
  (.seq (.ife (.cmp .Gt (.var 0) (.cst (.int 40))) (.seq .dead .skip) .skip) .skip)⟩
noncomputable def f_compare_arrays : Fn := ⟨4, [Str.ofString "host", Str.ofString "a", Str.ofString "b", Str.ofString "depth", Str.ofString "key", Str.ofString "slot", Str.ofString "found"], [],
  (.seq (.ife (.cmp .Is (.var 1) (.var 2)) (.seq (.ret (.cst (.int 0))) .skip) .skip) (.seq (.ife (.cmp .NotEq (.attr (.var 1) 6) (.attr (.var 2) 6)) (.seq (.ret (.call 42 (.cons (.attr (.var 1) 6) (.cons (.attr (.var 2) 6) .nil)))) .skip) .skip) (.seq (.for_ [4, 5] (.call 21 (.cons (.var 1) .nil)) (.seq (.ife (.not (.meth (.var 2) 102 (.cons (.var 4) .nil))) (.seq (.ret (.cst (.int 1))) .skip) .skip) (.seq (.asg 6 (.call 46 (.cons (.var 0) (.cons (.call 3 (.cons (.var 5) .nil)) (.cons (.call 3 (.cons (.meth (.var 2) 103 (.cons (.var 4) .nil)) .nil)) (.cons (.bin .Add (.var 3) (.cst (.int 1))) .nil)))))) (.seq (.ife (.cmp .NotEq (.var 6) (.cst (.int 0))) (.seq (.ret (.var 6)) .skip) .skip) .skip)))) (.seq (.ret (.cst (.int 0))) .skip))))⟩
noncomputable def f_compare : Fn := ⟨4, [Str.ofString "host", Str.ofString "a", Str.ofString "b", Str.ofString "depth", Str.ofString "first", Str.ofString "second"], [(.int 0)],
  (.seq (.expr (.call 44 (.cons (.var 3) .nil))) (.seq (.asg2 4 5 (.call 25 (.cons (.var 1) .nil)) (.call 25 (.cons (.var 2) .nil))) (.seq (.ife (.and (.cmp .Eq (.var 4) (.cst (.str (Str.ofString "int")))) (.cmp .Eq (.var 5) (.cst (.str (Str.ofString "int"))))) (.seq (.ret (.call 42 (.cons (.var 1) (.cons (.var 2) .nil)))) .skip) .skip) (.seq (.ife (.and (.cmp .Eq (.var 4) (.cst (.str (Str.ofString "string")))) (.cmp .Eq (.var 5) (.cst (.str (Str.ofString "string"))))) (.seq (.ret (.call 43 (.cons (.var 1) (.cons (.var 2) .nil)))) .skip) .skip) (.seq (.ife (.and (.cmp .Eq (.var 4) (.cst (.str (Str.ofString "null")))) (.cmp .Eq (.var 5) (.cst (.str (Str.ofString "string"))))) (.seq (.ret (.call 29 (.cons (.cst (.str (Str.ofString ""))) (.cons (.var 2) .nil)))) .skip) .skip) (.seq (.ife (.and (.cmp .Eq (.var 4) (.cst (.str (Str.ofString "string")))) (.cmp .Eq (.var 5) (.cst (.str (Str.ofString "null"))))) (.seq (.ret (.call 29 (.cons (.var 1) (.cons (.cst (.str (Str.ofString ""))) .nil)))) .skip) .skip) (.seq (.ife (.and (.cmp .Eq (.var 4) (.cst (.str (Str.ofString "object")))) (.cmp .Eq (.var 5) (.cst (.str (Str.ofString "object"))))) (.seq (.ret .dead) .skip) .skip) (.seq (.ife (.or (.cmp .In (.var 4) (.tup (.cons (.cst (.str (Str.ofString "null"))) (.cons (.cst (.str (Str.ofString "bool"))) .nil)))) (.cmp .In (.var 5) (.tup (.cons (.cst (.str (Str.ofString "null"))) (.cons (.cst (.str (Str.ofString "bool"))) .nil))))) (.seq (.ret (.call 42 (.cons (.call 41 (.cons (.var 1) .nil)) (.cons (.call 41 (.cons (.var 2) .nil)) .nil)))) .skip) .skip) (.seq (.ife (.cmp .Eq (.var 4) (.cst (.str (Str.ofString "object")))) (.seq (.ret .dead) .skip) .skip) (.seq (.ife (.cmp .Eq (.var 5) (.cst (.str (Str.ofString "object")))) (.seq (.ret (.neg .dead)) .skip) .skip) (.seq (.ife (.and (.cmp .Eq (.var 4) (.cst (.str (Str.ofString "array")))) (.cmp .Eq (.var 5) (.cst (.str (Str.ofString "array"))))) (.seq (.ret (.call 45 (.cons (.var 0) (.cons (.var 1) (.cons (.var 2) (.cons (.var 3) .nil)))))) .skip) .skip) (.seq (.ife (.cmp .Eq (.var 4) (.cst (.str (Str.ofString "array")))) (.seq (.ret (.cst (.int 1))) .skip) .skip) (.seq (.ife (.cmp .Eq (.var 5) (.cst (.str (Str.ofString "array")))) (.seq (.ret (.neg (.cst (.int 1)))) .skip) .skip) (.seq (.ret .dead) .skip))))))))))))))⟩
noncomputable def f_equal_arrays : Fn := ⟨4, [Str.ofString "host", Str.ofString "a", Str.ofString "b", Str.ofString "depth", Str.ofString "key", Str.ofString "slot"], [],
  (.seq (.ife (.cmp .Is (.var 1) (.var 2)) (.seq (.ret (.cst (.bool true))) .skip) .skip) (.seq (.ife (.cmp .NotEq (.attr (.var 1) 6) (.attr (.var 2) 6)) (.seq (.ret (.cst (.bool false))) .skip) .skip) (.seq (.for_ [4, 5] (.call 21 (.cons (.var 1) .nil)) (.seq (.ife (.or (.not (.meth (.var 2) 102 (.cons (.var 4) .nil))) (.not (.call 48 (.cons (.var 0) (.cons (.call 3 (.cons (.var 5) .nil)) (.cons (.call 3 (.cons (.meth (.var 2) 103 (.cons (.var 4) .nil)) .nil)) (.cons (.bin .Add (.var 3) (.cst (.int 1))) .nil))))))) (.seq (.ret (.cst (.bool false))) .skip) .skip) .skip)) (.seq (.ret (.cst (.bool true))) .skip))))⟩
noncomputable def f_loose_equal : Fn := ⟨4, [Str.ofString "host", Str.ofString "a", Str.ofString "b", Str.ofString "depth", Str.ofString "first", Str.ofString "second"], [(.int 0)],
  (.seq (.expr (.call 44 (.cons (.var 3) .nil))) (.seq (.asg2 4 5 (.call 25 (.cons (.var 1) .nil)) (.call 25 (.cons (.var 2) .nil))) (.seq (.ife (.and (.cmp .Eq (.var 4) (.cst (.str (Str.ofString "string")))) (.and (.cmp .Eq (.var 5) (.cst (.str (Str.ofString "string")))) (.cmp .Eq (.var 1) (.var 2)))) (.seq (.ret (.cst (.bool true))) .skip) .skip) (.seq (.ife (.and (.cmp .Eq (.var 4) (.cst (.str (Str.ofString "array")))) (.cmp .Eq (.var 5) (.cst (.str (Str.ofString "array"))))) (.seq (.ret (.call 47 (.cons (.var 0) (.cons (.var 1) (.cons (.var 2) (.cons (.var 3) .nil)))))) .skip) .skip) (.seq (.ret (.cmp .Eq (.call 46 (.cons (.var 0) (.cons (.var 1) (.cons (.var 2) (.cons (.var 3) .nil))))) (.cst (.int 0)))) .skip)))))⟩
noncomputable def f_is_again : Fn := ⟨3, [Str.ofString "value", Str.ofString "above", Str.ofString "depth", Str.ofString "one"], [],
  (.seq (.ife (.cmp .Gt (.var 2) (.cst (.int 40))) (.seq (.ret (.cst (.bool true))) .skip) .skip) (.seq (.ife (.isi (.var 0) .obj) (.seq (.ret .dead) .skip) .skip) (.seq (.for_ [3] (.var 1) (.seq (.ife (.cmp .Is (.var 3) (.var 0)) (.seq (.ret (.cst (.bool true))) .skip) .skip) .skip)) (.seq (.ret (.cst (.bool false))) .skip))))⟩
noncomputable def f_escaped : Fn := ⟨1, [Str.ofString "text"], [],
  (.seq (.ret (.replace (.replace (.var 0) (.cst (.str (Str.ofString "\\"))) (.cst (.str (Str.ofString "\\\\")))) (.cst (.str (Str.ofString "'"))) (.cst (.str (Str.ofString "\\'"))))) .skip)⟩
noncomputable def f_quoted : Fn := ⟨1, [Str.ofString "text"], [],
  (.seq (.ret (.bin .Add (.bin .Add (.cst (.str (Str.ofString "'"))) (.replace (.call 50 (.cons (.var 0) .nil)) (.cst (.str (Str.ofString "\x00"))) (.cst (.str (Str.ofString "' . \"\\0\" . '"))))) (.cst (.str (Str.ofString "'"))))) .skip)⟩
noncomputable def f_export_int : Fn := ⟨1, [Str.ofString "n"], [],
  (.seq (.ife (.cmp .Eq (.var 0) (.call 1 .nil)) (.seq (.ret (.bin .Add (.strI (.bin .Add (.var 0) (.cst (.int 1)))) (.cst (.str (Str.ofString "-1"))))) .skip) .skip) (.seq (.ret (.strI (.var 0))) .skip))⟩
noncomputable def f_export_array : Fn := ⟨4, [Str.ofString "host", Str.ofString "arr", Str.ofString "depth", Str.ofString "above", Str.ofString "rows", Str.ofString "key", Str.ofString "slot", Str.ofString "name", Str.ofString "told"], [],
  (.seq (.asg 4 (.lst (.cons (.cst (.str (Str.ofString "array (\n"))) .nil))) (.seq (.for_ [5, 6] (.call 21 (.cons (.var 1) .nil)) (.seq (.asg 7 (.ite (.cmp .Eq (.call 25 (.cons (.var 5) .nil)) (.cst (.str (Str.ofString "int")))) (.strI (.var 5)) (.call 51 (.cons (.var 5) .nil)))) (.seq (.asg 8 (.call 54 (.cons (.var 0) (.cons (.call 3 (.cons (.var 6) .nil)) (.cons (.bin .Add (.var 2) (.cst (.int 1))) (.cons (.bin .Add (.var 3) (.lst (.cons (.var 1) .nil))) .nil)))))) (.seq (.expr (.append (.var 4) (.bin .Add (.bin .Add (.bin .Add (.bin .Add (.bin .Mult (.cst (.str (Str.ofString " "))) (.bin .Add (.bin .Mult (.cst (.int 2)) (.var 2)) (.cst (.int 2)))) (.var 7)) (.cst (.str (Str.ofString " => ")))) (.var 8)) (.cst (.str (Str.ofString ",\n")))))) .skip)))) (.seq (.expr (.append (.var 4) (.bin .Add (.bin .Mult (.cst (.str (Str.ofString " "))) (.bin .Mult (.cst (.int 2)) (.var 2))) (.cst (.str (Str.ofString ")")))))) (.seq (.ret (.join (.cst (.str (Str.ofString ""))) (.var 4))) .skip))))⟩
noncomputable def f_export_at : Fn := ⟨4, [Str.ofString "host", Str.ofString "value", Str.ofString "depth", Str.ofString "above", Str.ofString "sort", Str.ofString "begin"], [],
  (.seq (.asg 4 (.call 25 (.cons (.var 1) .nil))) (.seq (.ife (.cmp .Eq (.var 4) (.cst (.str (Str.ofString "null")))) (.seq (.ret (.cst (.str (Str.ofString "NULL")))) .skip) .skip) (.seq (.ife (.cmp .Eq (.var 4) (.cst (.str (Str.ofString "bool")))) (.seq (.ret (.ite (.var 1) (.cst (.str (Str.ofString "true"))) (.cst (.str (Str.ofString "false"))))) .skip) .skip) (.seq (.ife (.cmp .Eq (.var 4) (.cst (.str (Str.ofString "int")))) (.seq (.ret (.call 52 (.cons (.var 1) .nil))) .skip) .skip) (.seq (.ife (.cmp .Eq (.var 4) (.cst (.str (Str.ofString "string")))) (.seq (.ret (.call 51 (.cons (.var 1) .nil))) .skip) .skip) (.seq (.ife (.call 49 (.cons (.var 1) (.cons (.var 3) (.cons (.var 2) .nil)))) (.seq (.expr .dead) (.seq (.ret (.cst (.str (Str.ofString "NULL")))) .skip)) .skip) (.seq (.asg 5 (.ite (.cmp .Eq (.var 2) (.cst (.int 0))) (.cst (.str (Str.ofString ""))) (.bin .Add (.cst (.str (Str.ofString "\n"))) (.bin .Mult (.cst (.str (Str.ofString " "))) (.bin .Mult (.cst (.int 2)) (.var 2)))))) (.seq (.ife (.cmp .Eq (.var 4) (.cst (.str (Str.ofString "array")))) (.seq (.ret (.bin .Add (.var 5) (.call 53 (.cons (.var 0) (.cons (.var 1) (.cons (.var 2) (.cons (.var 3) .nil))))))) .skip) .skip) (.seq (.ret (.bin .Add (.var 5) .dead)) .skip)))))))))⟩
noncomputable def f_export_text : Fn := ⟨3, [Str.ofString "host", Str.ofString "value", Str.ofString "depth"], [(.int 0)],
  (.seq (.ret (.call 54 (.cons (.var 0) (.cons (.var 1) (.cons (.var 2) (.cons (.lst .nil) .nil)))))) .skip)⟩
noncomputable def f_law_draw : Fn := ⟨3, [Str.ofString "script", Str.ofString "at", Str.ofString "many", Str.ofString "place", Str.ofString "number"], [],
  (.seq (.asg 3 (.idx (.var 1) (.cst (.int 0)))) (.seq (.asgI (.var 1) (.cst (.int 0)) (.bin .Add (.var 3) (.cst (.int 1)))) (.seq (.asg 4 (.ite (.cmp .Lt (.var 3) (.len (.var 0))) (.idx (.var 0) (.var 3)) (.bin .Mod (.bin .Pow (.cst (.int 3)) (.var 3)) (.cst (.int 1009))))) (.seq (.ret (.bin .Mod (.var 4) (.var 2))) .skip))))⟩
noncomputable def f_law_leaves : Fn := ⟨0, [], [],
  (.seq (.ret (.lst (.cons (.cst (.int 0)) (.cons (.cst (.int 1)) (.cons (.cst (.str (Str.ofString "x"))) (.cons (.cst (.str (Str.ofString ""))) (.cons (.cst .none) (.cons (.cst (.bool true)) (.cons (.cst (.bool false)) (.cons (.cst (.str (Str.ofString "7"))) (.cons (.neg (.cst (.int 3))) .nil))))))))))) .skip)⟩
noncomputable def f_law_form : Fn := ⟨3, [Str.ofString "script", Str.ofString "at", Str.ofString "depth", Str.ofString "rows", Str.ofString "k", Str.ofString "number", Str.ofString "key", Str.ofString "leaf", Str.ofString "one'1", Str.ofString "inner'2"], [],
  (.seq (.asg 3 (.lst .nil)) (.seq (.forR [4] (.ite (.cmp .Gt (.var 2) (.cst (.int 1))) (.call 56 (.cons (.var 0) (.cons (.var 1) (.cons (.cst (.int 6)) .nil)))) (.call 56 (.cons (.var 0) (.cons (.var 1) (.cons (.cst (.int 3)) .nil))))) (.seq (.asg 5 (.call 56 (.cons (.var 0) (.cons (.var 1) (.cons (.bin .Mult (.cst (.int 9)) (.cst (.int 12))) .nil))))) (.seq (.asg 6 (.idx (.lst (.cons (.cst (.int 0)) (.cons (.cst (.int 1)) (.cons (.cst (.int 2)) (.cons (.cst (.str (Str.ofString "a"))) (.cons (.cst (.int 5)) (.cons (.neg (.cst (.int 3))) (.cons (.cst (.str (Str.ofString "b"))) (.cons (.cst (.int 7)) (.cons (.bin .Pow (.cst (.int 2)) (.cst (.int 62))) .nil)))))))))) (.bin .Mod (.var 5) (.cst (.int 9))))) (.seq (.asg 7 (.ite (.or (.cmp .Lt (.bin .FloorDiv (.var 5) (.cst (.int 9))) (.cst (.int 9))) (.cmp .Eq (.var 2) (.cst (.int 0)))) (.idx (.call 57 .nil) (.bin .Mod (.bin .FloorDiv (.var 5) (.cst (.int 9))) (.cst (.int 9)))) (.call 58 (.cons (.var 0) (.cons (.var 1) (.cons (.bin .Sub (.var 2) (.cst (.int 1))) .nil)))))) (.seq (.ife (.cmp .NotIn (.var 6) (.comp [8, 9] (.var 3) (.cst (.bool true)) (.var 8))) (.seq (.expr (.append (.var 3) (.tup (.cons (.var 6) (.cons (.var 7) .nil))))) .skip) .skip) .skip))))) (.seq (.ret (.tup (.cons (.cst (.str (Str.ofString "array"))) (.cons (.var 3) .nil)))) .skip)))⟩
noncomputable def f_law_next : Fn := ⟨1, [Str.ofString "ever"], [],
  (.seq (.ret (.ite (.cmp .NotEq (.var 0) (.lst .nil)) (.bin .Add (.max (.var 0)) (.cst (.int 1))) (.cst (.int 0)))) .skip)⟩
noncomputable def f_law_foreign : Fn := ⟨4, [Str.ofString "script", Str.ofString "at", Str.ofString "arr", Str.ofString "ever", Str.ofString "number", Str.ofString "key"], [],
  (.seq (.asg 4 (.call 56 (.cons (.var 0) (.cons (.var 1) (.cons (.cst (.int 30)) .nil))))) (.seq (.asg 5 (.idx (.lst (.cons (.cst (.int 3)) (.cons (.cst (.int 9)) (.cons (.cst (.str (Str.ofString "z"))) (.cons (.cst (.int 100)) (.cons (.neg (.cst (.int 8))) (.cons (.cst (.str (Str.ofString "q"))) .nil))))))) (.bin .Mod (.var 4) (.cst (.int 6))))) (.seq (.ife (.cmp .Lt (.var 4) (.cst (.int 18))) (.seq (.expr (.meth (.var 2) 104 (.cons (.var 5) (.cons (.cst (.str (Str.ofString "foreign"))) .nil)))) (.seq (.ife (.isi (.var 5) .int) (.seq (.expr (.append (.var 3) (.var 5))) .skip) .skip) .skip)) (.seq (.expr (.meth (.var 2) 106 (.cons (.var 5) .nil))) .skip)) .skip)))⟩
noncomputable def f_law_made : Fn := ⟨3, [Str.ofString "script", Str.ofString "at", Str.ofString "form", Str.ofString "arr", Str.ofString "ever", Str.ofString "key", Str.ofString "inner", Str.ofString "turn", Str.ofString "value", Str.ofString "there", Str.ofString "way"], [],
  (.seq (.asg2 3 4 (.new .arr (.cons (.idx (.lst (.cons (.cst (.int 2)) (.cons (.cst (.int 8)) (.cons (.cst (.int 16)) .nil)))) (.call 56 (.cons (.var 0) (.cons (.var 1) (.cons (.cst (.int 3)) .nil))))) .nil)) (.lst .nil)) (.seq (.for_ [5, 6] (.idx (.var 2) (.cst (.int 1))) (.seq (.forR [7] (.call 56 (.cons (.var 0) (.cons (.var 1) (.cons (.cst (.int 3)) .nil)))) (.seq (.expr (.call 60 (.cons (.var 0) (.cons (.var 1) (.cons (.var 3) (.cons (.var 4) .nil)))))) .skip)) (.seq (.asg 8 (.var 6)) (.seq (.ife (.isi (.var 6) .tuple) (.seq (.asgT 8 9 (.call 61 (.cons (.var 0) (.cons (.var 1) (.cons (.var 6) .nil))))) (.seq (.ife (.cmp .Is (.var 8) (.cst .none)) (.seq (.ret (.tup (.cons (.cst .none) (.cons (.cst .none) .nil)))) .skip) .skip) .skip)) .skip) (.seq (.asg 10 (.call 56 (.cons (.var 0) (.cons (.var 1) (.cons (.cst (.int 5)) .nil))))) (.seq (.ife (.and (.cmp .Eq (.var 10) (.cst (.int 0))) (.cmp .Eq (.var 5) (.call 59 (.cons (.var 4) .nil)))) (.seq (.ife (.cmp .NotEq (.meth (.var 3) 105 (.cons (.var 8) .nil)) (.var 5)) (.seq (.ret (.tup (.cons (.cst .none) (.cons (.cst .none) .nil)))) .skip) .skip) .skip) (.seq (.ife (.cmp .Eq (.var 10) (.cst (.int 1))) (.seq (.expr (.meth (.var 3) 104 (.cons (.var 5) (.cons (.cst (.str (Str.ofString "first"))) .nil)))) .skip) .skip) (.seq (.expr (.meth (.var 3) 104 (.cons (.var 5) (.cons (.ite (.cmp .Eq (.var 10) (.cst (.int 2))) (.new .rf (.cons (.var 8) .nil)) (.var 8)) .nil)))) .skip))) (.seq (.ife (.isi (.var 5) .int) (.seq (.expr (.append (.var 4) (.var 5))) .skip) .skip) .skip))))))) (.seq (.for_ [5] (.lst (.cons (.cst (.int 3)) (.cons (.cst (.int 9)) (.cons (.cst (.str (Str.ofString "z"))) (.cons (.cst (.int 100)) (.cons (.neg (.cst (.int 8))) (.cons (.cst (.str (Str.ofString "q"))) .nil))))))) (.seq (.expr (.meth (.var 3) 106 (.cons (.var 5) .nil))) .skip)) (.seq (.ret (.tup (.cons (.ite (.cmp .Eq (.call 56 (.cons (.var 0) (.cons (.var 1) (.cons (.cst (.int 3)) .nil)))) (.cst (.int 2))) (.call 24 (.cons (.var 3) .nil)) (.var 3)) (.cons (.call 59 (.cons (.var 4) .nil)) .nil)))) .skip))))⟩
noncomputable def f_law_read : Fn := ⟨1, [Str.ofString "value", Str.ofString "key'1", Str.ofString "inner'2"], [],
  (.seq (.ife (.not (.isi (.var 0) .arr)) (.seq (.ret (.var 0)) .skip) .skip) (.seq (.ret (.tup (.cons (.cst (.str (Str.ofString "array"))) (.cons (.comp [1, 2] (.call 20 (.cons (.var 0) .nil)) (.cst (.bool true)) (.tup (.cons (.var 1) (.cons (.call 62 (.cons (.var 2) .nil)) .nil)))) .nil)))) .skip))⟩
noncomputable def f_law_is_as : Fn := ⟨2, [Str.ofString "arr", Str.ofString "form", Str.ofString "keys", Str.ofString "key", Str.ofString "key'1", Str.ofString "inner'2"], [],
  (.seq (.asgC 2 [4, 5] (.idx (.var 1) (.cst (.int 1))) (.cst (.bool true)) (.var 4)) (.seq (.ife (.or (.cmp .NotEq (.repr (.call 62 (.cons (.var 0) .nil))) (.repr (.var 1))) (.or (.cmp .NotEq (.attr (.var 0) 6) (.len (.var 2))) (.cmp .NotEq (.call 32 (.cons (.var 0) .nil)) (.cmp .Eq (.var 2) (.listR (.len (.var 2))))))) (.seq (.ret (.cst (.bool false))) .skip) .skip) (.seq (.for_ [3] (.lst (.cons (.cst (.int 0)) (.cons (.cst (.int 1)) (.cons (.cst (.int 2)) (.cons (.cst (.int 3)) (.cons (.cst (.int 5)) (.cons (.neg (.cst (.int 3))) (.cons (.neg (.cst (.int 8))) (.cons (.cst (.int 7)) (.cons (.cst (.int 9)) (.cons (.cst (.int 100)) (.cons (.bin .Pow (.cst (.int 2)) (.cst (.int 62))) (.cons (.cst (.str (Str.ofString "a"))) (.cons (.cst (.str (Str.ofString "b"))) (.cons (.cst (.str (Str.ofString "z"))) (.cons (.cst (.str (Str.ofString "q"))) .nil)))))))))))))))) (.seq (.ife (.cmp .NotEq (.meth (.var 0) 102 (.cons (.var 3) .nil)) (.cmp .In (.var 3) (.var 2))) (.seq (.ret (.cst (.bool false))) .skip) .skip) .skip)) (.seq (.ret (.cst (.bool true))) .skip))))⟩
noncomputable def f_law_are_alike : Fn := ⟨2, [Str.ofString "one", Str.ofString "other", Str.ofString "host"], [],
  (.seq (.asg 2 (.new .host .nil)) (.seq (.ife (.or (.not (.call 26 (.cons (.var 0) (.cons (.var 1) .nil)))) (.or (.not (.call 48 (.cons (.var 2) (.cons (.var 0) (.cons (.var 1) .nil))))) (.cmp .NotEq (.call 46 (.cons (.var 2) (.cons (.var 0) (.cons (.var 1) .nil)))) (.cst (.int 0))))) (.seq (.ret (.cst (.bool false))) .skip) .skip) (.seq (.ife (.or (.cmp .NotEq (.repr (.call 30 (.cons (.var 0) .nil))) (.repr (.call 30 (.cons (.var 1) .nil)))) (.cmp .NotEq (.call 55 (.cons (.var 2) (.cons (.var 0) .nil))) (.call 55 (.cons (.var 2) (.cons (.var 1) .nil))))) (.seq (.ret (.cst (.bool false))) .skip) .skip) (.seq (.ret (.cmp .Eq (.attr (.var 2) 25) (.lst .nil))) .skip))))⟩
noncomputable def f_law_otherwise : Fn := ⟨3, [Str.ofString "script", Str.ofString "at", Str.ofString "form", Str.ofString "rows", Str.ofString "way"], [],
  (.seq (.asg2 3 4 (.listOf (.idx (.var 2) (.cst (.int 1)))) (.call 56 (.cons (.var 0) (.cons (.var 1) (.cons (.cst (.int 4)) .nil))))) (.seq (.ife (.or (.cmp .Eq (.var 3) (.lst .nil)) (.cmp .Eq (.var 4) (.cst (.int 0)))) (.seq (.ret (.tup (.cons (.cst (.str (Str.ofString "array"))) (.cons (.bin .Add (.var 3) (.lst (.cons (.tup (.cons (.cst (.str (Str.ofString "c"))) (.cons (.cst (.int 0)) .nil))) .nil))) .nil)))) .skip) .skip) (.seq (.ife (.cmp .Eq (.var 4) (.cst (.int 1))) (.seq (.ret (.tup (.cons (.cst (.str (Str.ofString "array"))) (.cons (.sfr (.var 3) (.cst (.int 1))) .nil)))) .skip) .skip) (.seq (.ife (.and (.cmp .Eq (.var 4) (.cst (.int 2))) (.cmp .Gt (.len (.var 3)) (.cst (.int 1)))) (.seq (.ret (.tup (.cons (.cst (.str (Str.ofString "array"))) (.cons (.bin .Add (.lst (.cons (.idx (.var 3) (.cst (.int 1))) (.cons (.idx (.var 3) (.cst (.int 0))) .nil))) (.sfr (.var 3) (.cst (.int 2)))) .nil)))) .skip) .skip) (.seq (.ret (.tup (.cons (.cst (.str (Str.ofString "array"))) (.cons (.bin .Add (.lst (.cons (.tup (.cons (.idx (.idx (.var 3) (.cst (.int 0))) (.cst (.int 0))) (.cons (.cst (.str (Str.ofString "otherwise"))) .nil))) .nil)) (.sfr (.var 3) (.cst (.int 1)))) .nil)))) .skip)))))⟩
noncomputable def f_law : Fn := ⟨1, [Str.ofString "script", Str.ofString "at", Str.ofString "form", Str.ofString "one", Str.ofString "first", Str.ofString "other", Str.ofString "second", Str.ofString "third", Str.ofString "there", Str.ofString "longer", Str.ofString "further"], [],
  (.seq (.asg 0 (.sto (.var 0) (.cst (.int 63)))) (.seq (.asg 1 (.lst (.cons (.cst (.int 0)) .nil))) (.seq (.asg 2 (.call 58 (.cons (.var 0) (.cons (.var 1) (.cons (.cst (.int 2)) .nil))))) (.seq (.asgT 3 4 (.call 61 (.cons (.var 0) (.cons (.var 1) (.cons (.var 2) .nil))))) (.seq (.asgT 5 6 (.call 61 (.cons (.var 0) (.cons (.var 1) (.cons (.var 2) .nil))))) (.seq (.asgT 7 8 (.call 61 (.cons (.var 0) (.cons (.var 1) (.cons (.call 65 (.cons (.var 0) (.cons (.var 1) (.cons (.var 2) .nil)))) .nil))))) (.seq (.ife (.or (.cmp .Is (.var 3) (.cst .none)) (.or (.cmp .Is (.var 5) (.cst .none)) (.cmp .Is (.var 7) (.cst .none)))) (.seq (.ret (.cst (.bool false))) .skip) .skip) (.seq (.ife (.or (.not (.call 63 (.cons (.var 3) (.cons (.var 2) .nil)))) (.not (.call 63 (.cons (.var 5) (.cons (.var 2) .nil))))) (.seq (.ret (.cst (.bool false))) .skip) .skip) (.seq (.ife (.or (.not (.call 64 (.cons (.var 3) (.cons (.var 5) .nil)))) (.not (.call 64 (.cons (.var 5) (.cons (.var 3) .nil))))) (.seq (.ret (.cst (.bool false))) .skip) .skip) (.seq (.ife (.or (.call 26 (.cons (.var 3) (.cons (.var 7) .nil))) (.or (.call 26 (.cons (.var 7) (.cons (.var 5) .nil))) (.cmp .Eq (.repr (.call 30 (.cons (.var 3) .nil))) (.repr (.call 30 (.cons (.var 7) .nil)))))) (.seq (.ret (.cst (.bool false))) .skip) .skip) (.seq (.ife (.cmp .Eq (.call 55 (.cons (.new .host .nil) (.cons (.var 3) .nil))) (.call 55 (.cons (.new .host .nil) (.cons (.var 7) .nil)))) (.seq (.ret (.cst (.bool false))) .skip) .skip) (.seq (.asg2 9 10 (.call 24 (.cons (.var 3) .nil)) (.call 24 (.cons (.var 5) .nil))) (.seq (.ife (.or (.cmp .NotEq (.meth (.var 9) 105 (.cons (.cst (.str (Str.ofString "n"))) .nil)) (.var 4)) (.cmp .NotEq (.meth (.var 10) 105 (.cons (.cst (.str (Str.ofString "n"))) .nil)) (.var 6))) (.seq (.ret (.cst (.bool false))) .skip) .skip) (.seq (.ret (.and (.cmp .Eq (.call 26 (.cons (.var 9) (.cons (.var 10) .nil))) (.cmp .Eq (.var 4) (.var 6))) (.and (.call 63 (.cons (.var 3) (.cons (.var 2) .nil))) (.call 63 (.cons (.var 5) (.cons (.var 2) .nil)))))) .skip))))))))))))))⟩
noncomputable def fns : List (Nat × Fn) := [(1, f_least), (2, f_greatest), (3, f_deref), (4, f_hold), (5, f_is_living), (6, f_hash_of), (7, f_link), (8, f_unlink), (9, f_chains), (10, f_next_place), (11, f_many_ahead), (12, f_rehash), (13, f_to_hash), (14, f_takes_packed), (15, f_add_packed), (16, f_add_hashed), (17, f_add), (18, f_go_on), (19, f_marked), (20, f_entries), (21, f_slots_of), (22, f_keys_of), (23, f_copied), (24, f_copy), (25, f_kind), (26, f_same), (27, f_same_at), (28, f_same_arrays), (29, f_compare_texts), (30, f_plain), (31, f_plain_at), (32, f_is_list), (33, f_is_digit), (34, f_digits_behind), (35, f_digits_value), (36, f_signed), (37, f_exponent_behind), (38, f_blanks_behind), (39, f_numeric), (40, f_number_of), (41, f_to_bool), (42, f_sign_of), (43, f_smart), (44, f_check_depth), (45, f_compare_arrays), (46, f_compare), (47, f_equal_arrays), (48, f_loose_equal), (49, f_is_again), (50, f_escaped), (51, f_quoted), (52, f_export_int), (53, f_export_array), (54, f_export_at), (55, f_export_text), (56, f_law_draw), (57, f_law_leaves), (58, f_law_form), (59, f_law_next), (60, f_law_foreign), (61, f_law_made), (62, f_law_read), (63, f_law_is_as), (64, f_law_are_alike), (65, f_law_otherwise), (66, f_law), (101, f_m_find), (102, f_m_has), (103, f_m_slot), (104, f_m_put), (105, f_m_append), (106, f_m_drop), (107, f_m_key_at), (1000, f_Arr_init), (1011, f_Ref_init), (1014, f_Absent_init), (1020, f_Host_init), (1040, f_Frame_init)]
noncomputable def T : Nat → Option Fn := fun n => fns.lookup n
noncomputable def topNames : List (Nat × Str) := [(1, Str.ofString "least"), (2, Str.ofString "greatest"), (3, Str.ofString "deref"), (4, Str.ofString "hold"), (5, Str.ofString "is_living"), (6, Str.ofString "hash_of"), (7, Str.ofString "link"), (8, Str.ofString "unlink"), (9, Str.ofString "chains"), (10, Str.ofString "next_place"), (11, Str.ofString "many_ahead"), (12, Str.ofString "rehash"), (13, Str.ofString "to_hash"), (14, Str.ofString "takes_packed"), (15, Str.ofString "add_packed"), (16, Str.ofString "add_hashed"), (17, Str.ofString "add"), (18, Str.ofString "go_on"), (19, Str.ofString "marked"), (20, Str.ofString "entries"), (21, Str.ofString "slots_of"), (22, Str.ofString "keys_of"), (23, Str.ofString "copied"), (24, Str.ofString "copy"), (25, Str.ofString "kind"), (26, Str.ofString "same"), (27, Str.ofString "same_at"), (28, Str.ofString "same_arrays"), (29, Str.ofString "compare_texts"), (30, Str.ofString "plain"), (31, Str.ofString "plain_at"), (32, Str.ofString "is_list"), (33, Str.ofString "is_digit"), (34, Str.ofString "digits_behind"), (35, Str.ofString "digits_value"), (36, Str.ofString "signed"), (37, Str.ofString "exponent_behind"), (38, Str.ofString "blanks_behind"), (39, Str.ofString "numeric"), (40, Str.ofString "number_of"), (41, Str.ofString "to_bool"), (42, Str.ofString "sign_of"), (43, Str.ofString "smart"), (44, Str.ofString "check_depth"), (45, Str.ofString "compare_arrays"), (46, Str.ofString "compare"), (47, Str.ofString "equal_arrays"), (48, Str.ofString "loose_equal"), (49, Str.ofString "is_again"), (50, Str.ofString "escaped"), (51, Str.ofString "quoted"), (52, Str.ofString "export_int"), (53, Str.ofString "export_array"), (54, Str.ofString "export_at"), (55, Str.ofString "export_text"), (56, Str.ofString "_law_draw"), (57, Str.ofString "_law_leaves"), (58, Str.ofString "_law_form"), (59, Str.ofString "_law_next"), (60, Str.ofString "_law_foreign"), (61, Str.ofString "_law_made"), (62, Str.ofString "_law_read"), (63, Str.ofString "_law_is_as"), (64, Str.ofString "_law_are_alike"), (65, Str.ofString "_law_otherwise"), (66, Str.ofString "law")]
noncomputable def methNames : List (Nat × Str) := [(101, Str.ofString "find"), (102, Str.ofString "has"), (103, Str.ofString "slot"), (104, Str.ofString "put"), (105, Str.ofString "append"), (106, Str.ofString "drop"), (107, Str.ofString "key_at")]
theorem T_least : T 1 = some f_least := rfl
theorem T_greatest : T 2 = some f_greatest := rfl
theorem T_deref : T 3 = some f_deref := rfl
theorem T_is_living : T 5 = some f_is_living := rfl
theorem T_hash_of : T 6 = some f_hash_of := rfl
theorem T_link : T 7 = some f_link := rfl
theorem T_unlink : T 8 = some f_unlink := rfl
theorem T_chains : T 9 = some f_chains := rfl
theorem T_next_place : T 10 = some f_next_place := rfl
theorem T_many_ahead : T 11 = some f_many_ahead := rfl
theorem T_rehash : T 12 = some f_rehash := rfl
theorem T_to_hash : T 13 = some f_to_hash := rfl
theorem T_takes_packed : T 14 = some f_takes_packed := rfl
theorem T_add_packed : T 15 = some f_add_packed := rfl
theorem T_add_hashed : T 16 = some f_add_hashed := rfl
theorem T_add : T 17 = some f_add := rfl
theorem T_go_on : T 18 = some f_go_on := rfl
theorem T_marked : T 19 = some f_marked := rfl
theorem T_entries : T 20 = some f_entries := rfl
theorem T_slots_of : T 21 = some f_slots_of := rfl
theorem T_keys_of : T 22 = some f_keys_of := rfl
theorem T_copied : T 23 = some f_copied := rfl
theorem T_copy : T 24 = some f_copy := rfl
theorem T_kind : T 25 = some f_kind := rfl
theorem T_same : T 26 = some f_same := rfl
theorem T_same_at : T 27 = some f_same_at := rfl
theorem T_same_arrays : T 28 = some f_same_arrays := rfl
theorem T_compare_texts : T 29 = some f_compare_texts := rfl
theorem T_plain : T 30 = some f_plain := rfl
theorem T_plain_at : T 31 = some f_plain_at := rfl
theorem T_is_list : T 32 = some f_is_list := rfl
theorem T_is_digit : T 33 = some f_is_digit := rfl
theorem T_digits_behind : T 34 = some f_digits_behind := rfl
theorem T_digits_value : T 35 = some f_digits_value := rfl
theorem T_signed : T 36 = some f_signed := rfl
theorem T_exponent_behind : T 37 = some f_exponent_behind := rfl
theorem T_blanks_behind : T 38 = some f_blanks_behind := rfl
theorem T_numeric : T 39 = some f_numeric := rfl
theorem T_number_of : T 40 = some f_number_of := rfl
theorem T_to_bool : T 41 = some f_to_bool := rfl
theorem T_sign_of : T 42 = some f_sign_of := rfl
theorem T_smart : T 43 = some f_smart := rfl
theorem T_check_depth : T 44 = some f_check_depth := rfl
theorem T_compare_arrays : T 45 = some f_compare_arrays := rfl
theorem T_compare : T 46 = some f_compare := rfl
theorem T_equal_arrays : T 47 = some f_equal_arrays := rfl
theorem T_loose_equal : T 48 = some f_loose_equal := rfl
theorem T_is_again : T 49 = some f_is_again := rfl
theorem T_escaped : T 50 = some f_escaped := rfl
theorem T_quoted : T 51 = some f_quoted := rfl
theorem T_export_int : T 52 = some f_export_int := rfl
theorem T_export_array : T 53 = some f_export_array := rfl
theorem T_export_at : T 54 = some f_export_at := rfl
theorem T_export_text : T 55 = some f_export_text := rfl
theorem T_law_draw : T 56 = some f_law_draw := rfl
theorem T_law_leaves : T 57 = some f_law_leaves := rfl
theorem T_law_form : T 58 = some f_law_form := rfl
theorem T_law_next : T 59 = some f_law_next := rfl
theorem T_law_foreign : T 60 = some f_law_foreign := rfl
theorem T_law_made : T 61 = some f_law_made := rfl
theorem T_law_read : T 62 = some f_law_read := rfl
theorem T_law_is_as : T 63 = some f_law_is_as := rfl
theorem T_law_are_alike : T 64 = some f_law_are_alike := rfl
theorem T_law_otherwise : T 65 = some f_law_otherwise := rfl
theorem T_law : T 66 = some f_law := rfl
theorem T_m_find : T 101 = some f_m_find := rfl
theorem T_m_has : T 102 = some f_m_has := rfl
theorem T_m_slot : T 103 = some f_m_slot := rfl
theorem T_m_put : T 104 = some f_m_put := rfl
theorem T_m_append : T 105 = some f_m_append := rfl
theorem T_m_drop : T 106 = some f_m_drop := rfl
theorem T_m_key_at : T 107 = some f_m_key_at := rfl
theorem T_Arr_init : T 1000 = some f_Arr_init := rfl
theorem T_Ref_init : T 1011 = some f_Ref_init := rfl
theorem T_Absent_init : T 1014 = some f_Absent_init := rfl
theorem T_Host_init : T 1020 = some f_Host_init := rfl
theorem T_Frame_init : T 1040 = some f_Frame_init := rfl
end Mine
namespace Mine
noncomputable def allCls : List Cls := [.arr, .rf, .absent, .host, .frame]
noncomputable def refOf : Option (Option Value) → Addr
  | some (some (.ref a)) => a
  | _ => 0
noncomputable def dAddr (K : Frag) (f : Nat) : Addr := match topNames.lookup f with
  | some x => addrOf K x
  | none => (match methNames.lookup f with
    | some x => refOf (findIn K (.ref (clsAddr K .arr)) x)
    | none => refOf (findIn K (.ref (clsAddr K (if f = 1000 then .arr else if f = 1011 then .rf else if f = 1014 then .absent else if f = 1020 then .host else .frame))) "__init__"))
noncomputable def chkHead (K : Frag) : Bool := allCls.all (clsOk K) && isiOk K && nsIn K mainGlobals (Str.ofString "Obj") == some (some (.ref (addrOf K (Str.ofString "Obj")))) && bltOk K &&
  topNames.all (fun p => topOk K (dAddr K) p.1 p.2) && methNames.all (fun p => methOk K (dAddr K) p.1 p.2) && allCls.all (initOk K (dAddr K))
noncomputable def chkFn (K : Frag) (N : Names) (p : Nat × Fn) : Bool := fnAt K (dAddr K p.1) p.2 (fun body names => injB p.2.vars.zipIdx && chkS N p.2.body (scOf p.2 names) body)
noncomputable def theNames : Names := ⟨fun f => topNames.lookup f, fun f => methNames.lookup f⟩
noncomputable def theDefs (K : Frag) : Defs := ⟨T, dAddr K⟩
theorem prg_of {X : Fix} (m : Amb X) (c : chkHead X.K = true) : Prg X (theDefs X.K) theNames := by
  simp only [chkHead, Bool.and_eq_true, List.all_eq_true, beq_iff_eq] at c
  obtain ⟨⟨⟨⟨⟨⟨c1, c2⟩, c3⟩, c4⟩, c5⟩, c6⟩, c7⟩ := c
  exact ⟨m, fun c => c1 c (by cases c <;> simp [allCls]), c2, c3, c4, fun f x h => c5 _ (lookup_mem h), fun f x h => c6 _ (lookup_mem h), fun c => c7 c (by cases c <;> simp [allCls])⟩
theorem fns_of {X : Fix} (c : fns.all (chkFn X.K theNames) = true) : FnsOk X (theDefs X.K) theNames := fun f F h => List.all_eq_true.mp c (f, F) (lookup_mem h)
noncomputable def hp0 (l : Addr) (ns : List Int) : Hp := upd (fun _ => none) l (.fro (ns.map .int))
noncomputable def LawOk (n : Nat) : Prop := ∀ l ns, ns.length ≤ 63 → MC T n 66 [.ref l] (fun v _ => v = .bool true) (hp0 l ns)
end Mine
namespace Mine
noncomputable def O.le (o o' : O) : Prop := o' = o ∨ ∃ d fs b, o = .inst .arr d fs ∧ o' = .inst .arr d (fs.set 9 (.bool b))
theorem O.le_refl (o : O) : O.le o o := .inl rfl
theorem O.le_trans {a b c : O} (x : O.le a b) (y : O.le b c) : O.le a c := by
  rcases x with rfl | ⟨d, fs, t, rfl, rfl⟩
  · exact y
  · rcases y with rfl | ⟨d', fs', u, e, rfl⟩
    · exact .inr ⟨d, fs, t, rfl, rfl⟩
    · cases e
      exact .inr ⟨d, fs, u, rfl, by rw [List.set_set]⟩
theorem O.le_eq {o o' : O} (x : O.le o o') (h : ∀ d fs, o ≠ .inst .arr d fs) : o' = o := by
  rcases x with rfl | ⟨d, fs, _, e, _⟩
  · rfl
  · exact absurd e (h d fs)
noncomputable def Le (W : List Addr) (H H' : Hp) : Prop := ∀ b o, H b = some o → b ∉ W → ∃ o', H' b = some o' ∧ O.le o o'
theorem Le.refl {W : List Addr} {H : Hp} : Le W H H := fun b o e _ => ⟨o, e, O.le_refl o⟩
theorem Le.trans {W : List Addr} {H H' H'' : Hp} (x : Le W H H') (y : Le W H' H'') : Le W H H'' := fun b o e n => by
  obtain ⟨o1, e1, l1⟩ := x b o e n
  obtain ⟨o2, e2, l2⟩ := y b o1 e1 n
  exact ⟨o2, e2, O.le_trans l1 l2⟩
theorem Le.any {W : List Addr} {H H' : Hp} (x : Le [] H H') : Le W H H' := fun b o e _ => x b o e (by simp)
theorem Le.mono {W W' : List Addr} {H H' : Hp} (x : Le W H H') (k : ∀ b ∈ W, b ∈ W' ∨ H b = none) : Le W' H H' := fun b o e n => x b o e fun q => (k b q).elim n fun z => by rw [e] at z; cases z
theorem Le.new {W : List Addr} {H : Hp} {l : Addr} {o : O} (hl : H l = none) : Le W H (upd H l o) := fun b ob e _ => ⟨ob, upd_ne' e hl, O.le_refl _⟩
theorem Le.at {W : List Addr} {H : Hp} {l : Addr} {o : O} (hl : l ∈ W) : Le W H (upd H l o) := fun b ob e n => ⟨ob, by rw [upd_ne (fun q => n (by rw [q]; exact hl))]; exact e, O.le_refl _⟩
theorem Le.lst {W : List Addr} {H H' : Hp} (x : Le W H H') {l : Addr} {vs : List V} (e : H l = some (.lst vs)) (n : l ∉ W) : H' l = some (.lst vs) := by
  obtain ⟨o, e', r⟩ := x l _ e n
  have r : o = .lst vs := O.le_eq r (fun _ _ z => nomatch z)
  rw [e', r]
theorem Le.tup {W : List Addr} {H H' : Hp} (x : Le W H H') {l : Addr} {vs : List V} (e : H l = some (.tup vs)) (n : l ∉ W) : H' l = some (.tup vs) := by
  obtain ⟨o, e', r⟩ := x l _ e n
  have r : o = .tup vs := O.le_eq r (fun _ _ z => nomatch z)
  rw [e', r]
theorem Le.dct {W : List Addr} {H H' : Hp} (x : Le W H H') {l : Addr} (e : H l = some .dct) (n : l ∉ W) : H' l = some .dct := by
  obtain ⟨o, e', r⟩ := x l _ e n
  have r : o = .dct := O.le_eq r (fun _ _ z => nomatch z)
  rw [e', r]
theorem Le.rf {W : List Addr} {H H' : Hp} (x : Le W H H') {l d : Addr} {vs : List V} (e : H l = some (.inst .rf d vs)) (n : l ∉ W) : H' l = some (.inst .rf d vs) := by
  obtain ⟨o, e', r⟩ := x l _ e n
  have r : o = .inst .rf d vs := O.le_eq r (fun _ _ z => nomatch z)
  rw [e', r]
theorem Le.absent {W : List Addr} {H H' : Hp} (x : Le W H H') {l d : Addr} {vs : List V} (e : H l = some (.inst .absent d vs)) (n : l ∉ W) : H' l = some (.inst .absent d vs) := by
  obtain ⟨o, e', r⟩ := x l _ e n
  have r : o = .inst .absent d vs := O.le_eq r (fun _ _ z => nomatch z)
  rw [e', r]
theorem Le.host {W : List Addr} {H H' : Hp} (x : Le W H H') {l d : Addr} {vs : List V} (e : H l = some (.inst .host d vs)) (n : l ∉ W) : H' l = some (.inst .host d vs) := by
  obtain ⟨o, e', r⟩ := x l _ e n
  have r : o = .inst .host d vs := O.le_eq r (fun _ _ z => nomatch z)
  rw [e', r]
theorem Le.there {W : List Addr} {H H' : Hp} (x : Le W H H') {l : Addr} (n : l ∉ W) (e : H' l = none) : H l = none := by
  cases z : H l with
  | none => rfl
  | some o => obtain ⟨o', e', _⟩ := x l o z n; rw [e] at e'; cases e'
theorem Le.isi {W : List Addr} {H H' : Hp} (x : Le W H H') {k : Kd} {v : V} {b : Bool} (e : isiV H k v = some b) (n : ∀ a, v = .ref a → a ∉ W) : isiV H' k v = some b := by
  cases v with
  | ref a =>
    have e : isiO k (H a) = some b := e
    cases z : H a with
    | none => rw [z] at e; cases e
    | some o =>
      obtain ⟨o', e', r⟩ := x a o z (n a rfl)
      show isiO k (H' a) = _
      rw [z] at e
      rw [e']
      rcases r with rfl | ⟨_, _, _, rfl, rfl⟩
      · exact e
      · exact e
  | _ => exact e
theorem isi_obj {H : Hp} {k : Kd} {b : Bool} {a : Addr} {o : Option O} (e : H a = o) (h : isiO k o = some b := by rfl) : isiV H k (.ref a) = some b := (congrArg (isiO k) e).trans h
theorem fld_obj {H : Hp} {f : Nat} {v : V} {a : Addr} {o : Option O} (e : H a = o) (h : fldO f o = some v := by rfl) : fldOf H (.ref a) f = some v := (congrArg (fldO f) e).trans h
structure AS where
  d : Addr
  k : Addr
  v : Addr
  hd : Addr
  nx : Addr
  w : Addr
  packed : Bool
  keys : List V
  vals : List V
  heads : List V
  nexts : List V
  size : Nat
  count : Int
  next : Int
  at_ : Int
noncomputable def AS.own (a : Addr) (S : AS) : List Addr := [a, S.k, S.v, S.hd, S.nx]
noncomputable def AS.fs (S : AS) (sh : Bool) : List V := [.bool S.packed, .ref S.k, .ref S.v, .ref S.hd, .ref S.nx, .int S.size, .int S.count, .int S.next, .int S.at_, .bool sh, .ref S.w]
structure IsA (H : Hp) (a : Addr) (S : AS) : Prop where
  a : ∃ sh, H a = some (.inst .arr S.d (S.fs sh))
  k : H S.k = some (.lst S.keys)
  v : H S.v = some (.lst S.vals)
  hd : H S.hd = some (.lst S.heads)
  nx : H S.nx = some (.lst S.nexts)
  w : H S.w = some .dct
  ne : [S.k, S.v, S.hd, S.nx].Nodup
theorem IsA.le {H H' : Hp} {W : List Addr} {a : Addr} {S : AS} (x : IsA H a S) (l : Le W H H') (n : ∀ b ∈ S.own a, b ∉ W) (nw : S.w ∉ W) : IsA H' a S := by
  obtain ⟨⟨sh, e⟩, e1, e2, e3, e4, e5, e6⟩ := x
  simp only [AS.own, List.mem_cons, List.mem_nil_iff, or_false, forall_eq_or_imp, forall_eq] at n
  refine ⟨?_, l.lst e1 n.2.1, l.lst e2 n.2.2.1, l.lst e3 n.2.2.2.1, l.lst e4 n.2.2.2.2, l.dct e5 nw, e6⟩
  obtain ⟨o, e', r⟩ := l a _ e n.1
  rcases r with rfl | ⟨_, _, t, q1, rfl⟩
  · exact ⟨sh, e'⟩
  · cases q1; exact ⟨t, e'⟩
theorem IsA.le0 {H H' : Hp} {a : Addr} {S : AS} (x : IsA H a S) (l : Le [] H H') : IsA H' a S := x.le l (fun _ _ => by simp) (by simp)
section
variable {H : Hp} {a : Addr} {S : AS}
theorem IsA.inst (x : IsA H a S) : ∃ d fs, H a = some (.inst .arr d fs) := let ⟨_, e⟩ := x.a; ⟨_, _, e⟩
theorem IsA.f0 (x : IsA H a S) : fldOf H (.ref a) 0 = some (.bool S.packed) := x.a.elim fun _ e => fld_obj e
theorem IsA.f1 (x : IsA H a S) : fldOf H (.ref a) 1 = some (.ref S.k) := x.a.elim fun _ e => fld_obj e
theorem IsA.f2 (x : IsA H a S) : fldOf H (.ref a) 2 = some (.ref S.v) := x.a.elim fun _ e => fld_obj e
theorem IsA.f3 (x : IsA H a S) : fldOf H (.ref a) 3 = some (.ref S.hd) := x.a.elim fun _ e => fld_obj e
theorem IsA.f4 (x : IsA H a S) : fldOf H (.ref a) 4 = some (.ref S.nx) := x.a.elim fun _ e => fld_obj e
theorem IsA.f5 (x : IsA H a S) : fldOf H (.ref a) 5 = some (.int S.size) := x.a.elim fun _ e => fld_obj e
theorem IsA.f6 (x : IsA H a S) : fldOf H (.ref a) 6 = some (.int S.count) := x.a.elim fun _ e => fld_obj e
theorem IsA.f7 (x : IsA H a S) : fldOf H (.ref a) 7 = some (.int S.next) := x.a.elim fun _ e => fld_obj e
theorem IsA.f8 (x : IsA H a S) : fldOf H (.ref a) 8 = some (.int S.at_) := x.a.elim fun _ e => fld_obj e
theorem IsA.f10 (x : IsA H a S) : fldOf H (.ref a) 10 = some (.ref S.w) := x.a.elim fun _ e => fld_obj e
theorem IsA.ak (x : IsA H a S) : a ≠ S.k := by rintro e; obtain ⟨sh, h⟩ := x.a; rw [e, x.k] at h; cases h
theorem IsA.av (x : IsA H a S) : a ≠ S.v := by rintro e; obtain ⟨sh, h⟩ := x.a; rw [e, x.v] at h; cases h
theorem IsA.ahd (x : IsA H a S) : a ≠ S.hd := by rintro e; obtain ⟨sh, h⟩ := x.a; rw [e, x.hd] at h; cases h
theorem IsA.anx (x : IsA H a S) : a ≠ S.nx := by rintro e; obtain ⟨sh, h⟩ := x.a; rw [e, x.nx] at h; cases h
theorem IsA.aw (x : IsA H a S) : a ≠ S.w := by rintro e; obtain ⟨sh, h⟩ := x.a; rw [e, x.w] at h; cases h
theorem IsA.wk (x : IsA H a S) : S.w ≠ S.k := by rintro e; have h := x.w; rw [e, x.k] at h; cases h
theorem IsA.wv (x : IsA H a S) : S.w ≠ S.v := by rintro e; have h := x.w; rw [e, x.v] at h; cases h
theorem IsA.whd (x : IsA H a S) : S.w ≠ S.hd := by rintro e; have h := x.w; rw [e, x.hd] at h; cases h
theorem IsA.wnx (x : IsA H a S) : S.w ≠ S.nx := by rintro e; have h := x.w; rw [e, x.nx] at h; cases h
theorem IsA.nes (x : IsA H a S) : S.k ≠ S.v ∧ S.k ≠ S.hd ∧ S.k ≠ S.nx ∧ S.v ≠ S.hd ∧ S.v ≠ S.nx ∧ S.hd ≠ S.nx := by
  have := x.ne
  simp only [List.nodup_cons, List.mem_cons, List.mem_nil_iff, or_false, not_or, List.nodup_nil] at this
  exact ⟨this.1.1, this.1.2.1, this.1.2.2, this.2.1.1, this.2.1.2, this.2.2.1⟩
theorem IsA.setK (x : IsA H a S) (l : List V) : IsA (upd H S.k (.lst l)) a { S with keys := l } := by
  obtain ⟨n1, n2, n3, n4, n5, n6⟩ := x.nes
  obtain ⟨sh, e⟩ := x.a
  exact ⟨⟨sh, by rw [upd_ne x.ak]; exact e⟩, upd_self, by rw [upd_ne (Ne.symm n1)]; exact x.v, by rw [upd_ne (Ne.symm n2)]; exact x.hd, by rw [upd_ne (Ne.symm n3)]; exact x.nx, by rw [upd_ne x.wk]; exact x.w, x.ne⟩
theorem IsA.setV (x : IsA H a S) (l : List V) : IsA (upd H S.v (.lst l)) a { S with vals := l } := by
  obtain ⟨n1, n2, n3, n4, n5, n6⟩ := x.nes
  obtain ⟨sh, e⟩ := x.a
  exact ⟨⟨sh, by rw [upd_ne x.av]; exact e⟩, by rw [upd_ne n1]; exact x.k, upd_self, by rw [upd_ne (Ne.symm n4)]; exact x.hd, by rw [upd_ne (Ne.symm n5)]; exact x.nx, by rw [upd_ne x.wv]; exact x.w, x.ne⟩
theorem IsA.setHd (x : IsA H a S) (l : List V) : IsA (upd H S.hd (.lst l)) a { S with heads := l } := by
  obtain ⟨n1, n2, n3, n4, n5, n6⟩ := x.nes
  obtain ⟨sh, e⟩ := x.a
  exact ⟨⟨sh, by rw [upd_ne x.ahd]; exact e⟩, by rw [upd_ne n2]; exact x.k, by rw [upd_ne n4]; exact x.v, upd_self, by rw [upd_ne (Ne.symm n6)]; exact x.nx, by rw [upd_ne x.whd]; exact x.w, x.ne⟩
theorem IsA.setNx (x : IsA H a S) (l : List V) : IsA (upd H S.nx (.lst l)) a { S with nexts := l } := by
  obtain ⟨n1, n2, n3, n4, n5, n6⟩ := x.nes
  obtain ⟨sh, e⟩ := x.a
  exact ⟨⟨sh, by rw [upd_ne x.anx]; exact e⟩, by rw [upd_ne n3]; exact x.k, by rw [upd_ne n5]; exact x.v, by rw [upd_ne n6]; exact x.hd, upd_self, by rw [upd_ne x.wnx]; exact x.w, x.ne⟩
theorem IsA.setF (x : IsA H a S) {S' : AS} {sh : Bool} (hk : S'.k = S.k ∧ S'.v = S.v ∧ S'.hd = S.hd ∧ S'.nx = S.nx ∧ S'.w = S.w) (hl : S'.keys = S.keys ∧ S'.vals = S.vals ∧ S'.heads = S.heads ∧ S'.nexts = S.nexts) : IsA (upd H a (.inst .arr S'.d (S'.fs sh))) a S' := by
  obtain ⟨h1, h2, h3, h4, h5⟩ := hk
  obtain ⟨l1, l2, l3, l4⟩ := hl
  exact ⟨⟨sh, upd_self⟩, by rw [h1, l1, upd_ne (Ne.symm x.ak)]; exact x.k, by rw [h2, l2, upd_ne (Ne.symm x.av)]; exact x.v, by rw [h3, l3, upd_ne (Ne.symm x.ahd)]; exact x.hd, by rw [h4, l4, upd_ne (Ne.symm x.anx)]; exact x.nx, by rw [h5, upd_ne (Ne.symm x.aw)]; exact x.w, by rw [h1, h2, h3, h4]; exact x.ne⟩
end
end Mine
namespace Mine
section
variable {H : Hp}
theorem c_eq_kk {x y : V} (hx : scalar x = true) (hy : scalar y = true) : cmpV H .Eq x y = some (decide (x = y)) := by
  cases x with
  | int a => cases y with
    | int b => exact congrArg some (decide_eq_decide.mpr ⟨congrArg _, V.int.inj⟩)
    | str t => rfl
    | _ => cases hy
  | str s => cases y with
    | int b => rfl
    | str t => exact congrArg some (decide_eq_decide.mpr ⟨congrArg _, V.str.inj⟩)
    | _ => cases hy
  | _ => cases hx
theorem c_ne_kk {x y : V} (hx : scalar x = true) (hy : scalar y = true) : cmpV H .NotEq x y = some (!decide (x = y)) := congrArg (Option.map not) (c_eq_kk (H := H) hx hy)
end
theorem for_rule {step : V → (Fl → Env' → Hp → Prop) → Env' → Hp → Prop} {live : Option Addr} {whole : List V} {Q : Fl → Env' → Hp → Prop} (I : Nat → Env' → Hp → Prop) {ρ : Env'} {H : Hp} (h0 : I 0 ρ H) (st : ∀ i ρ H, I i ρ H → stays H live whole)
    (turn : ∀ i v ρ H K, whole[i]? = some v → I i ρ H → (∀ ρ' H', I (i + 1) ρ' H' → K .nxt ρ' H') → (∀ x ρ' H', Q (.ret x) ρ' H' → K (.ret x) ρ' H') → step v K ρ H) (fin : ∀ ρ H, I whole.length ρ H → Q .nxt ρ H) : exFor step live whole whole Q ρ H := by
  have key : ∀ (k i : Nat) (ρ : Env') (H : Hp), k + i = whole.length → I i ρ H → exFor step live whole (whole.drop i) Q ρ H := by
    intro k
    induction k with
    | zero =>
      intro i ρ H e h
      have : i = whole.length := by omega
      subst this
      rw [List.drop_length]
      exact ⟨st _ _ _ h, fin _ _ h⟩
    | succ k ih =>
      intro i ρ H e h
      have hlt : i < whole.length := by omega
      rw [List.drop_eq_getElem_cons hlt]
      refine ⟨st _ _ _ h, turn i _ ρ H _ (List.getElem?_eq_getElem hlt) h (fun ρ' H' h' => ih (i + 1) ρ' H' (by omega) h') fun x ρ' H' q => q⟩
  exact key whole.length 0 ρ H rfl h0
theorem comp_rule {step : V → List V → (List V → Hp → Prop) → Hp → Prop} {live : Option Addr} {whole : List V} {Q : List V → Hp → Prop} (I : Nat → List V → Hp → Prop) {H : Hp} (hl : whole.length < 2 ^ 24) (h0 : I 0 [] H) (hlen : ∀ i acc H, I i acc H → acc.length ≤ i) (st : ∀ i acc H, I i acc H → stays H live whole)
    (turn : ∀ i v acc H K, whole[i]? = some v → I i acc H → (∀ acc' H', I (i + 1) acc' H' → K acc' H') → step v acc K H) (fin : ∀ acc H, I whole.length acc H → Q acc H) : evComp step live whole whole [] Q H := by
  have key : ∀ (k i : Nat) (acc : List V) (H : Hp), k + i = whole.length → I i acc H → evComp step live whole (whole.drop i) acc Q H := by
    intro k
    induction k with
    | zero =>
      intro i acc H e h
      have : i = whole.length := by omega
      subst this
      rw [List.drop_length]
      exact ⟨st _ _ _ h, fin _ _ h⟩
    | succ k ih =>
      intro i acc H e h
      have hlt : i < whole.length := by omega
      rw [List.drop_eq_getElem_cons hlt]
      refine ⟨st _ _ _ h, by have := hlen _ _ _ h; omega, turn i _ acc H _ (List.getElem?_eq_getElem hlt) h fun acc' H' h' => ih (i + 1) acc' H' (by omega) h'⟩
  exact key whole.length 0 [] H rfl h0
theorem while_rule {test : (Bool → Hp → Prop) → Env' → Hp → Prop} {body : PF → Env' → Hp → Prop} {Q : PF} (I : Nat → Env' → Hp → Prop) {k : Nat} {ρ : Env'} {H : Hp} (h0 : I k ρ H)
    (turn : ∀ k ρ H K, I k ρ H → (∀ j ρ' H', j < k → I j ρ' H' → K .nxt ρ' H') → (∀ x ρ' H', Q (.ret x) ρ' H' → K (.ret x) ρ' H') → test (kIf (body K ρ) (Q .nxt ρ)) ρ H) : ∃ n, exW test body n Q ρ H := by
  have key : ∀ (n k : Nat) (ρ : Env') (H : Hp), k < n → I k ρ H → exW test body n Q ρ H := by
    intro n
    induction n with
    | zero => intro k ρ H h; exact absurd h (Nat.not_lt_zero _)
    | succ n ih =>
      intro k ρ H hk h
      exact turn k ρ H _ h (fun j ρ' H' hj h' => ih j ρ' H' (Nat.lt_of_lt_of_le hj (Nat.le_of_lt_succ hk)) h') fun x ρ' H' q => q
  exact ⟨k + 1, key (k + 1) k ρ H (Nat.lt_succ_self _) h0⟩
theorem sp_least {n : Nat} (hn : 1 ≤ n) {Q : V → Hp → Prop} {H : Hp} (q : Q (.int (-(2 ^ 63))) H) : MC T n 1 [] Q H := by
  exact call_of (ρ := []) hn T_least rfl fun n hn => ⟨.inl rfl, by decide, by decide, q⟩
theorem sp_greatest {n : Nat} (hn : 1 ≤ n) {Q : V → Hp → Prop} {H : Hp} (q : Q (.int (2 ^ 63 - 1)) H) : MC T n 2 [] Q H := by
  exact call_of (ρ := []) hn T_greatest rfl fun n hn => ⟨.inl rfl, by decide, by decide, q⟩
theorem isi_abs {H : Hp} {r d : Addr} {fs : List V} (e : H r = some (.inst .absent d fs)) : isiV H .absent (.ref r) = some true := congrArg (isiO .absent) e
theorem idx_ref {H : Hp} {a : Addr} {vs : List V} {i : Int} (e : seqOf H (.ref a) = some vs) (h0 : 0 ≤ i) (h1 : i < 2 ^ 62) : idxV H (.ref a) (.int i) = vs[i.toNat]? := by
  show ((seqOf H (.ref a)).bind fun vs => if 0 ≤ i ∧ i < 2 ^ 62 then vs[i.toNat]? else if i = -1 then vs.getLast? else .none) = _
  rw [e]
  exact if_pos ⟨h0, h1⟩
theorem idx_at {H : Hp} {a : Addr} {vs : List V} {i : Int} (e : H a = some (.lst vs)) (h0 : 0 ≤ i) (h1 : i < 2 ^ 62) : idxV H (.ref a) (.int i) = vs[i.toNat]? := idx_ref (seq_lst e) h0 h1
theorem idx_lst {H : Hp} {a : Addr} {vs : List V} {i : Nat} (e : H a = some (.lst vs)) (h1 : i < 2 ^ 62) : idxV H (.ref a) (.int i) = vs[i]? := idx_ref (seq_lst e) (Int.natCast_nonneg i) (Int.ofNat_lt.mpr h1)
theorem idx_tup {H : Hp} {a : Addr} {vs : List V} {i : Nat} (e : H a = some (.tup vs)) (h1 : i < 2 ^ 62) : idxV H (.ref a) (.int i) = vs[i]? := idx_ref (seq_tup e) (Int.natCast_nonneg i) (Int.ofNat_lt.mpr h1)
noncomputable abbrev Cell := Option (V × V)
noncomputable def liv (cs : List Cell) (p : Int) : Bool := decide (0 ≤ p) && (match cs[p.toNat]? with
  | some (some _) => true
  | _ => false)
structure Vals (H : Hp) (vals : List V) (cs : List Cell) : Prop where
  len : vals.length = cs.length
  dead : ∀ (i : Nat), cs[i]? = some none → ∃ r d fs, vals[i]? = some (.ref r) ∧ H r = some (.inst .absent d fs)
  live : ∀ (i : Nat) k s, cs[i]? = some (some (k, s)) → vals[i]? = some s ∧ isiV H .absent s = some false
theorem liv_neg {cs : List Cell} {p : Int} (h : p < 0) : liv cs p = false := by unfold liv; rw [decide_eq_false (by omega)]; rfl
theorem liv_big {cs : List Cell} {p : Int} (h : (cs.length : Int) ≤ p) : liv cs p = false := by
  unfold liv; rw [List.getElem?_eq_none (by omega), Bool.and_false]
theorem liv_at {cs : List Cell} {p : Int} {c : Cell} (h0 : 0 ≤ p) (hc : cs[p.toNat]? = some c) : liv cs p = c.isSome := by
  unfold liv; rw [decide_eq_true h0, hc]; cases c <;> rfl
theorem sp_is_living {n : Nat} (hn : 1 ≤ n) {Q : V → Hp → Prop} {H : Hp} {a : Addr} {S : AS} (x : IsA H a S) {cs : List Cell} (vl : Vals H S.vals cs) (hl : cs.length < 2 ^ 62) {p : Int} (q : Q (.bool (liv cs p)) H) : MC T n 5 [.ref a, .int p] Q H := by
  refine call_of (ρ := [some (.ref a), some (.int p)]) hn T_is_living rfl fun n hn => (if_c (fun h0 => fld_of x.f2 (len_of (n := cs.length) (len_lst x.v vl.len) hl (if_c (fun h1 => ?_) fun h => ?_))) fun h => ?_)
  · obtain ⟨c, hc⟩ : ∃ c, cs[p.toNat]? = some c := ⟨_, List.getElem?_eq_getElem (by omega)⟩
    rw [liv_at h0 hc] at q
    have hi := idx_at x.v h0 (show p < 2 ^ 62 by omega)
    refine fld_of x.f2 ?_
    cases c with
    | none => obtain ⟨r, d, fs, e1, e2⟩ := vl.dead _ hc; exact idx_of (hi.trans e1) (isi_of (r := true) (isi_abs e2) q)
    | some ks => obtain ⟨e1, e2⟩ := vl.live _ _ _ hc; exact idx_of (hi.trans e1) (isi_of e2 q)
  · rw [liv_big (by omega)] at q; exact q
  · rw [liv_neg (by omega)] at q; exact q
noncomputable def hstep (f : Int) (c : Nat) : Int := (f * 33 + c) % 2 ^ 64
noncomputable def hsh : V → Int
  | .int i => i % 2 ^ 64
  | .str s => Builtin.bitOr (s.cps.toList.foldl hstep 5381) (2 ^ 63)
  | _ => 0
theorem hstep_lt (f : Int) (c : Nat) : 0 ≤ hstep f c ∧ hstep f c < 2 ^ 64 := by unfold hstep; omega
theorem sp_hash {n : Nat} (hn : 1 ≤ n) {Q : V → Hp → Prop} {H : Hp} {k : V} (hk : scalar k = true) (q : Q (.int (hsh k)) H) : MC T n 6 [k] Q H := by
  refine call_of (ρ := [some k, none, none]) hn T_hash_of rfl fun n hn => ?_
  cases k with
  | int i => exact ⟨.inl rfl, by decide, by decide, by decide, q⟩
  | str s =>
    refine for_rule (fun i ρ H' => H' = H ∧ ∃ o, ρ = [some (.str s), some (.int ((s.cps.toList.take i).foldl hstep 5381)), o]) ⟨rfl, none, rfl⟩ ?_ ?_ ?_
    · intros; trivial
    · rintro i v ρ H' K hv ⟨rfl, o, rfl⟩ hK _
      rw [List.getElem?_map] at hv
      obtain ⟨c, hc, rfl⟩ := Option.map_eq_some_iff.mp hv
      have hc' : s.cps.toList[i]? = some c := by simpa using hc
      have hb : 0 ≤ (s.cps.toList.take i).foldl hstep 5381 ∧ (s.cps.toList.take i).foldl hstep 5381 < 2 ^ 64 := by
        cases i with
        | zero => simp
        | succ i =>
          have h := (List.getElem?_eq_some_iff.mp hc').1
          rw [List.take_succ_eq_append_getElem (by omega), List.foldl_append]
          exact hstep_lt _ _
      refine ⟨by omega, by decide, .inl rfl, by decide, by decide, by decide, hK _ _ ⟨rfl, some (charV c), ?_⟩⟩
      rw [List.take_add_one, hc', List.foldl_append]; rfl
    · rintro ρ H' ⟨rfl, o, rfl⟩
      rw [List.take_of_length_le (by simp)]
      exact ⟨.inl rfl, by decide, by decide, q⟩
  | none => cases hk
  | bool => cases hk
  | ref => cases hk
end Mine
namespace Mine
theorem Le.trans' {W W1 : List Addr} {H H1 H2 : Hp} (x : Le W H H1) (y : Le W1 H1 H2) (k : ∀ b ∈ W1, b ∈ W ∨ H b = none) : Le W H H2 := fun b o e n => by
  obtain ⟨o1, e1, l1⟩ := x b o e n
  obtain ⟨o2, e2, l2⟩ := y b o1 e1 fun q => (k b q).elim n fun z => by rw [e] at z; cases z
  exact ⟨o2, e2, O.le_trans l1 l2⟩
structure Mv (a : Addr) (S S' : AS) (H H' : Hp) : Prop where
  le : Le (S.own a) H H'
  own : ∀ b ∈ S'.own a, b ∈ S.own a ∨ H b = none
  is : IsA H' a S'
  w : S'.w = S.w ∧ S'.d = S.d
theorem Mv.trans {a : Addr} {S S1 S2 : AS} {H H1 H2 : Hp} (x : Mv a S S1 H H1) (y : Mv a S1 S2 H1 H2) : Mv a S S2 H H2 := by
  refine ⟨x.le.trans' y.le x.own, fun b hb => ?_, y.is, y.w.1.trans x.w.1, y.w.2.trans x.w.2⟩
  rcases y.own b hb with h | h
  · exact x.own b h
  · by_cases hb' : b ∈ S.own a
    · exact .inl hb'
    · exact .inr (x.le.there hb' h)
theorem Mv.refl {a : Addr} {S : AS} {H : Hp} (x : IsA H a S) : Mv a S S H H := ⟨.refl, fun b hb => .inl hb, x, rfl, rfl⟩
section
variable {H : Hp} {a : Addr} {S : AS}
theorem Mv.setK (x : IsA H a S) (l : List V) : Mv a S { S with keys := l } H (upd H S.k (.lst l)) := ⟨.at (by simp [AS.own]), fun b hb => .inl hb, x.setK l, rfl, rfl⟩
theorem Mv.setV (x : IsA H a S) (l : List V) : Mv a S { S with vals := l } H (upd H S.v (.lst l)) := ⟨.at (by simp [AS.own]), fun b hb => .inl hb, x.setV l, rfl, rfl⟩
theorem Mv.setHd (x : IsA H a S) (l : List V) : Mv a S { S with heads := l } H (upd H S.hd (.lst l)) := ⟨.at (by simp [AS.own]), fun b hb => .inl hb, x.setHd l, rfl, rfl⟩
theorem Mv.setNx (x : IsA H a S) (l : List V) : Mv a S { S with nexts := l } H (upd H S.nx (.lst l)) := ⟨.at (by simp [AS.own]), fun b hb => .inl hb, x.setNx l, rfl, rfl⟩
theorem Mv.setF (x : IsA H a S) {S' : AS} {sh : Bool} (hk : S'.k = S.k ∧ S'.v = S.v ∧ S'.hd = S.hd ∧ S'.nx = S.nx ∧ S'.w = S.w) (hl : S'.keys = S.keys ∧ S'.vals = S.vals ∧ S'.heads = S.heads ∧ S'.nexts = S.nexts) (hd : S'.d = S.d) : Mv a S S' H (upd H a (.inst .arr S'.d (S'.fs sh))) :=
  ⟨.at (by simp [AS.own]), fun b hb => .inl (by simpa [AS.own, hk.1, hk.2.1, hk.2.2.1, hk.2.2.2.1] using hb), x.setF hk hl, hk.2.2.2.2, hd⟩
theorem Mv.other (x : IsA H a S) {H' : Hp} (l : Le [] H H') : Mv a S S H H' := ⟨l.any, fun b hb => .inl hb, x.le0 l, rfl, rfl⟩
theorem IsA.new (x : IsA H a S) {l : Addr} {o : O} (hl : H l = none) : IsA (upd H l o) a S := x.le0 (.new hl)
theorem IsA.notNew (x : IsA H a S) {l : Addr} (hl : H l = none) : l ∉ S.own a ∧ l ≠ S.w := by
  obtain ⟨sh, e⟩ := x.a
  simp only [AS.own, List.mem_cons, List.mem_nil_iff, or_false, not_or]
  refine ⟨⟨?_, ?_, ?_, ?_, ?_⟩, ?_⟩ <;> rintro rfl
  · rw [hl] at e; cases e
  · have := x.k; rw [hl] at this; cases this
  · have := x.v; rw [hl] at this; cases this
  · have := x.hd; rw [hl] at this; cases this
  · have := x.nx; rw [hl] at this; cases this
  · have := x.w; rw [hl] at this; cases this
structure Sn (S S' : AS) : Prop where
  pk : S'.packed = S.packed
  cnt : S'.count = S.count
  nxt : S'.next = S.next
theorem as_mv {ρ : Env'} {Q : PF} {H0 : Hp} {S0 S' : AS} {f : Nat} {v : V} (x : IsA H a S) (mv : ∀ sh, Mv a S0 S' H0 (upd H a (.inst .arr S'.d (S'.fs sh)))) (hs : ∀ sh, setFld .arr S.d (S.fs sh) f v = some (.inst .arr S'.d (S'.fs sh))) (q : ∀ H', Mv a S0 S' H0 H' → Q .nxt ρ H') : kAs2 f v ρ Q (.ref a) H :=
  x.a.elim fun sh e => as_of e (hs sh) (q _ (mv sh))
theorem sp_link {n : Nat} (hn : 2 ≤ n) {Q : V → Hp → Prop} (x : IsA H a S) {p c : Nat} {k hv : V} (hk : S.keys[p]? = some k) (sk : scalar k = true) (hz : 0 < S.size) (hc : hsh k % S.size = c) (hh : S.heads[c]? = some hv) (hp : p < S.nexts.length) (hb : S.nexts.length < 2 ^ 62) (hb' : S.heads.length < 2 ^ 62)
    (q : ∀ H', Mv a S { S with nexts := S.nexts.set p hv, heads := S.heads.set c (.int p) } H H' → Q .none H') : MC T n 7 [.ref a, .int p] Q H := by
  have hcl := (List.getElem?_eq_some_iff.mp hh).1
  have m1 := Mv.setNx x (S.nexts.set p hv)
  have m2 := Mv.setHd m1.is (S.heads.set c (.int p))
  exact call_of (ρ := [some (.ref a), some (.int p), none]) hn T_link rfl fun n hn => fld_of x.f1 <| idx_of ((idx_lst x.k (Nat.lt_trans hp hb)).trans hk) <| sp_hash hn sk <| fld_of x.f5 <| mod_of hc (Int.ofNat_lt.mpr hz) <|
    fld_of x.f3 <| idx_of ((idx_lst x.hd (Nat.lt_trans hcl hb')).trans hh) <| fld_of x.f4 <| ai_of x.nx hp hb <| fld_of m1.is.f3 <| ai_of m1.is.hd hcl hb' <| q _ (m1.trans m2)
noncomputable def prv (cs : List Cell) (z : Nat) (c : Nat) : Nat → Int
  | 0 => -1
  | m + 1 => match cs[m]? with
    | some (some (k, _)) => if hsh k % z = c then m else prv cs z c m
    | _ => prv cs z c m
theorem prv_lt {cs : List Cell} {z c m : Nat} : -1 ≤ prv cs z c m ∧ prv cs z c m < m := by
  induction m with
  | zero => simp [prv]
  | succ m ih =>
    unfold prv
    split
    · split
      · omega
      · exact ⟨ih.1, by have := ih.2; omega⟩
    · exact ⟨ih.1, by have := ih.2; omega⟩
theorem prv_at {cs : List Cell} {z c m p : Nat} (e : prv cs z c m = p) : p < m ∧ ∃ k s, cs[p]? = some (some (k, s)) ∧ hsh k % z = c ∧ ∀ q k s, p < q → q < m → cs[q]? = some (some (k, s)) → hsh k % z ≠ c := by
  induction m with
  | zero => simp [prv] at e
  | succ m ih =>
    unfold prv at e
    split at e
    · rename_i k s hk
      split at e
      · rename_i hc
        have : p = m := by omega
        subst this
        exact ⟨by omega, k, s, hk, hc, fun q k s h1 h2 => by omega⟩
      · rename_i hc
        obtain ⟨h1, k', s', h2, h3, h4⟩ := ih e
        refine ⟨by omega, k', s', h2, h3, fun q k1 s1 l1 l2 e1 => ?_⟩
        by_cases hq : q = m
        · subst hq; rw [hk] at e1; cases e1; exact hc
        · exact h4 q k1 s1 l1 (by omega) e1
    · rename_i hn
      obtain ⟨h1, k', s', h2, h3, h4⟩ := ih e
      refine ⟨by omega, k', s', h2, h3, fun q k1 s1 l1 l2 e1 => ?_⟩
      by_cases hq : q = m
      · subst hq; exact absurd e1 (hn k1 s1)
      · exact h4 q k1 s1 l1 (by omega) e1
theorem prv_none {cs : List Cell} {z c m : Nat} (e : prv cs z c m < 0) : ∀ q k s, q < m → cs[q]? = some (some (k, s)) → hsh k % z ≠ c := by
  induction m with
  | zero => intro q k s h; omega
  | succ m ih =>
    intro q k s hq hk
    unfold prv at e
    split at e
    · rename_i k' s' hk'
      split at e
      · omega
      · rename_i hc
        by_cases h : q = m
        · subst h; rw [hk] at hk'; cases hk'; exact hc
        · exact ih e q k s (by omega) hk
    · rename_i hn
      by_cases h : q = m
      · subst h; exact absurd hk (hn k s)
      · exact ih e q k s (by omega) hk
theorem prv_congr {cs cs' : List Cell} {z c m : Nat} (h : ∀ q, q < m → (cs[q]?.bind fun x => x.map (·.1)) = (cs'[q]?.bind fun x => x.map (·.1))) : prv cs z c m = prv cs' z c m := by
  induction m with
  | zero => rfl
  | succ m ih =>
    have ih := ih fun q hq => h q (by omega)
    have hm := h m (by omega)
    unfold prv
    rw [ih]
    rcases h1 : cs[m]? with _ | (_ | ⟨k, s⟩) <;> rcases h2 : cs'[m]? with _ | (_ | ⟨k', s'⟩) <;> simp_all
structure Hsd (S : AS) (cs : List Cell) : Prop where
  klen : S.keys.length = cs.length
  keys : ∀ (i : Nat) k s, cs[i]? = some (some (k, s)) → S.keys[i]? = some k
  hlen : S.heads.length = S.size
  nlen : S.nexts.length = cs.length
  heads : ∀ c : Nat, c < S.size → S.heads[c]? = some (.int (prv cs S.size c cs.length))
  nexts : ∀ (p : Nat) k s c, cs[p]? = some (some (k, s)) → hsh k % S.size = (c : Nat) → S.nexts[p]? = some (.int (prv cs S.size c p))
noncomputable def KeysOk (cs : List Cell) : Prop := ∀ (i : Nat) k s, cs[i]? = some (some (k, s)) → scalar k = true
theorem hsh_c {k : V} {z : Nat} (hz : 0 < z) : ∃ c : Nat, hsh k % z = c ∧ c < z := by
  refine ⟨(hsh k % z).toNat, ?_, ?_⟩
  · have := Int.emod_nonneg (hsh k) (show (z : Int) ≠ 0 by omega); omega
  · have := Int.emod_lt_of_pos (hsh k) (show (0 : Int) < z by omega)
    have := Int.emod_nonneg (hsh k) (show (z : Int) ≠ 0 by omega)
    omega
noncomputable def fnd (cs : List Cell) (k : V) : Int := match cs.findIdx? (fun c => decide (c.map (·.1) = some k)) with
  | some i => i
  | none => -1
noncomputable def KeysOne (cs : List Cell) : Prop := ∀ (i j : Nat) k s t, cs[i]? = some (some (k, s)) → cs[j]? = some (some (k, t)) → i = j
theorem fnd_at {cs : List Cell} {k s : V} {i : Nat} (one : KeysOne cs) (h : cs[i]? = some (some (k, s))) : fnd cs k = i := by
  unfold fnd
  have hi := (List.getElem?_eq_some_iff.mp h)
  cases e : cs.findIdx? (fun c => decide (c.map (·.1) = some k)) with
  | none =>
    rw [List.findIdx?_eq_none_iff] at e
    have := e _ (List.mem_of_getElem? h)
    simp at this
  | some j =>
    rw [List.findIdx?_eq_some_iff_getElem] at e
    obtain ⟨h1, h2, _⟩ := e
    rcases hc : cs[j] with _ | ⟨k', s'⟩
    · simp [hc] at h2
    · simp [hc] at h2
      subst h2
      have : cs[j]? = some (some (k', s')) := by rw [List.getElem?_eq_getElem h1, hc]
      rw [one j i k' s' s this h]
theorem fnd_none {cs : List Cell} {k : V} (h : ∀ (i : Nat) s, cs[i]? ≠ some (some (k, s))) : fnd cs k = -1 := by
  unfold fnd
  have : cs.findIdx? (fun c => decide (c.map (·.1) = some k)) = none := by
    rw [List.findIdx?_eq_none_iff]
    intro c hc
    rcases c with _ | ⟨k', s'⟩
    · simp
    · simp
      rintro rfl
      obtain ⟨i, hi⟩ := List.mem_iff_getElem?.mp hc
      exact h i s' hi
  rw [this]
theorem fnd_cases (cs : List Cell) (k : V) : (∃ (i : Nat) (s : V), cs[i]? = some (some (k, s))) ∨ ∀ (i : Nat) s, cs[i]? ≠ some (some (k, s)) := by
  by_cases h : ∃ (i : Nat) (s : V), cs[i]? = some (some (k, s))
  · exact .inl h
  · exact .inr fun i s e => h ⟨i, s, e⟩
theorem sp_find_h {n : Nat} (hn : 2 ≤ n) {Q : V → Hp → Prop} (x : IsA H a S) {cs : List Cell} (hp : S.packed = false) (hs : Hsd S cs) (ko : KeysOk cs) (one : KeysOne cs) (hz : 0 < S.size) (hb : cs.length < 2 ^ 60) (hb' : S.size < 2 ^ 60) {k : V} (sk : scalar k = true)
    (q : Q (.int (fnd cs k)) H) : MC T n 101 [.ref a, k] Q H := by
  refine call_of (ρ := [some (.ref a), some k, none]) hn T_m_find rfl fun n hn => fld_of x.f0 (if_F hp ?_)
  obtain ⟨c, hc, hcz⟩ := hsh_c (k := k) hz
  refine fld_of x.f3 <| sp_hash hn sk <| fld_of x.f5 <| mod_of hc (Int.ofNat_lt.mpr hz) <| idx_of ((idx_lst x.hd (show c < 2 ^ 62 by omega)).trans (hs.heads c hcz)) ?_
  refine while_rule (fun m ρ H' => H' = H ∧ m ≤ cs.length ∧ ρ = [some (.ref a), some k, some (.int (prv cs S.size c m))] ∧ ∀ (q : Nat) s, m ≤ q → cs[q]? ≠ some (some (k, s))) (k := cs.length) ⟨rfl, Nat.le_refl _, rfl, fun q s h e => absurd (List.getElem?_eq_some_iff.mp e).1 (Nat.not_lt.mpr h)⟩ ?_
  rintro m ρ H' K ⟨rfl, hm, rfl, hnone⟩ hK _
  refine if_c (fun h0 => ?_) fun h0 => ?_
  · obtain ⟨p, hp1⟩ := Int.eq_ofNat_of_zero_le h0
    obtain ⟨hpm, k', s', e1, e2, e3⟩ := prv_at hp1
    rw [hp1]
    have hp62 : p < 2 ^ 62 := by omega
    refine fld_of x.f1 <| idx_of ((idx_lst x.k hp62).trans (hs.keys p k' s' e1)) <| cmp_of (c_ne_kk (ko _ _ _ e1) sk) ?_
    by_cases hkk : k' = k
    · subst hkk
      rw [fnd_at one e1] at q
      exact if_nf rfl q
    · refine if_nt hkk <| fld_of x.f4 <| idx_of ((idx_lst x.nx hp62).trans (hs.nexts p k' s' c e1 e2)) <| hK p _ _ hpm ⟨rfl, by omega, rfl, fun q s hq e => ?_⟩
      by_cases hqm : m ≤ q
      · exact hnone q s hqm e
      · by_cases hqp : q = p
        · subst hqp; rw [e1] at e; cases e; exact hkk rfl
        · exact e3 q k s (by omega) (by omega) e hc
  · have hlt := prv_lt (cs := cs) (z := S.size) (c := c) (m := m)
    have h1 : prv cs S.size c m = -1 := by omega
    have hf : fnd cs k = -1 := fnd_none fun i s e => by
      by_cases hi : m ≤ i
      · exact hnone i s hi e
      · exact prv_none (Int.not_le.mp h0) i k s (by omega) e hc
    rw [hf, ← h1] at q; exact q
end
end Mine
namespace Mine
noncomputable def rowsOf (cs : List Cell) : List (V × V) := cs.filterMap id
structure Arr (H : Hp) (a : Addr) (S : AS) (cs : List Cell) (m : Nat) : Prop where
  is : IsA H a S
  vals : Vals H S.vals cs
  off : ∀ (i : Nat) k b, cs[i]? = some (some (k, .ref b)) → b ∉ S.own a
  ko : KeysOk cs
  one : KeysOne cs
  z : 0 < S.size
  cnt : S.count = (rowsOf cs).length
  pk : S.packed = true → (∀ (i : Nat) k s, cs[i]? = some (some (k, s)) → k = .int i) ∧ S.keys = [] ∧ cs.length ≤ S.size ∧ S.size ≤ max 16 (4 * m)
  hs : S.packed = false → Hsd S cs ∧ cs.length ≤ m ∧ S.size ≤ 2 * max 16 (4 * m)
  cm : (rowsOf cs).length ≤ m
  m100 : m ≤ 100
section
variable {H : Hp} {a : Addr} {S : AS} {cs : List Cell} {m : Nat}
theorem Arr.small (x : Arr H a S cs m) : S.size ≤ 800 ∧ cs.length ≤ 800 := by
  cases e : S.packed with
  | true =>
    obtain ⟨_, _, h1, h2⟩ := x.pk e
    have h := Nat.le_trans (Nat.le_trans h2 (cap_le x.m100)) (show 400 ≤ 800 by decide)
    exact ⟨h, Nat.le_trans h1 h⟩
  | false =>
    obtain ⟨_, h1, h2⟩ := x.hs e
    exact ⟨cap2 h2 x.m100, Nat.le_trans (Nat.le_trans h1 x.m100) (by decide)⟩
theorem Vals.le {vals : List V} (x : Vals H vals cs) {H' : Hp} {W : List Addr} (l : Le W H H') (h1 : ∀ r d fs, H r = some (.inst .absent d fs) → r ∉ W) (h2 : ∀ (i : Nat) k b, cs[i]? = some (some (k, .ref b)) → b ∉ W) : Vals H' vals cs := by
  refine ⟨x.len, fun i e => ?_, fun i k s e => ?_⟩
  · obtain ⟨r, d, fs, e1, e2⟩ := x.dead i e
    exact ⟨r, d, fs, e1, l.absent e2 (h1 _ _ _ e2)⟩
  · obtain ⟨e1, e2⟩ := x.live i k s e
    exact ⟨e1, l.isi e2 fun b hb => by subst hb; exact h2 i k b e⟩
theorem IsA.noAbs (x : IsA H a S) {r d : Addr} {fs : List V} (e : H r = some (.inst .absent d fs)) : r ∉ S.own a := by
  obtain ⟨sh, ea⟩ := x.a
  simp only [AS.own, List.mem_cons, List.mem_nil_iff, or_false, not_or]
  refine ⟨?_, ?_, ?_, ?_, ?_⟩ <;> rintro rfl
  · rw [ea] at e; cases e
  · rw [x.k] at e; cases e
  · rw [x.v] at e; cases e
  · rw [x.hd] at e; cases e
  · rw [x.nx] at e; cases e
theorem Vals.own {vals : List V} (x : Vals H vals cs) (i : IsA H a S) (off : ∀ (i : Nat) k b, cs[i]? = some (some (k, .ref b)) → b ∉ S.own a) {H' : Hp} (l : Le (S.own a) H H') : Vals H' vals cs := x.le l (fun _ _ _ e => i.noAbs e) off
theorem Arr.le (x : Arr H a S cs m) {H' : Hp} (l : Le [] H H') : Arr H' a S cs m :=
  ⟨x.is.le0 l, x.vals.le l (by simp) (by simp), x.off, x.ko, x.one, x.z, x.cnt, x.pk, x.hs, x.cm, x.m100⟩
theorem liv_nat {i : Nat} {c : Cell} (hc : cs[i]? = some c) : liv cs i = c.isSome := liv_at (Int.natCast_nonneg i) hc
theorem liv_iff {p : Int} : liv cs p = true ↔ ∃ (i : Nat) (k s : V), p = i ∧ cs[i]? = some (some (k, s)) := by
  constructor
  · intro h
    rcases Int.lt_or_le p 0 with h0 | h0
    · rw [liv_neg h0] at h; cases h
    · rcases Int.lt_or_le p cs.length with h1 | h1
      · obtain ⟨i, rfl⟩ := Int.eq_ofNat_of_zero_le h0
        have hc := List.getElem?_eq_getElem (Int.ofNat_lt.mp h1)
        rw [liv_nat hc] at h
        rcases e : cs[i]'(Int.ofNat_lt.mp h1) with _ | ⟨k, s⟩
        · rw [e] at h; cases h
        · exact ⟨i, k, s, rfl, hc.trans (congrArg some e)⟩
      · rw [liv_big h1] at h; cases h
  · rintro ⟨i, k, s, rfl, e⟩
    exact liv_nat e
theorem sp_find {n : Nat} (hn : 2 ≤ n) {Q : V → Hp → Prop} (x : Arr H a S cs m) {k : V} (sk : scalar k = true) (q : Q (.int (fnd cs k)) H) : MC T n 101 [.ref a, k] Q H := by
  have hsm := x.small
  cases hp : S.packed with
  | false => exact sp_find_h hn x.is hp (x.hs hp).1 x.ko x.one x.z (by omega) (by omega) sk q
  | true =>
    have hk := (x.pk hp).1
    refine call_of (ρ := [some (.ref a), some k, none]) hn T_m_find rfl fun n hn => fld_of x.is.f0 (if_T hp ?_)
    cases k with
    | int i =>
      refine sp_is_living hn x.is x.vals (by omega) ?_
      cases hl : liv cs i with
      | true =>
        obtain ⟨j, k, s, rfl, e⟩ := liv_iff.mp hl
        cases hk _ _ _ e
        rw [fnd_at x.one e] at q
        exact q
      | false =>
        rw [fnd_none fun j s e => by have h := liv_iff.mpr ⟨j, _, s, V.int.inj (hk _ _ _ e), e⟩; rw [hl] at h; cases h] at q
        exact q
    | str t => rw [fnd_none fun j s e => by cases hk _ _ _ e] at q; exact q
    | none => cases sk
    | bool => cases sk
    | ref => cases sk
noncomputable def hasK (cs : List Cell) (k : V) : Bool := decide (0 ≤ fnd cs k)
theorem sp_has {n : Nat} (hn : 3 ≤ n) {Q : V → Hp → Prop} (x : Arr H a S cs m) {k : V} (sk : scalar k = true) (q : Q (.bool (hasK cs k)) H) : MC T n 102 [.ref a, k] Q H :=
  call_of (ρ := [some (.ref a), some k]) hn T_m_has rfl fun n hn => meth_of x.is.inst (sp_find hn x sk q)
theorem sp_slot {n : Nat} (hn : 3 ≤ n) {Q : V → Hp → Prop} (x : Arr H a S cs m) {k s : V} {i : Nat} (e : cs[i]? = some (some (k, s))) (q : Q s H) : MC T n 103 [.ref a, k] Q H := by
  have hsm := x.small
  have hi := (List.getElem?_eq_some_iff.mp e).1
  refine call_of (ρ := [some (.ref a), some k, none]) hn T_m_slot rfl fun n hn => meth_of x.is.inst (sp_find hn x (x.ko _ _ _ e) ?_)
  rw [fnd_at x.one e]
  exact fld_of x.is.f2 <| idx_of ((idx_lst x.is.v (show i < 2 ^ 62 by omega)).trans (x.vals.live _ _ _ e).1) q
end
end Mine
namespace Mine
section
variable {H : Hp} {a : Addr} {S : AS} {cs : List Cell} {m : Nat}
theorem sp_key_at {n : Nat} (hn : 1 ≤ n) {Q : V → Hp → Prop} (x : Arr H a S cs m) {k s : V} {i : Nat} (e : cs[i]? = some (some (k, s))) (q : Q k H) : MC T n 107 [.ref a, .int i] Q H := by
  have hsm := x.small
  have hi := (List.getElem?_eq_some_iff.mp e).1
  refine call_of (ρ := [some (.ref a), some (.int i)]) hn T_m_key_at rfl fun n hn => fld_of x.is.f0 ?_
  cases hp : S.packed with
  | true => cases (x.pk hp).1 _ _ _ e; exact q
  | false => exact fld_of x.is.f1 <| idx_of ((idx_lst x.is.k (show i < 2 ^ 62 by omega)).trans ((x.hs hp).1.keys _ _ _ e)) q
noncomputable def Tups (H : Hp) (r : List V) (q : List (V × V)) : Prop := r.length = q.length ∧ ∀ (i : Nat) (k s : V), q[i]? = some (k, s) → ∃ t, r[i]? = some (.ref t) ∧ H t = some (.tup [k, s])
theorem Tups.nil : Tups H [] [] := ⟨rfl, fun _ _ _ e => nomatch e⟩
theorem Tups.le {H H' : Hp} (l : Le [] H H') {r : List V} {q : List (V × V)} (h : Tups H r q) : Tups H' r q := ⟨h.1, fun i k s e => by
  obtain ⟨t, e1, e2⟩ := h.2 i k s e
  exact ⟨t, e1, l.tup e2 List.not_mem_nil⟩⟩
theorem Tups.push {H : Hp} {t : Addr} {k s : V} (ht : H t = some (.tup [k, s])) {r : List V} {q : List (V × V)} (h : Tups H r q) : Tups H (r ++ [.ref t]) (q ++ [(k, s)]) := by
  refine ⟨by rw [List.length_append, List.length_append, h.1]; rfl, fun i k' s' e => ?_⟩
  rcases Nat.lt_or_ge i q.length with hi | hi
  · rw [List.getElem?_append_left hi] at e
    obtain ⟨t', e1, e2⟩ := h.2 i k' s' e
    exact ⟨t', by rw [List.getElem?_append_left (h.1 ▸ hi)]; exact e1, e2⟩
  · rw [List.getElem?_append_right hi] at e
    obtain ⟨h1, h2⟩ := List.getElem?_eq_some_iff.mp e
    have h0 : i - q.length = 0 := Nat.lt_one_iff.mp h1
    rw [h0] at e
    cases e
    exact ⟨t, by rw [List.getElem?_append_right (h.1 ▸ hi), h.1, h0]; rfl, ht⟩
theorem Tups.len {H : Hp} {r : List V} {q : List (V × V)} (h : Tups H r q) : r.length = q.length := h.1
theorem Tups.get {H : Hp} {r : List V} {q : List (V × V)} (h : Tups H r q) {i : Nat} {v : V} (e : r[i]? = some v) : ∃ t k s, v = .ref t ∧ q[i]? = some (k, s) ∧ H t = some (.tup [k, s]) := by
  have hi := (List.getElem?_eq_some_iff.mp e).1
  have hq := List.getElem?_eq_getElem (h.1 ▸ hi)
  obtain ⟨t, e1, e2⟩ := h.2 i _ _ hq
  exact ⟨t, _, _, Option.some.inj (e.symm.trans e1), hq, e2⟩
theorem rows_take {i : Nat} {c : Cell} (e : cs[i]? = some c) : rowsOf (cs.take (i + 1)) = rowsOf (cs.take i) ++ c.toList := by
  unfold rowsOf
  rw [List.take_add_one, e, List.filterMap_append]
  cases c <;> rfl
theorem rows_take_len {i : Nat} : (rowsOf (cs.take i)).length ≤ i := by
  refine Nat.le_trans (List.length_filterMap_le _ _) ?_
  rw [List.length_take]; omega
theorem range_get {n i : Nat} {v : V} (e : (rangeL 0 n)[i]? = some v) : v = .int i ∧ i < n := by
  unfold rangeL at e
  rw [List.getElem?_map] at e
  obtain ⟨j, hj, rfl⟩ := Option.map_eq_some_iff.mp e
  obtain ⟨h1, h2⟩ := List.getElem?_eq_some_iff.mp hj
  simp at h1 h2
  subst h2
  exact ⟨by simp, by omega⟩
theorem range_at {n i : Nat} (h : i < n) : (rangeL 0 n)[i]? = some (.int i) := by
  unfold rangeL
  rw [List.getElem?_map, Int.sub_zero, Int.toNat_natCast, List.getElem?_range h, Option.map_some, Int.zero_add]
theorem range_len {n : Nat} : (rangeL 0 n).length = n := by simp [rangeL]
theorem sp_slots_of {n : Nat} (hn : 2 ≤ n) {Q : V → Hp → Prop} (x : Arr H a S cs m) (q : ∀ l H' refs, Le [] H H' → H l = none → H' l = some (.lst refs) → Tups H' refs (rowsOf cs) → Q (.ref l) H') : MC T n 21 [.ref a] Q H := by
  have hsm := x.small
  refine call_of (ρ := [some (.ref a), none]) hn T_slots_of rfl fun n hn => fld_of x.is.f2 <| len_of (n := cs.length) (len_lst x.is.v x.vals.len) (by omega) <| rng_of (by omega) ?_
  refine comp_rule (fun i acc H' => Le [] H H' ∧ Tups H' acc (rowsOf (cs.take i))) (by rw [range_len]; omega) ⟨.refl, .nil⟩ (fun i acc H' h => by rw [h.2.len]; exact rows_take_len) (fun _ _ _ _ => trivial) ?_ ?_
  · rintro i v acc H' K hv ⟨hle, ht⟩ hK
    obtain ⟨rfl, hi⟩ := range_get hv
    have x' := x.le hle
    have hc := List.getElem?_eq_getElem hi
    refine sp_is_living hn x'.is x'.vals (by omega) ?_
    rw [liv_nat hc]
    rcases h : cs[i] with _ | ⟨k, s⟩
    · exact hK _ _ ⟨hle, by rw [rows_take (hc.trans (congrArg some h)), Option.toList_none, List.append_nil]; exact ht⟩
    · have hc := hc.trans (congrArg some h)
      refine meth_of x'.is.inst <| sp_key_at hn x' hc <| fld_of x'.is.f2 <| idx_of ((idx_lst x'.is.v (show i < 2 ^ 62 by omega)).trans (x'.vals.live _ _ _ hc).1) fun l hl => hK _ _ ⟨hle.trans (.new hl), ?_⟩
      rw [rows_take hc]
      exact (ht.le (.new hl)).push upd_self
  · rintro acc H' ⟨hle, ht⟩ l hl
    rw [range_len, List.take_length] at ht
    exact q l _ acc (hle.trans (.new hl)) (hle.there List.not_mem_nil hl) upd_self (ht.le (.new hl))
theorem sp_keys_of {n : Nat} (hn : 2 ≤ n) {Q : V → Hp → Prop} (x : Arr H a S cs m) (q : ∀ l H', Le [] H H' → H l = none → H' l = some (.lst ((rowsOf cs).map (·.1))) → Q (.ref l) H') : MC T n 22 [.ref a] Q H := by
  have hsm := x.small
  refine call_of (ρ := [some (.ref a), none]) hn T_keys_of rfl fun n hn => fld_of x.is.f2 <| len_of (n := cs.length) (len_lst x.is.v x.vals.len) (by omega) <| rng_of (by omega) ?_
  refine comp_rule (fun i acc H' => Le [] H H' ∧ acc = (rowsOf (cs.take i)).map (·.1)) (by rw [range_len]; omega) ⟨.refl, rfl⟩ (fun i acc H' h => by rw [h.2, List.length_map]; exact rows_take_len) (fun _ _ _ _ => trivial) ?_ ?_
  · rintro i v acc H' K hv ⟨hle, rfl⟩ hK
    obtain ⟨rfl, hi⟩ := range_get hv
    have x' := x.le hle
    have hc := List.getElem?_eq_getElem hi
    refine sp_is_living hn x'.is x'.vals (by omega) ?_
    rw [liv_nat hc]
    rcases h : cs[i] with _ | ⟨k, s⟩
    · exact hK _ _ ⟨hle, by rw [rows_take (hc.trans (congrArg some h)), Option.toList_none, List.append_nil]⟩
    · have hc := hc.trans (congrArg some h)
      exact meth_of x'.is.inst <| sp_key_at hn x' hc <| hK _ _ ⟨hle, by rw [rows_take hc, List.map_append]; rfl⟩
  · rintro acc H' ⟨hle, rfl⟩ l hl
    rw [range_len, List.take_length]
    exact q l _ (hle.trans (.new hl)) (hle.there List.not_mem_nil hl) upd_self
end
end Mine
namespace Mine
section
variable {H : Hp} {a : Addr} {S : AS} {cs : List Cell} {m : Nat}
theorem nd4 {k v h n : Addr} (h1 : k ≠ v) (h2 : k ≠ h) (h3 : k ≠ n) (h4 : v ≠ h) (h5 : v ≠ n) (h6 : h ≠ n) : [k, v, h, n].Nodup := by
  simp only [List.nodup_cons, List.mem_cons, List.mem_nil_iff, or_false, not_or, List.nodup_nil, not_false_eq_true, and_true]
  exact ⟨⟨h1, h2, h3⟩, ⟨h4, h5⟩, h6⟩
theorem IsA.far (x : IsA H a S) {l : Addr} (hl : H l = none) : l ≠ a ∧ l ≠ S.k ∧ l ≠ S.v ∧ l ≠ S.hd ∧ l ≠ S.nx := by
  have hn := (x.notNew hl).1
  simp only [AS.own, List.mem_cons, List.mem_nil_iff, or_false, not_or] at hn
  exact hn
theorem Mv.newL (x : IsA H a S) {l : Addr} {vs : List V} (hl : H l = none) {S' : AS} {sh : Bool} (hd : S'.d = S.d) (hw : S'.w = S.w) (hk : (S'.k = S.k ∧ S'.keys = S.keys) ∨ (S'.k = l ∧ S'.keys = vs)) (hv : (S'.v = S.v ∧ S'.vals = S.vals) ∨ (S'.v = l ∧ S'.vals = vs))
    (hh : (S'.hd = S.hd ∧ S'.heads = S.heads) ∨ (S'.hd = l ∧ S'.heads = vs)) (hn : (S'.nx = S.nx ∧ S'.nexts = S.nexts) ∨ (S'.nx = l ∧ S'.nexts = vs)) (ne : [S'.k, S'.v, S'.hd, S'.nx].Nodup) : Mv a S S' H (upd (upd H l (.lst vs)) a (.inst .arr S'.d (S'.fs sh))) := by
  have ha := (x.far hl).1
  have lst : ∀ {b b0 : Addr} {L L0 : List V}, a ≠ b0 → H b0 = some (.lst L0) → (b = b0 ∧ L = L0) ∨ (b = l ∧ L = vs) → (upd (upd H l (.lst vs)) a (.inst .arr S'.d (S'.fs sh))) b = some (.lst L) := by
    rintro b b0 L L0 hb e (⟨rfl, rfl⟩ | ⟨rfl, rfl⟩)
    · exact (upd_ne (Ne.symm hb)).trans (upd_ne' e hl)
    · exact (upd_ne ha).trans upd_self
  have mem : ∀ {b b0 : Addr} {p q : Prop}, b0 ∈ S.own a → (b = b0 ∧ p) ∨ (b = l ∧ q) → b ∈ S.own a ∨ H b = none := fun h0 h => h.elim (fun h => .inl (h.1 ▸ h0)) fun h => .inr (h.1 ▸ hl)
  refine ⟨(Le.new hl).trans (Le.at (.head _)), fun b hb => ?_, ⟨⟨sh, upd_self⟩, lst x.ak x.k hk, lst x.av x.v hv, lst x.ahd x.hd hh, lst x.anx x.nx hn, ?_, ne⟩, hw, hd⟩
  rotate_left
  · rw [hw]; exact (upd_ne x.aw.symm).trans (upd_ne' x.w hl)
  simp only [AS.own, List.mem_cons, List.mem_nil_iff, or_false] at hb
  rcases hb with rfl | rfl | rfl | rfl | rfl
  · exact .inl (.head _)
  · exact mem (.tail _ (.head _)) hk
  · exact mem (.tail _ (.tail _ (.head _))) hv
  · exact mem (.tail _ (.tail _ (.tail _ (.head _)))) hh
  · exact mem (.tail _ (.tail _ (.tail _ (.tail _ (.head _))))) hn
theorem Mv.newK (x : IsA H a S) {l : Addr} {vs : List V} (hl : H l = none) {sh : Bool} : Mv a S { S with k := l, keys := vs } H (upd (upd H l (.lst vs)) a (.inst .arr S.d (({ S with k := l, keys := vs } : AS).fs sh))) :=
  have ⟨_, _, h3, h4, h5⟩ := x.far hl
  have ⟨_, _, _, n4, n5, n6⟩ := x.nes
  Mv.newL x hl rfl rfl (.inr ⟨rfl, rfl⟩) (.inl ⟨rfl, rfl⟩) (.inl ⟨rfl, rfl⟩) (.inl ⟨rfl, rfl⟩) (nd4 h3 h4 h5 n4 n5 n6)
theorem Mv.newV (x : IsA H a S) {l : Addr} {vs : List V} (hl : H l = none) {sh : Bool} : Mv a S { S with v := l, vals := vs } H (upd (upd H l (.lst vs)) a (.inst .arr S.d (({ S with v := l, vals := vs } : AS).fs sh))) :=
  have ⟨_, h2, _, h4, h5⟩ := x.far hl
  have ⟨_, n2, n3, _, _, n6⟩ := x.nes
  Mv.newL x hl rfl rfl (.inl ⟨rfl, rfl⟩) (.inr ⟨rfl, rfl⟩) (.inl ⟨rfl, rfl⟩) (.inl ⟨rfl, rfl⟩) (nd4 h2.symm n2 n3 h4 h5 n6)
theorem Mv.newHd (x : IsA H a S) {l : Addr} {vs : List V} (hl : H l = none) {sh : Bool} : Mv a S { S with hd := l, heads := vs } H (upd (upd H l (.lst vs)) a (.inst .arr S.d (({ S with hd := l, heads := vs } : AS).fs sh))) :=
  have ⟨_, h2, h3, _, h5⟩ := x.far hl
  have ⟨n1, _, n3, _, n5, _⟩ := x.nes
  Mv.newL x hl rfl rfl (.inl ⟨rfl, rfl⟩) (.inl ⟨rfl, rfl⟩) (.inr ⟨rfl, rfl⟩) (.inl ⟨rfl, rfl⟩) (nd4 n1 h2.symm n3 h3.symm n5 h5)
theorem Mv.newNx (x : IsA H a S) {l : Addr} {vs : List V} (hl : H l = none) {sh : Bool} : Mv a S { S with nx := l, nexts := vs } H (upd (upd H l (.lst vs)) a (.inst .arr S.d (({ S with nx := l, nexts := vs } : AS).fs sh))) :=
  have ⟨_, h2, h3, h4, _⟩ := x.far hl
  have ⟨n1, n2, _, n4, _, _⟩ := x.nes
  Mv.newL x hl rfl rfl (.inl ⟨rfl, rfl⟩) (.inl ⟨rfl, rfl⟩) (.inl ⟨rfl, rfl⟩) (.inr ⟨rfl, rfl⟩) (nd4 n1 n2 h2.symm n4 h3.symm h4.symm)
theorem prv_ge {z c q p : Nat} {k s : V} (e : cs[p]? = some (some (k, s))) (hc : hsh k % z = c) (h : p < q) : (p : Int) ≤ prv cs z c q := by
  induction q with
  | zero => omega
  | succ q ih =>
    unfold prv
    by_cases hq : p = q
    · subst hq; rw [e]; simp [hc]
    · have ih := ih (by omega)
      split
      · split
        · omega
        · exact ih
      · exact ih
theorem prv_live {z c q : Nat} {k s : V} (e : cs[q]? = some (some (k, s))) : prv cs z c (q + 1) = if hsh k % z = c then (q : Int) else prv cs z c q := by
  conv => lhs; unfold prv
  rw [e]
theorem prv_skip {z c q : Nat} (e : ∀ k s, cs[q]? ≠ some (some (k, s))) : prv cs z c (q + 1) = prv cs z c q := by
  conv => lhs; unfold prv
  split
  · rename_i h; exact absurd h (e _ _)
  · rfl
theorem prv_dead {z c q p : Nat} {k s : V} (e : cs[p]? = some (some (k, s))) : prv (cs.set p none) z c q = if prv cs z c q = p then prv cs z c p else prv cs z c q := by
  induction q with
  | zero => simp [prv]
  | succ q ih =>
    have hlt := prv_lt (cs := cs) (z := z) (c := c) (m := q)
    by_cases hq : q = p
    · subst hq
      have h1 : (cs.set q none)[q]? = some none := by
        have := (List.getElem?_eq_some_iff.mp e).1
        simp [List.getElem?_set, this]
      have h2 : prv (cs.set q none) z c q = prv cs z c q := prv_congr fun i hi => by rw [List.getElem?_set_ne (by omega)]
      rw [prv_skip (by rw [h1]; simp), h2, prv_live e]
      by_cases hc : hsh k % z = c
      · simp [hc]
      · simp only [hc, if_false]
        split <;> rfl
    · have h1 : (cs.set p none)[q]? = cs[q]? := List.getElem?_set_ne (by omega)
      rcases hx : cs[q]? with _ | _ | ⟨k', s'⟩
      · rw [prv_skip (by rw [h1, hx]; simp), prv_skip (by rw [hx]; simp), ih]
      · rw [prv_skip (by rw [h1, hx]; simp), prv_skip (by rw [hx]; simp), ih]
      · rw [prv_live (by rw [h1, hx]), prv_live hx, ih]
        by_cases hc : hsh k' % z = c
        · simp only [hc, if_true]
          rw [if_neg (by omega)]
        · simp only [hc, if_false]
theorem hsd_dead {S' : AS} {p c : Nat} {k s : V} (hs : Hsd S cs) (e : cs[p]? = some (some (k, s))) (hc : hsh k % S.size = c)
    (h : (prv cs S.size c cs.length = p ∧ S'.heads = S.heads.set c (.int (prv cs S.size c p)) ∧ S'.nexts = S.nexts) ∨
      (∃ (q : Nat) (k' s' : V), cs[q]? = some (some (k', s')) ∧ hsh k' % S.size = c ∧ prv cs S.size c q = p ∧ S'.heads = S.heads ∧ S'.nexts = S.nexts.set q (.int (prv cs S.size c p))))
    (hk : S'.keys = S.keys) (hz : S'.size = S.size) (hz0 : 0 < S.size) : Hsd S' (cs.set p none) := by
  have hset : ∀ (i : Nat) k' s', (cs.set p none)[i]? = some (some (k', s')) → i ≠ p ∧ cs[i]? = some (some (k', s')) := by
    intro i k' s' h
    rw [List.getElem?_set] at h
    split at h
    · split at h <;> cases h
    · rename_i hn; exact ⟨fun q => hn q.symm, h⟩
  have hcp : ∀ c' q : Nat, prv cs S.size c' q = p → c' = c := fun c' q h => by
    obtain ⟨_, k1, s1, e1, e2, _⟩ := prv_at h
    rw [e] at e1; cases e1
    rw [hc] at e2; omega
  rcases h with ⟨h1, h2, h3⟩ | ⟨q, k', s', e', hc', h1, h2, h3⟩
  · refine ⟨by rw [hk, List.length_set]; exact hs.klen, fun i k' s' h => by rw [hk]; exact hs.keys i k' s' (hset i k' s' h).2, by rw [h2, List.length_set, hz]; exact hs.hlen, by rw [h3, List.length_set]; exact hs.nlen, fun c' hlt => ?_, fun i k' s' c' h hc' => ?_⟩
    · rw [hz] at hlt ⊢
      rw [List.length_set, prv_dead e, h2]
      by_cases hcc : c' = c
      · subst hcc
        rw [if_pos h1, List.getElem?_set_self (by rw [hs.hlen]; exact hlt)]
      · rw [if_neg (fun h => hcc (hcp _ _ h)), List.getElem?_set_ne (fun h => hcc h.symm)]
        exact hs.heads c' hlt
    · obtain ⟨hip, hi⟩ := hset i k' s' h
      rw [hz] at hc' ⊢
      rw [h3, prv_dead e, hs.nexts i k' s' c' hi hc', if_neg]
      intro h
      have := hcp _ _ h
      subst this
      obtain ⟨_, _, _, _, _, h4⟩ := prv_at h1
      have := (List.getElem?_eq_some_iff.mp hi).1
      obtain ⟨h5, _⟩ := prv_at h
      exact h4 i k' s' h5 this hi hc'
  · have hqlen := (List.getElem?_eq_some_iff.mp e').1
    obtain ⟨hpq, _⟩ := prv_at h1
    refine ⟨by rw [hk, List.length_set]; exact hs.klen, fun i k' s' h => by rw [hk]; exact hs.keys i k' s' (hset i k' s' h).2, by rw [h2, hz]; exact hs.hlen, by rw [h3, List.length_set, List.length_set]; exact hs.nlen, fun c' hlt => ?_, fun i k1 s1 c' h hc1 => ?_⟩
    · rw [hz] at hlt ⊢
      rw [List.length_set, prv_dead e, h2, if_neg]
      · exact hs.heads c' hlt
      · intro h
        have := hcp _ _ h
        subst this
        obtain ⟨_, _, _, _, _, h4⟩ := prv_at h
        exact h4 q k' s' hpq hqlen e' hc'
    · obtain ⟨hip, hi⟩ := hset i k1 s1 h
      rw [hz] at hc1 ⊢
      rw [h3, prv_dead e]
      by_cases hiq : i = q
      · subst hiq
        rw [e'] at hi; cases hi
        have : c' = c := by rw [hc'] at hc1; omega
        subst this
        rw [if_pos h1, List.getElem?_set_self (by rw [hs.nlen]; exact hqlen)]
      · rw [List.getElem?_set_ne (fun h => hiq h.symm), hs.nexts i k1 s1 c' hi hc1, if_neg]
        intro h
        have := hcp _ _ h
        subst this
        obtain ⟨hpi, _, _, _, _, h4⟩ := prv_at h
        obtain ⟨_, _, _, _, _, h5⟩ := prv_at h1
        rcases Nat.lt_or_gt_of_ne hiq with hl | hl
        · exact h5 i k1 s1 hpi hl hi hc1
        · exact h4 q k' s' hpq hl e' hc'
theorem sp_unlink {n : Nat} (hn : 2 ≤ n) {Q : V → Hp → Prop} (x : IsA H a S) (hs : Hsd S cs) {p : Nat} {k s : V} (e : cs[p]? = some (some (k, s))) (sk : scalar k = true) (hz : 0 < S.size) (hb : cs.length ≤ 800) (hb' : S.size ≤ 800)
    (q : ∀ S' H', Mv a S S' H H' → (∃ hd nx, S' = { S with heads := hd, nexts := nx }) → Hsd S' (cs.set p none) → Q .none H') : MC T n 8 [.ref a, .int p] Q H := by
  have hp := (List.getElem?_eq_some_iff.mp e).1
  obtain ⟨c, hc, hcz⟩ := hsh_c (k := k) hz
  have small : ∀ {i : Nat}, i < 801 → i < 2 ^ 62 := fun h => Nat.lt_trans h (by decide)
  refine call_of (ρ := [some (.ref a), some (.int p), none, none, none]) hn T_unlink rfl fun n hn => fld_of x.f1 <| idx_of ((idx_lst x.k (small (by omega))).trans (hs.keys _ _ _ e)) <| sp_hash hn sk <| fld_of x.f5 <| mod_of hc (Int.ofNat_lt.mpr hz) <|
    fld_of x.f3 <| idx_of ((idx_lst x.hd (small (by omega))).trans (hs.heads c hcz)) ?_
  refine while_rule (fun m ρ H' => H' = H ∧ p < m ∧ m ≤ cs.length ∧ ∃ ahead : Int, ρ = [some (.ref a), some (.int p), some (.int c), some (.int ahead), some (.int (prv cs S.size c m))] ∧
      ((ahead = -1 ∧ m = cs.length) ∨ ∃ (m' : Nat) (k' s' : V), ahead = m' ∧ m' = m ∧ cs[m]? = some (some (k', s')) ∧ hsh k' % S.size = c)) (k := cs.length) ⟨rfl, hp, Nat.le_refl _, -1, rfl, .inl ⟨rfl, rfl⟩⟩ ?_
  rintro m ρ H' K ⟨rfl, hpm, hm, ahead, rfl, hah⟩ hK _
  obtain ⟨r, hr⟩ := Int.eq_ofNat_of_zero_le (Int.le_trans (Int.natCast_nonneg p) (prv_ge e hc hpm))
  obtain ⟨hrm, k1, s1, e1, e2, e3⟩ := prv_at hr
  have nx : ∀ {i : Nat} {k s : V}, cs[i]? = some (some (k, s)) → hsh k % S.size = c → idxV H' (.ref S.nx) (.int i) = some (.int (prv cs S.size c i)) := fun e hc => (idx_lst x.nx (small (by have := (List.getElem?_eq_some_iff.mp e).1; omega))).trans (hs.nexts _ _ _ c e hc)
  rw [hr]
  refine if_nc (fun h => ?_) fun h => ?_
  · exact fld_of x.f4 <| idx_of (nx e1 e2) <| hK r _ _ hrm ⟨rfl, by have := prv_ge e hc hpm; omega, by omega, r, rfl, .inr ⟨r, k1, s1, rfl, rfl, e1, e2⟩⟩
  · have h := Int.ofNat.inj h
    subst h
    have nl := hs.nlen
    rcases hah with ⟨rfl, rfl⟩ | ⟨_, k', s', rfl, rfl, e', hc'⟩
    · have hcl : c < S.heads.length := hs.hlen ▸ hcz
      exact fld_of x.f4 <| idx_of (nx e hc) <| fld_of x.f3 <| ai_of x.hd hcl (by have := hs.hlen; omega) <| q _ _ (Mv.setHd x _) ⟨_, _, rfl⟩ (hsd_dead hs e hc (.inl ⟨hr, rfl, rfl⟩) rfl rfl hz)
    · have hml := (List.getElem?_eq_some_iff.mp e').1
      exact fld_of x.f4 <| idx_of (nx e hc) <| fld_of x.f4 <| ai_of x.nx (by omega) (by omega) <| q _ _ (Mv.setNx x _) ⟨_, _, rfl⟩ (hsd_dead hs e hc (.inr ⟨_, k', s', e', hc', hr, rfl, rfl⟩) rfl rfl hz)
end
end Mine
namespace Mine
section
variable {H : Hp} {a : Addr} {S : AS} {cs : List Cell} {m : Nat}
structure KeysAt (S : AS) (cs : List Cell) : Prop where
  len : S.keys.length = cs.length
  at_ : ∀ (i : Nat) k s, cs[i]? = some (some (k, s)) → S.keys[i]? = some k
theorem Hsd.keysAt (h : Hsd S cs) : KeysAt S cs := ⟨h.klen, h.keys⟩
inductive ChI (H : Hp) (a : Addr) (S : AS) (cs : List Cell) (i : Nat) (H' : Hp) : Env' → Prop
  | mk (hd nx : Addr) (heads nexts : List V) (o : Option V) (hi : i ≤ cs.length) (mv : Mv a S { S with hd := hd, nx := nx, heads := heads, nexts := nexts } H H') (h1 : heads.length = S.size) (h2 : nexts.length = cs.length)
    (h3 : ∀ c : Nat, c < S.size → heads[c]? = some (.int (prv cs S.size c i))) (h4 : ∀ (p : Nat) k s c, p < i → cs[p]? = some (some (k, s)) → hsh k % S.size = (c : Nat) → nexts[p]? = some (.int (prv cs S.size c p))) : ChI H a S cs i H' [some (.ref a), o]
theorem sp_chains {n : Nat} (hn : 3 ≤ n) {Q : V → Hp → Prop} (x : IsA H a S) (vl : Vals H S.vals cs) (off : ∀ (i : Nat) k b, cs[i]? = some (some (k, .ref b)) → b ∉ S.own a) (ka : KeysAt S cs) (ko : KeysOk cs) (hz : 0 < S.size) (hb : cs.length ≤ 800) (hb' : S.size ≤ 1600)
    (q : ∀ S' H', Mv a S S' H H' → Sn S S' → S'.size = S.size → S'.vals = S.vals → Hsd S' cs → Q .none H') : MC T n 9 [.ref a] Q H := by
  have hvl := vl.len
  refine call_of (ρ := [some (.ref a), none]) hn T_chains rfl fun n hn l0 hl0 => ?_
  have x0 : IsA (upd H l0 (.lst [.int (-1)])) a S := x.new hl0
  refine fld_of x0.f5 <| mul_of upd_self (by omega) fun l1 hl1 => as_mv (x0.new hl1) (fun sh => Mv.newHd x0 hl1) (fun _ => rfl) fun H1 mv1 l2 hl2 => ?_
  have x2 := mv1.is.new (o := .lst [.int (-1)]) hl2
  refine fld_of x2.f2 <| len_of (len_lst x2.v hvl) (by omega) <| mul_of upd_self (by omega) fun l3 hl3 => as_mv (x2.new hl3) (fun sh => Mv.newNx x2 hl3) (fun _ => rfl) fun H2 mv2 => ?_
  have mvA := ((Mv.other x (.new hl0)).trans mv1).trans ((Mv.other mv1.is (.new hl2)).trans mv2)
  refine fld_of mv2.is.f2 <| len_of (len_lst mv2.is.v hvl) (by omega) <| rng_of (by omega) ?_
  refine for_rule (fun i ρ H' => ChI H a S cs i H' ρ) ⟨_, _, _, _, none, Nat.zero_le _, mvA, List.length_replicate, List.length_replicate, fun c hc => ?_, fun p k s c h => absurd h (Nat.not_lt_zero _)⟩ (fun _ _ _ _ => trivial) ?_ ?_
  · rw [List.getElem?_replicate_of_lt hc]; rfl
  · rintro i v ρ H' K hv ⟨hd, nx, heads, nexts, o, hi, mv, h1, h2, h3, h4⟩ hK _
    obtain ⟨rfl, hlt⟩ := range_get hv
    have hc := List.getElem?_eq_getElem hlt
    refine sp_is_living (up hn) mv.is (vl.own x off mv.le) (by omega) ?_
    rw [liv_nat hc]
    rcases h : cs[i] with _ | ⟨k, s⟩
    · have hc := hc.trans (congrArg some h)
      refine hK _ _ ⟨_, _, _, _, _, hlt, mv, h1, h2, fun c hc' => ?_, fun p k s c hp e hcc => ?_⟩
      · rw [prv_skip fun k s e => by rw [hc] at e; cases e]; exact h3 c hc'
      · by_cases hpi : p = i
        · subst hpi; rw [hc] at e; cases e
        · exact h4 p k s c (by omega) e hcc
    · have hc := hc.trans (congrArg some h)
      obtain ⟨c0, hc0, hcz⟩ := hsh_c (k := k) hz
      refine sp_link hn mv.is (ka.at_ _ _ _ hc) (ko _ _ _ hc) hz hc0 (h3 c0 hcz) (h2 ▸ hlt) (show nexts.length < _ by omega) (show heads.length < _ by omega) fun H'' mv' => ?_
      refine hK _ _ ⟨_, _, _, _, _, hlt, mv.trans mv', List.length_set.trans h1, List.length_set.trans h2, fun c hc' => ?_, fun p k1 s1 c hp e hcc => ?_⟩
      · rw [prv_live hc]
        by_cases hcc : c = c0
        · subst hcc
          rw [if_pos hc0]
          exact List.getElem?_set_self (h1 ▸ hc')
        · rw [if_neg (by omega)]
          exact (List.getElem?_set_ne (Ne.symm hcc)).trans (h3 c hc')
      · by_cases hpi : p = i
        · subst hpi
          rw [hc] at e; cases e
          have : c = c0 := by omega
          subst this
          exact List.getElem?_set_self (h2 ▸ hlt)
        · exact (List.getElem?_set_ne (Ne.symm hpi)).trans (h4 p k1 s1 c (by omega) e hcc)
  · rintro ρ H' ⟨hd, nx, heads, nexts, o, hi, mv, h1, h2, h3, h4⟩
    rw [range_len] at h3 h4
    exact q _ _ mv ⟨rfl, rfl, rfl⟩ rfl rfl ⟨ka.len, ka.at_, h1, h2, h3, fun p k s c e hc => h4 p k s c (List.getElem?_eq_some_iff.mp e).1 e hc⟩
theorem sp_next_place {n : Nat} (hn : 2 ≤ n) {Q : V → Hp → Prop} (x : IsA H a S) (vl : Vals H S.vals cs) (hb : cs.length ≤ 800) {p : Nat} (q : ∀ r : Int, Q (.int r) H) : MC T n 10 [.ref a, .int p] Q H := by
  refine call_of (ρ := [some (.ref a), some (.int p)]) hn T_next_place rfl fun n hn => ?_
  refine while_rule (fun k ρ H' => H' = H ∧ ∃ p : Nat, k = cs.length - p ∧ ρ = [some (.ref a), some (.int p)]) (k := cs.length - p) ⟨rfl, p, rfl, rfl⟩ ?_
  rintro k ρ H' K ⟨rfl, p, rfl, rfl⟩ hK _
  have ln := len_lst x.v vl.len
  refine fld_of x.f2 <| len_of ln (by omega) <| if_c (fun hp => sp_is_living hn x vl (by omega) ?_) fun _ => fld_of x.f2 <| len_of ln (by omega) <| q _
  cases liv cs p with
  | false => exact hK (cs.length - (p + 1)) _ _ (Nat.sub_lt_sub_left (Int.ofNat_lt.mp hp) (Nat.lt_succ_self p)) ⟨rfl, p + 1, rfl, rfl⟩
  | true => exact fld_of x.f2 <| len_of ln (by omega) <| q _
noncomputable def PosOf (cs : List Cell) (P : List Nat) (R : List (V × V)) : Prop := P.length = R.length ∧ ∀ {j i : Nat}, P[j]? = some i → ∃ r, R[j]? = some r ∧ cs[i]? = some (some r)
theorem PosOf.push {i : Nat} {r : V × V} (e : cs[i]? = some (some r)) {P : List Nat} {R : List (V × V)} (h : PosOf cs P R) : PosOf cs (P ++ [i]) (R ++ [r]) := by
  refine ⟨by rw [List.length_append, List.length_append, h.1]; rfl, fun {j i'} e' => ?_⟩
  rcases Nat.lt_or_ge j P.length with hj | hj
  · rw [List.getElem?_append_left hj] at e'
    obtain ⟨r', h1, h2⟩ := h.2 e'
    exact ⟨r', by rw [List.getElem?_append_left (h.1 ▸ hj)]; exact h1, h2⟩
  · rw [List.getElem?_append_right hj] at e'
    have h0 : j - P.length = 0 := Nat.lt_one_iff.mp (List.getElem?_eq_some_iff.mp e').1
    rw [h0] at e'
    cases e'
    exact ⟨r, by rw [List.getElem?_append_right (h.1 ▸ hj), ← h.1, h0]; rfl, e⟩
theorem sp_many_ahead {n : Nat} (hn : 1 ≤ n) {Q : V → Hp → Prop} {l : Addr} {P : List Nat} {p : Int} (hl : H l = some (.lst (P.map fun (i : Nat) => V.int i))) (hb : P.length ≤ 800) (q : ∀ (r : Int) H', Le [] H H' → Q (.int r) H') : MC T n 11 [.ref l, .int p] Q H := by
  refine call_of (ρ := [some (.ref l), some (.int p), none]) hn T_many_ahead rfl fun n hn => comp_of hl ?_
  refine comp_rule (fun i acc H' => H' = H ∧ acc.length ≤ i) (by rw [List.length_map]; omega) ⟨rfl, Nat.le_refl _⟩ (fun i acc H h => h.2) (fun i acc H' h => h.1 ▸ hl) ?_ ?_
  · rintro i v acc H' K hv ⟨rfl, h⟩ hK
    rw [List.getElem?_map] at hv
    obtain ⟨j, hj, rfl⟩ := Option.map_eq_some_iff.mp hv
    exact if_c (fun _ => hK _ _ ⟨rfl, by rw [List.length_append]; exact Nat.succ_le_succ h⟩) fun _ => hK _ _ ⟨rfl, Nat.le_succ_of_le h⟩
  · rintro acc H' ⟨rfl, h⟩ l' hl'
    rw [List.length_map] at h
    exact len_of (len_lst upd_self rfl) (by omega) <| q _ _ (.new hl')
end
end Mine
namespace Mine
section
variable {H : Hp} {a : Addr} {S : AS} {cs : List Cell} {m : Nat}
theorem row_mem {i : Nat} {r : V × V} (e : (rowsOf cs)[i]? = some r) : ∃ j : Nat, cs[j]? = some (some r) := by
  obtain ⟨c, hc, e⟩ := List.mem_filterMap.mp (List.mem_of_getElem? e)
  cases e
  exact List.mem_iff_getElem?.mp hc
theorem row_some {R : List (V × V)} {i : Nat} {r : V × V} (e : (R.map some)[i]? = some (some r)) : R[i]? = some r := by
  rw [List.getElem?_map] at e
  obtain ⟨r, hr, e⟩ := Option.map_eq_some_iff.mp e
  cases e; exact hr
theorem row_dead {R : List (V × V)} {i : Nat} (e : (R.map some)[i]? = some none) : False := by
  rw [List.getElem?_map] at e
  obtain ⟨r, _, e⟩ := Option.map_eq_some_iff.mp e
  cases e
theorem live_there {H : Hp} {b : Addr} {t : Bool} (h : isiV H .absent (.ref b) = some t) : H b ≠ none := fun e => by
  have : isiV H .absent (.ref b) = none := congrArg (isiO .absent) e
  rw [this] at h; cases h
theorem Vals.rows (vl : Vals H S.vals cs) {H' : Hp} (vl' : Vals H' S.vals cs) : Vals H' ((rowsOf cs).map (·.2)) ((rowsOf cs).map some) := by
  refine ⟨by rw [List.length_map, List.length_map], fun i e => (row_dead e).elim, fun i k s e => ?_⟩
  have e := row_some e
  obtain ⟨j, hj⟩ := row_mem e
  exact ⟨by rw [List.getElem?_map, e]; rfl, (vl'.live _ _ _ hj).2⟩
theorem sp_rehash {n : Nat} (hn : 4 ≤ n) {Q : V → Hp → Prop} (x : IsA H a S) (vl : Vals H S.vals cs) (off : ∀ (i : Nat) k b, cs[i]? = some (some (k, .ref b)) → b ∉ S.own a) (ka : KeysAt S cs) (ko : KeysOk cs) (hz : 0 < S.size) (hb : cs.length ≤ 800) (hb' : S.size ≤ 1600)
    (q : ∀ S' H', Mv a S S' H H' → Sn S S' → S'.size = S.size → Hsd S' ((rowsOf cs).map some) → Vals H' S'.vals ((rowsOf cs).map some) → Q .none H') : MC T n 12 [.ref a] Q H := by
  refine call_of (ρ := [some (.ref a), none, none, none, none, none]) hn T_rehash rfl fun n hn => fld_of x.f2 <| len_of (len_lst x.v vl.len) (by omega) <| rng_of (by omega) ?_
  refine comp_rule (fun i acc H' => Le [] H H' ∧ ∃ P : List Nat, acc = P.map (fun (i : Nat) => V.int i) ∧ PosOf cs P (rowsOf (cs.take i))) (by rw [range_len]; omega) ⟨.refl, [], rfl, rfl, fun e => nomatch e⟩ ?_ (fun _ _ _ _ => trivial) ?_ ?_
  · rintro i acc H' ⟨_, P, rfl, h⟩
    rw [List.length_map, h.1]; exact rows_take_len
  · rintro i v acc H' K hv ⟨hle, P, rfl, hP⟩ hK
    obtain ⟨rfl, hi⟩ := range_get hv
    have hc := List.getElem?_eq_getElem hi
    refine sp_is_living (up hn) (x.le0 hle) (vl.le hle (fun _ _ _ _ => List.not_mem_nil) fun _ _ _ _ => List.not_mem_nil) (by omega) ?_
    rw [liv_nat hc]
    rcases h : cs[i] with _ | r
    · exact hK _ _ ⟨hle, P, rfl, by rw [rows_take (hc.trans (congrArg some h)), Option.toList_none, List.append_nil]; exact hP⟩
    · have hc := hc.trans (congrArg some h)
      exact hK _ _ ⟨hle, P ++ [i], by rw [List.map_append]; rfl, by rw [rows_take hc]; exact hP.push hc⟩
  · rintro acc H1 ⟨hle, P, rfl, hP⟩ l hl
    rw [range_len, List.take_length] at hP
    have hPl := hP.1
    have hRl : (rowsOf cs).length ≤ cs.length := List.length_filterMap_le _ _
    have hln := ((x.le0 hle).notNew hl).1
    have hle1 : Le [] H (upd H1 l (.lst (P.map fun (i : Nat) => V.int i))) := hle.trans (.new hl)
    have hl2 : (upd H1 l (.lst (P.map fun (i : Nat) => V.int i))) l = some (.lst (P.map fun (i : Nat) => V.int i)) := upd_self
    generalize upd H1 l (.lst (P.map fun (i : Nat) => V.int i)) = H2 at hle1 hl2
    refine fld_of (x.le0 hle1).f8 <| sp_many_ahead (up hn) hl2 (by omega) fun r H3 hle3 => as_mv ((x.le0 hle1).le0 hle3) (fun sh => Mv.setF (S' := { S with at_ := r }) ((x.le0 hle1).le0 hle3) ⟨rfl, rfl, rfl, rfl, rfl⟩ ⟨rfl, rfl, rfl, rfl⟩ rfl) (fun _ => rfl) fun H4 mv4 => ?_
    have hl4 := mv4.le.lst (hle3.lst hl2 List.not_mem_nil) hln
    have mvA := (Mv.other x (hle1.trans hle3)).trans mv4
    refine fld_of mv4.is.f10 ⟨[], Nat.zero_le _, .inr ⟨mv4.is.w, rfl⟩, fun l5 hl5 => for_of upd_self ⟨upd_self, ?_⟩⟩
    have x5 := mv4.is.new (o := .lst []) hl5
    have mv5 := mvA.trans (Mv.other mv4.is (.new (o := .lst []) hl5))
    have hl5' := upd_ne' (o := .lst []) hl4 hl5
    generalize upd H4 l5 (.lst []) = H5 at x5 mv5 hl5'
    clear mv4 mvA hl4 hle3 hl2 hle1 hl hle
    refine comp_of hl5' <| comp_rule (fun i acc H' => H' = H5 ∧ acc = ((rowsOf cs).take i).map (·.1)) (by rw [List.length_map]; omega) ⟨rfl, rfl⟩ (fun i acc H' h => by rw [h.2, List.length_map, List.length_take]; exact Nat.min_le_left _ _) (fun i acc H' h => h.1 ▸ hl5') ?_ ?_
    · rintro i v acc H' K hv ⟨rfl, rfl⟩ hK
      rw [List.getElem?_map] at hv
      obtain ⟨j, hj, rfl⟩ := Option.map_eq_some_iff.mp hv
      obtain ⟨⟨k, s⟩, hr1, hr2⟩ := hP.2 hj
      have hjl := (List.getElem?_eq_some_iff.mp hr2).1
      exact fld_of x5.f1 <| idx_of ((idx_lst x5.k (show j < 2 ^ 62 by omega)).trans (ka.at_ _ _ _ hr2)) <| hK _ _ ⟨rfl, by rw [List.take_add_one, hr1, List.map_append]; rfl⟩
    · rintro acc H' ⟨rfl, rfl⟩ l6 hl6
      rw [List.length_map, hPl, List.take_length]
      refine as_mv (x5.new hl6) (fun sh => Mv.newK x5 hl6) (fun _ => rfl) fun H7 mv6 => ?_
      have x7 := mv6.is
      have hl7 := mv6.le.lst hl5' fun h => hln h
      have mv7 := mv5.trans mv6
      refine comp_of hl7 <| comp_rule (fun i acc H' => H' = H7 ∧ acc = ((rowsOf cs).take i).map (·.2)) (by rw [List.length_map]; omega) ⟨rfl, rfl⟩ (fun i acc H' h => by rw [h.2, List.length_map, List.length_take]; exact Nat.min_le_left _ _) (fun i acc H' h => h.1 ▸ hl7) ?_ ?_
      · rintro i v acc H' K hv ⟨rfl, rfl⟩ hK
        rw [List.getElem?_map] at hv
        obtain ⟨j, hj, rfl⟩ := Option.map_eq_some_iff.mp hv
        obtain ⟨⟨k, s⟩, hr1, hr2⟩ := hP.2 hj
        have hjl := (List.getElem?_eq_some_iff.mp hr2).1
        exact fld_of x7.f2 <| idx_of ((idx_lst x7.v (show j < 2 ^ 62 by omega)).trans (vl.live _ _ _ hr2).1) <| hK _ _ ⟨rfl, by rw [List.take_add_one, hr1, List.map_append]; rfl⟩
      · rintro acc H' ⟨rfl, rfl⟩ l9 hl9
        rw [List.length_map, hPl, List.take_length]
        refine as_mv (x7.new hl9) (fun sh => Mv.newV x7 hl9) (fun _ => rfl) fun H9 mv9 => ?_
        have mvZ := mv7.trans mv9
        have vlZ := vl.own x off mvZ.le
        have off' : ∀ {b : Addr} (i : Nat) k, cs[i]? = some (some (k, .ref b)) → b ∉ AS.own a _ := fun i k e hb => (mvZ.own _ hb).elim (off i k _ e) fun h => live_there (vl.live _ _ _ e).2 h
        have hoff : ∀ (i : Nat) k b, ((rowsOf cs).map some)[i]? = some (some (k, .ref b)) → b ∉ AS.own a _ := fun i k b e => by
          obtain ⟨j, hj⟩ := row_mem (row_some e)
          exact off' j k hj
        refine sp_chains (cs := (rowsOf cs).map some) hn mvZ.is (vl.rows vlZ) hoff ⟨by rw [List.length_map, List.length_map], fun i k s e => ?_⟩ (fun i k s e => ?_) hz (by rw [List.length_map]; omega) hb' ?_
        · rw [List.getElem?_map, row_some e]; rfl
        · obtain ⟨j, hj⟩ := row_mem (row_some e)
          exact ko _ _ _ hj
        · intro S' H'' mvC sn sz sv hs'
          exact q _ _ (mvZ.trans mvC) ⟨sn.1, sn.2, sn.3⟩ sz hs' (sv ▸ vl.rows (vlZ.own mvZ.is (fun i k b e => off' i k e) mvC.le))
end
end Mine
namespace Mine
section
variable {H : Hp} {a : Addr} {S : AS} {cs : List Cell} {m : Nat}
theorem off_mv {S' : AS} {H' : Hp} (mv : Mv a S S' H H') (vl : Vals H S.vals cs) (off : ∀ (i : Nat) k b, cs[i]? = some (some (k, .ref b)) → b ∉ S.own a) : ∀ (i : Nat) k b, cs[i]? = some (some (k, .ref b)) → b ∉ S'.own a :=
  fun j k b hj hb => (mv.own b hb).elim (off j k b hj) fun h => live_there (vl.live _ _ _ hj).2 h
theorem off_rows (off : ∀ (i : Nat) k b, cs[i]? = some (some (k, .ref b)) → b ∉ S.own a) : ∀ (i : Nat) k b, ((rowsOf cs).map some)[i]? = some (some (k, .ref b)) → b ∉ S.own a := fun i k b e => by
  obtain ⟨j, hj⟩ := row_mem (row_some e)
  exact off j k b hj
theorem rows_of_rows {R : List (V × V)} : rowsOf (R.map some) = R := by
  unfold rowsOf
  rw [List.filterMap_map]
  exact List.filterMap_some
theorem rows_len : (rowsOf cs).length ≤ cs.length := List.length_filterMap_le _ _
theorem ko_rows (ko : KeysOk cs) : KeysOk ((rowsOf cs).map some) := fun i k s e => by
  obtain ⟨j, hj⟩ := row_mem (row_some e)
  exact ko _ _ _ hj
theorem rows_nodup : ∀ {cs : List Cell}, KeysOne cs → ((rowsOf cs).map (·.1)).Nodup
  | [], _ => List.nodup_nil
  | c :: cs, h => by
    have ih := rows_nodup (cs := cs) fun i j k s t h1 h2 => Nat.succ.inj (h (i + 1) (j + 1) k s t h1 h2)
    rcases c with _ | ⟨k, s⟩
    · exact ih
    · refine List.nodup_cons.mpr ⟨fun hm => ?_, ih⟩
      obtain ⟨⟨k', s'⟩, hm', rfl⟩ := List.mem_map.mp hm
      obtain ⟨i, hi⟩ := List.mem_iff_getElem?.mp hm'
      obtain ⟨j, hj⟩ := row_mem hi
      exact absurd (h 0 (j + 1) k' s s' rfl hj) (Nat.succ_ne_zero _).symm
theorem one_rows (one : KeysOne cs) : KeysOne ((rowsOf cs).map some) := by
  intro i j k s t h1 h2
  have f : ∀ {i : Nat} {s : V}, ((rowsOf cs).map some)[i]? = some (some (k, s)) → ((rowsOf cs).map (·.1))[i]? = some k := fun e => by rw [List.getElem?_map, row_some e]; rfl
  exact (List.getElem?_inj (List.getElem?_eq_some_iff.mp (f h1)).1 (rows_nodup one)).mp ((f h1).trans (f h2).symm)
theorem sp_to_hash {n : Nat} (hn : 5 ≤ n) {Q : V → Hp → Prop} (x : IsA H a S) (vl : Vals H S.vals cs) (off : ∀ (i : Nat) k b, cs[i]? = some (some (k, .ref b)) → b ∉ S.own a) (pk : ∀ (i : Nat) k s, cs[i]? = some (some (k, s)) → k = .int i) (hz : 0 < S.size) (hb : cs.length ≤ 800) (hb' : S.size ≤ 1600)
    (q : ∀ S' H', Mv a S S' H H' → Sn { S with packed := false } S' → S'.size = S.size → Hsd S' ((rowsOf cs).map some) → Vals H' S'.vals ((rowsOf cs).map some) → Q .none H') : MC T n 13 [.ref a] Q H := by
  refine call_of (ρ := [some (.ref a)]) hn T_to_hash rfl fun n hn => fld_of x.f2 <| len_of (len_lst x.v vl.len) (by omega) <| rng_of (by omega) fun l hl => as_mv (x.new hl) (fun sh => Mv.newK x hl) (fun _ => rfl) fun H1 mv1 =>
    as_mv mv1.is (fun sh => Mv.setF (S' := { S with k := l, keys := rangeL 0 cs.length, packed := false }) mv1.is ⟨rfl, rfl, rfl, rfl, rfl⟩ ⟨rfl, rfl, rfl, rfl⟩ rfl) (fun _ => rfl) fun H2 mv2 => ?_
  have mv := mv1.trans mv2
  refine sp_rehash hn mv.is (vl.own x off mv.le) (off_mv mv vl off) ⟨range_len, fun i k s e => ?_⟩ (fun i k s e => ?_) hz hb hb' ?_
  · rw [pk _ _ _ e]; exact range_at (List.getElem?_eq_some_iff.mp e).1
  · rw [pk _ _ _ e]; rfl
  · exact fun S' H' mv' sn sz hs hv => q _ _ (mv.trans mv') ⟨sn.1, sn.2, sn.3⟩ sz hs hv
theorem sp_takes_packed {n : Nat} (hn : 1 ≤ n) {Q : V → Hp → Prop} (x : IsA H a S) {k : V} (sk : scalar k = true) (hb : S.vals.length ≤ 800) (hb' : S.size ≤ 1600)
    (q : ∀ b S' H', Mv a S S' H H' → (S' = S ∨ (S' = { S with size := 2 * S.size } ∧ ((S.size / 2 : Nat) : Int) < S.count)) → (b = true → ∃ i : Nat, k = .int i ∧ S.vals.length ≤ i ∧ i < S'.size) → Q (.bool b) H') : MC T n 14 [.ref a, k] Q H := by
  refine call_of (ρ := [some (.ref a), some k]) hn T_takes_packed rfl fun n hn => ?_
  have hno : Q (.bool false) H := q false S H (.refl x) (.inl rfl) fun h => nomatch h
  cases k with
  | str t => exact hno
  | int i =>
    refine fld_of x.f2 <| len_of (len_lst x.v rfl) (by omega) <| if_c (fun _ => hno) fun h1 => ?_
    obtain ⟨i, rfl⟩ := Int.eq_ofNat_of_zero_le (show 0 ≤ i by omega)
    have h1 : S.vals.length ≤ i := Int.ofNat_le.mp (Int.not_lt.mp h1)
    have stay : Q (.bool (decide ((i : Int) < S.size))) H := q _ S H (.refl x) (.inl rfl) fun h => ⟨i, rfl, h1, Int.ofNat_lt.mp (of_decide_eq_true h)⟩
    refine fld_of x.f5 <| if_c (fun _ => ⟨by decide, by decide, fld_of x.f5 <| if_c (fun _ => fld_of x.f5 ⟨by decide, by decide, fld_of x.f6 <| if_c (fun h4 => ?_) fun _ => fld_of x.f5 stay⟩) fun _ => fld_of x.f5 stay⟩) fun _ => fld_of x.f5 stay
    have e2 : (S.size : Int) * 2 = ((2 * S.size : Nat) : Int) := dbl
    refine fld_of x.f5 ⟨n64 hb', by decide, as_mv x (fun sh => Mv.setF (S' := { S with size := 2 * S.size }) x ⟨rfl, rfl, rfl, rfl, rfl⟩ ⟨rfl, rfl, rfl, rfl⟩ rfl) (fun sh => by rw [e2]; rfl) fun H' mv => fld_of mv.is.f5 ?_⟩
    exact q _ _ _ mv (.inr ⟨rfl, h4⟩) fun h => ⟨i, rfl, h1, Int.ofNat_lt.mp (of_decide_eq_true h)⟩
  | none => cases sk
  | bool => cases sk
  | ref => cases sk
theorem sp_new_absent {n : Nat} (hn : 1 ≤ n) {Q : V → Hp → Prop} {H : Hp} {b d : Addr} (hb : H b = none) (hd : H d = none) (hne : b ≠ d) (q : ∀ H', Le [] H H' → H' b = some (.inst .absent d [.bool false]) → Q (.ref b) H') :
    MC T n 1014 [.ref b] (kDone b Q) (upd (upd H d (.hid b)) b (.inst .absent d [])) :=
  call_of (ρ := [some (.ref b), some (.bool false)]) hn T_Absent_init rfl fun n hn => as_of upd_self rfl <| q _ (fun c o e _ => ⟨o, by
    have h1 : c ≠ b := by rintro rfl; rw [hb] at e; cases e
    have h2 : c ≠ d := by rintro rfl; rw [hd] at e; cases e
    rw [upd_ne h1, upd_ne h1, upd_ne h2]; exact e, O.le_refl _⟩) upd_self
end
end Mine
namespace Mine
section
variable {H : Hp} {a : Addr} {S : AS} {cs : List Cell} {m : Nat}
theorem snoc_get {α : Type} {l : List α} {x y : α} {i : Nat} (e : (l ++ [x])[i]? = some y) : (i < l.length ∧ l[i]? = some y) ∨ (i = l.length ∧ x = y) := by
  rcases Nat.lt_or_ge i l.length with h | h
  · rw [List.getElem?_append_left h] at e; exact .inl ⟨h, e⟩
  · rw [List.getElem?_append_right h] at e
    have h0 : i - l.length = 0 := Nat.lt_one_iff.mp (List.getElem?_eq_some_iff.mp e).1
    rw [h0] at e
    exact .inr ⟨Nat.le_antisymm (Nat.sub_eq_zero_iff_le.mp h0) h, Option.some.inj e⟩
theorem snoc_at {α : Type} {l : List α} {x : α} {i : Nat} (h : l.length = i) : (l ++ [x])[i]? = some x := by subst h; exact List.getElem?_concat_length
theorem snoc_lt {α : Type} {l : List α} {x y : α} {i : Nat} (e : l[i]? = some y) : (l ++ [x])[i]? = some y := (List.getElem?_append_left (List.getElem?_eq_some_iff.mp e).1).trans e
theorem rep_get {cs : List Cell} {j i : Nat} {k s : V} (e : (cs ++ List.replicate j none)[i]? = some (some (k, s))) : cs[i]? = some (some (k, s)) := by
  rcases Nat.lt_or_ge i cs.length with h | h
  · rwa [List.getElem?_append_left h] at e
  · rw [List.getElem?_append_right h] at e
    cases List.eq_of_mem_replicate (List.mem_of_getElem? e)
theorem Vals.push {vals : List V} (x : Vals H vals cs) {v : V} {c : Cell} (hd : c = none → ∃ r d fs, v = .ref r ∧ H r = some (.inst .absent d fs)) (hl : ∀ k s, c = some (k, s) → v = s ∧ isiV H .absent s = some false) : Vals H (vals ++ [v]) (cs ++ [c]) := by
  refine ⟨by rw [List.length_append, List.length_append, x.len]; rfl, fun i h => ?_, fun i k s h => ?_⟩
  · rcases snoc_get h with ⟨_, e⟩ | ⟨rfl, e⟩
    · obtain ⟨r, d, fs, h1, h2⟩ := x.dead i e
      exact ⟨r, d, fs, snoc_lt h1, h2⟩
    · obtain ⟨r, d, fs, rfl, h2⟩ := hd e
      exact ⟨r, d, fs, snoc_at x.len, h2⟩
  · rcases snoc_get h with ⟨_, e⟩ | ⟨rfl, e⟩
    · exact ⟨snoc_lt (x.live i k s e).1, (x.live i k s e).2⟩
    · obtain ⟨rfl, h2⟩ := hl k s e
      exact ⟨snoc_at x.len, h2⟩
theorem Vals.push_dead {vals : List V} (x : Vals H vals cs) {r d : Addr} {fs : List V} (e : H r = some (.inst .absent d fs)) : Vals H (vals ++ [.ref r]) (cs ++ [none]) := x.push (fun _ => ⟨r, d, fs, rfl, e⟩) fun _ _ h => nomatch h
theorem Vals.push_live {vals : List V} (x : Vals H vals cs) {k s : V} (e : isiV H .absent s = some false) : Vals H (vals ++ [s]) (cs ++ [some (k, s)]) := x.push (fun h => nomatch h) fun _ _ h => by cases h; exact ⟨rfl, e⟩
theorem off_snoc {c : Cell} (off : ∀ (i : Nat) k b, cs[i]? = some (some (k, .ref b)) → b ∉ S.own a) (h : ∀ k b, c = some (k, .ref b) → b ∉ S.own a) : ∀ (i : Nat) k b, (cs ++ [c])[i]? = some (some (k, .ref b)) → b ∉ S.own a := fun i k b e => (snoc_get e).elim (fun e => off i k b e.2) fun e => h k b e.2
theorem sp_add_packed {n : Nat} (hn : 2 ≤ n) {Q : V → Hp → Prop} (x : IsA H a S) (vl : Vals H S.vals cs) (off : ∀ (i : Nat) k b, cs[i]? = some (some (k, .ref b)) → b ∉ S.own a) {i : Nat} {s : V} (hs : isiV H .absent s = some false) (hso : ∀ b, s = .ref b → b ∉ S.own a) (hi : cs.length ≤ i) (hb : i ≤ 800)
    (q : ∀ vals H', Mv a S { S with vals := vals } H H' → Vals H' vals (cs ++ List.replicate (i - cs.length) none ++ [some (.int i, s)]) → Q .none H') : MC T n 15 [.ref a, .int i, s] Q H := by
  refine call_of (ρ := [some (.ref a), some (.int i), some s]) hn T_add_packed rfl fun n hn => ?_
  refine while_rule (fun k ρ H' => ρ = [some (.ref a), some (.int i), some s] ∧ ∃ j vals, k = i - (cs.length + j) ∧ cs.length + j ≤ i ∧ Mv a S { S with vals := vals } H H' ∧ Vals H' vals (cs ++ List.replicate j none)) (k := i - cs.length) ⟨rfl, 0, S.vals, rfl, hi, .refl x, by rw [List.replicate_zero, List.append_nil]; exact vl⟩ ?_
  rintro k ρ H' K ⟨rfl, j, vals, rfl, hj, mv, vl'⟩ hK _
  have x' := mv.is
  have hvl' : vals.length = cs.length + j := by rw [vl'.len, List.length_append, List.length_replicate]
  have offj : ∀ (i : Nat) k b, (cs ++ List.replicate j none)[i]? = some (some (k, .ref b)) → b ∉ S.own a := fun i' k b e => off i' k b (rep_get e)
  refine fld_of x'.f2 <| len_of (len_lst x'.v hvl') (Nat.lt_of_le_of_lt (Nat.le_trans hj hb) (by decide)) <| if_c (fun hlt => ?_) fun hge => ?_
  · refine fld_of x'.f2 <| app1_of x'.v fun b d hb' hd hne => sp_new_absent hn hb' hd hne fun H2 hle hb2 => ?_
    have x2 := x'.le0 hle
    have m2 := Mv.setV x2 (vals ++ [.ref b])
    have hlt := Int.ofNat_lt.mp hlt
    refine app2_of x2.v (n24 (Nat.le_trans (hvl' ▸ hj) hb)) <| hK (i - (cs.length + (j + 1))) _ _ (Nat.sub_lt_sub_left hlt (Nat.lt_succ_self _)) ⟨rfl, j + 1, _, rfl, hlt, mv.trans ((Mv.other x' hle).trans m2), ?_⟩
    rw [List.replicate_succ', ← List.append_assoc]
    exact ((vl'.le hle (fun _ _ _ _ => List.not_mem_nil) fun _ _ _ _ => List.not_mem_nil).push_dead hb2).own x2 (off_snoc offj fun _ _ h => nomatch h) m2.le
  · have hij : i - cs.length = j := by rw [← Nat.le_antisymm hj (Nat.not_lt.mp fun h => hge (Int.ofNat_lt.mpr h)), Nat.add_sub_cancel_left]
    have m2 := Mv.setV x' (vals ++ [s])
    refine fld_of x'.f2 <| app1_of x'.v <| app2_of x'.v (n24 (Nat.le_trans (hvl' ▸ hj) hb)) <| q _ _ (mv.trans m2) ?_
    rw [hij]
    exact (vl'.push_live (mv.le.isi hs hso)).own x' (off_snoc offj fun _ _ h => by cases h; exact hso _ rfl) m2.le
theorem Hsd.vals (h : Hsd S cs) (vs : List V) : Hsd { S with vals := vs } cs := ⟨h.klen, h.keys, h.hlen, h.nlen, h.heads, h.nexts⟩
inductive AdI (H : Hp) (a : Addr) (S : AS) (cs : List Cell) (k s : V) (H' : Hp) : Env' → Prop
  | mk (S' : AS) (cs' : List Cell) (o : Option V) (mv : Mv a S S' H H') (hS : Sn S S')
    (hsz : S'.size = S.size ∨ (S'.size = 2 * S.size ∧ S.size ≤ cs.length)) (hcs : cs' = cs ∨ cs' = (rowsOf cs).map some) (hsd : Hsd S' cs') (vl : Vals H' S'.vals cs') : AdI H a S cs k s H' [some (.ref a), some k, some s, o]
theorem Hsd.push {k s : V} {c : Nat} (h : Hsd S cs) (hc : hsh k % S.size = c) (hcz : c < S.size) : Hsd { S with keys := S.keys ++ [k], nexts := (S.nexts ++ [V.int (-1)]).set cs.length (.int (prv cs S.size c cs.length)), heads := S.heads.set c (.int cs.length) } (cs ++ [some (k, s)]) := by
  have hp : ∀ {c q}, q ≤ cs.length → prv (cs ++ [some (k, s)]) S.size c q = prv cs S.size c q := fun hq => prv_congr fun i hi => by rw [List.getElem?_append_left (Nat.lt_of_lt_of_le hi hq)]
  have hlast : (cs ++ [some (k, s)])[cs.length]? = some (some (k, s)) := snoc_at rfl
  refine ⟨by rw [List.length_append, List.length_append, h.klen]; rfl, fun i k1 s1 e => ?_, List.length_set.trans h.hlen, by rw [List.length_set, List.length_append, List.length_append, h.nlen]; rfl, fun c' hc' => ?_, fun p k1 s1 c' e hcc => ?_⟩
  · rcases snoc_get e with ⟨_, e'⟩ | ⟨rfl, e'⟩
    · exact snoc_lt (h.keys i k1 s1 e')
    · cases e'; exact snoc_at h.klen
  · rw [List.length_append, List.length_singleton, prv_live hlast, hp (Nat.le_refl _)]
    by_cases hcc : c' = c
    · subst hcc
      rw [if_pos hc]; exact List.getElem?_set_self (h.hlen ▸ hcz)
    · rw [if_neg fun q => hcc (Int.ofNat.inj (q.symm.trans hc))]
      exact (List.getElem?_set_ne (Ne.symm hcc)).trans (h.heads c' hc')
  · rcases snoc_get e with ⟨hi, e'⟩ | ⟨rfl, e'⟩
    · rw [hp (Nat.le_of_lt hi)]
      exact (List.getElem?_set_ne (Ne.symm (Nat.ne_of_lt hi))).trans (snoc_lt (h.nexts p k1 s1 c' e' hcc))
    · cases e'
      cases Int.ofNat.inj (hcc.symm.trans hc)
      rw [hp (Nat.le_refl _)]
      exact List.getElem?_set_self (by rw [List.length_append, h.nlen]; exact Nat.lt_succ_self _)
theorem sp_add_hashed {n : Nat} (hn : 5 ≤ n) {Q : V → Hp → Prop} (x : IsA H a S) (vl : Vals H S.vals cs) (off : ∀ (i : Nat) k b, cs[i]? = some (some (k, .ref b)) → b ∉ S.own a) (hsd : Hsd S cs) (ko : KeysOk cs) (hz : 0 < S.size) (hcnt : S.count = (rowsOf cs).length) {k s : V} (sk : scalar k = true) (hs : isiV H .absent s = some false) (hso : ∀ b, s = .ref b → b ∉ S.own a)
    (hb : cs.length ≤ 400) (hb' : S.size ≤ 800)
    (q : ∀ S' cs' H', Mv a S S' H H' → Sn S S' → (S'.size = S.size ∨ (S'.size = 2 * S.size ∧ S.size ≤ cs.length)) → (cs' = cs ∨ cs' = (rowsOf cs).map some) →
      Hsd S' (cs' ++ [some (k, s)]) → Vals H' S'.vals (cs' ++ [some (k, s)]) → Q .none H') : MC T n 16 [.ref a, k, s] Q H := by
  refine call_of (ρ := [some (.ref a), some k, some s, none]) hn T_add_hashed rfl fun n hn => fld_of x.f2 <| len_of (len_lst x.v vl.len) (by omega) <| seq_mid (fun ρ H' => AdI H a S cs k s H' ρ) (fun K hK => ?_) ?_
  · refine fld_of x.f5 <| if_c (fun h1 => fld_of x.f6 <| fld_of x.f6 ⟨by decide, by decide, if_c (fun _ => ?_) fun _ => ?_⟩) fun _ => hK _ _ ⟨_, _, _, .refl x, ⟨rfl, rfl, rfl⟩, .inl rfl, .inl rfl, hsd, vl⟩
    · refine sp_rehash hn x vl off hsd.keysAt ko hz (by omega) (by omega) fun S' H' mv sn sz hs' vl' => hK _ _ ⟨_, _, _, mv, sn, .inl sz, .inr rfl, hs', vl'⟩
    · have e2 : (S.size : Int) * 2 = ((2 * S.size : Nat) : Int) := dbl
      refine fld_of x.f5 ⟨n64 hb', by decide, as_mv x (fun sh => Mv.setF (S' := { S with size := 2 * S.size }) x ⟨rfl, rfl, rfl, rfl, rfl⟩ ⟨rfl, rfl, rfl, rfl⟩ rfl) (fun sh => by rw [e2]; rfl) fun H1 mv => ?_⟩
      refine sp_chains (up hn) mv.is (vl.own x off mv.le) (off_mv mv vl off) ⟨hsd.klen, hsd.keys⟩ ko (Nat.mul_pos (by decide) hz) (by omega) (show 2 * S.size ≤ _ by omega) fun S' H' mv' sn sz sv hs' =>
        hK _ _ ⟨_, _, _, mv.trans mv', ⟨sn.1, sn.2, sn.3⟩, .inr ⟨sz, Int.ofNat_le.mp h1⟩, .inl rfl, hs', sv ▸ vl.own x off (mv.trans mv').le⟩
  · rintro ρ H' ⟨S', cs', o, mv, hS, hsz, hcs, hsd', vl'⟩
    have x' := mv.is
    have hcl : cs'.length ≤ cs.length := by
      rcases hcs with rfl | rfl
      · exact Nat.le_refl _
      · rw [List.length_map]; exact rows_len
    have hzz : 0 < S'.size ∧ S'.size ≤ 1600 := dbl_of hsz hb' hz
    have hklen := hsd'.klen
    have hnlen := hsd'.nlen
    have hvl' := vl'.len
    have mv1 := Mv.setK x' (S'.keys ++ [k])
    have mv2 := Mv.setV mv1.is (S'.vals ++ [s])
    have mv3 := Mv.setNx mv2.is (S'.nexts ++ [.int (-1)])
    have x3 := mv3.is
    obtain ⟨c, hc, hcz⟩ := hsh_c (k := k) hzz.1
    refine fld_of x'.f1 <| app1_of x'.k <| app2_of x'.k (by omega) <| fld_of mv1.is.f2 <| app1_of mv1.is.v <| app2_of mv1.is.v (show S'.vals.length < _ by omega) <| fld_of mv2.is.f4 <| app1_of mv2.is.nx <| app2_of mv2.is.nx (show S'.nexts.length < _ by omega) <|
      fld_of x3.f2 <| len_of (n := cs'.length + 1) (len_lst x3.v (by rw [List.length_append, hvl']; rfl)) (by omega) <| bin_c <| sub_of (c := cs'.length) (by omega) <|
      sp_link (up hn) x3 (k := k) (snoc_at hklen) sk hzz.1 hc (hsd'.heads c hcz) (show _ < (S'.nexts ++ [_]).length by rw [List.length_append, hnlen]; exact Nat.lt_succ_self _) (show (S'.nexts ++ [_]).length < _ by rw [List.length_append, hnlen]; exact Nat.lt_of_le_of_lt (Nat.succ_le_succ hcl) (by omega)) (show S'.heads.length < _ by rw [hsd'.hlen]; omega) fun H4 mv4 => ?_
    have mvA := ((mv1.trans mv2).trans mv3).trans mv4
    have hcell : ∀ {i : Nat} {k s : V}, cs'[i]? = some (some (k, s)) → ∃ j : Nat, cs[j]? = some (some (k, s)) := fun e => by
      rcases hcs with rfl | rfl
      · exact ⟨_, e⟩
      · exact row_mem (row_some e)
    refine q _ cs' H4 (mv.trans mvA) ⟨hS.1, hS.2, hS.3⟩ hsz hcs ((hsd'.push (s := s) hc hcz).vals _) ((vl'.push_live (mv.le.isi hs hso)).own x' (off_snoc (fun i k1 b e hbm => ?_) fun k1 b e hbm => ?_) mvA.le)
    · obtain ⟨j, hj⟩ := hcell e
      exact (mv.own b hbm).elim (off j k1 b hj) (live_there (vl.live _ _ _ hj).2)
    · cases e
      exact (mv.own b hbm).elim (hso b rfl) (live_there hs)
end
end Mine
namespace Mine
section
variable {H : Hp} {a : Addr} {S : AS} {cs : List Cell} {m : Nat}
theorem one_snoc {k s : V} (one : KeysOne cs) (hn : ∀ (i : Nat) s, cs[i]? ≠ some (some (k, s))) : KeysOne (cs ++ [some (k, s)]) := by
  intro i j k1 s1 t1 h1 h2
  rcases snoc_get h1 with ⟨_, h1⟩ | ⟨e1, h1⟩ <;> rcases snoc_get h2 with ⟨_, h2⟩ | ⟨e2, h2⟩
  · exact one i j k1 s1 t1 h1 h2
  · cases h2; exact absurd h1 (hn _ _)
  · cases h1; exact absurd h2 (hn _ _)
  · omega
theorem ko_snoc {k s : V} (ko : KeysOk cs) (hk : scalar k = true) : KeysOk (cs ++ [some (k, s)]) := by
  intro i k1 s1 h1
  rcases snoc_get h1 with ⟨_, h1⟩ | ⟨e1, h1⟩
  · exact ko i k1 s1 h1
  · cases h1; exact hk
theorem one_rep {j : Nat} (one : KeysOne cs) : KeysOne (cs ++ List.replicate j none) := fun i i' k s t h1 h2 => one i i' k s t (rep_get h1) (rep_get h2)
theorem ko_rep {j : Nat} (ko : KeysOk cs) : KeysOk (cs ++ List.replicate j none) := fun i k s h => ko i k s (rep_get h)
theorem rowsOf_append {c d : List Cell} : rowsOf (c ++ d) = rowsOf c ++ rowsOf d := List.filterMap_append
theorem rowsOf_rep {j : Nat} : rowsOf (List.replicate j none) = [] := by
  unfold rowsOf; induction j with
  | zero => rfl
  | succ j ih => rw [List.replicate_succ]; exact ih
theorem not_in_rows {k : V} (hn : ∀ (i : Nat) s, cs[i]? ≠ some (some (k, s))) : ∀ (i : Nat) s, ((rowsOf cs).map some)[i]? ≠ some (some (k, s)) := fun i s e => by
  obtain ⟨j, hj⟩ := row_mem (row_some e)
  exact hn j s hj
noncomputable def nxt (n : Int) : V → Int
  | .int i => if n ≤ i then min (i + 1) (2 ^ 63 - 1) else n
  | _ => n
theorem aug_of {Δ : Calls} {f : Nat} {op : Operator} {E : P1 → Hp → Prop} {ρ : Env'} {Q : PF} {x w : V} (h : fldOf H x f = some w) (q : kAugA2 E f op x ρ Q w H) : kAugA1 E f op ρ Q x H := o_of h q
theorem as_f {ρ : Env'} {Q : PF} {f : Nat} {v : V} (x : IsA H a S) (S' : AS) (hs : ∀ sh, setFld .arr S.d (S.fs sh) f v = some (.inst .arr S'.d (S'.fs sh))) (q : ∀ H', Mv a S S' H H' → Q .nxt ρ H') (hd : S'.d = S.d := by rfl)
    (hk : S'.k = S.k ∧ S'.v = S.v ∧ S'.hd = S.hd ∧ S'.nx = S.nx ∧ S'.w = S.w := by exact ⟨rfl, rfl, rfl, rfl, rfl⟩) (hl : S'.keys = S.keys ∧ S'.vals = S.vals ∧ S'.heads = S.heads ∧ S'.nexts = S.nexts := by exact ⟨rfl, rfl, rfl, rfl⟩) : kAs2 f v ρ Q (.ref a) H :=
  as_mv x (fun sh => Mv.setF x hk hl hd) hs q
inductive Lay (H : Hp) (a : Addr) (S : AS) (cs : List Cell) (m : Nat) (k s : V) (H1 : Hp) : Env' → Prop
  | mk (S1 : AS) (cs1 : List Cell) (mv : Mv a S S1 H H1) (hc : S1.count = S.count) (hnx : S1.next = S.next) (vl : Vals H1 S1.vals cs1) (off : ∀ (i : Nat) k b, cs1[i]? = some (some (k, .ref b)) → b ∉ S1.own a) (ko : KeysOk cs1) (one : KeysOne cs1) (hz : 0 < S1.size) (hr : rowsOf cs1 = rowsOf cs) (hno : ∀ (i : Nat) s, cs1[i]? ≠ some (some (k, s)))
    (hpk : S1.packed = true → (∀ (i : Nat) k s, cs1[i]? = some (some (k, s)) → k = .int i) ∧ S1.keys = [] ∧ (∃ i : Nat, k = .int i ∧ cs1.length ≤ i ∧ i < S1.size) ∧ S1.size ≤ max 16 (4 * (m + 1))) (hhs : S1.packed = false → Hsd S1 cs1 ∧ cs1.length ≤ m ∧ S1.size ≤ 2 * max 16 (4 * m)) : Lay H a S cs m k s H1 [some (.ref a), some k, some s]
inductive Laid (H : Hp) (a : Addr) (S : AS) (cs : List Cell) (m : Nat) (k s : V) (H1 : Hp) : Env' → Prop
  | mk (S1 : AS) (cs1 : List Cell) (mv : Mv a S S1 H H1) (hc : S1.count = S.count) (hnx : S1.next = S.next) (vl : Vals H1 S1.vals cs1) (off : ∀ (i : Nat) k b, cs1[i]? = some (some (k, .ref b)) → b ∉ S1.own a) (ko : KeysOk cs1) (one : KeysOne cs1) (hz : 0 < S1.size) (hr : rowsOf cs1 = rowsOf cs ++ [(k, s)])
    (hpk : S1.packed = true → (∀ (i : Nat) k s, cs1[i]? = some (some (k, s)) → k = .int i) ∧ S1.keys = [] ∧ cs1.length ≤ S1.size ∧ S1.size ≤ max 16 (4 * (m + 1))) (hhs : S1.packed = false → Hsd S1 cs1 ∧ cs1.length ≤ m + 1 ∧ S1.size ≤ 2 * max 16 (4 * (m + 1))) : Laid H a S cs m k s H1 [some (.ref a), some k, some s]
theorem lay_ok {n : Nat} (hn : 5 ≤ n) (x : Arr H a S cs m) (hm : m + 1 ≤ 100) {k s : V} (sk : scalar k = true) (hs : isiV H .absent s = some false) (hso : ∀ b, s = .ref b → b ∉ S.own a) {K : PF} (hK : ∀ ρ H', Laid H a S cs m k s H' ρ → K .nxt ρ H') {H1 : Hp} {ρ : Env'} (h : Lay H a S cs m k s H1 ρ) :
    EX (MC T n) (.ife (.attr (.var 0) 0) (.seq (.expr (.call 15 (.cons (.var 0) (.cons (.var 1) (.cons (.var 2) .nil))))) .skip) (.seq (.expr (.call 16 (.cons (.var 0) (.cons (.var 1) (.cons (.var 2) .nil))))) .skip)) ρ K H1 := by
  obtain ⟨S1, cs1, mv, hc, hnx, vl, off, ko, one, hz, hr, hno, hpk, hhs⟩ := h
  have x1 := mv.is
  have hs1 := mv.le.isi hs hso
  have hso1 : ∀ b, s = .ref b → b ∉ S1.own a := fun b hb hm' => (mv.own b hm').elim (hso b hb) (by subst hb; exact live_there hs)
  refine fld_of x1.f0 ?_
  cases hp : S1.packed with
  | true =>
    obtain ⟨p1, p2, ⟨i, rfl, p3, p4⟩, p5⟩ := hpk hp
    refine sp_add_packed (up hn) x1 vl off hs1 hso1 p3 (Nat.le_of_lt (Nat.lt_of_lt_of_le p4 (Nat.le_trans (Nat.le_trans p5 (cap_le hm)) (by decide)))) fun vals H2 mv2 vl2 => hK _ _ ⟨_, _, mv.trans mv2, hc, hnx, vl2, off_snoc (fun j k b e => off j k b (rep_get e)) (fun _ _ h => by cases h; exact hso1 _ rfl), ko_snoc (ko_rep ko) rfl, one_snoc (one_rep one) (fun j s1 e => hno j s1 (rep_get e)), hz, ?_, fun _ => ⟨fun j k1 s1 e => ?_, p2, ?_, p5⟩, fun h => ?_⟩
    · rw [rowsOf_append, rowsOf_append, rowsOf_rep, List.append_nil, hr]; rfl
    · rcases snoc_get e with ⟨_, e⟩ | ⟨e1, e⟩
      · exact p1 j k1 s1 (rep_get e)
      · cases e
        rw [e1, List.length_append, List.length_replicate, Nat.add_sub_cancel' p3]
    · rw [List.length_append, List.length_append, List.length_replicate, Nat.add_sub_cancel' p3]; exact p4
    · exact absurd (hp.symm.trans h) (by decide)
  | false =>
    obtain ⟨p1, p2, p3⟩ := hhs hp
    have hrl := rows_len (cs := cs1)
    refine sp_add_hashed hn x1 vl off p1 ko hz (by rw [hc, x.cnt, hr]) sk hs1 hso1 (by omega) (cap2 p3 (Nat.le_of_succ_le hm)) fun S2 cs2 H2 mv2 sn hsz hcs hsd2 vl2 => ?_
    have hc2 : rowsOf cs2 = rowsOf cs ∧ KeysOk cs2 ∧ KeysOne cs2 ∧ (∀ (i : Nat) s, cs2[i]? ≠ some (some (k, s))) ∧ cs2.length ≤ m ∧ ∀ (i : Nat) k b, cs2[i]? = some (some (k, .ref b)) → b ∉ S2.own a := by
      have off2 := off_mv mv2 vl off
      rcases hcs with rfl | rfl
      · exact ⟨hr, ko, one, hno, p2, off2⟩
      · exact ⟨rows_of_rows.trans hr, ko_rows ko, one_rows one, not_in_rows hno, by rw [List.length_map]; exact Nat.le_trans hrl p2, off_rows off2⟩
    obtain ⟨c1, c2, c3, c4, c5, c6⟩ := hc2
    have hpf : S2.packed = false := sn.pk.trans hp
    exact hK _ _ ⟨_, _, mv.trans mv2, sn.cnt.trans hc, sn.nxt.trans hnx, vl2, off_snoc c6 fun _ _ h hb => by cases h; exact (mv2.own _ hb).elim (hso1 _ rfl) (live_there hs1), ko_snoc c2 sk, one_snoc c3 c4, (dbl_of hsz (Nat.le_refl S1.size) hz).1, by rw [rowsOf_append, c1]; rfl, fun h => absurd (hpf.symm.trans h) (by decide),
      fun _ => ⟨hsd2, by rw [List.length_append]; exact Nat.succ_le_succ c5, hsz.elim (fun e => e ▸ cap2_up p3) fun e => e.1 ▸ cap_dbl (Nat.le_succ_of_le (Nat.le_trans e.2 p2))⟩⟩
theorem grow_le {z c m : Nat} (h : z / 2 < c) (hc : c ≤ m) : 2 * z ≤ max 16 (4 * m) := by omega
theorem sp_add {n : Nat} (hn : 6 ≤ n) {Q : V → Hp → Prop} (x : Arr H a S cs m) (hm : m + 1 ≤ 100) {k s : V} (sk : scalar k = true) (hno : ∀ (i : Nat) s, cs[i]? ≠ some (some (k, s))) (hs : isiV H .absent s = some false) (hso : ∀ b, s = .ref b → b ∉ S.own a)
    (q : ∀ S' cs' H', Mv a S S' H H' → Arr H' a S' cs' (m + 1) → rowsOf cs' = rowsOf cs ++ [(k, s)] → S'.next = nxt S.next k → Q .none H') : MC T n 17 [.ref a, k, s] Q H := by
  have hsm := x.small
  refine call_of (ρ := [some (.ref a), some k, some s]) hn T_add rfl fun n hn => seq_mid (fun ρ H1 => Lay H a S cs m k s H1 ρ) (fun K hK => ?_) fun ρ H1 lay => seq_mid (fun ρ H1 => Laid H a S cs m k s H1 ρ) (fun K hK => lay_ok hn x hm sk hs hso hK lay) ?_
  · refine fld_of x.is.f0 ?_
    cases hp : S.packed with
    | false => exact hK _ _ ⟨S, cs, .refl x.is, rfl, rfl, x.vals, x.off, x.ko, x.one, x.z, rfl, hno, fun h => absurd (hp.symm.trans h) (by decide), x.hs⟩
    | true =>
      obtain ⟨p1, p2, p3, p4⟩ := x.pk hp
      have hvl := x.vals.len
      have hcnt := x.cnt
      have hcm := x.cm
      refine sp_takes_packed (up hn) x.is sk (by omega) (by omega) fun b S1 H1 mv hS hb => ?_
      have hS1 : Sn S S1 ∧ S1.vals = S.vals ∧ S1.keys = S.keys ∧ 0 < S1.size ∧ S1.size ≤ max 16 (4 * m) ∧ S1.own a = S.own a := by
        have hz := x.z
        rcases hS with rfl | ⟨rfl, h⟩
        · exact ⟨⟨rfl, rfl, rfl⟩, rfl, rfl, hz, p4, rfl⟩
        · exact ⟨⟨rfl, rfl, rfl⟩, rfl, rfl, Nat.mul_pos (by decide) hz, grow_le (by rw [hcnt] at h; exact Int.ofNat_lt.mp h) hcm, rfl⟩
      obtain ⟨sn, q3, q5, q6, q7, q9⟩ := hS1
      have x1 := mv.is
      have vl1 : Vals H1 S1.vals cs := q3 ▸ x.vals.own x.is x.off mv.le
      cases b with
      | true =>
        obtain ⟨i, hk, h1, h2⟩ := hb rfl
        exact hK _ _ ⟨S1, cs, mv, sn.cnt, sn.nxt, vl1, q9 ▸ x.off, x.ko, x.one, q6, rfl, hno, fun _ => ⟨p1, q5.trans p2, ⟨i, hk, hvl ▸ h1, h2⟩, Nat.le_trans q7 cap_up⟩, fun h => absurd ((sn.pk.trans hp).symm.trans h) (by decide)⟩
      | false =>
        have toH : ∀ (S2 : AS) H2, Mv a S S2 H H2 → S2.count = S.count → S2.next = S.next → S2.own a = S.own a → 0 < S2.size → S2.size ≤ 2 * max 16 (4 * m) → Vals H2 S2.vals cs → MC T n 13 [.ref a] (fun _ H' => K .nxt [some (.ref a), some k, some s] H') H2 := fun S2 H2 mv2 r1 r2 r4 r5 r6 r7 => by
          have hrl := rows_len (cs := cs)
          have hcs := (x.m100)
          exact sp_to_hash hn mv2.is r7 (r4 ▸ x.off) p1 r5 (by omega) (by omega) fun S3 H3 mv3 s3 sz hs3 vl3 => hK _ _ ⟨_, _, mv2.trans mv3, s3.cnt.trans r1, s3.nxt.trans r2, vl3, off_rows (off_mv (mv2.trans mv3) x.vals x.off), ko_rows x.ko, one_rows x.one, sz ▸ r5, rows_of_rows, not_in_rows hno, fun h => absurd (s3.pk.symm.trans h) Bool.false_ne_true, fun _ => ⟨hs3, by rw [List.length_map]; exact hcm, sz ▸ r6⟩⟩
        exact fld_of x1.f2 <| len_of (len_lst x1.v (q3 ▸ hvl)) (by omega) <| fld_of x1.f5 <| if_c (fun hsz => fld_of x1.f5 ⟨n64 (Nat.le_trans q7 (cap_le x.m100)), by decide, as_f x1 { S1 with size := 2 * S1.size } (fun sh => by rw [dbl]; rfl) fun H2 mv2 => toH _ _ (mv.trans mv2) sn.cnt sn.nxt q9 (Nat.mul_pos (by decide) q6) (show 2 * S1.size ≤ _ by omega) (vl1.own x1 (q9 ▸ x.off) mv2.le)⟩) fun _ => toH _ _ mv sn.cnt sn.nxt q9 q6 (Nat.le_trans q7 (Nat.le_mul_of_pos_left _ (by decide))) vl1
  · rintro ρ H' ⟨S', cs', mv, hc, hnx, vl, off, ko, one, hz, hr, hpk, hhs⟩
    have x' := mv.is
    refine aug_of (Δ := MC T n) x'.f6 <| as_f x' { S' with count := S'.count + 1 } (fun _ => rfl) fun H1 mv1 => ?_
    have x1 := mv1.is
    have fin : ∀ {nx : Int} {H2 : Hp}, Mv a { S' with count := S'.count + 1 } { S' with count := S'.count + 1, next := nx } H1 H2 → nx = nxt S.next k → Q .none H2 := fun {nx H2} mv2 h2 => by
      have mvA := mv.trans (mv1.trans mv2)
      refine q _ cs' H2 mvA ⟨mvA.is, vl.own x' off (mv1.trans mv2).le, off, ko, one, hz, ?_, hpk, fun hp => ?_, ?_, hm⟩ hr h2
      · rw [hr, List.length_append]; show S'.count + 1 = _; rw [hc, x.cnt]; rfl
      · obtain ⟨h1, h2, h3⟩ := hhs hp
        exact ⟨⟨h1.klen, h1.keys, h1.hlen, h1.nlen, h1.heads, h1.nexts⟩, h2, h3⟩
      · rw [hr, List.length_append]; exact Nat.succ_le_succ x.cm
    cases k with
    | str t => exact fin (.refl x1) hnx
    | int i =>
      refine fld_of x1.f7 <| if_c (fun hi => sp_greatest (up hn) <| as_f x1 { S' with count := S'.count + 1, next := min (i + 1) (2 ^ 63 - 1) } (fun _ => rfl) fun H2 mv2 => fin mv2 ?_) fun hi => fin (.refl x1) ?_
      · exact (if_pos (hnx ▸ hi)).symm
      · exact hnx.trans (if_neg (hnx ▸ hi)).symm
    | none => cases sk
    | bool => cases sk
    | ref => cases sk
end
end Mine
namespace Mine
section
variable {H : Hp} {a : Addr} {S : AS} {cs : List Cell} {m : Nat}
theorem idx_last {v : Addr} {vs : List V} {y : V} (e : H v = some (.lst (vs ++ [y]))) : idxV H (.ref v) (.int (-1)) = some y := (congrArg (lastO (-1)) e).trans List.getLast?_concat
theorem take_last {α : Type} {l : List α} {j : Nat} {y : α} (e : l[j]? = some y) : l.take (j + 1) = l.take j ++ [y] := by
  rw [List.take_add_one, e]; rfl
theorem pop_of {Q : P1} {v : Addr} {vs : List V} {y : V} (e : H v = some (.lst (vs ++ [y]))) (hl : vs.length < 2 ^ 24) (q : Q y (upd H v (.lst vs))) : kPop Q (.ref v) H := ⟨vs, y, e, hl, q⟩
noncomputable def cut (S : AS) (k : Nat) (z : Int) : AS := { S with vals := S.vals.take k, keys := if S.packed then S.keys else S.keys.take k, nexts := if S.packed then S.nexts else S.nexts.take k, at_ := z }
theorem cut_keys {k : Nat} {z : Int} {b : Bool} (hp : S.packed = b) : (cut S k z).keys = (if b then S.keys else S.keys.take k) ∧ (cut S k z).nexts = (if b then S.nexts else S.nexts.take k) := by subst hp; exact ⟨rfl, rfl⟩
theorem cut_all {n : Nat} (hv : S.vals.length = n) (hk : S.packed = false → S.keys.length = n ∧ S.nexts.length = n) : cut S n S.at_ = S := by
  unfold cut
  subst hv
  rw [List.take_length]
  cases h : S.packed with
  | true => rw [if_pos rfl, if_pos rfl, ← h]
  | false => rw [if_neg Bool.false_ne_true, if_neg Bool.false_ne_true, ← (hk h).1, List.take_length, (hk h).1, ← (hk h).2, List.take_length, ← h]
inductive GoI (H : Hp) (a : Addr) (S : AS) (cs : List Cell) (p : Nat) (r : Int) (il : Bool) (k : Nat) (H' : Hp) : Env' → Prop
  | mk (hk : k ≤ cs.length) (dead : ∀ i, k ≤ i → i < cs.length → cs[i]? = some none) (mv : Mv a S (cut S k S.at_) H H') : GoI H a S cs p r il k H' [some (.ref a), some (.int p), some (.int r), some (.bool il), none, none, none]
theorem sp_go_on {n : Nat} (hn : 3 ≤ n) {Q : V → Hp → Prop} (x : IsA H a S) (vl : Vals H S.vals cs) (off : ∀ (i : Nat) k b, cs[i]? = some (some (k, .ref b)) → b ∉ S.own a) (hb : cs.length ≤ 800) (hk : S.packed = false → S.keys.length = cs.length ∧ S.nexts.length = cs.length) {p : Nat}
    (q : ∀ (j : Nat) (at_ : Int) H', j ≤ cs.length → (∀ i, j ≤ i → i < cs.length → cs[i]? = some none) → Mv a S (cut S j at_) H H' → Q .none H') : MC T n 18 [.ref a, .int p] Q H := by
  have hvl := vl.len
  have small : ∀ {i : Nat}, i < 801 → i < 2 ^ 24 := fun h => Nat.lt_trans h (by decide)
  have cl : ∀ {k}, k ≤ cs.length → (S.vals.take k).length = k := fun h => List.length_take_of_le (hvl ▸ h)
  refine call_of (ρ := [some (.ref a), some (.int p), none, none, none, none, none]) hn T_go_on rfl fun n hn => sp_next_place hn x vl hb fun r => fld_of x.f2 <| len_of (len_lst x.v hvl) (by omega) ?_
  refine seq_mid (fun ρ H' => ∃ k, GoI H a S cs p r (decide ((p : Int) = cs.length - 1)) k H' ρ) (fun K hK => ?_) ?_
  · refine while_rule (fun k ρ H' => GoI H a S cs p r (decide ((p : Int) = cs.length - 1)) k H' ρ) (k := cs.length) ⟨Nat.le_refl _, fun i h1 h2 => absurd h2 (Nat.not_lt.mpr h1), by rw [cut_all hvl hk]; exact .refl x⟩ ?_
    rintro k ρ H' K' ⟨hk1, hdead, mv⟩ hK' _
    have x' := mv.is
    generalize decide ((p : Int) = cs.length - 1) = il at hK hK' ⊢
    cases il with
    | false => exact hK _ _ ⟨k, hk1, hdead, mv⟩
    | true =>
      refine fld_of x'.f2 <| len_of (len_lst x'.v (cl hk1)) (by omega) <| if_c (fun hk0 => ?_) fun _ => hK _ _ ⟨k, hk1, hdead, mv⟩
      obtain ⟨j, rfl⟩ : ∃ j, k = j + 1 := ⟨k - 1, by omega⟩
      have hjl : j < cs.length := hk1
      have hy := List.getElem?_eq_getElem (hvl ▸ hjl : j < S.vals.length)
      have last : ∀ {L : List V}, L.length = cs.length → ∃ y, L.take (j + 1) = L.take j ++ [y] ∧ (L.take j).length < 2 ^ 24 := fun h => ⟨_, take_last (List.getElem?_eq_getElem (h ▸ hjl)), by rw [List.length_take]; omega⟩
      have hv' : H' S.v = some (.lst (S.vals.take j ++ [S.vals[j]'(hvl ▸ hjl)])) := take_last hy ▸ x'.v
      have vl' := vl.own x off mv.le
      refine fld_of x'.f2 <| idx_of (idx_last hv') ?_
      rcases hc : cs[j] with _ | ⟨k', s'⟩
      · have hc := (List.getElem?_eq_getElem hjl).trans (congrArg some hc)
        obtain ⟨r0, d0, fs0, h1, h2⟩ := vl'.dead j hc
        have hr := Option.some.inj (hy.symm.trans h1)
        have m1 := Mv.setV x' (S.vals.take j)
        have dead' : ∀ i, j ≤ i → i < cs.length → cs[i]? = some none := fun i h1 h2 => (Nat.eq_or_lt_of_le h1).elim (fun h => h ▸ hc) fun h => hdead i h h2
        refine isi_of (r := true) (hr ▸ isi_abs h2) <| fld_of x'.f2 <| pop_of hv' (by rw [List.length_take]; omega) <| fld_of m1.is.f0 ?_
        cases hpk : S.packed with
        | true =>
          exact if_n <| if_T hpk <| hK' j _ _ (Nat.lt_succ_self _) ⟨Nat.le_of_lt hjl, dead', (show { cut S (j + 1) S.at_ with vals := S.vals.take j } = cut S j S.at_ by unfold cut; rw [hpk]; rfl) ▸ mv.trans m1⟩
        | false =>
          obtain ⟨l1, l2⟩ := hk hpk
          obtain ⟨y1, t1, s1⟩ := last l1
          obtain ⟨y2, t2, s2⟩ := last l2
          obtain ⟨e3, e4⟩ := cut_keys (k := j + 1) (z := S.at_) hpk
          have m2 := Mv.setK m1.is (S.keys.take j)
          have m3 := Mv.setNx m2.is (S.nexts.take j)
          refine if_n <| if_F hpk <| fld_of m1.is.f1 <| pop_of (m1.is.k.trans (congrArg (fun l => some (O.lst l)) (e3.trans t1))) s1 <| fld_of m2.is.f4 <| pop_of (m2.is.nx.trans (congrArg (fun l => some (O.lst l)) (e4.trans t2))) s2 <| hK' j _ _ (Nat.lt_succ_self _) ⟨Nat.le_of_lt hjl, dead', ?_⟩
          exact (show { cut S (j + 1) S.at_ with vals := S.vals.take j, keys := S.keys.take j, nexts := S.nexts.take j } = cut S j S.at_ by unfold cut; rw [hpk]; rfl) ▸ mv.trans ((m1.trans m2).trans m3)
      · have hc := (List.getElem?_eq_getElem hjl).trans (congrArg some hc)
        obtain ⟨h1, h2⟩ := vl'.live j _ _ hc
        exact isi_of (r := false) ((Option.some.inj (hy.symm.trans h1)).symm ▸ h2) (hK _ _ ⟨_, hk1, hdead, mv⟩)
  · rintro ρ H' ⟨k, hk1, hdead, mv⟩
    have x' := mv.is
    refine fld_of x'.f2 <| len_of (len_lst x'.v (cl hk1)) (by omega) <| fld_of x'.f8 <| if_c (fun _ => ?_) fun _ => fld_of x'.f8 ?_
    all_goals exact as_f x' (cut S k (min _ (k : Int))) (fun _ => rfl) fun H1 m1 => fld_of m1.is.f10 ⟨[], Nat.zero_le _, .inr ⟨m1.is.w, rfl⟩, fun l hl => for_of upd_self ⟨upd_self, q k _ _ hk1 hdead ((mv.trans m1).trans (Mv.other m1.is (.new hl)))⟩⟩
end
end Mine
namespace Mine
section
variable {H : Hp} {a : Addr} {S : AS} {cs : List Cell} {m : Nat}
theorem set_get {α : Type} {l : List α} {p i : Nat} {x y : α} (e : (l.set p x)[i]? = some y) : (i ≠ p ∧ l[i]? = some y) ∨ (i = p ∧ x = y) := by
  by_cases h : p = i
  · subst h
    rw [List.getElem?_set_self (List.length_set ▸ (List.getElem?_eq_some_iff.mp e).1)] at e
    exact .inr ⟨rfl, Option.some.inj e⟩
  · rw [List.getElem?_set_ne h] at e
    exact .inl ⟨Ne.symm h, e⟩
theorem set_ne {α : Type} {l : List α} {p i : Nat} {x y : α} (h : i ≠ p) (e : l[i]? = some y) : (l.set p x)[i]? = some y := (List.getElem?_set_ne (Ne.symm h)).trans e
theorem Vals.set {vals : List V} (x : Vals H vals cs) {p : Nat} {v : V} {c : Cell} (hp : p < cs.length) (hd : c = none → ∃ r d fs, v = .ref r ∧ H r = some (.inst .absent d fs)) (hl : ∀ k s, c = some (k, s) → v = s ∧ isiV H .absent s = some false) : Vals H (vals.set p v) (cs.set p c) := by
  have at_ : (vals.set p v)[p]? = some v := List.getElem?_set_self (x.len ▸ hp)
  refine ⟨by rw [List.length_set, List.length_set, x.len], fun i h => ?_, fun i k s h => ?_⟩
  · rcases set_get h with ⟨hi, e⟩ | ⟨rfl, e⟩
    · obtain ⟨r, d, fs, h1, h2⟩ := x.dead i e
      exact ⟨r, d, fs, set_ne hi h1, h2⟩
    · obtain ⟨r, d, fs, rfl, h2⟩ := hd e
      exact ⟨r, d, fs, at_, h2⟩
  · rcases set_get h with ⟨hi, e⟩ | ⟨rfl, e⟩
    · exact ⟨set_ne hi (x.live i k s e).1, (x.live i k s e).2⟩
    · obtain ⟨rfl, h2⟩ := hl k s e
      exact ⟨at_, h2⟩
theorem Vals.set_dead {vals : List V} (x : Vals H vals cs) {p : Nat} {r d : Addr} {fs : List V} (e : H r = some (.inst .absent d fs)) (hp : p < cs.length) : Vals H (vals.set p (.ref r)) (cs.set p none) := x.set hp (fun _ => ⟨r, d, fs, rfl, e⟩) fun _ _ h => nomatch h
theorem Vals.set_live {vals : List V} (x : Vals H vals cs) {p : Nat} {k s : V} (e : isiV H .absent s = some false) (hp : p < cs.length) : Vals H (vals.set p s) (cs.set p (some (k, s))) := x.set hp (fun h => nomatch h) fun _ _ h => by cases h; exact ⟨rfl, e⟩
theorem take_get {α : Type} {l : List α} {j i : Nat} {c : α} (h : (l.take j)[i]? = some c) : i < j ∧ l[i]? = some c := by
  rw [List.getElem?_take] at h
  split at h
  · exact ⟨‹_›, h⟩
  · cases h
theorem take_at {α : Type} {l : List α} {j i : Nat} {c : α} (hi : i < j) (h : l[i]? = some c) : (l.take j)[i]? = some c := (List.getElem?_take_of_lt hi).trans h
theorem Vals.take {vals : List V} (x : Vals H vals cs) (j : Nat) : Vals H (vals.take j) (cs.take j) := by
  refine ⟨by rw [List.length_take, List.length_take, x.len], fun i h => ?_, fun i k s h => ?_⟩
  · obtain ⟨r, d, fs, h1, h2⟩ := x.dead i (take_get h).2
    exact ⟨r, d, fs, take_at (take_get h).1 h1, h2⟩
  · exact ⟨take_at (take_get h).1 (x.live i k s (take_get h).2).1, (x.live i k s (take_get h).2).2⟩
theorem set_none_get {p i : Nat} {k s : V} (h : (cs.set p none)[i]? = some (some (k, s))) : i ≠ p ∧ cs[i]? = some (some (k, s)) := (set_get h).elim id fun h => nomatch h.2
theorem prv_tail {z c j q : Nat} (hq : j ≤ q) (h : ∀ i, j ≤ i → i < q → cs[i]? = some none) : prv cs z c q = prv cs z c j := by
  induction q with
  | zero => cases Nat.le_zero.mp hq; rfl
  | succ q ih =>
    rcases Nat.eq_or_lt_of_le hq with rfl | hj
    · rfl
    · have hj := Nat.le_of_lt_succ hj
      rw [prv_skip fun k s e => by rw [h q hj (Nat.lt_succ_self q)] at e; cases e]
      exact ih hj fun i h1 h2 => h i h1 (Nat.lt_succ_of_lt h2)
theorem prv_take {z c j q : Nat} (hq : q ≤ j) : prv (cs.take j) z c q = prv cs z c q := prv_congr fun i hi => by rw [List.getElem?_take_of_lt (Nat.lt_of_lt_of_le hi hq)]
theorem Hsd.take {j : Nat} (x : Hsd S cs) (hj : j ≤ cs.length) (h : ∀ i, j ≤ i → i < cs.length → cs[i]? = some none) {S' : AS} (hk : S'.keys = S.keys.take j) (hn : S'.nexts = S.nexts.take j) (hh : S'.heads = S.heads) (hz : S'.size = S.size) : Hsd S' (cs.take j) := by
  refine ⟨by rw [hk, List.length_take, List.length_take, x.klen], fun i k s e => ?_, by rw [hh, hz]; exact x.hlen, by rw [hn, List.length_take, List.length_take, x.nlen], fun c hc => ?_, fun p k s c e hc => ?_⟩
  · rw [hk]; exact take_at (take_get e).1 (x.keys i k s (take_get e).2)
  · rw [hz] at hc ⊢
    rw [List.length_take_of_le hj, prv_take (Nat.le_refl _), hh, x.heads c hc, prv_tail hj h]
  · rw [hz] at hc ⊢
    rw [prv_take (Nat.le_of_lt (take_get e).1), hn]
    exact take_at (take_get e).1 (x.nexts p k s c (take_get e).2 hc)
theorem rows_tail {j : Nat} (h : ∀ i, j ≤ i → i < cs.length → cs[i]? = some none) : rowsOf (cs.take j) = rowsOf cs := by
  conv => rhs; rw [← List.take_append_drop j cs]
  rw [rowsOf_append]
  have : rowsOf (cs.drop j) = [] := by
    unfold rowsOf
    rw [List.filterMap_eq_nil_iff]
    intro c hc
    obtain ⟨i, hi⟩ := List.mem_iff_getElem?.mp hc
    rw [List.getElem?_drop] at hi
    rw [h _ (Nat.le_add_right _ _) (List.getElem?_eq_some_iff.mp hi).1] at hi
    cases hi; rfl
  rw [this, List.append_nil]
theorem rows_split {p : Nat} {k s : V} (one : KeysOne cs) (e : cs[p]? = some (some (k, s))) : ∃ A B, rowsOf cs = A ++ (k, s) :: B ∧ (∀ c : Cell, rowsOf (cs.set p c) = A ++ (c.toList ++ B)) ∧ ∀ r, r ∈ A ∨ r ∈ B → r.1 ≠ k := by
  have h := List.getElem?_eq_some_iff.mp e
  have set : ∀ c : Cell, rowsOf (cs.set p c) = rowsOf (cs.take p) ++ (c.toList ++ rowsOf (cs.drop (p + 1))) := fun c => by
    rw [List.set_eq_take_append_cons_drop, if_pos h.1, rowsOf_append]
    cases c <;> rfl
  refine ⟨rowsOf (cs.take p), rowsOf (cs.drop (p + 1)), ?_, set, ?_⟩
  · conv => lhs; rw [← List.set_getElem_self h.1]
    rw [set, h.2]; rfl
  · rintro ⟨k', s'⟩ hr rfl
    rcases hr with hr | hr
    · obtain ⟨i, hi⟩ := List.mem_iff_getElem?.mp hr
      obtain ⟨j, hj⟩ := row_mem hi
      exact absurd (one j p _ _ _ (take_get hj).2 e) (Nat.ne_of_lt (take_get hj).1)
    · obtain ⟨i, hi⟩ := List.mem_iff_getElem?.mp hr
      obtain ⟨j, hj⟩ := row_mem hi
      rw [List.getElem?_drop] at hj
      have := one _ p _ _ _ hj e; omega
theorem rows_dead {p : Nat} {k s : V} (one : KeysOne cs) (e : cs[p]? = some (some (k, s))) : rowsOf (cs.set p none) = (rowsOf cs).filter (fun r => decide (r.1 ≠ k)) := by
  obtain ⟨A, B, h1, h2, h3⟩ := rows_split one e
  have m : ∀ L : List (V × V), (∀ r ∈ L, r.1 ≠ k) → L.filter (fun r => decide (r.1 ≠ k)) = L := fun L h => List.filter_eq_self.mpr fun r hr => decide_eq_true (h r hr)
  rw [h1, h2, List.filter_append, List.filter_cons, if_neg (by simp), m A fun r hr => h3 r (.inl hr), m B fun r hr => h3 r (.inr hr)]
  rfl
theorem rows_live {p : Nat} {k s t : V} (one : KeysOne cs) (e : cs[p]? = some (some (k, s))) : rowsOf (cs.set p (some (k, t))) = (rowsOf cs).map (fun r => if r.1 = k then (k, t) else r) := by
  obtain ⟨A, B, h1, h2, h3⟩ := rows_split one e
  have m : ∀ L : List (V × V), (∀ r ∈ L, r.1 ≠ k) → L.map (fun r => if r.1 = k then (k, t) else r) = L := fun L h => (List.map_congr_left (g := id) fun r hr => if_neg (h r hr)).trans (List.map_id L)
  rw [h1, h2, List.map_append, List.map_cons, m A fun r hr => h3 r (.inl hr), m B fun r hr => h3 r (.inr hr), if_pos rfl]
  rfl
inductive DrI (H : Hp) (a : Addr) (S : AS) (cs : List Cell) (k : V) (p : Nat) (s : V) (H1 : Hp) : Env' → Prop
  | mk (S1 : AS) (mv : Mv a S S1 H H1) (hv : S1.vals = S.vals) (sn : Sn S S1) (hz : S1.size = S.size) (hk : S.packed = true → S1.keys = S.keys) (hh : S.packed = false → Hsd S1 (cs.set p none)) : DrI H a S cs k p s H1 [some (.ref a), some k, some (.int p), some s]
theorem sp_drop {n : Nat} (hn : 4 ≤ n) {Q : V → Hp → Prop} (x : Arr H a S cs m) {k : V} (sk : scalar k = true)
    (q : ∀ v S' cs' H', Mv a S S' H H' → Arr H' a S' cs' m → rowsOf cs' = (rowsOf cs).filter (fun r => decide (r.1 ≠ k)) → S'.next = S.next → Q v H') : MC T n 106 [.ref a, k] Q H := by
  have hsm := x.small
  refine call_of (ρ := [some (.ref a), some k, none, none]) hn T_m_drop rfl fun n hn => meth_of x.is.inst <| sp_find (up hn) x sk ?_
  rcases fnd_cases cs k with ⟨p, s, e⟩ | hno
  · rw [fnd_at x.one e]
    have hp := (List.getElem?_eq_some_iff.mp e).1
    have hp62 : p < 2 ^ 62 := by omega
    refine fld_of x.is.f2 <| idx_of ((idx_lst x.is.v hp62).trans (x.vals.live _ _ _ e).1) <| seq_mid (fun ρ H1 => DrI H a S cs k p s H1 ρ) (fun K hK => ?_) ?_
    · refine fld_of x.is.f0 ?_
      cases hpk : S.packed with
      | true => exact hK _ _ ⟨S, .refl x.is, rfl, ⟨rfl, rfl, rfl⟩, rfl, fun _ => rfl, fun h => absurd (hpk.symm.trans h) (by decide)⟩
      | false =>
        obtain ⟨p1, p2, p3⟩ := x.hs hpk
        refine sp_unlink (up hn) x.is p1 e sk x.z hsm.2 hsm.1 ?_
        rintro S1 H1 mv ⟨hd, nx, rfl⟩ hsd
        have kl := p1.klen
        refine fld_of mv.is.f1 <| ai_of mv.is.k (kl ▸ hp) (show S.keys.length < _ by omega) <| hK _ _ ⟨_, mv.trans (Mv.setK mv.is _), rfl, ⟨rfl, rfl, rfl⟩, rfl, fun h => absurd (hpk.symm.trans h) (by decide), fun _ =>
          ⟨by rw [List.length_set, List.length_set]; exact kl, fun i k1 s1 e1 => set_ne (set_none_get e1).1 (p1.keys i k1 s1 (set_none_get e1).2), hsd.hlen, hsd.nlen, hsd.heads, hsd.nexts⟩⟩
    · rintro ρ H1 ⟨S1, mv, r1, sn, r4, r6, r7⟩ b d hb hd hne
      have x1 := mv.is
      have hvl := x.vals.len
      refine sp_new_absent (up hn) hb hd hne fun H2 hle hb2 => ?_
      have x2 := x1.le0 hle
      have m2 := Mv.setV x2 (S1.vals.set p (.ref b))
      have vl2 : Vals H2 S1.vals cs := r1 ▸ (x.vals.own x.is x.off mv.le).le hle (fun _ _ _ _ => List.not_mem_nil) fun _ _ _ _ => List.not_mem_nil
      have off1 : ∀ (i : Nat) k b, (cs.set p none)[i]? = some (some (k, .ref b)) → b ∉ S1.own a := fun i k b e => off_mv mv x.vals x.off i k b (set_none_get e).2
      have vl4 := (vl2.set_dead hb2 hp).own x2 off1 m2.le
      refine fld_of x2.f2 <| ai_of x2.v (by rw [r1]; omega) (by rw [r1]; omega) <| aug_of (Δ := MC T n) m2.is.f6 <| as_f m2.is { S1 with vals := S1.vals.set p (.ref b), count := S1.count - 1 } (fun _ => rfl) fun H3 m4 => ?_
      have vl5 := vl4.own m2.is off1 m4.le
      refine sp_go_on (cs := cs.set p none) hn m4.is vl5 off1 (by rw [List.length_set]; exact hsm.2) (fun hpk => ⟨(r7 (sn.pk.symm.trans hpk)).klen, (r7 (sn.pk.symm.trans hpk)).nlen⟩) fun j z H' hj hdead m5 => ?_
      have mvA := (mv.trans ((Mv.other x1 hle).trans m2)).trans (m4.trans m5)
      have hrows : rowsOf ((cs.set p none).take j) = (rowsOf cs).filter (fun r => decide (r.1 ≠ k)) := (rows_tail hdead).trans (rows_dead x.one e)
      have old : ∀ {i : Nat} {k1 s1 : V}, ((cs.set p none).take j)[i]? = some (some (k1, s1)) → cs[i]? = some (some (k1, s1)) := fun e1 => (set_none_get (take_get e1).2).2
      have hjl : ((cs.set p none).take j).length ≤ cs.length := by rw [List.length_take, List.length_set]; exact Nat.min_le_right _ _
      refine q _ _ ((cs.set p none).take j) H' mvA ⟨mvA.is, (vl5.own m4.is off1 m5.le).take j, fun i k1 b1 e1 => off_mv mvA x.vals x.off i k1 b1 (old e1), fun i k1 s1 e1 => x.ko i k1 s1 (old e1), fun i i' k1 s1 t1 e1 e2 => x.one i i' k1 s1 t1 (old e1) (old e2), r4 ▸ x.z, ?_, fun hpk => ?_, fun hpk => ?_, ?_, x.m100⟩ hrows sn.nxt
      · rw [rows_tail hdead]
        obtain ⟨A, B, h1, h2, _⟩ := rows_split x.one e
        show S1.count - 1 = _
        rw [sn.cnt, x.cnt, h1, h2, List.length_append, List.length_append, List.length_append, List.length_cons]
        show _ = ((A.length + (0 + B.length) : Nat) : Int)
        omega
      · have hpk' : S.packed = true := sn.pk.symm.trans hpk
        obtain ⟨p1, p2, p3, p4⟩ := x.pk hpk'
        exact ⟨fun i k1 s1 e1 => p1 i k1 s1 (old e1), (cut_keys (S := { S1 with vals := S1.vals.set p (.ref b), count := S1.count - 1 }) (k := j) (z := z) (sn.pk.trans hpk')).1.trans ((r6 hpk').trans p2), Nat.le_trans hjl (r4 ▸ p3), show S1.size ≤ _ from r4 ▸ p4⟩
      · have hpk' : S.packed = false := sn.pk.symm.trans hpk
        obtain ⟨p1, p2, p3⟩ := x.hs hpk'
        have hc := cut_keys (S := { S1 with vals := S1.vals.set p (.ref b), count := S1.count - 1 }) (k := j) (z := z) (sn.pk.trans hpk')
        exact ⟨(r7 hpk').take hj hdead hc.1 hc.2 rfl rfl, Nat.le_trans hjl p2, show S1.size ≤ _ from r4 ▸ p3⟩
      · rw [hrows]; exact Nat.le_trans (List.length_filter_le _ _) x.cm
  · rw [fnd_none hno]
    refine q _ S cs H (.refl x.is) x ?_ rfl
    rw [List.filter_eq_self.mpr]
    rintro ⟨k', s'⟩ hr
    refine decide_eq_true ?_
    rintro rfl
    obtain ⟨i, hi⟩ := List.mem_iff_getElem?.mp hr
    obtain ⟨j, hj⟩ := row_mem hi
    exact hno j s' hj
end
end Mine
namespace Mine
section
variable {H : Hp} {a : Addr} {S : AS} {cs : List Cell} {m : Nat}
theorem Arr.up (x : Arr H a S cs m) (h : m + 1 ≤ 100) : Arr H a S cs (m + 1) :=
  ⟨x.is, x.vals, x.off, x.ko, x.one, x.z, x.cnt, fun hp => (by obtain ⟨a, b, c, d⟩ := x.pk hp; exact ⟨a, b, c, Nat.le_trans d cap_up⟩), fun hp => (by obtain ⟨a, b, c⟩ := x.hs hp; exact ⟨a, Nat.le_succ_of_le b, cap2_up c⟩), Nat.le_succ_of_le x.cm, h⟩
noncomputable def keysR (R : List (V × V)) : List V := R.map (·.1)
noncomputable def putR (R : List (V × V)) (k s : V) : List (V × V) := if k ∈ keysR R then R.map (fun r => if r.1 = k then (k, s) else r) else R ++ [(k, s)]
theorem mem_keys {k : V} : k ∈ keysR (rowsOf cs) ↔ ∃ (i : Nat) (s : V), cs[i]? = some (some (k, s)) := by
  constructor
  · intro h
    obtain ⟨⟨k', s⟩, hr, rfl⟩ := List.mem_map.mp h
    obtain ⟨i, hi⟩ := List.mem_iff_getElem?.mp hr
    obtain ⟨j, hj⟩ := row_mem hi
    exact ⟨j, s, hj⟩
  · rintro ⟨i, s, e⟩
    refine List.mem_map.mpr ⟨(k, s), ?_, rfl⟩
    exact List.mem_filterMap.mpr ⟨some (k, s), List.mem_of_getElem? e, rfl⟩
theorem sp_put {n : Nat} (hn : 7 ≤ n) {Q : V → Hp → Prop} (x : Arr H a S cs m) (hm : m + 1 ≤ 100) {k s : V} (sk : scalar k = true) (hs : isiV H .absent s = some false) (hso : ∀ b, s = .ref b → b ∉ S.own a)
    (q : ∀ S' cs' H', Mv a S S' H H' → Arr H' a S' cs' (m + 1) → rowsOf cs' = putR (rowsOf cs) k s → S'.next = (if k ∈ keysR (rowsOf cs) then S.next else nxt S.next k) → Q .none H') : MC T n 104 [.ref a, k, s] Q H := by
  have hsm := x.small
  refine call_of (ρ := [some (.ref a), some k, some s, none]) hn T_m_put rfl fun n hn => meth_of x.is.inst <| sp_find (up hn) x sk ?_
  rcases fnd_cases cs k with ⟨p, t, e⟩ | hno
  · rw [fnd_at x.one e]
    have hp := (List.getElem?_eq_some_iff.mp e).1
    have hvl := x.vals.len
    have mv := Mv.setV x.is (S.vals.set p s)
    have hmem : k ∈ keysR (rowsOf cs) := mem_keys.mpr ⟨p, t, e⟩
    have hkey : ∀ {i : Nat} {k1 s1 : V}, (cs.set p (some (k, s)))[i]? = some (some (k1, s1)) → ∃ s2, cs[i]? = some (some (k1, s2)) := fun h => by
      rcases set_get h with ⟨_, h'⟩ | ⟨rfl, h'⟩
      · exact ⟨_, h'⟩
      · cases h'; exact ⟨t, e⟩
    have off' : ∀ (i : Nat) k1 b, (cs.set p (some (k, s)))[i]? = some (some (k1, .ref b)) → b ∉ S.own a := fun i k1 b h => by
      rcases set_get h with ⟨_, h'⟩ | ⟨rfl, h'⟩
      · exact x.off i k1 b h'
      · cases h'; exact hso b rfl
    have hr : rowsOf (cs.set p (some (k, s))) = putR (rowsOf cs) k s := by rw [rows_live x.one e, putR, if_pos hmem]
    have hlen : (rowsOf (cs.set p (some (k, s)))).length = (rowsOf cs).length := by rw [hr, putR, if_pos hmem, List.length_map]
    have hprv : ∀ {z c q : Nat}, prv (cs.set p (some (k, s))) z c q = prv cs z c q := prv_congr fun q _ => by
      by_cases hq : p = q
      · subst hq; rw [List.getElem?_set_self hp, e]; rfl
      · rw [List.getElem?_set_ne hq]
    have hcl : (cs.set p (some (k, s))).length = cs.length := List.length_set
    refine fld_of x.is.f2 <| ai_of x.is.v (hvl ▸ hp) (by omega) <| q _ (cs.set p (some (k, s))) _ mv ((⟨mv.is, (x.vals.set_live (k := k) hs hp).own x.is off' mv.le, off', fun i k1 s1 h => ?_, fun i j k1 s1 t1 h1 h2 => ?_, x.z, hlen ▸ x.cnt, fun hpk => ?_, fun hpk => ?_, hlen ▸ x.cm, x.m100⟩ : Arr _ a _ _ m).up hm) hr (if_pos hmem).symm
    · obtain ⟨s2, h⟩ := hkey h; exact x.ko i k1 s2 h
    · obtain ⟨s2, h1⟩ := hkey h1
      obtain ⟨s3, h2⟩ := hkey h2
      exact x.one i j k1 s2 s3 h1 h2
    · obtain ⟨p1, p2, p3, p4⟩ := x.pk hpk
      refine ⟨fun i k1 s1 h => ?_, p2, hcl ▸ p3, p4⟩
      obtain ⟨s2, h⟩ := hkey h; exact p1 i k1 s2 h
    · obtain ⟨p1, p2, p3⟩ := x.hs hpk
      refine ⟨⟨p1.klen.trans hcl.symm, fun i k1 s1 h => ?_, p1.hlen, p1.nlen.trans hcl.symm, fun c hc => ?_, fun i k1 s1 c h hc => ?_⟩, hcl ▸ p2, p3⟩
      · obtain ⟨s2, h⟩ := hkey h; exact p1.keys i k1 s2 h
      · rw [hprv, hcl]; exact p1.heads c hc
      · rw [hprv]
        obtain ⟨s2, h⟩ := hkey h
        exact p1.nexts i k1 s2 c h hc
  · rw [fnd_none hno]
    have hmem : k ∉ keysR (rowsOf cs) := fun h => by obtain ⟨i, s, e⟩ := mem_keys.mp h; exact hno i s e
    exact sp_add hn x hm sk hno hs hso fun S' cs' H' mv x' hr hnx => q S' cs' H' mv x' (hr.trans (if_neg hmem).symm) (hnx.trans (if_neg hmem).symm)
noncomputable def least : Int := -(2 ^ 63)
noncomputable def ak (n : Int) : Int := if n = least then 0 else n
theorem sp_append {n : Nat} (hn : 8 ≤ n) {Q : V → Hp → Prop} (x : Arr H a S cs m) (hm : m + 1 ≤ 100) {s : V} (hs : isiV H .absent s = some false) (hso : ∀ b, s = .ref b → b ∉ S.own a) (hlt : ak S.next < 2 ^ 63 - 1) (hno : .int (ak S.next) ∉ keysR (rowsOf cs))
    (q : ∀ S' cs' H', Mv a S S' H H' → Arr H' a S' cs' (m + 1) → rowsOf cs' = rowsOf cs ++ [(.int (ak S.next), s)] → S'.next = nxt S.next (.int (ak S.next)) → Q (.int (ak S.next)) H') : MC T n 105 [.ref a, s] Q H := by
  refine call_of (ρ := [some (.ref a), some s, none]) hn T_m_append rfl fun n hn => seq_mid (fun ρ H' => ρ = [some (.ref a), some s, some (.int (ak S.next))] ∧ H' = H) (fun K hK => ?_) ?_
  · refine fld_of x.is.f7 <| sp_least (up hn) <| if_c (fun h => hK _ _ ⟨?_, rfl⟩) fun h => fld_of x.is.f7 <| hK _ _ ⟨?_, rfl⟩
    · unfold ak least; rw [if_pos h]; rfl
    · unfold ak least; rw [if_neg h]; rfl
  · rintro ρ H' ⟨rfl, rfl⟩
    exact sp_greatest (up hn) <| if_f (Int.ne_of_lt hlt) <| sp_add (up hn) x hm rfl (fun i t e => hno (mem_keys.mpr ⟨i, t, e⟩)) hs hso fun S' cs' H' mv x' hr hnx => q S' cs' H' mv x' hr hnx
theorem ne_new {H : Hp} {l l' : Addr} {o : O} (e : H l = some o) (n : H l' = none) : l ≠ l' := fun h => by rw [h, n] at e; cases e
theorem step_val {f : Nat} {b d : Addr} {c : Cls} {fs : List V} {ρ : Env'} {Q : PF} {H : Hp} {v : V} (hb : H b = some (.inst c d fs)) (hf : setFld c d fs f v = some (.inst c d (fs ++ [v]))) (k : ∀ H', Le [b] H H' → H' b = some (.inst c d (fs ++ [v])) → Q .nxt ρ H') : kAs2 f v ρ Q (.ref b) H :=
  as_of hb hf (k _ (.at (.head _)) upd_self)
theorem step_new {Δ : Calls} {f : Nat} {b d : Addr} {c : Cls} {fs : List V} {ρ : Env'} {Q : PF} {H : Hp} {o : O} (h0 : ρ[0]? = some (some (.ref b))) (hb : H b = some (.inst c d fs)) (hf : ∀ v, setFld c d fs f v = some (.inst c d (fs ++ [v])))
    (k : ∀ l H', Le [b] H H' → H l = none → H' l = some o → H' b = some (.inst c d (fs ++ [.ref l])) → Q .nxt ρ H') : New o (kAs1 (EV Δ (.var 0) ρ) f ρ Q) H := fun l hl => by
  show kV ρ[0]? _ _
  rw [h0]
  exact as_of (upd_ne' hb hl) (hf _) (k l _ ((Le.new hl).trans (.at (.head _))) hl ((upd_ne (ne_new hb hl).symm).trans upd_self) upd_self)
theorem Le.made {H H' : Hp} {b d : Addr} {c : Cls} (hb : H b = none) (hd : H d = none) (l : Le [b] (upd (upd H d (.hid b)) b (.inst c d [])) H') : Le [] H H' := by
  intro x o e _
  have h1 := ne_new e hb
  exact l x o ((upd_ne h1).trans ((upd_ne (ne_new e hd)).trans e)) fun h => h1 (List.mem_singleton.mp h)
theorem sp_new_arr {n : Nat} (hn : 2 ≤ n) {Q : V → Hp → Prop} {H : Hp} {b d : Addr} (hb : H b = none) (hd : H d = none) (hne : b ≠ d) {z : Nat}
    (q : ∀ k v hd nx w H', Le [] H H' → IsA H' b ⟨d, k, v, hd, nx, w, true, [], [], [], [], z, 0, least, 0⟩ → (∀ c ∈ AS.own b ⟨d, k, v, hd, nx, w, true, [], [], [], [], z, 0, least, 0⟩, H c = none) → H w = none → Q (.ref b) H') :
    MC T n 1000 [.ref b, .int z] (kDone b Q) (upd (upd H d (.hid b)) b (.inst .arr d [])) := by
  have mk : ∀ {H' : Hp} {l : Addr}, Le [b] (upd (upd H d (.hid b)) b (.inst .arr d [])) H' → H' l = none → H l = none := fun le hl => (le.made hb hd).there List.not_mem_nil hl
  refine call_of (ρ := [some (.ref b), some (.int z)]) hn T_Arr_init rfl fun n hn => step_val (v := .bool true) upd_self rfl fun H1 le1 hb1 => step_new rfl hb1 (fun _ => rfl) fun l1 H2 le2 n2 e2 hb2 => step_new rfl hb2 (fun _ => rfl) fun l2 H3 le3 n3 e3 hb3 => step_new rfl hb3 (fun _ => rfl) fun l3 H4 le4 n4 e4 hb4 =>
    step_new rfl hb4 (fun _ => rfl) fun l4 H5 le5 n5 e5 hb5 => step_val (v := .int z) hb5 rfl fun H6 le6 hb6 => step_val (v := .int 0) hb6 rfl fun H7 le7 hb7 => sp_least hn <| step_val (v := .int least) hb7 rfl fun H8 le8 hb8 => step_val (v := .int 0) hb8 rfl fun H9 le9 hb9 => step_val (v := .bool false) hb9 rfl fun H10 le10 hb10 =>
    step_new rfl hb10 (fun _ => rfl) fun w H11 le11 n11 e11 hb11 => ?_
  have t6 := le6.trans (le7.trans (le8.trans (le9.trans le10)))
  have t5 := t6.trans le11
  have ob : ∀ {l : Addr} {H' : Hp} {o : O}, H' b = some o → H' l = none → l ∉ [b] := fun h n m => ne_new h n (List.mem_singleton.mp m).symm
  have o1 := ob hb1 n2
  have o2 := ob hb2 n3
  have le12 := le1.trans le2
  have f12 := le3.lst e2 o1
  have f13 := le4.lst f12 o1
  have f23 := le4.lst e3 o2
  have o3 := ob hb3 n4
  have lc := le12.trans le3
  exact q l1 l2 l3 l4 w H11 ((lc.trans (le4.trans (le5.trans t5))).made hb hd) ⟨⟨false, hb11⟩, (le5.trans t5).lst f13 o1, (le5.trans t5).lst f23 o2, (le5.trans t5).lst e4 o3, t5.lst e5 (ob hb4 n5), e11, nd4 (ne_new e2 n3) (ne_new f12 n4) (ne_new f13 n5) (ne_new e3 n4) (ne_new f23 n5) (ne_new e4 n5)⟩
    (fun c hc => by
      simp only [AS.own, List.mem_cons, List.mem_nil_iff, or_false] at hc
      rcases hc with rfl | rfl | rfl | rfl | rfl
      · exact hb
      · exact mk le1 n2
      · exact mk le12 n3
      · exact mk lc n4
      · exact mk (lc.trans le4) n5) (mk ((lc.trans (le4.trans le5)).trans t6) n11)
end
end Mine
namespace Mine
set_option genInjectivity true
mutual
inductive Tr where
  | sc (v : V)
  | ar (r : Trs)
inductive Trs where
  | nil
  | cons (k : V) (t : Tr) (r : Trs)
end
set_option genInjectivity false
noncomputable def isSc : V → Bool
  | .ref _ => false
  | _ => true
noncomputable def Slot (W : List Addr) (H : Hp) (s v : V) : Prop := s = v ∨ ∃ r d l, s = .ref r ∧ r ∉ W ∧ H r = some (.inst .rf d [v, .int 0, .ref l])
inductive ArR (W : List Addr) (H : Hp) (R : List (V × V) → Prop) (v : V) : Prop
  | mk (a : Addr) (S : AS) (cs : List Cell) (m : Nat) (e : v = .ref a) (x : Arr H a S cs m) (own : ∀ b ∈ S.own a, b ∉ W) (w : S.w ∉ W) (rep : R (rowsOf cs)) : ArR W H R v
mutual
noncomputable def Rep (W : List Addr) (H : Hp) : Tr → V → Prop
  | .sc u, v => v = u ∧ isSc u = true
  | .ar r, v => ArR W H (RepR W H r) v
noncomputable def RepR (W : List Addr) (H : Hp) : Trs → List (V × V) → Prop
  | .nil, R => R = []
  | .cons k t r, R => ∃ s R', R = (k, s) :: R' ∧ (∃ v, Slot W H s v ∧ Rep W H t v) ∧ RepR W H r R'
end
noncomputable def NA (H : Hp) (W : List Addr) : Prop := ∀ b ∈ W, ∀ d fs, H b ≠ some (.inst .absent d fs)
section
variable {H H' : Hp} {W W' : List Addr}
theorem Rep.off {t : Tr} {b : Addr} (h : Rep W H t (.ref b)) : b ∉ W := by
  cases t with
  | sc u => obtain ⟨e, h⟩ := h; subst e; cases h
  | ar r =>
    obtain ⟨a, S, cs, m, e, _, h, _⟩ := h
    cases e
    exact h b (by simp [AS.own])
theorem RepR.off : ∀ {r : Trs} {R : List (V × V)}, RepR W H r R → ∀ {i : Nat} {k : V} {b : Addr}, R[i]? = some (k, .ref b) → b ∉ W
  | .nil, R, h, i, k, b, e => by
    have h : R = [] := h
    subst h; simp at e
  | .cons k t r, R, h, i, k', b, e => by
    obtain ⟨s, R', rfl, ⟨v, hs, hv⟩, h⟩ := h
    cases i with
    | zero =>
      simp at e
      obtain ⟨_, rfl⟩ := e
      rcases hs with rfl | ⟨r0, d, l, e, hn, _⟩
      · exact hv.off
      · cases e; exact hn
    | succ i => exact h.off (by simpa using e)
theorem Arr.leW {a : Addr} {S : AS} {cs : List Cell} {m : Nat} (x : Arr H a S cs m) (l : Le W H H') (h1 : ∀ b ∈ S.own a, b ∉ W) (h2 : S.w ∉ W) (na : NA H W) (off : ∀ (i : Nat) k b, cs[i]? = some (some (k, .ref b)) → b ∉ W) : Arr H' a S cs m :=
  ⟨x.is.le l h1 h2, x.vals.le l (fun r d fs e hm => na r hm d fs e) off, x.off, x.ko, x.one, x.z, x.cnt, x.pk, x.hs, x.cm, x.m100⟩
theorem rows_off {cs : List Cell} (h : ∀ {i : Nat} {k : V} {b : Addr}, (rowsOf cs)[i]? = some (k, .ref b) → b ∉ W) : ∀ (i : Nat) k b, cs[i]? = some (some (k, .ref b)) → b ∉ W := by
  intro i k b e
  have : (k, V.ref b) ∈ rowsOf cs := List.mem_filterMap.mpr ⟨_, List.mem_of_getElem? e, rfl⟩
  obtain ⟨j, hj⟩ := List.mem_iff_getElem?.mp this
  exact h hj
theorem Slot.le {s v : V} (h : Slot W H s v) (l : Le W H H') : Slot W H' s v := by
  rcases h with rfl | ⟨r, d, p, e, hn, hr⟩
  · exact .inl rfl
  · exact .inr ⟨r, d, p, e, hn, l.rf hr hn⟩
theorem Slot.sub {s v : V} (h : Slot W H s v) (k : ∀ b ∈ W', b ∈ W ∨ H b = none) : Slot W' H s v := by
  rcases h with rfl | ⟨r, d, p, e, hn, hr⟩
  · exact .inl rfl
  · refine .inr ⟨r, d, p, e, fun hm => ?_, hr⟩
    rcases k r hm with h | h
    · exact hn h
    · rw [hr] at h; cases h
mutual
theorem Rep.le (l : Le W H H') (na : NA H W) : ∀ {t : Tr} {v : V}, Rep W H t v → Rep W H' t v
  | .sc u, v, h => h
  | .ar r, v, ⟨a, S, cs, m, e, x, h1, h2, h3⟩ => ⟨a, S, cs, m, e, x.leW l h1 h2 na (rows_off fun e => h3.off e), h1, h2, RepR.le l na h3⟩
theorem RepR.le (l : Le W H H') (na : NA H W) : ∀ {r : Trs} {R : List (V × V)}, RepR W H r R → RepR W H' r R
  | .nil, R, h => h
  | .cons k t r, R, ⟨s, R', e, ⟨v, hs, hv⟩, h⟩ => ⟨s, R', e, ⟨v, hs.le l, Rep.le l na hv⟩, RepR.le l na h⟩
end
theorem IsA.has {a : Addr} {S : AS} (x : IsA H a S) {b : Addr} (hb : b ∈ S.own a) : ∃ o, H b = some o := by
  obtain ⟨sh, e⟩ := x.a
  simp only [AS.own, List.mem_cons, List.mem_nil_iff, or_false] at hb
  rcases hb with rfl | rfl | rfl | rfl | rfl
  · exact ⟨_, e⟩
  · exact ⟨_, x.k⟩
  · exact ⟨_, x.v⟩
  · exact ⟨_, x.hd⟩
  · exact ⟨_, x.nx⟩
mutual
theorem Rep.sub (k : ∀ b ∈ W', b ∈ W ∨ H b = none) : ∀ {t : Tr} {v : V}, Rep W H t v → Rep W' H t v
  | .sc u, v, h => h
  | .ar r, v, ⟨a, S, cs, m, e, x, h1, h2, h3⟩ => by
    refine ⟨a, S, cs, m, e, x, fun b hb hm => ?_, fun hm => ?_, RepR.sub k h3⟩
    · rcases k b hm with h | h
      · exact h1 b hb h
      · obtain ⟨o, ho⟩ := x.is.has hb
        rw [ho] at h; cases h
    · rcases k _ hm with h | h
      · exact h2 h
      · rw [x.is.w] at h; cases h
theorem RepR.sub (k : ∀ b ∈ W', b ∈ W ∨ H b = none) : ∀ {r : Trs} {R : List (V × V)}, RepR W H r R → RepR W' H r R
  | .nil, R, h => h
  | .cons k' t r, R, ⟨s, R', e, ⟨v, hs, hv⟩, h⟩ => ⟨s, R', e, ⟨v, hs.sub k, Rep.sub k hv⟩, RepR.sub k h⟩
end
theorem Rep.nil {t : Tr} {v : V} (h : Rep W H t v) : Rep [] H t v := h.sub (by simp)
theorem RepR.nil {r : Trs} {R : List (V × V)} (h : RepR W H r R) : RepR [] H r R := h.sub (by simp)
theorem Rep.le0 {t : Tr} {v : V} (h : Rep [] H t v) (l : Le [] H H') : Rep [] H' t v := h.le l (by intro b hb; cases hb)
theorem Arr.det {a : Addr} {S S' : AS} {cs cs' : List Cell} {m m' : Nat} (x : Arr H a S cs m) (y : Arr H a S' cs' m') : cs = cs' := by
  obtain ⟨sh, e1⟩ := x.is.a
  obtain ⟨sh', e2⟩ := y.is.a
  rw [e1] at e2
  have hp : S.packed = S'.packed ∧ S.k = S'.k ∧ S.v = S'.v := by
    simp [AS.fs] at e2
    exact ⟨e2.2.1, e2.2.2.1, e2.2.2.2.1⟩
  have hv : S.vals = S'.vals := by
    have h1 := x.is.v
    have h2 := y.is.v
    rw [← hp.2.2, h1] at h2
    exact O.lst.inj (Option.some.inj h2)
  have hk : S.keys = S'.keys := by
    have h1 := x.is.k
    have h2 := y.is.k
    rw [← hp.2.1, h1] at h2
    exact O.lst.inj (Option.some.inj h2)
  have hlen : cs.length = cs'.length := by rw [← x.vals.len, ← y.vals.len, hv]
  have key : ∀ {T T' : AS} {ds ds' : List Cell} {q q' : Nat}, Arr H a T ds q → Arr H a T' ds' q' → T.vals = T'.vals → T.keys = T'.keys → T.packed = T'.packed → ∀ (i : Nat) k s, ds[i]? = some (some (k, s)) → i < ds'.length → ds'[i]? = some (some (k, s)) := by
    intro T T' ds ds' q q' x y hv hk hpk i k s e hi
    obtain ⟨f1, f2⟩ := x.vals.live i k s e
    obtain ⟨c, hc⟩ : ∃ c, ds'[i]? = some c := ⟨_, List.getElem?_eq_getElem hi⟩
    cases c with
    | none =>
      obtain ⟨r, d, fs, g1, g2⟩ := y.vals.dead i hc
      rw [← hv, f1] at g1
      cases g1
      rw [isi_abs g2] at f2; cases f2
    | some ks =>
      obtain ⟨k', s'⟩ := ks
      obtain ⟨g1, g2⟩ := y.vals.live i k' s' hc
      rw [← hv, f1] at g1
      cases g1
      cases hq : T.packed with
      | true =>
        have h1 := (x.pk hq).1 i k s e
        have h2 := (y.pk (by rw [← hpk]; exact hq)).1 i k' s hc
        rw [hc, h1, h2]
      | false =>
        have h1 := (x.hs hq).1.keys i k s e
        have h2 := (y.hs (by rw [← hpk]; exact hq)).1.keys i k' s hc
        rw [← hk, h1] at h2
        cases h2
        exact hc
  apply List.ext_getElem?
  intro i
  rcases Nat.lt_or_ge i cs.length with hi | hi
  · rcases h1 : cs[i]? with _ | _ | ⟨k, s⟩
    · have := List.getElem?_eq_getElem hi; rw [h1] at this; cases this
    · rcases h2 : cs'[i]? with _ | _ | ⟨k, s⟩
      · have := List.getElem?_eq_getElem (l := cs') (i := i) (by omega); rw [h2] at this; cases this
      · rfl
      · have := key y x hv.symm hk.symm hp.1.symm i k s h2 hi
        rw [h1] at this; cases this
    · rw [key x y hv hk hp.1 i k s h1 (by omega)]
  · rw [List.getElem?_eq_none hi, List.getElem?_eq_none (by omega)]
theorem Rep.notRf {t : Tr} {r d : Addr} {fs : List V} (h : Rep W H t (.ref r)) : H r ≠ some (.inst .rf d fs) := by
  cases t with
  | sc u => obtain ⟨e, h⟩ := h; subst e; cases h
  | ar q =>
    obtain ⟨a, S, cs, m, e, x, _⟩ := h
    cases e
    obtain ⟨d', fs', e⟩ := x.is.inst
    rw [e]; simp
theorem Slot.det {W' : List Addr} {s v v' : V} {t t' : Tr} (h : Slot W H s v) (hv : Rep W H t v) (h' : Slot W' H s v') (hv' : Rep W' H t' v') : v = v' := by
  rcases h with rfl | ⟨r, d, l, rfl, _, hr⟩ <;> rcases h' with rfl | ⟨r', d', l', e', _, hr'⟩
  · rfl
  · subst e'; exact absurd hr' hv.notRf
  · exact absurd hr hv'.notRf
  · cases e'; rw [hr] at hr'; simp at hr'; exact hr'.2.1
mutual
theorem Rep.det : ∀ {t t' : Tr} {v : V}, Rep W H t v → Rep W' H t' v → t = t'
  | .sc u, t', v, h, h' => by
    cases t' with
    | sc u' => rw [← h.1, ← h'.1]
    | ar r =>
      obtain ⟨h1, h2⟩ := h
      obtain ⟨a, _, _, _, e⟩ := h'
      subst h1; rw [e] at h2; cases h2
  | .ar r, t', v, h, h' => by
    obtain ⟨a, S, cs, m, e, x, _, _, h⟩ := h
    cases t' with
    | sc u =>
      obtain ⟨h1, h2⟩ := h'
      subst h1; rw [e] at h2; cases h2
    | ar r' =>
      obtain ⟨a', S', cs', m', e', x', _, _, h'⟩ := h'
      cases e.symm.trans e'
      cases x.det x'
      rw [RepR.det h h']
theorem RepR.det : ∀ {r r' : Trs} {R : List (V × V)}, RepR W H r R → RepR W' H r' R → r = r'
  | .nil, r', R, h, h' => by
    cases r' with
    | nil => rfl
    | cons k t r => obtain ⟨s, R', e, _⟩ := h'; cases (show R = [] from h).symm.trans e
  | .cons k t r, r', R, h, h' => by
    obtain ⟨s, R', e, ⟨v, hs, hv⟩, h⟩ := h
    cases r' with
    | nil => cases (show R = [] from h').symm.trans e
    | cons k' t' r' =>
      obtain ⟨s', R'', e', ⟨v', hs', hv'⟩, h'⟩ := h'
      cases e.symm.trans e'
      cases Slot.det hs hv hs' hv'
      rw [Rep.det hv hv', RepR.det h h']
end
end
mutual
noncomputable def Tr.size : Tr → Nat
  | .sc _ => 1
  | .ar r => r.size + 1
noncomputable def Trs.size : Trs → Nat
  | .nil => 0
  | .cons _ t r => t.size + r.size
end
mutual
noncomputable def Tr.ht : Tr → Nat
  | .sc _ => 0
  | .ar r => r.ht + 1
noncomputable def Trs.ht : Trs → Nat
  | .nil => 0
  | .cons _ t r => max t.ht r.ht
end
noncomputable def Trs.len : Trs → Nat
  | .nil => 0
  | .cons _ _ r => r.len + 1
theorem RepR.len {W : List Addr} {H : Hp} : ∀ {r : Trs} {R : List (V × V)}, RepR W H r R → R.length = r.len
  | .nil, R, h => by
    have h : R = [] := h
    subst h; rfl
  | .cons k t r, R, ⟨s, R', e, _, h⟩ => by
    subst e
    show R'.length + 1 = r.len + 1
    rw [h.len]
end Mine
namespace Mine
noncomputable def Trs.toL : Trs → List (V × Tr)
  | .nil => []
  | .cons k t r => (k, t) :: r.toL
theorem toL_inj : ∀ {r r' : Trs}, r.toL = r'.toL → r = r'
  | .nil, r', h => by
    cases r' with
    | nil => rfl
    | cons => cases h
  | .cons k t r, r', h => by
    cases r' with
    | nil => cases h
    | cons k' t' r' =>
      obtain ⟨h1, h2⟩ := List.cons.inj h
      cases h1
      rw [toL_inj h2]
theorem toL_len : ∀ {r : Trs}, r.toL.length = r.len
  | .nil => rfl
  | .cons k t r => congrArg (· + 1) toL_len
theorem ht_mem : ∀ {r : Trs} {i : Nat} {k : V} {t : Tr}, r.toL[i]? = some (k, t) → t.ht ≤ r.ht
  | .nil, i, k, t, h => nomatch h
  | .cons k t r, i, k', t', h => by
    cases i with
    | zero => cases h; exact Nat.le_max_left _ _
    | succ i => exact Nat.le_trans (ht_mem (i := i) h) (Nat.le_max_right _ _)
theorem RepR.get {W : List Addr} {H : Hp} : ∀ {r : Trs} {R : List (V × V)}, RepR W H r R → ∀ {i : Nat} {k s : V}, R[i]? = some (k, s) → ∃ t v, r.toL[i]? = some (k, t) ∧ Slot W H s v ∧ Rep W H t v
  | .nil, R, h, i, k, s, e => by
    cases (show R = [] from h); cases e
  | .cons k t r, R, h, i, k', s', e => by
    obtain ⟨s, R', rfl, ⟨v, hs, hv⟩, h⟩ := h
    cases i with
    | zero => cases e; exact ⟨t, v, rfl, hs, hv⟩
    | succ i => exact h.get (i := i) e
theorem Slot.le0 {H H' : Hp} {s v : V} (h : Slot [] H s v) (l : Le [] H H') : Slot [] H' s v := h.le l
section
variable {H H' : Hp}
theorem bind2 {H : Hp} {i j : Nat} {t : Addr} {x y : V} {ρ : Env'} (e : H t = some (.tup [x, y])) : bindT H [i, j] (.ref t) ρ = some ((ρ.set i (some x)).set j (some y)) := congrArg (fun o => (tupO o).bind (pairT i j ρ)) e
theorem step2_of {i j : Nat} {S : Env' → PF → Hp → Prop} {R : PF} {ρ : Env'} {t : Addr} {x y : V} (e : H t = some (.tup [x, y])) (q : S ((ρ.set i (some x)).set j (some y)) R H) : kStep [i, j] S (.ref t) R ρ H := by
  unfold kStep
  rw [bind2 e]
  exact q
theorem at_of {i j : Nat} {Q : PF} {ρ : Env'} {t : Addr} {x y : V} (e : H t = some (.tup [x, y])) (q : Q .nxt ((ρ.set i (some x)).set j (some y)) H) : kAt i j ρ Q (.ref t) H := by
  unfold kAt
  rw [show tupOf H (.ref t) = some [x, y] from congrArg tupO e]
  exact q
theorem is_same {a : Addr} : cmpV H .Is (.ref a) (.ref a) = some true := if_pos rfl
theorem is_diff {a b d d' : Addr} {c c' : Cls} {fs fs' : List V} (h : a ≠ b) (e1 : H a = some (.inst c d fs)) (e2 : H b = some (.inst c' d' fs')) : cmpV H .Is (.ref a) (.ref b) = some false := by
  refine (if_neg h).trans ?_
  rw [e1, e2]
  rfl
theorem Rep.isi {t : Tr} {v : V} (h : Rep [] H t v) : isiV H .rf v = some false ∧ isiV H .absent v = some false := by
  cases t with
  | sc u =>
    obtain ⟨rfl, h⟩ := h
    cases v <;> first | exact ⟨rfl, rfl⟩ | cases h
  | ar r =>
    obtain ⟨a, S, cs, m, rfl, x⟩ := h
    obtain ⟨d, fs, e⟩ := x.is.inst
    exact ⟨isi_obj e, isi_obj e⟩
theorem sp_deref {n : Nat} (hn : 1 ≤ n) {Q : V → Hp → Prop} {t : Tr} {s v : V} (hs : Slot [] H s v) (hv : Rep [] H t v) (q : Q v H) : MC T n 3 [s] Q H := by
  obtain ⟨i1, i2⟩ := hv.isi
  refine call_of (ρ := [some s]) hn T_deref rfl fun n hn => ?_
  rcases hs with rfl | ⟨r, d, l, rfl, _, hr⟩
  · exact isi_of i1 <| isi_of i2 q
  · exact isi_of (r := true) (isi_obj hr) <| fld_of (f := 11) (fld_obj hr) <| isi_of i2 q
noncomputable def kd : Tr → Str
  | .sc .none => Str.ofString "null"
  | .sc (.bool _) => Str.ofString "bool"
  | .sc (.int _) => Str.ofString "int"
  | .sc (.str _) => Str.ofString "string"
  | .sc (.ref _) => Str.ofString "none"
  | .ar _ => Str.ofString "array"
theorem sp_kind {n : Nat} (hn : 1 ≤ n) {Q : V → Hp → Prop} {t : Tr} {v : V} (hv : Rep [] H t v) (q : Q (.str (kd t)) H) : MC T n 25 [v] Q H := by
  refine call_of (ρ := [some v]) hn T_kind rfl fun n hn => ?_
  cases t with
  | sc u =>
    obtain ⟨rfl, h⟩ := hv
    cases v with
    | ref a => cases h
    | _ => exact q
  | ar r =>
    obtain ⟨a, S, cs, m, rfl, x⟩ := hv
    obtain ⟨d, fs, e⟩ := x.is.inst
    exact isi_of (r := false) (isi_obj e) <| isi_of (r := false) (isi_obj e) <| isi_of (r := false) (isi_obj e) <| isi_of (r := true) (isi_obj e) q
theorem kd_ne : Str.ofString "null" ≠ Str.ofString "array" ∧ Str.ofString "bool" ≠ Str.ofString "array" ∧ Str.ofString "int" ≠ Str.ofString "array" ∧ Str.ofString "string" ≠ Str.ofString "array" ∧ Str.ofString "null" ≠ Str.ofString "object" ∧ Str.ofString "bool" ≠ Str.ofString "object" ∧ Str.ofString "int" ≠ Str.ofString "object" ∧ Str.ofString "string" ≠ Str.ofString "object" ∧
    Str.ofString "null" ≠ Str.ofString "bool" ∧ Str.ofString "null" ≠ Str.ofString "int" ∧ Str.ofString "null" ≠ Str.ofString "string" ∧ Str.ofString "bool" ≠ Str.ofString "int" ∧ Str.ofString "bool" ≠ Str.ofString "string" ∧ Str.ofString "int" ≠ Str.ofString "string" ∧ Str.ofString "array" ≠ Str.ofString "object" := by decide +kernel
theorem kd_arr {t : Tr} {H : Hp} {v : V} (h : Rep [] H t v) : (kd t = Str.ofString "array" ↔ ∃ r, t = .ar r) ∧ kd t ≠ Str.ofString "object" := by
  obtain ⟨h1, h2, h3, h4, h5, h6, h7, h8, _, _, _, _, _, _, h9⟩ := kd_ne
  cases t with
  | sc u =>
    obtain ⟨rfl, h⟩ := h
    cases v with
    | none => exact ⟨⟨fun h => absurd h h1, fun ⟨r, e⟩ => by cases e⟩, h5⟩
    | bool b => exact ⟨⟨fun h => absurd h h2, fun ⟨r, e⟩ => by cases e⟩, h6⟩
    | int i => exact ⟨⟨fun h => absurd h h3, fun ⟨r, e⟩ => by cases e⟩, h7⟩
    | str s => exact ⟨⟨fun h => absurd h h4, fun ⟨r, e⟩ => by cases e⟩, h8⟩
    | ref a => cases h
  | ar r => exact ⟨⟨fun _ => ⟨r, rfl⟩, fun _ => rfl⟩, h9⟩
theorem eq_sc {u w : V} (h1 : isSc u = true) (h2 : isSc w = true) (hk : kd (.sc u) = kd (.sc w)) : cmpV H .Eq u w = some (decide (u = w)) := by
  obtain ⟨_, _, _, _, _, _, _, _, n1, n2, n3, n4, n5, n6, _⟩ := kd_ne
  cases u with
  | none => cases w with
    | none => rfl
    | bool => exact absurd hk n1
    | int => exact absurd hk n2
    | str => exact absurd hk n3
    | ref => cases h2
  | bool b => cases w with
    | none => exact absurd hk.symm n1
    | bool b' => exact congrArg some (decide_eq_decide.mpr ⟨congrArg _, V.bool.inj⟩)
    | int => exact absurd hk n4
    | str => exact absurd hk n5
    | ref => cases h2
  | int i => cases w with
    | none => exact absurd hk.symm n2
    | bool => exact absurd hk.symm n4
    | int => exact c_eq_kk rfl rfl
    | str => exact absurd hk n6
    | ref => cases h2
  | str s => cases w with
    | none => exact absurd hk.symm n3
    | bool => exact absurd hk.symm n5
    | int => exact absurd hk.symm n6
    | str => exact c_eq_kk rfl rfl
    | ref => cases h2
  | ref => cases h1
theorem same_at_of {n k : Nat} {t1 t2 : Tr} {Q : V → Hp → Prop} {a b : V} {dep : Nat} (hn : k + 1 ≤ n) (h1 : 1 ≤ k) (ha : Rep [] H t1 a) (hb : Rep [] H t2 b)
    (harr : ∀ m r1 r2 (Q' : V → Hp → Prop), k ≤ m → t1 = .ar r1 → t2 = .ar r2 → (∀ r H', Le [] H H' → (r = true ↔ r1 = r2) → Q' (.bool r) H') → MC T m 28 [a, b, .int dep] Q' H)
    (q : ∀ r H', Le [] H H' → (r = true ↔ t1 = t2) → Q (.bool r) H') : MC T n 27 [a, b, .int dep] Q H := by
  refine call_of (ρ := [some a, some b, some (.int dep), none]) hn T_same_at rfl fun n hn => sp_kind (Nat.le_trans h1 hn) ha <| sp_kind (Nat.le_trans h1 hn) hb <| if_nc (fun hk => q false H .refl ⟨(fun h => nomatch h), fun h => absurd (congrArg kd h) hk⟩) fun hk => ?_
  obtain ⟨k1, k2⟩ := kd_arr ha
  obtain ⟨k3, k4⟩ := kd_arr hb
  refine if_c (fun harr' => ?_) fun harr' => if_f k2 ?_
  · obtain ⟨r1, rfl⟩ := k1.mp harr'
    obtain ⟨r2, rfl⟩ := k3.mp (hk ▸ harr')
    obtain ⟨a', S1, cs1, m1, rfl, xa⟩ := id ha
    obtain ⟨b', S2, cs2, m2, rfl, xb⟩ := id hb
    by_cases hab : a' = b'
    · subst hab
      exact cmp_of is_same (q true H .refl ⟨fun _ => ha.det hb, fun _ => rfl⟩)
    · obtain ⟨d1, fs1, e1⟩ := xa.is.inst
      obtain ⟨d2, fs2, e2⟩ := xb.is.inst
      exact cmp_of (is_diff hab e1 e2) <| harr n r1 r2 _ hn rfl rfl fun r H' l h => q r H' l (h.trans ⟨congrArg _, Tr.ar.inj⟩)
  · cases t1 with
    | ar r => exact absurd rfl harr'
    | sc u =>
      cases t2 with
      | ar r => exact absurd hk harr'
      | sc w =>
        obtain ⟨rfl, hu⟩ := ha
        obtain ⟨rfl, hw⟩ := hb
        exact cmp_of (eq_sc hu hw hk) (q _ H .refl (decide_eq_true_iff.trans ⟨congrArg _, Tr.sc.inj⟩))
inductive SmI (la : Addr) (H2 : Hp) (a b lb : V) (dep : Nat) (r1 r2 : Trs) (i : Nat) (H' : Hp) : Env' → Prop
  | mk (l : Le [] H2 H') (o1 o2 o3 o4 : Option V) (heq : ∀ j, j < i → r1.toL[j]? = r2.toL[j]?) : SmI la H2 a b lb dep r1 r2 i H' [some a, some b, some (.int dep), some lb, some (.int i), o1, o2, o3, o4]
theorem same_main : ∀ h : Nat, ∀ {t1 t2 : Tr} {n : Nat} {Q : V → Hp → Prop} {H : Hp} {a b : V} {dep : Nat}, t1.ht ≤ h → 2 * h + 4 ≤ n → Rep [] H t1 a → Rep [] H t2 b → dep + t1.ht ≤ 40 → (∀ r H', Le [] H H' → (r = true ↔ t1 = t2) → Q (.bool r) H') → MC T n 27 [a, b, .int dep] Q H := by
  intro h
  induction h with
  | zero =>
    intro t1 t2 n Q H a b dep hh hn ha hb hd q
    refine same_at_of hn (by decide) ha hb (fun m r1 r2 Q' _ e1 _ _ => ?_) q
    subst e1
    exact absurd hh (Nat.not_succ_le_zero _)
  | succ h ih =>
    intro t1 t2 n Q H a b dep hh hn ha hb hd q
    refine same_at_of (k := 2 * h + 5) hn (by omega) ha hb (fun m r1 r2 Q' hm e1 e2 q' => ?_) q
    subst e1 e2
    have hh' : r1.ht ≤ h := Nat.le_of_succ_le_succ hh
    have hd' : dep + 1 + r1.ht ≤ 40 := by rw [Nat.add_right_comm]; exact hd
    obtain ⟨a', S1, cs1, m1, rfl, xa, _, _, ra⟩ := id ha
    obtain ⟨b', S2, cs2, m2, rfl, xb, _, _, rb⟩ := id hb
    have hlen : S1.count = S2.count → (rowsOf cs1).length = (rowsOf cs2).length := fun h => Int.ofNat.inj ((xa.cnt.symm.trans h).trans xb.cnt)
    refine call_of (ρ := [some (.ref a'), some (.ref b'), some (.int dep), none, none, none, none, none, none]) hm T_same_arrays rfl fun n hn => fld_of xa.is.f6 <| fld_of xb.is.f6 <| if_nc (fun hc => ?_) fun hc => if_f (by omega) ?_
    · exact q' false H .refl ⟨(fun h => nomatch h), fun h => absurd (by rw [xa.cnt, xb.cnt, ra.len, rb.len, h]) hc⟩
    · have hlen := hlen hc
      refine sp_slots_of (by omega) xb fun lb H1 refsB le1 nb eb tb => sp_slots_of (by omega) (xa.le le1) fun la H2 refsA le2 na ea ta => for_of ea ?_
      refine for_rule (fun i ρ H' => SmI la H2 (.ref a') (.ref b') (.ref lb) dep r1 r2 i H' ρ) ⟨.refl, none, none, none, none, fun j h => absurd h (Nat.not_lt_zero _)⟩ ?_ ?_ ?_
      · rintro i ρ H' ⟨l⟩; exact l.lst ea List.not_mem_nil
      · rintro i v ρ H' K' hv ⟨l, o1, o2, o3, o4, heq⟩ hK' hR'
        obtain ⟨t, k, s, rfl, hrow, ht⟩ := ta.get hv
        obtain ⟨T1, v1, g1, s1, p1⟩ := ra.get hrow
        have hil := (List.getElem?_eq_some_iff.mp hrow).1
        have hrow2 := List.getElem?_eq_getElem (hlen ▸ hil)
        obtain ⟨t2, hw2, ht2⟩ := tb.2 i _ _ hrow2
        obtain ⟨T2, v2, g2, s2, p2⟩ := rb.get hrow2
        have l2 := le2.trans l
        have leA := le1.trans l2
        have hi : i < 2 ^ 62 := by have := rows_len (cs := cs1); have := xa.small; omega
        have hk1 : scalar k = true := by
          obtain ⟨j, hj⟩ := row_mem hrow; exact xa.ko _ _ _ hj
        have hk2 : scalar ((rowsOf cs2)[i]'(hlen ▸ hil)).1 = true := by
          obtain ⟨j, hj⟩ := row_mem hrow2; exact xb.ko _ _ _ hj
        have hT : T1.ht ≤ h := Nat.le_trans (ht_mem g1) hh'
        refine step2_of (l.tup ht List.not_mem_nil) <| idx_of ((idx_lst (l2.lst eb List.not_mem_nil) hi).trans hw2) <| at_of (l2.tup ht2 List.not_mem_nil) <| cmp_of (c_ne_kk hk1 hk2) <| if_nc (fun hkk => ?_) fun hkk => ?_
        · exact hR' _ _ _ (q' false _ leA ⟨(fun h => nomatch h), fun e => by subst e; rw [g1] at g2; exact absurd (congrArg Prod.fst (Option.some.inj g2)) hkk⟩)
        · refine sp_deref (by omega) (s1.le0 leA) (p1.le0 leA) <| sp_deref (by omega) (s2.le0 leA) (p2.le0 leA) <| ih (dep := dep + 1) (t1 := T1) (t2 := T2) hT (by omega) (p1.le0 leA) (p2.le0 leA) (by have := ht_mem g1; omega) fun r H3 l3 hr => ?_
          cases r with
          | true => exact hK' _ _ ⟨l.trans l3, _, _, _, _, fun j hj => (Nat.lt_succ_iff_lt_or_eq.mp hj).elim (heq j) fun h => by rw [h, g1, g2, hkk, hr.mp rfl]⟩
          | false => exact hR' _ _ _ (q' false _ (leA.trans l3) ⟨(fun h => nomatch h), fun e => by subst e; rw [g1] at g2; exact hr.mpr (congrArg Prod.snd (Option.some.inj g2))⟩)
      · rintro ρ H' ⟨l, o1, o2, o3, o4, heq⟩
        refine q' true H' ((le1.trans le2).trans l) ⟨fun _ => toL_inj (List.ext_getElem? fun j => ?_), fun _ => rfl⟩
        rcases Nat.lt_or_ge j refsA.length with h | h
        · exact heq j h
        · rw [ta.len] at h
          rw [List.getElem?_eq_none (by rw [toL_len, ← ra.len]; exact h), List.getElem?_eq_none (by rw [toL_len, ← rb.len, ← hlen]; exact h)]
theorem sp_same {t1 t2 : Tr} {n : Nat} {Q : V → Hp → Prop} {H : Hp} {a b : V} (hh : t1.ht ≤ 40) (hn : 2 * t1.ht + 5 ≤ n) (ha : Rep [] H t1 a) (hb : Rep [] H t2 b) (q : ∀ r H', Le [] H H' → (r = true ↔ t1 = t2) → Q (.bool r) H') : MC T n 26 [a, b] Q H :=
  call_of (ρ := [some a, some b]) hn T_same rfl fun n hn => same_main t1.ht (dep := 0) (Nat.le_refl _) hn ha hb (by omega) q
end
end Mine
namespace Mine
section
variable {H H' : Hp} {a : Addr} {S : AS} {cs : List Cell} {m : Nat}
theorem Rep.isArr {t : Tr} {v : V} (h : Rep [] H t v) : (∃ b d fs, v = .ref b ∧ H b = some (.inst .arr d fs) ∧ 9 < fs.length) ∨ isiV H .arr v = some false := by
  cases t with
  | sc u =>
    obtain ⟨rfl, h⟩ := h
    refine .inr ?_
    cases v <;> first | rfl | cases h
  | ar r =>
    obtain ⟨a, S, cs, m, rfl, x⟩ := h
    obtain ⟨sh, e⟩ := x.is.a
    exact .inl ⟨a, _, _, rfl, e, show 9 < 11 by decide⟩
theorem sp_marked {n : Nat} (hn : 1 ≤ n) {Q : V → Hp → Prop} {t : Tr} {v : V} (hv : Rep [] H t v) (q : ∀ H', Le [] H H' → Q v H') : MC T n 19 [v] Q H := by
  refine call_of (ρ := [some v]) hn T_marked rfl fun n hn => ?_
  rcases hv.isArr with ⟨b, d, fs, rfl, e, h9⟩ | h
  · refine isi_of (r := true) (isi_obj e) <| as_of e (if_pos h9) <| q _ fun c o ec _ => ?_
    by_cases hc : c = b
    · subst hc
      rw [e] at ec; cases ec
      exact ⟨_, upd_self, .inr ⟨_, _, _, rfl, rfl⟩⟩
    · exact ⟨o, (upd_ne hc).trans ec, O.le_refl _⟩
  · exact isi_of h (q _ .refl)
theorem sp_copied_dead {n : Nat} (hn : 2 ≤ n) {Q : V → Hp → Prop} {r d : Addr} {fs : List V} (e : H r = some (.inst .absent d fs)) (q : ∀ b d H', Le [] H H' → H' b = some (.inst .absent d [.bool false]) → Q (.ref b) H') : MC T n 23 [.ref r] Q H :=
  call_of (ρ := [some (.ref r)]) hn T_copied rfl fun n hn => isi_of (r := true) (isi_obj e) fun b d hb hd hne => sp_new_absent hn hb hd hne fun H' l h => q b d H' l h
theorem sp_copied {n : Nat} (hn : 2 ≤ n) {Q : V → Hp → Prop} {t : Tr} {s v : V} (hs : Slot [] H s v) (hv : Rep [] H t v) (q : ∀ H', Le [] H H' → Q v H') : MC T n 23 [s] Q H := by
  refine call_of (ρ := [some s]) hn T_copied rfl fun n hn => ?_
  obtain ⟨i1, i2⟩ := hv.isi
  rcases hs with rfl | ⟨r, d, l, rfl, _, hr⟩
  · exact isi_of i2 <| isi_of i1 <| sp_marked hn hv q
  · exact isi_of (r := false) (isi_obj hr) <| isi_of (r := true) (isi_obj hr) <| fld_of (f := 12) (x := .int 0) (fld_obj hr) <| fld_of (f := 11) (fld_obj hr) <| sp_marked hn hv q
inductive Cop (H : Hp) : List Cell → List Cell → Prop
  | nil : Cop H [] []
  | dead {c c' : List Cell} : Cop H c c' → Cop H (none :: c) (none :: c')
  | live {c c' : List Cell} {k s v : V} {t : Tr} : Slot [] H s v → Rep [] H t v → Cop H c c' → Cop H (some (k, s) :: c) (some (k, v) :: c')
theorem Cop.len {c c' : List Cell} (h : Cop H c c') : c.length = c'.length := by
  induction h with
  | nil => rfl
  | dead _ ih => exact congrArg (· + 1) ih
  | live _ _ _ ih => exact congrArg (· + 1) ih
theorem Cop.rep {W : List Addr} {c c' : List Cell} (h : Cop H c c') : ∀ {r : Trs}, RepR W H r (rowsOf c) → RepR W H r (rowsOf c') := by
  induction h with
  | nil => exact fun h => h
  | dead _ ih => exact fun h => ih h
  | @live c c' k s v t hs hv _ ih =>
    intro r h
    cases r with
    | nil => exact absurd (show (k, s) :: rowsOf c = [] from h) (List.cons_ne_nil _ _)
    | cons k1 t1 r =>
      obtain ⟨s1, R', e, ⟨v1, hs1, hv1⟩, h⟩ := h
      cases (show (k, s) :: rowsOf c = (k1, s1) :: R' from e)
      cases Slot.det hs hv hs1 hv1
      exact ⟨v, rowsOf c', rfl, ⟨v, .inl rfl, hv1⟩, ih h⟩
theorem Cop.back {c c' : List Cell} (h : Cop H c c') : ∀ {i : Nat} {k v : V}, c'[i]? = some (some (k, v)) → ∃ s t, c[i]? = some (some (k, s)) ∧ Slot [] H s v ∧ Rep [] H t v := by
  induction h with
  | nil => exact fun e => nomatch e
  | dead _ ih =>
    intro i k v e
    cases i with
    | zero => cases e
    | succ i => exact ih (i := i) e
  | live hs hv _ ih =>
    intro i k v e
    cases i with
    | zero => cases e; exact ⟨_, _, rfl, hs, hv⟩
    | succ i => exact ih (i := i) e
theorem Cop.pushD {c c' : List Cell} (h : Cop H c c') : Cop H (c ++ [none]) (c' ++ [none]) := by
  induction h with
  | nil => exact .dead .nil
  | dead _ ih => exact .dead ih
  | live hs hv _ ih => exact .live hs hv ih
theorem Cop.pushL {k s v : V} {t : Tr} (hs : Slot [] H s v) (hv : Rep [] H t v) {c c' : List Cell} (h : Cop H c c') : Cop H (c ++ [some (k, s)]) (c' ++ [some (k, v)]) := by
  induction h with
  | nil => exact .live hs hv .nil
  | dead _ ih => exact .dead ih
  | live hs hv _ ih => exact .live hs hv ih
theorem Cop.rows {c c' : List Cell} (h : Cop H c c') : (rowsOf c').length = (rowsOf c).length := by
  induction h with
  | nil => rfl
  | dead _ ih => exact ih
  | live _ _ _ ih => exact congrArg (· + 1) ih
structure Fr (H0 H : Hp) (b : Addr) (S : AS) : Prop where
  le : Le [] H0 H
  is : IsA H b S
  own : ∀ c ∈ S.own b, H0 c = none
  w : H0 S.w = none
theorem Fr.mv {H0 H H' : Hp} {b : Addr} {S S' : AS} (x : Fr H0 H b S) (mv : Mv b S S' H H') : Fr H0 H' b S' := by
  refine ⟨x.le.trans' mv.le fun c hc => .inr (x.own c hc), mv.is, fun c hc => ?_, by rw [mv.w.1]; exact x.w⟩
  rcases mv.own c hc with h | h
  · exact x.own c h
  · exact x.le.there (by simp) h
theorem Fr.other {H0 H H' : Hp} {b : Addr} {S : AS} (x : Fr H0 H b S) (l : Le [] H H') : Fr H0 H' b S := ⟨x.le.trans l, x.is.le0 l, x.own, x.w⟩
theorem Fr.setW {H0 H : Hp} {b : Addr} {S : AS} (x : Fr H0 H b S) {l : Addr} (hl : H l = none) {sh : Bool} : Fr H0 (upd (upd H l .dct) b (.inst .arr S.d (({ S with w := l } : AS).fs sh))) b { S with w := l } := by
  have x1 := x.other (.new (o := .dct) hl)
  have i := x1.is
  have hlb := (x.is.far hl).1
  refine ⟨x1.le.trans' (.at (W := [b]) (.head _)) (fun c hc => .inr ?_), ⟨⟨sh, upd_self⟩, (upd_ne i.ak.symm).trans i.k, (upd_ne i.av.symm).trans i.v, (upd_ne i.ahd.symm).trans i.hd, (upd_ne i.anx.symm).trans i.nx, (upd_ne hlb).trans upd_self, i.ne⟩, fun c hc => x.own c hc, x.le.there List.not_mem_nil hl⟩
  cases List.mem_singleton.mp hc
  exact x.own _ (.head _)
end
end Mine
namespace Mine
section
variable {H0 H H' : Hp} {a : Addr} {S : AS} {cs : List Cell} {m : Nat}
theorem Rep.has {t : Tr} {c : Addr} (h : Rep [] H t (.ref c)) : H c ≠ none := by
  cases t with
  | sc u => obtain ⟨e, h⟩ := h; subst e; cases h
  | ar r =>
    obtain ⟨a, S, cs, m, e, x⟩ := h
    cases e
    obtain ⟨d, fs, e⟩ := x.is.inst
    rw [e]; exact Option.some_ne_none _
theorem Rep.notAbs {t : Tr} {v : V} (h : Rep [] H t v) : isiV H .absent v = some false := h.isi.2
theorem Fr.vals {b : Addr} {S S' : AS} {acc : List V} {cs1 : List Cell} (x : Fr H0 H b S) (vl : Vals H acc cs1) (off : ∀ (i : Nat) k c, cs1[i]? = some (some (k, .ref c)) → H0 c ≠ none) (mv : Mv b S S' H H') : Vals H' acc cs1 := vl.own x.is (fun i k c e h => off i k c e (x.own c h)) mv.le
inductive CpI (H : Hp) (a : Addr) (S : AS) (acc : List V) (cs1 : List Cell) (b d k2 l hd nx w : Addr) (H' : Hp) : Env' → Prop
  | mk (z : Int) (f : Fr H H' b ⟨d, k2, l, hd, nx, w, S.packed, S.keys, acc, [], [], S.size, S.count, S.next, z⟩) (vl : Vals H' acc cs1) : CpI H a S acc cs1 b d k2 l hd nx w H' [some (.ref a), some (.ref b), none]
theorem sp_copy {n : Nat} (hn : 6 ≤ n) {Q : V → Hp → Prop} (x : Arr H a S cs m) {W : List Addr} {r : Trs} (rep : RepR W H r (rowsOf cs))
    (q : ∀ b S' cs' H', Fr H H' b S' → Arr H' b S' cs' m → RepR W H r (rowsOf cs') → S'.next = S.next → Q (.ref b) H') : MC T n 24 [.ref a] Q H := by
  have hsm := x.small
  have hvl := x.vals.len
  have hkl : S.keys.length ≤ 800 := by
    cases e : S.packed with
    | true => rw [(x.pk e).2.1]; exact Nat.zero_le _
    | false => rw [(x.hs e).1.klen]; exact hsm.2
  refine call_of (ρ := [some (.ref a), none, none]) hn T_copy rfl fun n hn => fld_of x.is.f5 fun b d hb hd hne => sp_new_arr (up hn) hb hd hne fun k v hd' nx w H1 l1 x1 fr1 w1 => ?_
  have f1 : Fr H H1 b _ := ⟨l1, x1, fr1, w1⟩
  refine fld_of (x.is.le0 l1).f0 <| as_f x1 ⟨d, k, v, hd', nx, w, S.packed, [], [], [], [], S.size, 0, least, 0⟩ (fun _ => rfl) fun H2 m2 => ?_
  have f2 := f1.mv m2
  have y2 := x.is.le0 f2.le
  refine fld_of y2.f1 ⟨S.keys, by omega, .inl y2.k, fun k2 hk2 => as_mv (f2.is.new hk2) (fun sh => Mv.newK f2.is hk2) (fun _ => rfl) fun H3 m3 => ?_⟩
  have f3 := f2.mv m3
  have y3 := x.is.le0 f3.le
  refine fld_of y3.f2 <| comp_of y3.v <| comp_rule (fun i acc H' => Le [] H3 H' ∧ acc.length = i ∧ ∃ cs1, Cop H (cs.take i) cs1 ∧ Vals H' acc cs1) (by omega) ⟨.refl, rfl, [], .nil, ⟨rfl, (fun i e => nomatch e), fun i k s e => nomatch e⟩⟩ (fun i acc H' h => Nat.le_of_eq h.2.1) (fun i acc H' h => h.1.lst y3.v List.not_mem_nil) ?_ ?_
  · rintro i u acc H' K hv ⟨hle, hacc, cs1, hcop, hvals⟩ hK
    have hc := List.getElem?_eq_getElem (hvl ▸ (List.getElem?_eq_some_iff.mp hv).1)
    have htk : ∀ {c : Cell}, cs[i]? = some c → cs.take (i + 1) = cs.take i ++ [c] := fun hc => by rw [List.take_add_one, hc]; rfl
    have leH : Le [] H H' := f3.le.trans hle
    have up' : ∀ {H4 : Hp}, Le [] H' H4 → Vals H4 acc cs1 := fun l4 => hvals.le l4 (fun _ _ _ _ => List.not_mem_nil) fun _ _ _ _ => List.not_mem_nil
    have ha : ∀ {v : V}, (acc ++ [v]).length = i + 1 := by intro v; rw [List.length_append, hacc]; rfl
    rcases h : cs[i]'(hvl ▸ (List.getElem?_eq_some_iff.mp hv).1) with _ | ⟨k0, s⟩
    · have hd := hc.trans (congrArg some h)
      obtain ⟨r0, d0, fs0, e1, e2⟩ := x.vals.dead _ hd
      cases hv.symm.trans e1
      exact sp_copied_dead (up hn) (leH.absent e2 List.not_mem_nil) fun r1 d1 H4 l4 e4 => hK _ _ ⟨hle.trans l4, ha, cs1 ++ [none], htk (c := none) hd ▸ hcop.pushD, (up' l4).push_dead e4⟩
    · have hd := hc.trans (congrArg some h)
      cases hv.symm.trans (x.vals.live _ _ _ hd).1
      obtain ⟨j, hj⟩ := List.mem_iff_getElem?.mp (List.mem_filterMap.mpr ⟨_, List.mem_of_getElem? hd, rfl⟩ : (k0, u) ∈ rowsOf cs)
      obtain ⟨t, v0, _, hs, hv0⟩ := rep.nil.get hj
      exact sp_copied (up hn) (hs.le0 leH) (hv0.le0 leH) fun H4 l4 => hK _ _ ⟨hle.trans l4, ha, cs1 ++ [some (k0, v0)], htk (c := some (k0, u)) hd ▸ hcop.pushL hs hv0, (up' l4).push_live (hv0.le0 (leH.trans l4)).notAbs⟩
  · rintro acc H' ⟨hle, hacc, cs1, hcop, hvals⟩ l hl
    rw [hvl, List.take_length] at hcop
    have f3' := f3.other hle
    have off : ∀ (i : Nat) k c, cs1[i]? = some (some (k, .ref c)) → H c ≠ none := fun i k c e => by obtain ⟨s, t, _, _, hv⟩ := hcop.back e; exact hv.has
    refine as_mv (f3'.is.new hl) (fun sh => Mv.newV f3'.is hl) (fun _ => rfl) fun H4 m4 => ?_
    have f4 := f3'.mv m4
    refine fld_of (x.is.le0 f4.le).f6 <| as_f f4.is ⟨d, k2, l, hd', nx, w, S.packed, S.keys, acc, [], [], S.size, S.count, least, 0⟩ (fun _ => rfl) fun H5 m5 => ?_
    have f5 := f4.mv m5
    refine fld_of (x.is.le0 f5.le).f7 <| as_f f5.is ⟨d, k2, l, hd', nx, w, S.packed, S.keys, acc, [], [], S.size, S.count, S.next, 0⟩ (fun _ => rfl) fun H6 m6 => ?_
    have f6 := f5.mv m6
    have y6 := x.is.le0 f6.le
    have vl6 := f3'.vals hvals off (m4.trans (m5.trans m6))
    refine seq_mid (fun ρ H7 => CpI H a S acc cs1 b d k2 l hd' nx w H7 ρ) (fun K hK => ?_) ?_
    · refine fld_of y6.f8 <| fld_of y6.f2 <| len_of (len_lst y6.v rfl) (by omega) <| if_c (fun _ => fld_of y6.f8 ?_) fun _ => sp_next_place (up hn) y6 (x.vals.le f6.le (fun _ _ _ _ => List.not_mem_nil) fun _ _ _ _ => List.not_mem_nil) hsm.2 fun z => ?_
      · exact as_f f6.is ⟨d, k2, l, hd', nx, w, S.packed, S.keys, acc, [], [], S.size, S.count, S.next, S.at_⟩ (fun _ => rfl) fun H7 m7 => hK _ _ ⟨_, f6.mv m7, f6.vals vl6 off m7⟩
      · exact as_f f6.is ⟨d, k2, l, hd', nx, w, S.packed, S.keys, acc, [], [], S.size, S.count, S.next, z⟩ (fun _ => rfl) fun H7 m7 => hK _ _ ⟨_, f6.mv m7, f6.vals vl6 off m7⟩
    · rintro ρ H7 ⟨z, f7, vl7⟩
      have y7 := x.is.le0 f7.le
      refine fld_of y7.f10 ⟨y7.w, fun w2 hw2 => ?_⟩
      obtain ⟨sh, e7⟩ := (f7.is.new (o := .dct) hw2).a
      have f8 := f7.setW (sh := sh) hw2
      have vl8 : ∀ {o : O}, Vals (upd (upd H7 w2 .dct) b o) acc cs1 := fun {o} => vl7.le (W := [b]) ((Le.new hw2).trans (.at (.head _))) (fun r d fs e h => f7.is.noAbs e (List.mem_singleton.mp h ▸ .head _)) fun i k c e h => off i k c e (f7.own c (List.mem_singleton.mp h ▸ .head _))
      refine as_of e7 rfl ?_
      have ko1 : KeysOk cs1 := fun i k v e => by obtain ⟨s, _, e, _⟩ := hcop.back e; exact x.ko i k s e
      have one1 : KeysOne cs1 := fun i j k v v' e e' => by
        obtain ⟨s, _, e, _⟩ := hcop.back e
        obtain ⟨s', _, e', _⟩ := hcop.back e'
        exact x.one i j k s s' e e'
      have hlen1 := hcop.len
      have hrow1 := hcop.rows
      have hrep1 := hcop.rep rep
      have off8 : ∀ (i : Nat) k c, cs1[i]? = some (some (k, .ref c)) → c ∉ AS.own b _ := fun i k c e h => off i k c e (f8.own c h)
      refine fld_of f8.is.f0 ?_
      rcases Bool.eq_false_or_eq_true S.packed with hp | hp
      · obtain ⟨p1, p2, p3, p4⟩ := x.pk hp
        exact if_n <| if_T hp <| q b _ cs1 _ f8 ⟨f8.is, vl8, off8, ko1, one1, x.z, hrow1.symm ▸ x.cnt, fun _ => ⟨fun i k v e => by obtain ⟨s, _, e, _⟩ := hcop.back e; exact p1 i k s e, p2, hlen1 ▸ p3, p4⟩, fun h => absurd (hp.symm.trans h) (by decide), hrow1.symm ▸ x.cm, x.m100⟩ hrep1 rfl
      · obtain ⟨p1, p2, p3⟩ := x.hs hp
        refine if_n <| if_F hp <| sp_rehash (cs := cs1) (up hn) f8.is vl8 off8 ⟨hlen1 ▸ p1.klen, fun i k v e => by obtain ⟨s, _, e, _⟩ := hcop.back e; exact p1.keys i k s e⟩ ko1 x.z (hlen1 ▸ hsm.2) (show S.size ≤ _ by omega) fun S' H9 mv9 sn sz hsd9 vl9 => ?_
        have f9 := f8.mv mv9
        exact q b S' ((rowsOf cs1).map some) _ f9 ⟨f9.is, vl9, fun i k c e h => by
            obtain ⟨j, hj⟩ := row_mem (row_some e)
            exact off j k c hj (f9.own c h), ko_rows ko1, one_rows one1, sz ▸ x.z, by rw [rows_of_rows, hrow1, sn.cnt]; exact x.cnt, fun h => absurd ((sn.pk.trans hp).symm.trans h) (by decide), fun _ => ⟨hsd9, by rw [List.length_map, hrow1]; exact x.cm, sz ▸ p3⟩, by rw [rows_of_rows, hrow1]; exact x.cm, x.m100⟩ (by rw [rows_of_rows]; exact hrep1) sn.nxt
end
end Mine
namespace Mine
inductive FrA (W : List Addr) (H : Hp) (R : List V → Prop) (v : V) : Prop
  | mk (a l : Addr) (refs : List V) (e : v = .ref a) (n1 : a ∉ W) (n2 : l ∉ W) (e1 : H a = some (.tup [.str (Str.ofString "array"), .ref l])) (e2 : H l = some (.lst refs)) (h : R refs) : FrA W H R v
inductive FrC (W : List Addr) (H : Hp) (F : V → Prop) (R : List V → Prop) (k : V) (refs : List V) : Prop
  | mk (b : Addr) (v : V) (refs' : List V) (e : refs = .ref b :: refs') (n1 : b ∉ W) (e1 : H b = some (.tup [k, v])) (h1 : F v) (h2 : R refs') : FrC W H F R k refs
mutual
noncomputable def Frm (W : List Addr) (H : Hp) : Tr → V → Prop
  | .sc u, v => v = u ∧ isSc u = true
  | .ar r, v => FrA W H (FrmR W H r) v
noncomputable def FrmR (W : List Addr) (H : Hp) : Trs → List V → Prop
  | .nil, refs => refs = []
  | .cons k t r, refs => FrC W H (Frm W H t) (FrmR W H r) k refs
end
section
variable {H H' : Hp} {a : Addr} {S : AS} {cs : List Cell} {m : Nat} {W W' : List Addr}
mutual
theorem Frm.le (l : Le W H H') : ∀ {t : Tr} {v : V}, Frm W H t v → Frm W H' t v
  | .sc u, v, h => h
  | .ar r, v, ⟨a, p, refs, e, n1, n2, e1, e2, h⟩ => ⟨a, p, refs, e, n1, n2, l.tup e1 n1, l.lst e2 n2, FrmR.le l h⟩
theorem FrmR.le (l : Le W H H') : ∀ {r : Trs} {refs : List V}, FrmR W H r refs → FrmR W H' r refs
  | .nil, refs, h => h
  | .cons k t r, refs, ⟨b, v, refs', e, n1, e1, h1, h2⟩ => ⟨b, v, refs', e, n1, l.tup e1 n1, Frm.le l h1, FrmR.le l h2⟩
end
mutual
theorem Frm.sub (k : ∀ b ∈ W', b ∈ W ∨ H b = none) : ∀ {t : Tr} {v : V}, Frm W H t v → Frm W' H t v
  | .sc u, v, h => h
  | .ar r, v, ⟨a, p, refs, e, n1, n2, e1, e2, h⟩ => ⟨a, p, refs, e, fun h => (k a h).elim n1 fun z => (by rw [e1] at z; cases z), fun h => (k p h).elim n2 fun z => (by rw [e2] at z; cases z), e1, e2, FrmR.sub k h⟩
theorem FrmR.sub (k : ∀ b ∈ W', b ∈ W ∨ H b = none) : ∀ {r : Trs} {refs : List V}, FrmR W H r refs → FrmR W' H r refs
  | .nil, refs, h => h
  | .cons k0 t r, refs, ⟨b, v, refs', e, n1, e1, h1, h2⟩ => ⟨b, v, refs', e, fun h => (k b h).elim n1 fun z => (by rw [e1] at z; cases z), e1, Frm.sub k h1, FrmR.sub k h2⟩
end
theorem FrmR.len : ∀ {r : Trs} {refs : List V}, FrmR W H r refs → refs.length = r.len
  | .nil, refs, h => by
    cases (show refs = [] from h); rfl
  | .cons k t r, refs, ⟨b, v, refs', e, n1, e1, h1, h2⟩ => by
    subst e
    exact congrArg (· + 1) h2.len
theorem FrmR.get : ∀ {r : Trs} {refs : List V}, FrmR W H r refs → ∀ {i : Nat} {w : V}, refs[i]? = some w → ∃ b k v t, w = .ref b ∧ b ∉ W ∧ H b = some (.tup [k, v]) ∧ Frm W H t v ∧ r.toL[i]? = some (k, t)
  | .nil, refs, h, i, w, e => by
    cases (show refs = [] from h); cases e
  | .cons k t r, refs, ⟨b, v, refs', e0, n1, e1, h1, h2⟩, i, w, e => by
    subst e0
    cases i with
    | zero => exact ⟨b, k, v, t, (Option.some.inj e).symm, n1, e1, h1, rfl⟩
    | succ i => exact h2.get (i := i) e
noncomputable def Trs.take : Nat → Trs → Trs
  | 0, _ => .nil
  | _ + 1, .nil => .nil
  | n + 1, .cons k t r => .cons k t (r.take n)
theorem take_all : ∀ {r : Trs} {n : Nat}, r.len ≤ n → r.take n = r
  | .nil, 0, _ => rfl
  | .nil, n + 1, _ => rfl
  | .cons k t r, 0, h => absurd (show r.len + 1 ≤ 0 from h) (Nat.not_succ_le_zero _)
  | .cons k t r, n + 1, h => by
    show Trs.cons k t (r.take n) = _
    rw [take_all (Nat.le_of_succ_le_succ h)]
theorem FrmR.push : ∀ {r : Trs} {i : Nat} {refs : List V} {k : V} {t : Tr} {b : Addr} {v : V}, FrmR W H (r.take i) refs → r.toL[i]? = some (k, t) → b ∉ W → H b = some (.tup [k, v]) → Frm W H t v → FrmR W H (r.take (i + 1)) (refs ++ [.ref b])
  | .nil, i, refs, k, t, b, v, _, e, _, _, _ => nomatch e
  | .cons k1 t1 r, i, refs, k, t, b, v, h, e, n1, e1, h1 => by
    cases i with
    | zero =>
      cases (show refs = [] from h)
      cases e
      exact ⟨b, v, [], rfl, n1, e1, h1, rfl⟩
    | succ i =>
      obtain ⟨b0, v0, refs', e0, m1, m2, m3, h⟩ := h
      subst e0
      exact ⟨b0, v0, refs' ++ [.ref b], rfl, m1, m2, m3, FrmR.push (i := i) h e n1 e1 h1⟩
inductive Ents (H : Hp) : List (V × Tr) → List V → Prop
  | nil : Ents H [] []
  | cons {k v : V} {t : Tr} {b : Addr} {L : List (V × Tr)} {refs : List V} (e : H b = some (.tup [k, v])) (h : Rep [] H t v) : Ents H L refs → Ents H ((k, t) :: L) (.ref b :: refs)
theorem Ents.le (l : Le [] H H') {L : List (V × Tr)} {refs : List V} (h : Ents H L refs) : Ents H' L refs := by
  induction h with
  | nil => exact .nil
  | cons e h _ ih => exact .cons (l.tup e List.not_mem_nil) (h.le0 l) ih
theorem Ents.len {L : List (V × Tr)} {refs : List V} (h : Ents H L refs) : refs.length = L.length := by
  induction h with
  | nil => rfl
  | cons _ _ _ ih => exact congrArg (· + 1) ih
theorem Ents.get {L : List (V × Tr)} {refs : List V} (h : Ents H L refs) : ∀ {i : Nat} {w : V}, refs[i]? = some w → ∃ b k v t, w = .ref b ∧ L[i]? = some (k, t) ∧ H b = some (.tup [k, v]) ∧ Rep [] H t v := by
  induction h with
  | nil => exact fun e => nomatch e
  | cons e h _ ih =>
    intro i w e'
    cases i with
    | zero => exact ⟨_, _, _, _, (Option.some.inj e').symm, rfl, e, h⟩
    | succ i => exact ih (i := i) e'
theorem Ents.push {k v : V} {t : Tr} {b : Addr} (e : H b = some (.tup [k, v])) (h : Rep [] H t v) {L : List (V × Tr)} {refs : List V} (x : Ents H L refs) : Ents H (L ++ [(k, t)]) (refs ++ [.ref b]) := by
  induction x with
  | nil => exact .cons e h .nil
  | cons e' h' _ ih => exact .cons e' h' ih
theorem turn2_of {i j : Nat} {ρ : Env'} {C E : Env' → P1 → Hp → Prop} {t : Addr} {x y : V} {acc : List V} {K : List V → Hp → Prop} (e : H t = some (.tup [x, y])) (q : C ((ρ.set i (some x)).set j (some y)) (kB (kT1 E ((ρ.set i (some x)).set j (some y)) acc K)) H) : kTurn [i, j] ρ C E (.ref t) acc K H := by
  unfold kTurn
  rw [bind2 e]
  exact q
theorem sp_entries {n : Nat} (hn : 3 ≤ n) {Q : V → Hp → Prop} (x : Arr H a S cs m) {r : Trs} (rep : RepR [] H r (rowsOf cs)) (q : ∀ l H' refs, Le [] H H' → H' l = some (.lst refs) → Ents H' r.toL refs → Q (.ref l) H') : MC T n 20 [.ref a] Q H := by
  have hsm := x.small
  have hrl := rows_len (cs := cs)
  refine call_of (ρ := [some (.ref a), none, none]) hn T_entries rfl fun n hn => sp_slots_of hn x fun l H1 refs le1 _ e1 t1 => comp_of e1 ?_
  have htl := t1.len
  have hlen : r.toL.length = refs.length := toL_len.trans (rep.len.symm.trans htl.symm)
  refine comp_rule (fun i acc H' => Le [] H1 H' ∧ Ents H' (r.toL.take i) acc) (by omega) ⟨.refl, .nil⟩ (fun i acc H' h => by rw [h.2.len, List.length_take]; exact Nat.min_le_left _ _) (fun i acc H' h => h.1.lst e1 List.not_mem_nil) ?_ ?_
  · rintro i w acc H' K hv ⟨hle, hent⟩ hK
    obtain ⟨b, k, s, rfl, hrow, hb⟩ := t1.get hv
    obtain ⟨t, v, hg, hs, hr⟩ := rep.get hrow
    have leH := le1.trans hle
    refine turn2_of (hle.tup hb List.not_mem_nil) <| sp_deref (up hn) (hs.le0 leH) (hr.le0 leH) <| sp_marked (up hn) (hr.le0 leH) fun H2 l2 p hp => hK _ _ ⟨hle.trans (l2.trans (.new hp)), ?_⟩
    rw [take_last hg]
    have l3 : Le [] H' (upd H2 p (.tup [k, v])) := l2.trans (.new hp)
    exact (hent.le l3).push upd_self (hr.le0 (leH.trans l3))
  · rintro acc H' ⟨hle, hent⟩ p hp
    rw [← hlen, List.take_length] at hent
    exact q p _ acc (le1.trans (hle.trans (.new hp))) upd_self (hent.le (.new hp))
theorem sp_read : ∀ h : Nat, ∀ {t : Tr} {n : Nat} {Q : V → Hp → Prop} {H : Hp} {v : V}, t.ht ≤ h → h + 4 ≤ n → Rep [] H t v → (∀ w H', Le [] H H' → Frm [] H' t w → Q w H') → MC T n 62 [v] Q H := by
  have sc : ∀ {u : V} {k n : Nat} {Q : V → Hp → Prop} {H : Hp} {v : V}, k + 4 ≤ n → Rep [] H (.sc u) v → (∀ w H', Le [] H H' → Frm [] H' (.sc u) w → Q w H') → MC T n 62 [v] Q H := fun {u k n Q H v} hn hv q => by
    refine call_of (ρ := [some v, none, none]) hn T_law_read rfl fun n hn => ?_
    rcases hv.isArr with ⟨b, d, fs, rfl, e, h9⟩ | hi
    · obtain ⟨e, h⟩ := hv; subst e; cases h
    · exact isi_of hi (q _ _ .refl hv)
  intro h
  induction h with
  | zero =>
    intro t n Q H v hh hn hv q
    cases t with
    | ar r => exact absurd hh (Nat.not_succ_le_zero _)
    | sc u => exact sc hn hv q
  | succ h ih =>
    intro t n Q H v hh hn hv q
    cases t with
    | sc u => exact sc hn hv q
    | ar r =>
      have hh' : r.ht ≤ h := Nat.le_of_succ_le_succ hh
      obtain ⟨a, S, cs, m, rfl, x, _, _, rep⟩ := hv
      obtain ⟨d, fs, e⟩ := x.is.inst
      have hsm := x.small
      have hrl := rows_len (cs := cs)
      refine call_of (ρ := [some (.ref a), none, none]) hn T_law_read rfl fun n hn => isi_of (r := true) (isi_obj e) <| sp_entries (by omega) x rep fun l H1 refs le1 e1 t1 => comp_of e1 ?_
      have htl : refs.length = r.len := t1.len.trans toL_len
      have hrr := rep.len
      refine comp_rule (fun i acc H' => Le [] H1 H' ∧ acc.length = i ∧ FrmR [] H' (r.take i) acc) (by omega) ⟨.refl, rfl, by cases r <;> rfl⟩ (fun i acc H' h => Nat.le_of_eq h.2.1) (fun i acc H' h => h.1.lst e1 List.not_mem_nil) ?_ ?_
      · rintro i w acc H' K hv ⟨hle, hacc, hfr⟩ hK
        obtain ⟨b, k, s, t, rfl, hrow, hb, hs⟩ := t1.get hv
        refine turn2_of (hle.tup hb List.not_mem_nil) <| ih (t := t) (Nat.le_trans (ht_mem hrow) hh') hn (hs.le0 hle) fun w2 H2 l2 f2 p hp => hK _ _ ⟨hle.trans (l2.trans (.new hp)), by rw [List.length_append, hacc]; rfl, ?_⟩
        exact (hfr.le (l2.trans (.new hp))).push hrow List.not_mem_nil upd_self (f2.le (.new hp))
      · rintro acc H' ⟨hle, hacc, hfr⟩ p hp p2 hp2
        rw [take_all (Nat.le_of_eq htl.symm)] at hfr
        exact q _ _ (le1.trans (hle.trans ((Le.new hp).trans (.new hp2)))) ⟨p2, p, acc, rfl, List.not_mem_nil, List.not_mem_nil, upd_self, (upd_ne (ne_new upd_self hp2)).trans upd_self, hfr.le ((Le.new hp).trans (.new hp2))⟩
end
end Mine
namespace Mine
noncomputable def dataV : V → PyData
  | .none => .none
  | .bool b => .bool b
  | .int i => .int i
  | .str s => .str s
  | .ref _ => .none
mutual
noncomputable def dataT : Tr → PyData
  | .sc u => dataV u
  | .ar r => .tuple [.str (Str.ofString "array"), .list (dataR r)]
noncomputable def dataR : Trs → List PyData
  | .nil => []
  | .cons k t r => .tuple [dataV k, dataT t] :: dataR r
end
mutual
noncomputable def plainD : Tr → PyData
  | .sc u => .tuple [.str (kd (.sc u)), dataV u]
  | .ar r => .tuple [.str (Str.ofString "array"), .tuple (plainR r)]
noncomputable def plainR : Trs → List PyData
  | .nil => []
  | .cons k t r => .tuple [dataV k, plainD t] :: plainR r
end
section
variable {H H' : Hp}
theorem dat_sc {v : V} (h : isSc v = true) : Dat H v (dataV v) := by
  cases v with
  | none => exact .none
  | bool b => exact .bool b
  | int i => exact .int i
  | str s => exact .str s
  | ref a => cases h
theorem sc_of_scalar {v : V} (h : scalar v = true) : isSc v = true := by cases v <;> first | rfl | cases h
end
noncomputable def K10 : List V := [.int 0, .int 1, .int 2, .str (Str.ofString "a"), .int 5, .int (-3), .str (Str.ofString "b"), .int 7, .int (2 ^ 62), .str (Str.ofString "c")]
noncomputable def L10 : List V := [.int 0, .int 1, .str (Str.ofString "x"), .str (Str.ofString ""), .none, .bool true, .bool false, .str (Str.ofString "7"), .int (-3), .str (Str.ofString "otherwise"), .str (Str.ofString "n")]
mutual
noncomputable def Tr.ok : Tr → Prop
  | .sc u => u ∈ L10
  | .ar r => r.ok ∧ r.len ≤ 6
noncomputable def Trs.ok : Trs → Prop
  | .nil => True
  | .cons k t r => k ∈ K10 ∧ t.ok ∧ r.ok
end
theorem k10_sc {k : V} (h : k ∈ K10) : scalar k = true := by
  have : ∀ k ∈ K10, scalar k = true := by decide +kernel
  exact this k h
theorem ok_mem : ∀ {r : Trs}, r.ok → ∀ {i : Nat} {k : V} {t : Tr}, r.toL[i]? = some (k, t) → k ∈ K10 ∧ t.ok
  | .nil, _, i, k, t, e => nomatch e
  | .cons k t r, h, i, k', t', e => by
    cases i with
    | zero => cases e; exact ⟨h.1, h.2.1⟩
    | succ i => exact ok_mem h.2.2 (i := i) e
mutual
theorem Frm.dat {W : List Addr} {H : Hp} : ∀ {t : Tr} {v : V}, t.ok → Frm W H t v → Dat H v (dataT t)
  | .sc u, v, _, h => by obtain ⟨rfl, h⟩ := h; exact dat_sc h
  | .ar r, v, o, ⟨a, l, refs, e, _, _, e1, e2, h⟩ => by
    subst e
    exact .tuple e1 (.cons (.str _) (.cons (.list e2 (FrmR.dat o.1 h)) .nil))
theorem FrmR.dat {W : List Addr} {H : Hp} : ∀ {r : Trs} {refs : List V}, r.ok → FrmR W H r refs → DatAll H refs (dataR r)
  | .nil, refs, _, h => by
    have h : refs = [] := h
    subst h; exact .nil
  | .cons k t r, refs, o, ⟨b, v, refs', e, _, e1, h1, h2⟩ => by
    subst e
    exact .cons (.tuple e1 (.cons (dat_sc (sc_of_scalar (k10_sc o.1))) (.cons (Frm.dat o.2.1 h1) .nil))) (FrmR.dat o.2.2 h2)
end
mutual
noncomputable def dw : PyData → Nat
  | .none => PyData.none.shown.length
  | .bool b => (PyData.bool b).shown.length
  | .int i => (PyData.int i).shown.length
  | .str s => (PyData.str s).shown.length
  | .list xs => 3 + dwAll xs
  | .tuple xs => 3 + dwAll xs
  | .dict kvs => (PyData.dict kvs).shown.length
noncomputable def dwAll : List PyData → Nat
  | [] => 0
  | x :: xs => dw x + 2 + dwAll xs
end
theorem textFrom_le : ∀ (ts : List Str) (k : Nat) (acc : Str), (PySem.textFrom k acc ts).length ≤ acc.length + piled ts
  | [], k, acc => Nat.le_add_right _ _
  | t :: r, k, acc => by
    have h := textFrom_le r (k + 1) (acc ++ (if k > 0 then ", " else "" : String) ++ t)
    have e : (acc ++ (if k > 0 then ", " else "" : String) ++ t).length = acc.length + (if k > 0 then 2 else 0) + t.length := by
      rw [strLen_append, strLen_append]
      split <;> rfl
    rw [e] at h
    show (PySem.textFrom (k + 1) _ r).length ≤ _
    have : piled (t :: r) = t.length + 2 + piled r := by simp [piled]
    rw [this]
    have : (if k > 0 then 2 else 0 : Nat) ≤ 2 := by split <;> omega
    omega
theorem listText_le (ts : List Str) : (listText ts).length ≤ 2 + piled ts := by
  unfold listText
  rw [strLen_append]
  have := textFrom_le ts 0 "["
  have h1 : ("[" : Str).length = 1 := rfl
  have h2 : ("]" : Str).length = 1 := rfl
  omega
theorem tupleText_le (ts : List Str) : (tupleText ts).length ≤ 3 + piled ts := by
  unfold tupleText
  rw [strLen_append, strLen_append]
  have h1 : ("(" : Str).length = 1 := rfl
  have h2 : (Str.ofString (if (ts.length == 1) = true then ",)" else ")" : String)).length ≤ 2 := by split <;> decide
  have h3 : (Str.join ", " ts).length ≤ piled ts := by
    by_cases h : ts = []
    · subst h; exact Nat.le_of_eq rfl
    · have := join_length_add ts h; omega
  omega
mutual
theorem shown_le : ∀ d : PyData, d.shown.length ≤ dw d
  | .none => Nat.le_refl _
  | .bool b => Nat.le_refl _
  | .int i => Nat.le_refl _
  | .str s => Nat.le_refl _
  | .dict kvs => Nat.le_refl _
  | .list xs => by
    have h1 := listText_le (PyData.shownAll xs)
    have h2 := shownAll_le xs
    simp only [PyData.shown, dw]
    omega
  | .tuple xs => by
    have h1 := tupleText_le (PyData.shownAll xs)
    have h2 := shownAll_le xs
    simp only [PyData.shown, dw]
    omega
theorem shownAll_le : ∀ xs : List PyData, piled (PyData.shownAll xs) ≤ dwAll xs
  | [] => Nat.le_refl _
  | x :: xs => by
    have h1 := shown_le x
    have h2 := shownAll_le xs
    have : piled (PyData.shownAll (x :: xs)) = (PyData.shown x).length + 2 + piled (PyData.shownAll xs) := by simp [piled, PyData.shownAll]
    rw [this]
    simp only [dwAll]
    omega
end
structure Bd (d : PyData) (b p : Nat) : Prop where
  w : dw d ≤ b
  s : d.showable = true
  p : d.depth ≤ p
structure Bds (xs : List PyData) (b p : Nat) : Prop where
  w : dwAll xs ≤ b
  s : PyData.showableAll xs = true
  p : PyData.depthAll xs ≤ p
theorem Bd.tup {xs : List PyData} {b b' p : Nat} (h : Bds xs b p) (e : 3 + b ≤ b') : Bd (.tuple xs) b' (p + 1) := ⟨Nat.le_trans (Nat.add_le_add_left h.w 3) e, h.s, Nat.succ_le_succ h.p⟩
theorem Bd.lst {xs : List PyData} {b b' p : Nat} (h : Bds xs b p) (e : 3 + b ≤ b') : Bd (.list xs) b' (p + 1) := ⟨Nat.le_trans (Nat.add_le_add_left h.w 3) e, h.s, Nat.succ_le_succ h.p⟩
theorem Bds.nil {b p : Nat} : Bds [] b p := ⟨Nat.zero_le _, rfl, Nat.zero_le _⟩
theorem Bd.cons' {d : PyData} {xs : List PyData} {b b' B p p' P : Nat} (h : Bd d b p) (t : Bds xs b' p') (e : b + 2 + b' ≤ B) (e1 : p ≤ P) (e2 : p' ≤ P) : Bds (d :: xs) B P :=
  ⟨Nat.le_trans (Nat.add_le_add (Nat.add_le_add_right h.w 2) t.w) e, (congrArg (· && PyData.showableAll xs) h.s).trans t.s, Nat.max_le.mpr ⟨Nat.le_trans h.p e1, Nat.le_trans t.p e2⟩⟩
theorem leaf_b : ∀ u ∈ L10, Bd (dataV u) 30 0 := fun u h => by
  have : ∀ u ∈ L10, dw (dataV u) ≤ 30 ∧ (dataV u).showable = true ∧ (dataV u).depth ≤ 0 := by decide +kernel
  exact ⟨(this u h).1, (this u h).2.1, (this u h).2.2⟩
theorem key_b : ∀ u ∈ K10, Bd (dataV u) 30 0 := fun u h => by
  have : ∀ u ∈ K10, dw (dataV u) ≤ 30 ∧ (dataV u).showable = true ∧ (dataV u).depth ≤ 0 := by decide +kernel
  exact ⟨(this u h).1, (this u h).2.1, (this u h).2.2⟩
theorem kd_b : ∀ u ∈ L10, dw (.str (kd (.sc u))) ≤ 30 := by decide +kernel
theorem arr_b : Bd (.str (Str.ofString "array")) 30 0 := ⟨by decide +kernel, rfl, Nat.le_refl _⟩
noncomputable def bnd : Nat → Nat
  | 0 => 100
  | h + 1 => 60 + 6 * (60 + bnd h)
theorem bnd_mono {h h' : Nat} (l : h ≤ h') : bnd h ≤ bnd h' := by
  induction l with
  | refl => exact Nat.le_refl _
  | step _ ih => exact Nat.le_trans ih (by show _ ≤ 60 + 6 * (60 + bnd _); omega)
theorem row_b {k d : PyData} {ds : List PyData} {a b n p p' P : Nat} (hk : Bd k 30 0) (hd : Bd d (bnd a) p) (hr : Bds ds (n * (60 + bnd b)) p') (h1 : p + 1 ≤ P) (h2 : p' ≤ P) : Bds (.tuple [k, d] :: ds) ((n + 1) * (60 + bnd (max a b))) P := by
  have m1 : bnd a ≤ bnd (max a b) := bnd_mono (Nat.le_max_left _ _)
  have m2 : n * (60 + bnd b) ≤ n * (60 + bnd (max a b)) := Nat.mul_le_mul_left _ (Nat.add_le_add_left (bnd_mono (Nat.le_max_right _ _)) _)
  refine (Bd.tup (b' := 37 + bnd a) (hk.cons' (hd.cons' (Bds.nil (b := 0) (p := 0)) (Nat.le_refl _) (Nat.le_refl p) (Nat.zero_le _)) (Nat.le_refl _) (Nat.zero_le _) (Nat.le_refl _)) (by omega)).cons' hr ?_ h1 h2
  rw [Nat.succ_mul]
  omega
theorem arr_of {x : PyData} {b n p h : Nat} (hx : Bd x b p) (hb : b = 3 + n * (60 + bnd h)) (hn : n ≤ 6) : Bd (.tuple [.str (Str.ofString "array"), x]) (bnd (h + 1)) (p + 1) := by
  have : n * (60 + bnd h) ≤ 6 * (60 + bnd h) := Nat.mul_le_mul_right _ hn
  refine .tup (arr_b.cons' (hx.cons' (Bds.nil (b := 0) (p := 0)) (Nat.le_refl _) (Nat.le_refl p) (Nat.zero_le _)) (Nat.le_refl _) (Nat.zero_le _) (Nat.le_refl _)) ?_
  show _ ≤ 60 + 6 * (60 + bnd h)
  omega
mutual
theorem dataT_b : ∀ {t : Tr}, t.ok → Bd (dataT t) (bnd t.ht) (3 * t.ht)
  | .sc u, o => ⟨Nat.le_trans (leaf_b u o).w (show 30 ≤ 100 by decide), (leaf_b u o).s, (leaf_b u o).p⟩
  | .ar r, o => arr_of (.lst (dataR_b o.1) (Nat.le_refl _)) rfl o.2
theorem dataR_b : ∀ {r : Trs}, r.ok → Bds (dataR r) (r.len * (60 + bnd r.ht)) (3 * r.ht + 1)
  | .nil, o => .nil
  | .cons k t r, o => row_b (key_b k o.1) (dataT_b o.2.1) (dataR_b o.2.2) (Nat.succ_le_succ (Nat.mul_le_mul_left 3 (Nat.le_max_left _ _))) (Nat.succ_le_succ (Nat.mul_le_mul_left 3 (Nat.le_max_right _ _)))
end
mutual
theorem plainD_b : ∀ {t : Tr}, t.ok → Bd (plainD t) (bnd t.ht) (3 * t.ht + 1)
  | .sc u, o => .tup (b' := 100) (Bd.cons' (b := 30) (p := 0) ⟨kd_b u o, rfl, Nat.le_refl _⟩ ((leaf_b u o).cons' (Bds.nil (b := 0) (p := 0)) (Nat.le_refl _) (Nat.le_refl 0) (Nat.le_refl 0)) (Nat.le_refl _) (Nat.le_refl 0) (Nat.le_refl 0)) (by decide)
  | .ar r, o => arr_of (.tup (plainR_b o.1) (Nat.le_refl _)) rfl o.2
theorem plainR_b : ∀ {r : Trs}, r.ok → Bds (plainR r) (r.len * (60 + bnd r.ht)) (3 * r.ht + 2)
  | .nil, o => .nil
  | .cons k t r, o => row_b (key_b k o.1) (plainD_b o.2.1) (plainR_b o.2.2) (Nat.add_le_add_right (Nat.mul_le_mul_left 3 (Nat.le_max_left _ _)) 2) (Nat.add_le_add_right (Nat.mul_le_mul_left 3 (Nat.le_max_right _ _)) 2)
end
theorem can_repr {t : Tr} (o : t.ok) (h : t.ht ≤ 4) : (dataT t).showable = true ∧ (dataT t).depth ≤ 50 ∧ (dataT t).shown.length ≤ sizeLine ∧ (plainD t).showable = true ∧ (plainD t).depth ≤ 50 ∧ (plainD t).shown.length ≤ sizeLine := by
  have a := dataT_b o
  have b := plainD_b o
  have hd : 3 * t.ht ≤ 3 * 4 := Nat.mul_le_mul_left 3 h
  have h4 : bnd t.ht ≤ sizeLine := Nat.le_trans (bnd_mono h) (show bnd 4 ≤ 2 ^ 24 by decide)
  exact ⟨a.s, Nat.le_trans a.p (Nat.le_trans hd (by decide)), Nat.le_trans (shown_le _) (Nat.le_trans a.w h4), b.s, Nat.le_trans b.p (Nat.le_trans (Nat.succ_le_succ hd) (by decide)), Nat.le_trans (shown_le _) (Nat.le_trans b.w h4)⟩
end Mine
namespace Mine
theorem size_mem : ∀ {r : Trs} {i : Nat} {k : V} {t : Tr}, r.toL[i]? = some (k, t) → t.size ≤ r.size
  | .nil, i, k, t, h => nomatch h
  | .cons k t r, i, k', t', h => by
    cases i with
    | zero => cases h; exact Nat.le_add_right _ _
    | succ i => exact Nat.le_trans (size_mem (i := i) h) (Nat.le_add_left _ _)
noncomputable def Above (H : Hp) (z : Nat) (us : List V) : Prop := ∀ u ∈ us, ∃ t b, u = .ref b ∧ Rep [] H t u ∧ z < t.size
theorem Rep.inst {H : Hp} {t : Tr} {a : Addr} (h : Rep [] H t (.ref a)) : ∃ d fs, H a = some (.inst .arr d fs) := by
  cases t with
  | sc u => obtain ⟨e, h⟩ := h; subst e; cases h
  | ar r =>
    obtain ⟨a, S, cs, m, e, x⟩ := h
    cases e
    exact x.is.inst
theorem Above.isnt {H : Hp} {us : List V} {t : Tr} {a : Addr} (h : Above H t.size us) (hv : Rep [] H t (.ref a)) {u : V} (hu : u ∈ us) : cmpV H .Is u (.ref a) = some false := by
  obtain ⟨t', b, rfl, h1, h2⟩ := h u hu
  obtain ⟨d, fs, e1⟩ := h1.inst
  obtain ⟨d', fs', e2⟩ := hv.inst
  refine is_diff ?_ e1 e2
  rintro rfl
  cases h1.det hv
  exact Nat.lt_irrefl _ h2
theorem Rep.notObj {H : Hp} {t : Tr} {v : V} (h : Rep [] H t v) : isiV H .obj v = some false := by
  cases t with
  | sc u =>
    obtain ⟨rfl, h⟩ := h
    cases v <;> first | rfl | cases h
  | ar r =>
    obtain ⟨a, S, cs, m, rfl, x⟩ := h
    obtain ⟨d, fs, e⟩ := x.is.inst
    exact isi_obj e
noncomputable def plainRow (p : V × Tr) : PyData := .tuple [dataV p.1, plainD p.2]
theorem plainR_map : ∀ {r : Trs}, plainR r = r.toL.map plainRow
  | .nil => rfl
  | .cons k t r => congrArg (_ :: ·) plainR_map
mutual
inductive Td (H : Hp) : V → PyData → Prop
  | sc {v} : isSc v = true → Td H v (dataV v)
  | tuple {a vs ds} : H a = some (.tup vs) → TdAll H vs ds → Td H (.ref a) (.tuple ds)
inductive TdAll (H : Hp) : List V → List PyData → Prop
  | nil : TdAll H [] []
  | cons {v vs d ds} : Td H v d → TdAll H vs ds → TdAll H (v :: vs) (d :: ds)
end
theorem Td.dat {H : Hp} {v : V} {d : PyData} (h : Td H v d) : Dat H v d :=
  Td.rec (motive_1 := fun v d _ => Dat H v d) (motive_2 := fun vs ds _ => DatAll H vs ds) (fun h => dat_sc h) (fun e _ ih => .tuple e ih) .nil (fun _ _ h1 h2 => .cons h1 h2) h
theorem Td.mono {H H' : Hp} (k : ∀ b vs, H b = some (.tup vs) → H' b = some (.tup vs)) {v : V} {d : PyData} (h : Td H v d) : Td H' v d :=
  Td.rec (motive_1 := fun v d _ => Td H' v d) (motive_2 := fun vs ds _ => TdAll H' vs ds) (fun h => .sc h) (fun e _ ih => .tuple (k _ _ e) ih) .nil (fun _ _ h1 h2 => .cons h1 h2) h
theorem TdAll.mono {H H' : Hp} (k : ∀ b vs, H b = some (.tup vs) → H' b = some (.tup vs)) {v : List V} {d : List PyData} (h : TdAll H v d) : TdAll H' v d :=
  TdAll.rec (motive_1 := fun v d _ => Td H' v d) (motive_2 := fun vs ds _ => TdAll H' vs ds) (fun h => .sc h) (fun e _ ih => .tuple (k _ _ e) ih) .nil (fun _ _ h1 h2 => .cons h1 h2) h
theorem Td.le {H H' : Hp} (l : Le [] H H') {v : V} {d : PyData} (h : Td H v d) : Td H' v d := h.mono fun b vs e => l.tup e List.not_mem_nil
theorem TdAll.le {H H' : Hp} (l : Le [] H H') {v : List V} {d : List PyData} (h : TdAll H v d) : TdAll H' v d := h.mono fun b vs e => l.tup e List.not_mem_nil
theorem TdAll.push {H : Hp} {v : V} {d : PyData} (h : Td H v d) {vs : List V} {ds : List PyData} (x : TdAll H vs ds) : TdAll H (vs ++ [v]) (ds ++ [d]) :=
  TdAll.rec (motive_1 := fun _ _ _ => True) (motive_2 := fun vs ds _ => TdAll H (vs ++ [v]) (ds ++ [d])) (fun _ => trivial) (fun _ _ _ => trivial) (.cons h .nil) (fun h1 _ _ ih => .cons h1 ih) x
theorem TdAll.len {H : Hp} {vs : List V} {ds : List PyData} (x : TdAll H vs ds) : vs.length = ds.length :=
  TdAll.rec (motive_1 := fun _ _ _ => True) (motive_2 := fun vs ds _ => vs.length = ds.length) (fun _ => trivial) (fun _ _ _ => trivial) rfl (fun _ _ _ ih => congrArg (· + 1) ih) x
theorem upd_tup {H : Hp} {p : Addr} {l l' : List V} (e : H p = some (.lst l)) : ∀ b vs, H b = some (.tup vs) → (upd H p (.lst l')) b = some (.tup vs) := fun b vs eb =>
  (upd_ne fun h => by rw [h, e] at eb; cases eb).trans eb
theorem td_str {H : Hp} (s : Str) : Td H (.str s) (.str s) := .sc (v := .str s) rfl
section
variable {H : Hp} {Q : P1}
theorem addl_of {a b : Addr} {xs ys : List V} (h1 : H a = some (.lst xs)) (h2 : H b = some (.lst ys)) (hl : xs.length + ys.length ≤ sizeLine) (q : New (.lst (xs ++ ys)) Q H) : kBin2 .Add (.ref a) Q (.ref b) H := ⟨xs, ys, lst_eq h1, lst_eq h2, hl, q⟩
theorem tup_of {a : Addr} {vs : List V} (e : H a = some (.lst vs)) (hl : vs.length ≤ 2 ^ 24) (q : New (.tup vs) Q H) : kTup Q (.ref a) H := by
  unfold kTup; rw [lst_eq e]; exact ⟨hl, q⟩
end
inductive PlI (H H1 : Hp) (r : Trs) (a l p : Addr) (o : Option V) (i : Nat) (H2 : Hp) : Env' → Prop
  | mk (l0 : Le [] H H2) (l2 : Le [p] H1 H2) (o1 o2 : Option V) (acc : List V) (e : H2 p = some (.lst acc)) (d : TdAll H2 acc ((r.toL.take i).map plainRow)) : PlI H H1 r a l p o i H2 [some (.ref a), some (.ref l), o, some (.ref p), o1, o2]
theorem sp_plain_at : ∀ h : Nat, ∀ {t : Tr} {n : Nat} {Q : V → Hp → Prop} {H : Hp} {v : V} {l : Addr} {us : List V}, t.ht ≤ h → h + us.length ≤ 100 → h + 4 ≤ n → Rep [] H t v → H l = some (.lst us) → Above H t.size us → (∀ a w H', w = .ref a → Le [] H H' → Td H' w (plainD t) → Q w H') → MC T n 31 [v, .ref l] Q H := by
  have scal : ∀ {u : V} {k n : Nat} {Q : V → Hp → Prop} {H : Hp} {v : V} {l : Addr}, k + 4 ≤ n → Rep [] H (.sc u) v → (∀ a w H', w = .ref a → Le [] H H' → Td H' w (plainD (.sc u)) → Q w H') → MC T n 31 [v, .ref l] Q H := fun {u k n Q H v l} hn hv q => by
    refine call_of (ρ := [some v, some (.ref l), none, none, none, none]) hn T_plain_at rfl fun n hn => isi_of hv.notObj ?_
    rcases hv.isArr with ⟨b, d, fs, rfl, e, h9⟩ | hi
    · obtain ⟨e, h⟩ := hv; subst e; cases h
    · refine isi_of hi <| sp_kind (by omega) hv fun p hp => ?_
      obtain ⟨rfl, hs⟩ := hv
      exact q p _ _ rfl (.new hp) (.tuple upd_self (.cons (td_str _) (.cons (.sc hs) .nil)))
  intro h
  induction h with
  | zero =>
    intro t n Q H v l us hh hu hn hv hl hab q
    cases t with
    | ar r => exact absurd hh (Nat.not_succ_le_zero _)
    | sc u => exact scal hn hv q
  | succ h ih =>
    intro t n Q H v l us hh hu hn hv hl hab q
    cases t with
    | sc u => exact scal hn hv q
    | ar r =>
      have hh' : r.ht ≤ h := Nat.le_of_succ_le_succ hh
      have hv0 := hv
      obtain ⟨a, S, cs, m, rfl, x, _, _, rep⟩ := hv
      obtain ⟨d, fs, e⟩ := x.is.inst
      refine call_of (ρ := [some (.ref a), some (.ref l), none, none, none, none]) hn T_plain_at rfl fun n hn => isi_of hv0.notObj <| isi_of (r := true) (isi_obj e) <| len_of (len_lst hl rfl) (by omega) <| rng_of (by omega) ?_
      refine for_rule (fun i ρ H' => H' = H ∧ ∃ o, ρ = [some (.ref a), some (.ref l), o, none, none, none]) ⟨rfl, none, rfl⟩ (fun _ _ _ _ => trivial) ?_ ?_
      · rintro i w ρ H' K' hv ⟨rfl, o, rfl⟩ hK' hR'
        obtain ⟨rfl, hi⟩ := range_get hv
        have hu' := List.getElem?_eq_getElem hi
        exact idx_of ((idx_lst hl (by omega)).trans hu') <| cmp_of (hab.isnt hv0 (List.mem_of_getElem? hu')) <| hK' _ _ ⟨rfl, _, rfl⟩
      · rintro ρ H' ⟨rfl, o, rfl⟩ p hp
        have x1 := x.le (.new (o := .lst []) hp)
        refine sp_slots_of (by omega) x1 fun q2 H1 refs le1 nq e1 t1 => for_of e1 ?_
        have le01 : Le [] H' H1 := (Le.new hp).trans le1
        have ep : H1 p = some (.lst []) := le1.lst upd_self List.not_mem_nil
        have hpq : q2 ∉ [p] := fun h => ne_new upd_self nq (List.mem_singleton.mp h).symm
        have htl := t1.len
        have hrr := rep.len
        have hlen := toL_len (r := r)
        have hsm := x.small
        have hrl := rows_len (cs := cs)
        refine for_rule (fun i ρ H2 => PlI H' H1 r a l p o i H2 ρ) ⟨le01, .refl, none, none, [], ep, .nil⟩ ?_ ?_ ?_
        · rintro i ρ H2 ⟨_, l2⟩; exact l2.lst e1 hpq
        · rintro i w ρ H2 K' hv ⟨l0, l2, o1, o2, acc, eacc, hdat⟩ hK' hR'
          obtain ⟨b, k, s, rfl, hrow, hb⟩ := t1.get hv
          obtain ⟨t, v, hg, hs, hr⟩ := rep.get hrow
          have hbp : b ∉ [p] := fun h => by cases List.mem_singleton.mp h; rw [ep] at hb; cases hb
          have hil : i < refs.length := (List.getElem?_eq_some_iff.mp hv).1
          have hacc : acc.length ≤ i := by rw [hdat.len, List.length_map, List.length_take]; exact Nat.min_le_left _ _
          have hz := size_mem hg
          refine step2_of (l2.tup hb hbp) <| app1_of eacc <| sp_deref (by omega) (hs.le0 l0) (hr.le0 l0) fun p1 hp1 => addl_of ((l0.trans (.new hp1)).lst hl List.not_mem_nil) upd_self (show us.length + 1 ≤ 2 ^ 24 by omega) fun p2 hp2 => ?_
          have lX : Le [] H2 (upd (upd H2 p1 (.lst [.ref a])) p2 (.lst (us ++ [.ref a]))) := (Le.new hp1).trans (.new hp2)
          have lY := l0.trans lX
          refine ih (t := t) (us := us ++ [.ref a]) (Nat.le_trans (ht_mem hg) hh') (by rw [List.length_append]; show h + (us.length + 1) ≤ 100; omega) hn (hr.le0 lY) upd_self (fun u hu => ?_) ?_
          · rcases List.mem_append.mp hu with hu | hu
            · obtain ⟨t', b', e', h1, h2⟩ := hab u hu
              exact ⟨t', b', e', h1.le0 lY, Nat.lt_of_le_of_lt hz (Nat.lt_of_succ_lt h2)⟩
            · cases List.mem_singleton.mp hu
              exact ⟨.ar r, a, rfl, hv0.le0 lY, Nat.lt_succ_of_le hz⟩
          · rintro a3 w3 H3 rfl l3 d3 p4 hp4
            have lZ : Le [] H2 (upd H3 p4 (.tup [k, .ref a3])) := lX.trans (l3.trans (.new hp4))
            have eacc' := lZ.lst eacc List.not_mem_nil
            have hk1 : scalar k = true := by
              obtain ⟨j, hj⟩ := row_mem hrow; exact x.ko _ _ _ hj
            refine app2_of eacc' (by omega) <| hK' _ _ ⟨(l0.trans lZ).trans' (.at (W := [p]) (.head _)) fun b hb => .inr (List.mem_singleton.mp hb ▸ hp), (l2.trans lZ.any).trans (.at (.head _)), _, _, _, upd_self, ?_⟩
            rw [take_last hg, List.map_append]
            exact .push (.tuple (upd_tup eacc' _ _ upd_self) (.cons (.sc (sc_of_scalar hk1)) (.cons ((d3.le (.new hp4)).mono (upd_tup eacc')) .nil))) ((hdat.le lZ).mono (upd_tup eacc'))
        · rintro ρ H2 ⟨l0, l2, o1, o2, acc, eacc, hdat⟩
          rw [List.take_of_length_le (by omega), ← plainR_map] at hdat
          have hpl2 : (plainR r).length = r.len := by rw [plainR_map, List.length_map, hlen]
          have hacc := hdat.len
          refine tup_of eacc (by omega) fun p5 hp5 p6 hp6 => ?_
          have lZ : Le [] H2 (upd (upd H2 p5 (.tup acc)) p6 (.tup [.str (Str.ofString "array"), .ref p5])) := (Le.new hp5).trans (.new hp6)
          exact q p6 _ _ rfl (l0.trans lZ) (.tuple upd_self (.cons (td_str _) (.cons (.tuple (vs := acc) ((upd_ne (ne_new upd_self hp6)).trans upd_self) (hdat.le lZ)) .nil)))
theorem sp_plain {n : Nat} {t : Tr} {Q : V → Hp → Prop} {H : Hp} {v : V} (hh : t.ht ≤ 50) (hn : t.ht + 5 ≤ n) (hv : Rep [] H t v) (q : ∀ a w H', w = .ref a → Le [] H H' → Td H' w (plainD t) → Q w H') : MC T n 30 [v] Q H :=
  call_of (ρ := [some v]) hn T_plain rfl fun n hn p hp => sp_plain_at t.ht (us := []) (Nat.le_refl _) (Nat.le_trans hh (by decide)) hn (hv.le0 (.new hp)) upd_self (fun u hu => nomatch hu) fun a w H' e l h => q a w H' e ((Le.new hp).trans l) h
end Mine
namespace Mine
section
variable {H : Hp} {Q : V → Hp → Prop} {n : Nat} {s : Str}
noncomputable def blanks : List V := [.str (Str.ofString " "), .str (Str.ofString "\t"), .str (Str.ofString "\n"), .str (Str.ofString "\x0d"), .str (Str.ofString "\x0b"), .str (Str.ofString "\x0c")]
theorem idx_str {p : Nat} (h1 : p < s.length) (h2 : p < 2 ^ 62) : idxV H (.str s) (.int p) = some (charV (s.cps.getD p 0)) := by
  show (if 0 ≤ (p : Int) ∧ (p : Int) < s.length ∧ (p : Int) < 2 ^ 62 then some (charV (s.cps.getD (p : Int).toNat 0)) else .none) = _
  rw [if_pos ⟨Int.natCast_nonneg p, Int.ofNat_lt.mpr h1, Int.ofNat_lt.mpr h2⟩, Int.toNat_natCast]
theorem len_str : lenV H (.str s) = some s.length := rfl
theorem in_tup {x : V} {p : Addr} {vs : List V} (hx : scalar x = true) (hv : scalars vs = true) : cmpV (upd H p (.tup vs)) .In x (.ref p) = some (decide (x ∈ vs)) := by
  show ((seqO (upd H p (.tup vs) p)).bind fun vs => if scalar x = true ∧ scalars vs = true then some (decide (x ∈ vs)) else .none) = _
  rw [upd_self]
  exact if_pos ⟨hx, hv⟩
theorem sp_blanks (hn : 1 ≤ n) {p : Nat} (hl : s.length < 2 ^ 60) (hb : p < s.length → charV (s.cps.getD p 0) ∉ blanks) (q : ∀ H', Le [] H H' → Q (.int p) H') : MC T n 38 [.str s, .int p] Q H :=
  call_of (ρ := [some (.str s), some (.int p)]) hn T_blanks_behind rfl fun n hn => Exists.intro 1 <| len_of len_str (Nat.lt_trans hl (by decide)) <| if_c (fun h => idx_of (idx_str (Int.ofNat_lt.mp h) (by omega)) fun t ht =>
    cmp_of (r := false) ((in_tup (vs := blanks) rfl rfl).trans (congrArg some (decide_eq_false (hb (Int.ofNat_lt.mp h))))) <| q _ (.new ht)) fun _ => q _ .refl
noncomputable def isDig (s : Str) (p : Nat) : Bool := decide (p < s.length) && (decide (48 ≤ s.cps.getD p 0) && decide (s.cps.getD p 0 ≤ 57))
theorem sign0 : sign? (.str (Str.ofString "0")) = some 48 := by decide +kernel
theorem sign9 : sign? (.str (Str.ofString "9")) = some 57 := by decide +kernel
theorem sp_is_digit (hn : 1 ≤ n) {p : Nat} (hl : s.length < 2 ^ 60) (q : Q (.bool (isDig s p)) H) : MC T n 33 [.str s, .int p] Q H := by
  unfold isDig at q
  refine call_of (ρ := [some (.str s), some (.int p)]) hn T_is_digit rfl fun n hn => len_of len_str (Nat.lt_trans hl (by decide)) <| if_c (fun h => ?_) fun h => ?_
  · have h := Int.ofNat_lt.mp h
    rw [decide_eq_true h, Bool.true_and] at q
    refine idx_of (idx_str h (by omega)) <| c_of (r := decide (48 ≤ s.cps.getD p 0)) ?_ <| if_c (fun h1 => ?_) fun h1 => ?_
    · show ((sign? (.str (Str.ofString "0"))).bind fun a => (sign? (charV (s.cps.getD p 0))).bind fun b => some (decide (a ≤ b))) = _
      rw [sign0]; rfl
    · rw [decide_eq_true h1, Bool.true_and] at q
      refine cmp_of (r := decide (s.cps.getD p 0 ≤ 57)) ?_ q
      show ((sign? (charV (s.cps.getD p 0))).bind fun a => (sign? (.str (Str.ofString "9"))).bind fun b => some (decide (a ≤ b))) = _
      rw [sign9]; rfl
    · rw [decide_eq_false h1, Bool.false_and] at q
      exact q
  · rw [decide_eq_false fun h' => h (Int.ofNat_lt.mpr h'), Bool.false_and] at q
    exact q
theorem sp_digits_behind0 (hn : 2 ≤ n) {p : Nat} (hl : s.length < 2 ^ 60) (h : isDig s p = false) (q : Q (.int p) H) : MC T n 34 [.str s, .int p] Q H :=
  call_of (ρ := [some (.str s), some (.int p)]) hn T_digits_behind rfl fun n hn => Exists.intro 1 <| sp_is_digit hn hl <| if_F h q
theorem sp_digits_behind1 (hn : 2 ≤ n) {p : Nat} (hl : s.length < 2 ^ 60) (h : isDig s p = true) (h' : isDig s (p + 1) = false) (q : Q (.int ((p + 1 : Nat) : Int)) H) : MC T n 34 [.str s, .int p] Q H :=
  call_of (ρ := [some (.str s), some (.int p)]) hn T_digits_behind rfl fun n hn => Exists.intro 2 <| sp_is_digit hn hl <| if_T h <| sp_is_digit (p := p + 1) hn hl <| if_F h' q
structure NoNum (s : Str) : Prop where
  len : s.length ≤ 20
  blank : 0 < s.length → charV (s.cps.getD 0 0) ∉ blanks
  dig : isDig s 0 = false
  m : slcText s 0 1 ≠ Str.ofString "-"
  p : slcText s 0 1 ≠ Str.ofString "+"
  d : slcText s 0 1 ≠ Str.ofString "."
theorem in_pair {x : Str} {p : Addr} {y z : Str} (h1 : x ≠ y) (h2 : x ≠ z) : cmpV (upd H p (.tup [.str y, .str z])) .In (.str x) (.ref p) = some false :=
  (in_tup rfl rfl).trans (congrArg some (decide_eq_false fun h => (List.mem_cons.mp h).elim (fun e => h1 (V.str.inj e)) fun h => h2 (V.str.inj (List.mem_singleton.mp h))))
theorem sp_numeric0 (hn : 3 ≤ n) (x : NoNum s) (q : ∀ p H', Le [] H H' → H' p = some (.tup [.int 0, .int 0]) → Q (.ref p) H') : MC T n 39 [.str s] Q H := by
  have hl := x.len
  have h60 : s.length < 2 ^ 60 := Nat.lt_of_le_of_lt hl (by decide)
  have h24 : s.length ≤ 2 ^ 24 := Nat.le_trans hl (by decide)
  exact call_of (ρ := [some (.str s), none, none, none, none, none, none]) hn T_numeric rfl fun n hn => sp_blanks (p := 0) (up hn) h60 x.blank fun H1 l1 => ⟨h24, ⟨h24, fun p hp => cmp_of (in_pair x.p x.m) <| sp_digits_behind0 (p := 0) hn h60 x.dig ⟨h24, if_f x.d fun p2 hp2 => q p2 _ (l1.trans ((Le.new hp).trans (.new hp2))) upd_self⟩⟩⟩
end
end Mine
namespace Mine
section
variable {H : Hp} {Q : V → Hp → Prop} {n : Nat} {s : Str}
noncomputable def seven : Str := Str.ofString "7"
theorem seven_len : seven.length = 1 := by decide +kernel
theorem seven_blank : charV (seven.cps.getD 0 0) ∉ blanks := by decide +kernel
theorem seven_dig : isDig seven 0 = true ∧ isDig seven 1 = false := by decide +kernel
theorem seven_0 : slcText seven 0 1 ≠ Str.ofString "-" ∧ slcText seven 0 1 ≠ Str.ofString "+" ∧ slcText seven 1 2 ≠ Str.ofString "." ∧ slcText seven 1 2 ≠ Str.ofString "e" ∧ slcText seven 1 2 ≠ Str.ofString "E" := by decide +kernel
theorem seven_c : seven.cps.getD 0 0 = 55 := by decide +kernel
theorem cmp_c {Δ : Calls} {op : CmpOp} {x y : V} {ρ : Env'} (q : kCmp2 op x Q y H) : kCmp1 op (EV Δ (.cst y) ρ) Q x H := q
theorem notin_pair {x : Str} {p : Addr} {y z : Str} (h1 : x ≠ y) (h2 : x ≠ z) : cmpV (upd H p (.tup [.str y, .str z])) .NotIn (.str x) (.ref p) = some true := congrArg (Option.map not) (in_pair (H := H) h1 h2)
theorem sp_exponent7 (hn : 1 ≤ n) (q : ∀ H', Le [] H H' → Q (.int 1) H') : MC T n 37 [.str seven, .int 1] Q H :=
  call_of (ρ := [some (.str seven), some (.int 1), none]) hn T_exponent_behind rfl fun n hn => ⟨seven_len ▸ by decide, fun p hp => cmp_of (notin_pair seven_0.2.2.2.1 seven_0.2.2.2.2) <| q _ (.new hp)⟩
theorem sp_value1 (hn : 1 ≤ n) (hl : s.length = 1) (hc : s.cps.getD 0 0 = 55) (q : Q (.int 7) H) : MC T n 35 [.str s, .int 0, .int 1] Q H := by
  refine call_of (ρ := [some (.str s), some (.int 0), some (.int 1), none, none]) hn T_digits_value rfl fun n hn => ⟨by decide, by decide, by decide, by decide, ?_⟩
  refine for_rule (fun i ρ H' => H' = H ∧ ∃ o, ρ = [some (.str s), some (.int 0), some (.int 1), some (.int (if i = 0 then 0 else 7)), o]) ⟨rfl, none, rfl⟩ (fun _ _ _ _ => trivial) ?_ ?_
  · rintro i v ρ H' K' hv ⟨rfl, o, rfl⟩ hK' hR'
    cases i with
    | zero =>
      cases hv
      refine ⟨by decide, by decide, idx_of (idx_str (s := s) (p := 0) (hl ▸ by decide) (by decide)) ?_⟩
      rw [hc]
      exact ⟨.inl rfl, by decide, by decide, hK' _ _ ⟨rfl, _, rfl⟩⟩
    | succ i => cases hv
  · rintro ρ H' ⟨rfl, o, rfl⟩
    exact q
theorem sp_value7 (hn : 1 ≤ n) (q : Q (.int 7) H) : MC T n 35 [.str seven, .int 0, .int 1] Q H := sp_value1 hn seven_len seven_c q
theorem sp_signed7 (hn : 2 ≤ n) (q : Q (.int 7) H) : MC T n 36 [.bool false, .int 7] Q H :=
  call_of (ρ := [some (.bool false), some (.int 7), none]) hn T_signed rfl fun n hn => sp_least hn <| sp_greatest hn q
theorem sp_numeric7 (hn : 4 ≤ n) (q : ∀ p H', Le [] H H' → H' p = some (.tup [.int 2, .int 7]) → Q (.ref p) H') : MC T n 39 [.str seven] Q H := by
  have hl := seven_len
  have h60 : seven.length < 2 ^ 60 := hl ▸ by decide
  have h24 : seven.length ≤ 2 ^ 24 := hl ▸ by decide
  obtain ⟨x1, x2, x3, _, _⟩ := seven_0
  obtain ⟨d0, d1⟩ := seven_dig
  refine call_of (ρ := [some (.str seven), none, none, none, none, none, none]) hn T_numeric rfl fun n hn => sp_blanks (p := 0) (up hn) h60 (fun _ => seven_blank) fun H1 l1 => ⟨h24, cmp_c <| cmp_of (r := false) (congrArg some (decide_eq_false x1)) ?_⟩
  exact ⟨h24, fun p hp => cmp_of (in_pair x2 x1) <| sp_digits_behind1 (p := 0) (up hn) h60 d0 d1 ⟨h24, cmp_c <| cmp_of (r := false) (congrArg some (decide_eq_false x3)) <| sp_exponent7 (up hn) fun H3 l3 => sp_value7 (up hn) <| sp_signed7 (up hn) <| sp_blanks (p := 1) (up hn) h60 (fun h => absurd (hl ▸ h) (Nat.lt_irrefl _)) fun H4 l4 => len_of len_str (Nat.lt_trans h60 (by decide)) <|
    cmp_of (r := true) (congrArg some (decide_eq_true (show (1 : Int) = seven.length by rw [hl]; rfl))) fun p2 hp2 => q p2 _ (l1.trans ((Le.new hp).trans (l3.trans (l4.trans (.new hp2))))) upd_self⟩⟩
theorem noNum : ∀ s : Str, s = Str.ofString "x" ∨ s = Str.ofString "" ∨ s = Str.ofString "otherwise" ∨ s = Str.ofString "n" → NoNum s := by
  rintro s (rfl | rfl | rfl | rfl) <;> exact ⟨by decide +kernel, by decide +kernel, by decide +kernel, by decide +kernel, by decide +kernel, by decide +kernel⟩
noncomputable def codeOf (s : Str) : Int := if s = seven then 2 else 0
noncomputable def numOf (s : Str) : Int := if s = seven then 7 else 0
noncomputable def TextOk (s : Str) : Prop := NoNum s ∨ s = seven
theorem sp_numeric (hn : 4 ≤ n) (x : TextOk s) (q : ∀ p H', Le [] H H' → H' p = some (.tup [.int (codeOf s), .int (numOf s)]) → Q (.ref p) H') : MC T n 39 [.str s] Q H := by
  rcases x with x | rfl
  · have hs : s ≠ seven := by rintro rfl; have := x.dig; rw [seven_dig.1] at this; cases this
    exact sp_numeric0 (up hn) x fun p H' l e => q p H' l (by rw [codeOf, numOf, if_neg hs, if_neg hs]; exact e)
  · exact sp_numeric7 hn fun p H' l e => q p H' l (by rw [codeOf, numOf, if_pos rfl, if_pos rfl]; exact e)
theorem idx_pair {p : Addr} {x y : V} (e : H p = some (.tup [x, y])) : idxV H (.ref p) (.int 0) = some x ∧ idxV H (.ref p) (.int 1) = some y := ⟨idx_tup (i := 0) e (by decide), idx_tup (i := 1) e (by decide)⟩
theorem sp_number_of (hn : 5 ≤ n) (x : TextOk s) (q : ∀ H', Le [] H H' → Q (.int (numOf s)) H') : MC T n 40 [.str s] Q H :=
  call_of (ρ := [some (.str s), none]) hn T_number_of rfl fun n hn => sp_numeric hn x fun p H1 l1 e => idx_of (idx_pair e).2 (q H1 l1)
theorem sp_sign0 (hn : 1 ≤ n) {i : Int} (q : Q (.int 0) H) : MC T n 42 [.int i, .int i] Q H :=
  call_of (ρ := [some (.int i), some (.int i)]) hn T_sign_of rfl fun n hn => if_f (Int.lt_irrefl i) <| if_f (Int.lt_irrefl i) q
theorem sp_sign0b (hn : 1 ≤ n) {b : Bool} (q : Q (.int 0) H) : MC T n 42 [.bool b, .bool b] Q H :=
  call_of (ρ := [some (.bool b), some (.bool b)]) hn T_sign_of rfl fun n hn => if_f (Int.lt_irrefl _) <| if_f (Int.lt_irrefl _) q
end
end Mine
namespace Mine
section
variable {Q : V → Hp → Prop} {n : Nat} {s : Str}
theorem sp_texts0 {H : Hp} (hn : 1 ≤ n) (q : Q (.int 0) H) : MC T n 29 [.str s, .str s] Q H :=
  call_of (ρ := [some (.str s), some (.str s)]) hn T_compare_texts rfl fun n hn => if_t (p := s = s) rfl q
theorem sp_smart0 {H : Hp} (hn : 6 ≤ n) (x : TextOk s) (q : ∀ H', Le [] H H' → Q (.int 0) H') : MC T n 43 [.str s, .str s] Q H :=
  call_of (ρ := [some (.str s), some (.str s)]) hn T_smart rfl fun n hn => sp_numeric (up hn) x fun p H1 l1 e1 => idx_of (idx_pair e1).1 <| if_c (fun hc => sp_numeric (up hn) x fun p H2 l2 e2 => idx_of (idx_pair e2).1 <| if_t hc <| sp_number_of hn x fun H3 l3 => sp_number_of hn x fun H4 l4 => sp_sign0 (up hn) (q _ (l1.trans (l2.trans (l3.trans l4)))))
    fun _ => sp_texts0 (up hn) (q _ l1)
theorem sp_check_depth {H : Hp} (hn : 1 ≤ n) {d : Nat} (hd : d ≤ 40) (q : Q .none H) : MC T n 44 [.int d] Q H :=
  call_of (ρ := [some (.int d)]) hn T_check_depth rfl fun n hn => if_f (Int.not_lt.mpr (Int.ofNat_le.mpr hd)) q
theorem toL_one : ∀ {r : Trs} {R : List (V × V)} {W : List Addr} {H : Hp}, RepR W H r R → keysR R = r.toL.map (·.1)
  | .nil, R, W, H, h => by
    cases (show R = [] from h); rfl
  | .cons k t r, R, W, H, ⟨s, R', e, _, h⟩ => by
    subst e
    exact congrArg (k :: ·) (toL_one h)
theorem ok_text {u : V} (h : u ∈ L10) : ∀ s, u = .str s → TextOk s := by
  intro s e
  subst e
  simp only [L10, List.mem_cons, List.mem_nil_iff, or_false, reduceCtorEq, false_or, V.str.injEq] at h
  rcases h with h | h | h | h | h
  · exact .inl (noNum s (.inl h))
  · exact .inl (noNum s (.inr (.inl h)))
  · exact .inr h
  · exact .inl (noNum s (.inr (.inr (.inl h))))
  · exact .inl (noNum s (.inr (.inr (.inr h))))
theorem pair_rows {H : Hp} {cs1 cs2 : List Cell} {r : Trs} {i : Nat} {k s1 : V} (ra : RepR [] H r (rowsOf cs1)) (rb : RepR [] H r (rowsOf cs2)) (hrow : (rowsOf cs1)[i]? = some (k, s1)) :
    ∃ (T : Tr) (v1 s2 v2 : V) (j : Nat), r.toL[i]? = some (k, T) ∧ Slot [] H s1 v1 ∧ Rep [] H T v1 ∧ cs2[j]? = some (some (k, s2)) ∧ Slot [] H s2 v2 ∧ Rep [] H T v2 := by
  obtain ⟨T, v1, g1, h1, h2⟩ := ra.get hrow
  obtain ⟨⟨k2, s2⟩, hrow2⟩ : ∃ q, (rowsOf cs2)[i]? = some q := ⟨_, List.getElem?_eq_getElem ((rb.len.trans ra.len.symm) ▸ (List.getElem?_eq_some_iff.mp hrow).1)⟩
  obtain ⟨T2, v2, g2, h3, h4⟩ := rb.get hrow2
  cases g1.symm.trans g2
  obtain ⟨j, hj⟩ := row_mem hrow2
  exact ⟨T, v1, s2, v2, j, g1, h1, h2, hj, h3, h4⟩
section
variable {Δ : Calls} {ρ : Env'} {K : PF} {H : Hp} {S r : MS} {k1 k2 x y : Str}
theorem no_pair (h4 : ρ[4]? = some (some (.str k1))) (h5 : ρ[5]? = some (some (.str k2))) (hne : k1 ≠ x ∨ k2 ≠ y) (k : EX Δ r ρ K H) : EX Δ (.seq (.ife (.and (.cmp .Eq (.var 4) (.cst (.str x))) (.cmp .Eq (.var 5) (.cst (.str y)))) S .skip) r) ρ K H := by
  show kV ρ[4]? _ _
  rw [h4]
  by_cases h : k1 = x
  · refine if_t h ?_
    show kV ρ[5]? _ _
    rw [h5]
    exact if_f (hne.resolve_left fun h' => h' h) k
  · exact if_f h k
theorem yes_pair (h4 : ρ[4]? = some (some (.str x))) (h5 : ρ[5]? = some (some (.str y))) (k : EX Δ S ρ (kSeq (EX Δ r) K) H) : EX Δ (.seq (.ife (.and (.cmp .Eq (.var 4) (.cst (.str x))) (.cmp .Eq (.var 5) (.cst (.str y)))) S .skip) r) ρ K H := by
  show kV ρ[4]? _ _
  rw [h4]
  refine if_t (p := x = x) rfl ?_
  show kV ρ[5]? _ _
  rw [h5]
  exact if_t (p := y = y) rfl k
theorem no_in (h4 : ρ[4]? = some (some (.str k1))) (h5 : ρ[5]? = some (some (.str k2))) (n1 : k1 ≠ x) (n2 : k1 ≠ y) (m1 : k2 ≠ x) (m2 : k2 ≠ y) (k : ∀ H', Le [] H H' → EX Δ r ρ K H') :
    EX Δ (.seq (.ife (.or (.cmp .In (.var 4) (.tup (.cons (.cst (.str x)) (.cons (.cst (.str y)) .nil)))) (.cmp .In (.var 5) (.tup (.cons (.cst (.str x)) (.cons (.cst (.str y)) .nil))))) S .skip) r) ρ K H := by
  show kV ρ[4]? _ _
  rw [h4]
  refine fun p hp => cmp_of (in_pair n1 n2) ?_
  show kV ρ[5]? _ _
  rw [h5]
  exact fun p2 hp2 => cmp_of (in_pair m1 m2) (k _ ((Le.new hp).trans (.new hp2)))
theorem no_one {i : Nat} (h4 : ρ[i]? = some (some (.str k1))) (hne : k1 ≠ x) (k : EX Δ r ρ K H) : EX Δ (.seq (.ife (.cmp .Eq (.var i) (.cst (.str x))) S .skip) r) ρ K H := by
  show kV ρ[i]? _ _
  rw [h4]
  exact if_f hne k
theorem yes_one {i : Nat} (h4 : ρ[i]? = some (some (.str x))) (k : EX Δ S ρ (kSeq (EX Δ r) K) H) : EX Δ (.seq (.ife (.cmp .Eq (.var i) (.cst (.str x))) S .skip) r) ρ K H := by
  show kV ρ[i]? _ _
  rw [h4]
  exact if_t (p := x = x) rfl k
end
theorem sp_to_bool {H : Hp} (hn : 2 ≤ n) {v : V} (hv : v = .none ∨ ∃ b, v = .bool b) (q : ∀ b, (∀ b', v = .bool b' → b = b') → (v = .none → b = false) → Q (.bool b) H) : MC T n 41 [v] Q H := by
  obtain ⟨k1, k2, k3, k4, k5, k6, k7, k8, k9, k10, k11, k12, k13, k14, k15⟩ := kd_ne
  refine call_of (ρ := [some v, none]) hn T_to_bool rfl fun n hn => ?_
  rcases hv with rfl | ⟨b, rfl⟩
  · exact sp_kind (t := .sc .none) hn ⟨rfl, rfl⟩ <| yes_one (i := 1) rfl (q false (fun _ h => nomatch h) fun _ => rfl)
  · refine sp_kind (t := .sc (.bool b)) hn ⟨rfl, rfl⟩ <| no_one (i := 1) rfl (Ne.symm k9) <| no_one (i := 1) rfl k13 <| no_one (i := 1) rfl k2 <| no_one (i := 1) rfl k6 ?_
    cases b <;> exact q _ (fun b' e => V.bool.inj e) fun h => nomatch h
theorem in_first {x y : Str} {H : Hp} {p : Addr} : cmpV (upd H p (.tup [.str x, .str y])) .In (.str x) (.ref p) = some true := (in_tup rfl rfl).trans (congrArg some (decide_eq_true (.head _)))
theorem in_second {x y : Str} {H : Hp} {p : Addr} : cmpV (upd H p (.tup [.str x, .str y])) .In (.str y) (.ref p) = some true := (in_tup rfl rfl).trans (congrArg some (decide_eq_true (.tail _ (.head _))))
theorem sp_compare_of {k n : Nat} {t : Tr} {Q : V → Hp → Prop} {H : Hp} {hv a b : V} {dep : Nat} (hn : k + 1 ≤ n) (h7 : 7 ≤ k) (o : t.ok) (hd : dep ≤ 40) (ha : Rep [] H t a) (hb : Rep [] H t b)
    (harr : ∀ m r H1 (Q' : V → Hp → Prop), k ≤ m → t = .ar r → Rep [] H1 t a → Rep [] H1 t b → (∀ H', Le [] H1 H' → Q' (.int 0) H') → MC T m 45 [hv, a, b, .int dep] Q' H1) (q : ∀ H', Le [] H H' → Q (.int 0) H')
    {F : Option Env'} (hF : F = some [some hv, some a, some b, some (.int dep), none, none]) {vs : List V} (hvs : argsOf f_compare vs = F) : MC T n 46 vs Q H := by
  obtain ⟨k1, k2, k3, k4, k5, k6, k7, k8, k9, k10, k11, k12, k13, k14, k15⟩ := kd_ne
  refine call_of hn T_compare (hvs.trans hF) fun n hn => ?_
  have h7 := Nat.le_trans h7 hn
  refine sp_check_depth (up h7) hd <| sp_kind (up h7) ha <| sp_kind (up h7) hb ?_
  show EX (MC T n) _ [some hv, some a, some b, some (.int dep), some (.str (kd t)), some (.str (kd t))] (kBack Q) H
  cases t with
  | ar r =>
    exact no_pair rfl rfl (.inl (Ne.symm k3)) <| no_pair rfl rfl (.inl (Ne.symm k4)) <| no_pair rfl rfl (.inl (Ne.symm k1)) <| no_pair rfl rfl (.inl (Ne.symm k4)) <| no_pair rfl rfl (.inl k15) <| no_in rfl rfl (Ne.symm k1) (Ne.symm k2) (Ne.symm k1) (Ne.symm k2) fun H2 l2 => no_one (i := 4) rfl k15 <| no_one (i := 5) rfl k15 <| yes_pair rfl rfl <|
      harr n r _ _ hn rfl (ha.le0 l2) (hb.le0 l2) fun H' l => q _ (l2.trans l)
  | sc u =>
    obtain ⟨rfl, hu⟩ := ha
    obtain ⟨e, _⟩ := hb
    subst e
    cases b with
    | ref a => cases hu
    | int i => exact yes_pair rfl rfl <| sp_sign0 (up h7) (q _ .refl)
    | str s => exact no_pair rfl rfl (.inl (Ne.symm k14)) <| yes_pair rfl rfl <| sp_smart0 (up h7) (ok_text o s rfl) fun H' l => q _ l
    | none =>
      refine no_pair rfl rfl (.inl k10) <| no_pair rfl rfl (.inl k11) <| no_pair rfl rfl (.inr k11) <| no_pair rfl rfl (.inl k11) <| no_pair rfl rfl (.inl k5) fun p hp => cmp_of in_first <| sp_to_bool (up h7) (.inl rfl) fun b1 h1 h2 => sp_to_bool (up h7) (.inl rfl) fun b2 h3 h4 => ?_
      rw [h2 rfl, h4 rfl]
      exact sp_sign0b (up h7) (q _ (.new hp))
    | bool b =>
      refine no_pair rfl rfl (.inl k12) <| no_pair rfl rfl (.inl k13) <| no_pair rfl rfl (.inl (Ne.symm k9)) <| no_pair rfl rfl (.inl k13) <| no_pair rfl rfl (.inl k6) fun p hp => cmp_of in_second <| sp_to_bool (up h7) (.inr ⟨b, rfl⟩) fun b1 h1 h2 => sp_to_bool (up h7) (.inr ⟨b, rfl⟩) fun b2 h3 h4 => ?_
      rw [h1 b rfl, h3 b rfl]
      exact sp_sign0b (up h7) (q _ (.new hp))
theorem sp_compare_main (hv : V) : ∀ h : Nat, ∀ {t : Tr} {n : Nat} {Q : V → Hp → Prop} {H : Hp} {a b : V} {dep : Nat} {vs : List V}, t.ht ≤ h → 2 * h + 8 ≤ n → t.ok → dep + t.ht ≤ 40 → Rep [] H t a → Rep [] H t b → (∀ H', Le [] H H' → Q (.int 0) H') → argsOf f_compare vs = some [some hv, some a, some b, some (.int dep), none, none] → MC T n 46 vs Q H := by
  intro h
  induction h with
  | zero =>
    intro t n Q H a b dep vs hh hn o hd ha hb q hvs
    refine sp_compare_of hn (by decide) o (Nat.le_trans (Nat.le_add_right _ _) hd) ha hb (fun m r H1 Q' _ e _ _ _ => ?_) q rfl hvs
    subst e
    exact absurd hh (Nat.not_succ_le_zero _)
  | succ h ih =>
    intro t n Q H a b dep vs hh hn o hd ha hb q hvs
    refine sp_compare_of (k := 2 * h + 9) hn (by omega) o (Nat.le_trans (Nat.le_add_right _ _) hd) ha hb (fun m r H1 Q' hm e ha hb q' => ?_) q rfl hvs
    subst e
    have hh' : r.ht ≤ h := Nat.le_of_succ_le_succ hh
    have hd' : dep + 1 + r.ht ≤ 40 := by rw [Nat.add_right_comm]; exact hd
    obtain ⟨a', S1, cs1, m1, rfl, xa, _, _, ra⟩ := id ha
    obtain ⟨b', S2, cs2, m2, rfl, xb, _, _, rb⟩ := id hb
    refine call_of (ρ := [some hv, some (.ref a'), some (.ref b'), some (.int dep), none, none, none]) hm T_compare_arrays rfl fun n hn => ?_
    by_cases hab : a' = b'
    · subst hab
      exact cmp_of is_same (q' _ .refl)
    · obtain ⟨d1, fs1, e1⟩ := xa.is.inst
      obtain ⟨d2, fs2, e2⟩ := xb.is.inst
      have hcnt : S1.count = S2.count := by rw [xa.cnt, xb.cnt, ra.len, rb.len]
      refine cmp_of (is_diff hab e1 e2) <| fld_of xa.is.f6 <| fld_of xb.is.f6 <| if_nf hcnt <| sp_slots_of (by omega) xa fun l H2 refs le2 _ e2 t2 => for_of e2 ?_
      refine for_rule (fun i ρ H' => Le [] H2 H' ∧ ∃ o1 o2 o3, ρ = [some hv, some (.ref a'), some (.ref b'), some (.int dep), o1, o2, o3]) ⟨.refl, none, none, none, rfl⟩ (fun i ρ H' h => h.1.lst e2 List.not_mem_nil) ?_ ?_
      · rintro i w ρ H' K' hw ⟨hle, o1, o2, o3, rfl⟩ hK' hR'
        obtain ⟨t, k, s, rfl, hrow, ht⟩ := t2.get hw
        obtain ⟨T1, v1, s2, v2, j, g1, h1, p1, hj, h2, p2⟩ := pair_rows ra rb hrow
        have leA := le2.trans hle
        have xb' := xb.le leA
        have hT : T1.ht ≤ r.ht := ht_mem g1
        have hhas : hasK cs2 k = true := decide_eq_true (by rw [fnd_at xb.one hj]; exact Int.natCast_nonneg j)
        refine step2_of (hle.tup ht List.not_mem_nil) <| meth_of xb'.is.inst <| sp_has (by omega) xb' (xb.ko _ _ _ hj) ?_
        rw [hhas]
        exact sp_deref (by omega) (h1.le0 leA) (p1.le0 leA) <| meth_of xb'.is.inst <| sp_slot (by omega) xb' hj <| sp_deref (by omega) (h2.le0 leA) (p2.le0 leA) <| ih (dep := dep + 1) (t := T1) (Nat.le_trans hT hh') (by omega) (ok_mem o.1 g1).2 (by omega) (p1.le0 leA) (p2.le0 leA) (fun H3 l3 => hK' _ _ ⟨hle.trans l3, _, _, _, rfl⟩) rfl
      · rintro ρ H' ⟨hle, o1, o2, o3, rfl⟩
        exact q' _ (le2.trans hle)
theorem sp_compare {t : Tr} {n : Nat} {Q : V → Hp → Prop} {H : Hp} {hv a b : V} (hh : t.ht ≤ 40) (hn : 2 * t.ht + 8 ≤ n) (o : t.ok) (ha : Rep [] H t a) (hb : Rep [] H t b) (q : ∀ H', Le [] H H' → Q (.int 0) H') : MC T n 46 [hv, a, b] Q H :=
  sp_compare_main hv t.ht (dep := 0) (Nat.le_refl _) hn o ((Nat.zero_add _).symm ▸ hh) ha hb q rfl
end
end Mine
namespace Mine
section
variable {Δ : Calls} {ρ : Env'} {K : PF} {H : Hp} {S r : MS} {k1 k2 x y : Str} {c : ME}
theorem no_three (h4 : ρ[4]? = some (some (.str k1))) (hne : k1 ≠ x) (k : EX Δ r ρ K H) : EX Δ (.seq (.ife (.and (.cmp .Eq (.var 4) (.cst (.str x))) c) S .skip) r) ρ K H := by
  show kV ρ[4]? _ _
  rw [h4]
  exact if_f hne k
theorem yes_three {a : Str} (h4 : ρ[4]? = some (some (.str x))) (h5 : ρ[5]? = some (some (.str x))) (h1 : ρ[1]? = some (some (.str a))) (h2 : ρ[2]? = some (some (.str a))) (k : EX Δ S ρ (kSeq (EX Δ r) K) H) :
    EX Δ (.seq (.ife (.and (.cmp .Eq (.var 4) (.cst (.str x))) (.and (.cmp .Eq (.var 5) (.cst (.str x))) (.cmp .Eq (.var 1) (.var 2)))) S .skip) r) ρ K H := by
  show kV ρ[4]? _ _
  rw [h4]
  refine if_t (p := x = x) rfl ?_
  show kV ρ[5]? _ _
  rw [h5]
  refine if_t (p := x = x) rfl ?_
  show kV ρ[1]? _ _
  rw [h1]
  show kV ρ[2]? _ _
  rw [h2]
  exact if_t (p := a = a) rfl k
end
theorem sp_loose_of {k n : Nat} {t : Tr} {Q : V → Hp → Prop} {H : Hp} {hv a b : V} {dep : Nat} (hn : k + 1 ≤ n) (h10 : 10 ≤ k) (o : t.ok) (hd : dep ≤ 40) (ha : Rep [] H t a) (hb : Rep [] H t b)
    (harr : ∀ m r (Q' : V → Hp → Prop), k ≤ m → t = .ar r → (∀ H', Le [] H H' → Q' (.bool true) H') → MC T m 47 [hv, a, b, .int dep] Q' H) (q : ∀ H', Le [] H H' → Q (.bool true) H') {vs : List V} (hvs : argsOf f_loose_equal vs = some [some hv, some a, some b, some (.int dep), none, none]) : MC T n 48 vs Q H := by
  obtain ⟨k1, k2, k3, k4, k5, k6, k7, k8, k9, k10, k11, k12, k13, k14, k15⟩ := kd_ne
  refine call_of hn T_loose_equal hvs fun n hn => ?_
  have h10 := Nat.le_trans h10 hn
  refine sp_check_depth (up h10) hd <| sp_kind (up h10) ha <| sp_kind (up h10) hb ?_
  show EX (MC T n) _ [some hv, some a, some b, some (.int dep), some (.str (kd t)), some (.str (kd t))] (kBack Q) H
  cases t with
  | ar r => exact no_three rfl (Ne.symm k4) <| yes_pair rfl rfl <| harr n r _ hn rfl fun H' l => q _ l
  | sc u =>
    obtain ⟨rfl, hu⟩ := ha
    obtain ⟨e, _⟩ := hb
    subst e
    cases b with
    | ref a => cases hu
    | int i => exact no_three rfl k14 <| no_pair rfl rfl (.inl k3) <| sp_compare_main hv 0 (t := .sc (.int i)) (Nat.le_refl _) (up h10) o hd ⟨rfl, hu⟩ ⟨rfl, hu⟩ (fun H' l => q _ l) rfl
    | none => exact no_three rfl k11 <| no_pair rfl rfl (.inl k1) <| sp_compare_main hv 0 (t := .sc .none) (Nat.le_refl _) (up h10) o hd ⟨rfl, hu⟩ ⟨rfl, hu⟩ (fun H' l => q _ l) rfl
    | bool c => exact no_three rfl k13 <| no_pair rfl rfl (.inl k2) <| sp_compare_main hv 0 (t := .sc (.bool c)) (Nat.le_refl _) (up h10) o hd ⟨rfl, hu⟩ ⟨rfl, hu⟩ (fun H' l => q _ l) rfl
    | str s => exact yes_three rfl rfl rfl rfl (q _ .refl)
theorem sp_loose_main (hv : V) : ∀ h : Nat, ∀ {t : Tr} {n : Nat} {Q : V → Hp → Prop} {H : Hp} {a b : V} {dep : Nat} {vs : List V}, t.ht ≤ h → 2 * h + 12 ≤ n → t.ok → dep + t.ht ≤ 40 → Rep [] H t a → Rep [] H t b → (∀ H', Le [] H H' → Q (.bool true) H') → argsOf f_loose_equal vs = some [some hv, some a, some b, some (.int dep), none, none] → MC T n 48 vs Q H := by
  intro h
  induction h with
  | zero =>
    intro t n Q H a b dep vs hh hn o hd ha hb q hvs
    refine sp_loose_of hn (by decide) o (Nat.le_trans (Nat.le_add_right _ _) hd) ha hb (fun m r Q' _ e _ => ?_) q hvs
    subst e
    exact absurd hh (Nat.not_succ_le_zero _)
  | succ h ih =>
    intro t n Q H a b dep vs hh hn o hd ha hb q hvs
    refine sp_loose_of (k := 2 * h + 13) hn (by omega) o (Nat.le_trans (Nat.le_add_right _ _) hd) ha hb (fun m r Q' hm e q' => ?_) q hvs
    subst e
    have hh' : r.ht ≤ h := Nat.le_of_succ_le_succ hh
    have hd' : dep + 1 + r.ht ≤ 40 := by rw [Nat.add_right_comm]; exact hd
    obtain ⟨a', S1, cs1, m1, rfl, xa, _, _, ra⟩ := id ha
    obtain ⟨b', S2, cs2, m2, rfl, xb, _, _, rb⟩ := id hb
    refine call_of (ρ := [some hv, some (.ref a'), some (.ref b'), some (.int dep), none, none]) hm T_equal_arrays rfl fun n hn => ?_
    by_cases hab : a' = b'
    · subst hab
      exact cmp_of is_same (q' _ .refl)
    · obtain ⟨d1, fs1, e1⟩ := xa.is.inst
      obtain ⟨d2, fs2, e2⟩ := xb.is.inst
      have hcnt : S1.count = S2.count := by rw [xa.cnt, xb.cnt, ra.len, rb.len]
      refine cmp_of (is_diff hab e1 e2) <| fld_of xa.is.f6 <| fld_of xb.is.f6 <| if_nf hcnt <| sp_slots_of (by omega) xa fun l H2 refs le2 _ e2 t2 => for_of e2 ?_
      refine for_rule (fun i ρ H' => Le [] H2 H' ∧ ∃ o1 o2, ρ = [some hv, some (.ref a'), some (.ref b'), some (.int dep), o1, o2]) ⟨.refl, none, none, rfl⟩ (fun i ρ H' h => h.1.lst e2 List.not_mem_nil) ?_ ?_
      · rintro i w ρ H' K' hw ⟨hle, o1, o2, rfl⟩ hK' hR'
        obtain ⟨t, k, s, rfl, hrow, ht⟩ := t2.get hw
        obtain ⟨T1, v1, s2, v2, j, g1, h1, p1, hj, h2, p2⟩ := pair_rows ra rb hrow
        have leA := le2.trans hle
        have xb' := xb.le leA
        have hT : T1.ht ≤ r.ht := ht_mem g1
        have hhas : hasK cs2 k = true := decide_eq_true (by rw [fnd_at xb.one hj]; exact Int.natCast_nonneg j)
        refine step2_of (hle.tup ht List.not_mem_nil) <| meth_of xb'.is.inst <| sp_has (by omega) xb' (xb.ko _ _ _ hj) ?_
        rw [hhas]
        exact sp_deref (by omega) (h1.le0 leA) (p1.le0 leA) <| meth_of xb'.is.inst <| sp_slot (by omega) xb' hj <| sp_deref (by omega) (h2.le0 leA) (p2.le0 leA) <| ih (dep := dep + 1) (t := T1) (Nat.le_trans hT hh') (by omega) (ok_mem o.1 g1).2 (by omega) (p1.le0 leA) (p2.le0 leA) (fun H3 l3 => hK' _ _ ⟨hle.trans l3, _, _, rfl⟩) rfl
      · rintro ρ H' ⟨hle, o1, o2, rfl⟩
        exact q' _ (le2.trans hle)
theorem sp_loose {t : Tr} {n : Nat} {Q : V → Hp → Prop} {H : Hp} {hv a b : V} (hh : t.ht ≤ 40) (hn : 2 * t.ht + 12 ≤ n) (o : t.ok) (ha : Rep [] H t a) (hb : Rep [] H t b) (q : ∀ H', Le [] H H' → Q (.bool true) H') : MC T n 48 [hv, a, b] Q H :=
  sp_loose_main hv t.ht (dep := 0) (Nat.le_refl _) hn o ((Nat.zero_add _).symm ▸ hh) ha hb q rfl
end Mine
namespace Mine
noncomputable def spc (n : Nat) : Str := ⟨(List.replicate n 32).toArray⟩
noncomputable def qt (s : Str) : Str := Str.ofString "'" ++ s ++ Str.ofString "'"
noncomputable def expS : V → Str
  | .none => Str.ofString "NULL"
  | .bool true => Str.ofString "true"
  | .bool false => Str.ofString "false"
  | .int i => intText i
  | .str s => qt s
  | .ref _ => Str.ofString ""
noncomputable def beg (d : Nat) : Str := if d = 0 then Str.ofString "" else Str.ofString "\n" ++ spc (2 * d)
mutual
noncomputable def expT (d : Nat) : Tr → Str
  | .sc u => expS u
  | .ar r => beg d ++ Txt.join (Str.ofString "") (Str.ofString "array (\n" :: (expR d r ++ [spc (2 * d) ++ Str.ofString ")"]))
noncomputable def expR (d : Nat) : Trs → List Str
  | .nil => []
  | .cons k t r => (spc (2 * d + 2) ++ expS k ++ Str.ofString " => " ++ expT (d + 1) t ++ Str.ofString ",\n") :: expR d r
end
noncomputable def expRow (d : Nat) (p : V × Tr) : Str := spc (2 * d + 2) ++ expS p.1 ++ Str.ofString " => " ++ expT (d + 1) p.2 ++ Str.ofString ",\n"
theorem expR_map {d : Nat} : ∀ {r : Trs}, expR d r = r.toL.map (expRow d)
  | .nil => rfl
  | .cons k t r => congrArg (_ :: ·) expR_map
theorem join_empty (ts : List Str) : Txt.join (Str.ofString "") ts = Str.join (Str.ofString "") ts := StrLaws.glued_eq_join _ _
theorem joinOk0 {ts : List Str} (h : (ts.map (·.length)).sum ≤ sizeLine) : JoinOk (Str.ofString "") ts = true := by
  unfold JoinOk
  rw [StrLaws.joinTotal]
  have : (Str.ofString "").length = 0 := by decide +kernel
  simp [Builtin.Str.tooLong, this]
  simpa using h
theorem join0_len (ts : List Str) : (Txt.join (Str.ofString "") ts).length ≤ (ts.map (·.length)).sum := by
  rw [join_empty]
  have h := StrLaws.join_length_le (Str.ofString "") ts
  have h0 : (Str.ofString "").length = 0 := by decide +kernel
  rw [h0] at h
  simpa using h
theorem spc_len {n : Nat} : (spc n).length = n := by simp [spc, Str.length]
theorem expS_leaf : ∀ u ∈ L10, (expS u).length ≤ 30 := by decide +kernel
theorem expS_key : ∀ u ∈ K10, (expS u).length ≤ 30 := by decide +kernel
theorem beg_len {d : Nat} : (beg d).length ≤ 2 * d + 1 := by
  unfold beg
  split
  · have : (Str.ofString "").length = 0 := by decide +kernel
    omega
  · rw [strLen_append, spc_len]
    have : (Str.ofString "\n").length = 1 := by decide +kernel
    omega
theorem str_lens : (Str.ofString "array (\n").length = 8 ∧ (Str.ofString ")").length = 1 ∧ (Str.ofString " => ").length = 4 ∧ (Str.ofString ",\n").length = 2 ∧ (Str.ofString "'").length = 1 ∧ (Str.ofString "\n").length = 1 ∧ (Str.ofString " ").length = 1 ∧ (Str.ofString "").length = 0 := by decide +kernel
noncomputable def ebnd : Nat → Nat
  | 0 => 200
  | h + 1 => 200 + 6 * (200 + ebnd h)
theorem ebnd_mono {h h' : Nat} (l : h ≤ h') : ebnd h ≤ ebnd h' := by
  induction l with
  | refl => exact Nat.le_refl _
  | step _ ih => exact Nat.le_trans ih (by show _ ≤ 200 + 6 * (200 + ebnd _); omega)
mutual
theorem expT_b : ∀ {t : Tr} {d : Nat}, t.ok → d + t.ht ≤ 20 → (expT d t).length ≤ ebnd t.ht
  | .sc u, d, o, hd => Nat.le_trans (expS_leaf u o) (show 30 ≤ 200 by decide)
  | .ar r, d, o, hd => by
    have hd' : d + 1 + r.ht ≤ 20 := by rw [Nat.add_right_comm]; exact hd
    have h1 := expR_b (d := d) o.1 hd'
    have hl := o.2
    obtain ⟨s1, s2, s3, s4, s5, s6, s7, s8⟩ := str_lens
    have hb := beg_len (d := d)
    show (beg d ++ Txt.join _ _).length ≤ 200 + 6 * (200 + ebnd r.ht)
    rw [strLen_append]
    have hj := join0_len (Str.ofString "array (\n" :: (expR d r ++ [spc (2 * d) ++ Str.ofString ")"]))
    simp only [List.map_cons, List.map_append, List.sum_cons, List.sum_append, List.map_nil, List.sum_nil, strLen_append, spc_len, s1, s2] at hj
    have : r.len * (200 + ebnd r.ht) ≤ 6 * (200 + ebnd r.ht) := Nat.mul_le_mul_right _ hl
    omega
theorem expR_b : ∀ {r : Trs} {d : Nat}, r.ok → d + 1 + r.ht ≤ 20 → ((expR d r).map (·.length)).sum ≤ r.len * (200 + ebnd r.ht)
  | .nil, d, o, hd => Nat.zero_le _
  | .cons k t r, d, o, hd => by
    have e : (Trs.cons k t r).ht = max t.ht r.ht := rfl
    rw [e] at hd
    have h0 := expS_key k o.1
    have h1 := expT_b (t := t) (d := d + 1) o.2.1 (by omega)
    have h2 := expR_b (r := r) (d := d) o.2.2 (by omega)
    obtain ⟨s1, s2, s3, s4, s5, s6, s7, s8⟩ := str_lens
    have m1 : ebnd t.ht ≤ ebnd (max t.ht r.ht) := ebnd_mono (Nat.le_max_left _ _)
    have m2 : ebnd r.ht ≤ ebnd (max t.ht r.ht) := ebnd_mono (Nat.le_max_right _ _)
    show _ ≤ (r.len + 1) * (200 + ebnd (max t.ht r.ht))
    simp only [expR, List.map_cons, List.sum_cons, strLen_append, spc_len, s3, s4]
    have : r.len * (200 + ebnd r.ht) ≤ r.len * (200 + ebnd (max t.ht r.ht)) := Nat.mul_le_mul_left _ (by omega)
    rw [Nat.succ_mul r.len]
    omega
end
theorem ebnd_small {h : Nat} (l : h ≤ 5) : ebnd h ≤ 2 ^ 23 := Nat.le_trans (ebnd_mono l) (by decide)
noncomputable abbrev Clean (s : Str) : Prop := s.length ≤ 20 ∧ (Builtin.Str.occurrences s (Str.ofString "\\") 0 s.length (s.length + 1)).isEmpty = true ∧ (Builtin.Str.occurrences s (Str.ofString "'") 0 s.length (s.length + 1)).isEmpty = true ∧ (Builtin.Str.occurrences s (Str.ofString "\x00") 0 s.length (s.length + 1)).isEmpty = true
noncomputable def strsOf (l : List V) : List Str := l.filterMap fun v => match v with | .str s => some s | _ => none
theorem clean_leaf : ∀ s ∈ strsOf L10, Clean s := by decide +kernel
theorem clean_key : ∀ s ∈ strsOf K10, Clean s := by decide +kernel
theorem mem_strs {l : List V} {s : Str} (h : .str s ∈ l) : s ∈ strsOf l := List.mem_filterMap.mpr ⟨_, h, rfl⟩
noncomputable def intsOf (l : List V) : List Int := l.filterMap fun v => match v with | .int s => some s | _ => none
theorem mem_ints {l : List V} {s : Int} (h : .int s ∈ l) : s ∈ intsOf l := List.mem_filterMap.mpr ⟨_, h, rfl⟩
theorem int_leaf : ∀ i ∈ intsOf L10, i ≠ -(2 ^ 63) ∧ i.natAbs < 2 ^ 64 := by decide +kernel
theorem int_key : ∀ i ∈ intsOf K10, i ≠ -(2 ^ 63) ∧ i.natAbs < 2 ^ 64 := by decide +kernel
section
variable {H : Hp} {Q : V → Hp → Prop} {n : Nat} {s : Str}
theorem sp_escaped (hn : 1 ≤ n) (c : Clean s) (q : Q (.str s) H) : MC T n 50 [.str s] Q H :=
  call_of (ρ := [some (.str s)]) hn T_escaped rfl fun n hn => ⟨c.2.1, c.2.2.1, q⟩
theorem sp_quoted (hn : 2 ≤ n) (c : Clean s) (q : Q (.str (qt s)) H) : MC T n 51 [.str s] Q H := by
  have s5 := str_lens.2.2.2.2.1
  have hl := c.1
  have h1 : (Str.ofString "'" ++ s).length ≤ 21 := by rw [strLen_append, s5]; omega
  refine call_of (ρ := [some (.str s)]) hn T_quoted rfl fun n hn => sp_escaped (up hn) c ⟨c.2.2.2, ⟨?_, ?_, q⟩⟩
  · rw [s5]; exact Nat.le_trans (Nat.add_le_add_left hl 1) (by decide)
  · rw [s5]; exact Nat.le_trans (Nat.add_le_add_right h1 1) (by decide)
theorem sp_export_int (hn : 2 ≤ n) {i : Int} (h1 : i ≠ -(2 ^ 63)) (h2 : i.natAbs < 2 ^ 64) (q : Q (.str (intText i)) H) : MC T n 52 [.int i] Q H :=
  call_of (ρ := [some (.int i)]) hn T_export_int rfl fun n hn => sp_least (up hn) <| if_f (p := i = -(2 ^ 63)) h1 ⟨h2, q⟩
theorem sp_is_again (hn : 1 ≤ n) {t : Tr} {a l : Addr} {us : List V} {d : Nat} (hd : d ≤ 40) (hv : Rep [] H t (.ref a)) (hl : H l = some (.lst us)) (hab : Above H t.size us) (q : Q (.bool false) H) : MC T n 49 [.ref a, .ref l, .int d] Q H := by
  refine call_of (ρ := [some (.ref a), some (.ref l), some (.int d), none]) hn T_is_again rfl fun n hn => if_f (Int.not_lt.mpr (Int.ofNat_le.mpr hd)) <| isi_of hv.notObj <| for_of hl ?_
  refine for_rule (fun i ρ H' => H' = H ∧ ∃ o, ρ = [some (.ref a), some (.ref l), some (.int d), o]) ⟨rfl, _, rfl⟩ (fun i ρ H' h => by rw [h.1]; exact hl) ?_ ?_
  · rintro i w ρ H' K' hw ⟨rfl, o, rfl⟩ hK' hR'
    exact cmp_of (hab.isnt hv (List.mem_of_getElem? hw)) <| hK' _ _ ⟨rfl, _, rfl⟩
  · rintro ρ H' ⟨rfl, o, rfl⟩
    exact q
end
end Mine
namespace Mine
theorem ofStrs_map : ∀ ts : List Str, ofStrs (ts.map V.str) = some ts
  | [] => rfl
  | t :: ts => congrArg (Option.map (t :: ·)) (ofStrs_map ts)
theorem spc_c : (Str.ofString " ").cps.getD 0 0 = 32 := by decide +kernel
section
variable {Q : P1} {H : Hp}
theorem mul_sp {m : Nat} {i : Int} (e : i = m) (h : m < 2 ^ 20) (q : Q (.str (spc m)) H) : kBin2 .Mult (.str (Str.ofString " ")) Q (.int i) H := by
  subst e
  have q : Q (.str ⟨(List.replicate (m : Int).toNat ((Str.ofString " ").cps.getD 0 0)).toArray⟩) H := by rw [spc_c]; exact q
  exact ⟨Int.natCast_nonneg m, Int.ofNat_lt.mpr h, str_lens.2.2.2.2.2.2.1, q⟩
theorem add_s {s t : Str} {a b : Nat} (h1 : s.length ≤ a) (h2 : t.length ≤ b) (h : a + b ≤ 2 ^ 24) (q : (s ++ t).length ≤ a + b → Q (.str (s ++ t)) H) : kBin2 .Add (.str s) Q (.str t) H :=
  have hl := Nat.add_le_add h1 h2
  ⟨Nat.le_trans hl h, q (by rw [strLen_append]; exact hl)⟩
theorem join2_of {l : Addr} {ts : List Str} (e : H l = some (.lst (ts.map .str))) (h : (ts.map (·.length)).sum ≤ sizeLine) (q : Q (.str (Txt.join (Str.ofString "") ts)) H) : kJoin2 (Str.ofString "") Q (.ref l) H := ⟨_, ts, lst_eq e, ofStrs_map ts, joinOk0 h, q⟩
theorem app_s {a : Addr} {ts : List Str} {t : Str} (e : H a = some (.lst (ts.map .str))) (hl : ts.length < 2 ^ 24) (q : Q .none (upd H a (.lst ((ts ++ [t]).map .str)))) : kApp2 a Q (.str t) H := by
  rw [List.map_append] at q
  exact app2_of e (by rw [List.length_map]; exact hl) q
end
inductive ExI (H H1 : Hp) (hv : V) (r : Trs) (dep : Nat) (a l p : Addr) (i : Nat) (H2 : Hp) : Env' → Prop
  | mk (l0 : Le [] H H2) (l2 : Le [p] H1 H2) (o1 o2 o3 o4 : Option V) (e : H2 p = some (.lst ((Str.ofString "array (\n" :: (r.toL.take i).map (expRow dep)).map .str))) : ExI H H1 hv r dep a l p i H2 [some hv, some (.ref a), some (.int dep), some (.ref l), some (.ref p), o1, o2, o3, o4]
noncomputable abbrev ExIH (hv : V) (h : Nat) : Prop := ∀ {t : Tr} {n : Nat} {Q : V → Hp → Prop} {H : Hp} {v : V} {dep : Nat} {l : Addr} {us : List V}, t.ht ≤ h → 2 * h + 6 ≤ n → t.ok → dep + t.ht ≤ 20 → us.length = dep → Rep [] H t v → H l = some (.lst us) → Above H t.size us →
    (∀ H', Le [] H H' → Q (.str (expT dep t)) H') → MC T n 54 [hv, v, .int dep, .ref l] Q H
noncomputable def rowsText (d : Nat) (r : Trs) : Str := Txt.join (Str.ofString "") (Str.ofString "array (\n" :: (expR d r ++ [spc (2 * d) ++ Str.ofString ")"]))
theorem sp_rows {hv : V} {h : Nat} (ih : ExIH hv h) (h4 : h ≤ 4) {r : Trs} {n : Nat} {Q : V → Hp → Prop} {H : Hp} {dep : Nat} {a l : Addr} {us : List V} (hh : r.ht ≤ h) (hn : 2 * h + 7 ≤ n) (o : (Tr.ar r).ok) (hd : dep + 1 + r.ht ≤ 20) (hus : us.length = dep) (ha : Rep [] H (.ar r) (.ref a)) (hl : H l = some (.lst us)) (hab : Above H (Tr.ar r).size us)
    (q : ∀ H', Le [] H H' → Q (.str (rowsText dep r)) H') : MC T n 53 [hv, .ref a, .int dep, .ref l] Q H := by
  obtain ⟨k1, k2, k3, k4, k5, k6, k7, k8, k9, k10, k11, k12, k13, k14, k15⟩ := kd_ne
  obtain ⟨s1, s2, s3, s4, s5, s6, s7, s8⟩ := str_lens
  obtain ⟨b, S, cs, m, e, x, _, _, rep⟩ := id ha
  cases e
  refine call_of (ρ := [some hv, some (.ref a), some (.int dep), some (.ref l), none, none, none, none, none]) hn T_export_array rfl fun n hn p hp => ?_
  have x1 := x.le (.new (o := .lst [.str (Str.ofString "array (\n")]) hp)
  refine sp_slots_of (by omega) x1 fun q2 H1 refs le1 nq e1 t1 => for_of e1 ?_
  have le01 : Le [] H H1 := (Le.new hp).trans le1
  have ep : H1 p = some (.lst [.str (Str.ofString "array (\n")]) := le1.lst upd_self List.not_mem_nil
  have hpq : q2 ∉ [p] := fun h => ne_new upd_self nq (List.mem_singleton.mp h).symm
  have htl := t1.len
  have hrr := rep.len
  have hlen := toL_len (r := r)
  have hlen6 := o.2
  refine for_rule (fun i ρ H2 => ExI H H1 hv r dep a l p i H2 ρ) ⟨le01, .refl, none, none, none, none, ep⟩ ?_ ?_ ?_
  · rintro i ρ H2 ⟨_, l2⟩; exact l2.lst e1 hpq
  · rintro i w ρ H2 K' hw ⟨l0, l2, o1, o2, o3, o4, eacc⟩ hK' hR'
    obtain ⟨b, k, s, rfl, hrow, hb⟩ := t1.get hw
    obtain ⟨t, v, hg, hs, hr⟩ := rep.get hrow
    have hbp : b ∉ [p] := fun h => by cases List.mem_singleton.mp h; rw [ep] at hb; cases hb
    have hil : i < refs.length := (List.getElem?_eq_some_iff.mp hw).1
    obtain ⟨ok1, ok2⟩ := ok_mem o.1 hg
    have hht := Nat.le_trans (ht_mem hg) hh
    have hk1 := k10_sc ok1
    have hTl := Nat.le_trans (expT_b (t := t) (d := dep + 1) ok2 (Nat.le_trans (Nat.add_le_add_left (ht_mem hg) _) hd)) (ebnd_small (Nat.le_trans hht (Nat.le_trans h4 (by decide))))
    have hkl := expS_key k ok1
    have hz := size_mem hg
    refine step2_of (l2.tup hb hbp) ?_
    refine seq_mid (fun ρ H3 => ρ = [some hv, some (.ref a), some (.int dep), some (.ref l), some (.ref p), some k, some s, some (.str (expS k)), o4] ∧ H3 = H2) (fun K hK => ?_) ?_
    · cases k with
      | int i => exact sp_kind (t := .sc (.int i)) (by omega) ⟨rfl, rfl⟩ <| cmp_c <| cmp_of (r := true) (congrArg some (decide_eq_true (p := kd (.sc (.int i)) = Str.ofString "int") rfl)) ⟨(int_key i (mem_ints ok1)).2, hK _ _ ⟨rfl, rfl⟩⟩
      | str s' => exact sp_kind (t := .sc (.str s')) (by omega) ⟨rfl, rfl⟩ <| cmp_c <| cmp_of (r := false) (congrArg some (decide_eq_false (p := kd (.sc (.str s')) = Str.ofString "int") (Ne.symm k14))) <| sp_quoted (by omega) (clean_key s' (mem_strs ok1)) <| hK _ _ ⟨rfl, rfl⟩
      | none => cases hk1
      | bool => cases hk1
      | ref => cases hk1
    · rintro ρ H3 ⟨rfl, rfl⟩
      refine sp_deref (by omega) (hs.le0 l0) (hr.le0 l0) fun p1 hp1 => addl_of ((l0.trans (.new hp1)).lst hl List.not_mem_nil) upd_self (show us.length + 1 ≤ 2 ^ 24 by omega) fun p2 hp2 => ?_
      have lX : Le [] H3 (upd (upd H3 p1 (.lst [.ref a])) p2 (.lst (us ++ [.ref a]))) := (Le.new hp1).trans (.new hp2)
      have lY := l0.trans lX
      refine ih (t := t) (us := us ++ [.ref a]) (dep := dep + 1) hht (by omega) ok2 (Nat.le_trans (Nat.add_le_add_left (ht_mem hg) _) hd) (by rw [List.length_append, hus]; rfl) (hr.le0 lY) upd_self (fun u hu => ?_) fun H4 l4 => ?_
      · rcases List.mem_append.mp hu with hu | hu
        · obtain ⟨t', b', e', h1, h2⟩ := hab u hu
          exact ⟨t', b', e', h1.le0 lY, Nat.lt_of_le_of_lt hz (Nat.lt_of_succ_lt h2)⟩
        · cases List.mem_singleton.mp hu
          exact ⟨.ar r, a, rfl, ha.le0 lY, Nat.lt_succ_of_le hz⟩
      · have lZ : Le [] H3 H4 := lX.trans l4
        have eacc' := lZ.lst eacc List.not_mem_nil
        refine app1_of eacc' ⟨by decide, by omega, mul_sp (m := 2 * dep + 2) (by omega) (by omega) <| add_s (a := 50) (b := 30) (by rw [spc_len]; omega) hkl (by decide) fun z1 => add_s z1 (Nat.le_of_eq s3) (by decide) fun z2 => add_s z2 hTl (by decide) fun z3 => add_s z3 (Nat.le_of_eq s4) (by decide) fun z4 => app_s eacc' ?_ ?_⟩
        · show ((r.toL.take i).map (expRow dep)).length + 1 < _
          rw [List.length_map, List.length_take]; omega
        · refine hK' _ _ ⟨(l0.trans lZ).trans' (.at (W := [p]) (.head _)) fun b hb => .inr (List.mem_singleton.mp hb ▸ hp), (l2.trans lZ.any).trans (.at (.head _)), _, _, _, _, ?_⟩
          rw [upd_self, take_last hg, List.map_append (f := expRow dep)]
          rfl
  · rintro ρ H2 ⟨l0, l2, o1, o2, o3, o4, eacc⟩
    rw [List.take_of_length_le (by omega), ← expR_map] at eacc
    have hel : (expR dep r).length = r.len := by rw [expR_map, List.length_map, hlen]
    refine app1_of eacc ⟨by decide, by omega, mul_sp (m := 2 * dep) rfl (by omega) <| add_s (a := 50) (by rw [spc_len]; omega) (Nat.le_of_eq s2) (by decide) fun _ => app_s eacc ?_ <| join2_of upd_self ?_ <| q _ (l0.trans' (.at (W := [p]) (.head _)) fun b hb => .inr (List.mem_singleton.mp hb ▸ hp))⟩
    · show (expR dep r).length + 1 < _
      omega
    · have hb := expR_b (d := dep) o.1 hd
      have h6 : r.len * (200 + ebnd r.ht) ≤ 6 * (200 + ebnd r.ht) := Nat.mul_le_mul_right _ hlen6
      have h7 : ebnd r.ht ≤ 2 ^ 20 := Nat.le_trans (ebnd_mono (Nat.le_trans hh h4)) (by decide)
      rw [List.cons_append, List.map_cons, List.map_append, List.sum_cons, List.sum_append, List.map_cons, List.map_nil, List.sum_cons, List.sum_nil, strLen_append, spc_len, s1, s2]
      show _ ≤ 2 ^ 24
      omega
theorem sp_scalar {hv u : V} {n : Nat} {Q : V → Hp → Prop} {H : Hp} {v : V} {dep : Nat} {l : Addr} (hn : 4 ≤ n) (o : (Tr.sc u).ok) (ha : Rep [] H (.sc u) v) (q : ∀ H', Le [] H H' → Q (.str (expT dep (.sc u))) H') : MC T n 54 [hv, v, .int dep, .ref l] Q H := by
  obtain ⟨k1, k2, k3, k4, k5, k6, k7, k8, k9, k10, k11, k12, k13, k14, k15⟩ := kd_ne
  refine call_of (ρ := [some hv, some v, some (.int dep), some (.ref l), none, none]) hn T_export_at rfl fun n hn => sp_kind (up hn) ha ?_
  show EX (MC T n) _ [some hv, some v, some (.int dep), some (.ref l), some (.str (kd (.sc u))), none] (kBack Q) H
  obtain ⟨rfl, hu⟩ := ha
  have o : v ∈ L10 := o
  cases v with
  | ref a => cases hu
  | none => exact yes_one (i := 4) rfl (q _ .refl)
  | bool b =>
    refine no_one (i := 4) rfl (Ne.symm k9) <| yes_one (i := 4) rfl ?_
    cases b <;> exact q _ .refl
  | int i => exact no_one (i := 4) rfl (Ne.symm k10) <| no_one (i := 4) rfl (Ne.symm k12) <| yes_one (i := 4) rfl <| sp_export_int (up hn) (int_leaf i (mem_ints o)).1 (int_leaf i (mem_ints o)).2 (q _ .refl)
  | str s => exact no_one (i := 4) rfl (Ne.symm k11) <| no_one (i := 4) rfl (Ne.symm k13) <| no_one (i := 4) rfl (Ne.symm k14) <| yes_one (i := 4) rfl <| sp_quoted (up hn) (clean_leaf s (mem_strs o)) (q _ .refl)
theorem sp_export_main (hv : V) : ∀ h : Nat, h ≤ 5 → ExIH hv h := by
  obtain ⟨k1, k2, k3, k4, k5, k6, k7, k8, k9, k10, k11, k12, k13, k14, k15⟩ := kd_ne
  intro h
  induction h with
  | zero =>
    intro _ t n Q H v dep l us hh hn o hd hus ha hl hab q
    cases t with
    | ar r => exact absurd hh (Nat.not_succ_le_zero _)
    | sc u => exact sp_scalar (up hn) o ha q
  | succ h ih =>
    intro h5 t n Q H v dep l us hh hn o hd hus ha hl hab q
    cases t with
    | sc u => exact sp_scalar (by omega) o ha q
    | ar r =>
      have hh' : r.ht ≤ h := Nat.le_of_succ_le_succ hh
      have hd' : dep + 1 + r.ht ≤ 20 := by rw [Nat.add_right_comm]; exact hd
      obtain ⟨a, S, cs, m, rfl, x, _, _, rep⟩ := id ha
      have hTlen := Nat.le_trans (expT_b (t := .ar r) (d := dep) o hd) (ebnd_small (Nat.le_trans hh h5))
      refine call_of (k := 2 * h + 7) (ρ := [some hv, some (.ref a), some (.int dep), some (.ref l), none, none]) (by omega) T_export_at rfl fun n hn => sp_kind (up (show 7 ≤ n by omega)) ha ?_
      show EX (MC T n) _ [some hv, some (.ref a), some (.int dep), some (.ref l), some (.str (kd (.ar r))), none] (kBack Q) H
      refine no_one (i := 4) rfl (Ne.symm k1) <| no_one (i := 4) rfl (Ne.symm k2) <| no_one (i := 4) rfl (Ne.symm k3) <| no_one (i := 4) rfl (Ne.symm k4) <| sp_is_again (by omega) (by omega) ha hl hab ?_
      show EX (MC T n) (.seq (.asg 5 _) _) _ _ _
      refine seq_mid (fun ρ H3 => ρ = [some hv, some (.ref a), some (.int dep), some (.ref l), some (.str (kd (.ar r))), some (.str (beg dep))] ∧ H3 = H) (fun K hK => ?_) ?_
      · unfold beg at hK
        refine if_c (p := (dep : Int) = 0) (fun hz => ?_) fun hz => ?_
        · rw [if_pos (Int.ofNat.inj hz)] at hK
          exact hK _ _ ⟨rfl, rfl⟩
        · rw [if_neg fun h => hz (congrArg Int.ofNat h)] at hK
          exact ⟨by decide, by omega, mul_sp (m := 2 * dep) rfl (by omega) <| add_s (a := 1) (b := 50) (by decide +kernel) (by rw [spc_len]; omega) (by decide) fun _ => hK _ _ ⟨rfl, rfl⟩⟩
      · rintro ρ H3 ⟨rfl, rfl⟩
        refine yes_one (i := 4) rfl <| sp_rows (@ih (Nat.le_of_succ_le h5)) (Nat.le_of_succ_le_succ h5) hh' hn o hd' hus ha hl hab fun H' le => ⟨?_, q _ le⟩
        rw [← strLen_append]
        exact Nat.le_trans hTlen (by decide)
theorem sp_export {t : Tr} {n : Nat} {Q : V → Hp → Prop} {H : Hp} {hv v : V} (hh : t.ht ≤ 5) (hn : 2 * t.ht + 7 ≤ n) (o : t.ok) (ha : Rep [] H t v) (q : ∀ H', Le [] H H' → Q (.str (expT 0 t)) H') : MC T n 55 [hv, v] Q H :=
  call_of (ρ := [some hv, some v, some (.int 0)]) hn T_export_text rfl fun n hn p hp =>
    sp_export_main hv t.ht hh (dep := 0) (us := []) (Nat.le_refl _) hn o (by omega) rfl (ha.le0 (.new hp)) upd_self (fun u hu => nomatch hu) fun H' l => q _ ((Le.new hp).trans l)
end Mine
namespace Mine
structure Ctx (H : Hp) (sc at_ : Addr) (ns : List Int) (p : Nat) : Prop where
  hs : H sc = some (.lst (ns.map V.int))
  ha : H at_ = some (.lst [.int p])
  ne : sc ≠ at_
  len : ns.length ≤ 63
section
variable {H H' : Hp} {Q : V → Hp → Prop} {n : Nat} {sc at_ : Addr} {ns : List Int} {p : Nat}
theorem Ctx.le {W : List Addr} (c : Ctx H sc at_ ns p) (l : Le W H H') (h1 : sc ∉ W) (h2 : at_ ∉ W) : Ctx H' sc at_ ns p := ⟨l.lst c.hs h1, l.lst c.ha h2, c.ne, c.len⟩
theorem Ctx.le0 (c : Ctx H sc at_ ns p) (l : Le [] H H') : Ctx H' sc at_ ns p := c.le l List.not_mem_nil List.not_mem_nil
theorem Ctx.step (c : Ctx H sc at_ ns p) : Ctx (upd H at_ (.lst [.int ((p + 1 : Nat) : Int)])) sc at_ ns (p + 1) := ⟨(upd_ne c.ne).trans c.hs, upd_self, c.ne, c.len⟩
theorem sp_draw (hn : 1 ≤ n) (c : Ctx H sc at_ ns p) (hp : p ≤ 90000) {z : Nat} (hz : 0 < z) (q : ∀ d : Nat, d < z → Q (.int d) (upd H at_ (.lst [.int ((p + 1 : Nat) : Int)]))) : MC T n 56 [.ref sc, .ref at_, .int z] Q H := by
  have c' := c.step
  have hl := c.len
  have hz' : 0 < (z : Int) := Int.ofNat_lt.mpr hz
  have fin : ∀ i : Int, Q (.int (i % z)) (upd H at_ (.lst [.int ((p + 1 : Nat) : Int)])) := fun i => by
    have h1 : 0 ≤ i % z := Int.emod_nonneg _ (Int.ne_of_gt hz')
    have := q (i % z).toNat ((Int.toNat_lt h1).mpr (Int.emod_lt_of_pos _ hz'))
    rwa [Int.toNat_of_nonneg h1] at this
  refine call_of (ρ := [some (.ref sc), some (.ref at_), some (.int z), none, none]) hn T_law_draw rfl fun n hn => idx_of (idx_lst (i := 0) c.ha (by decide)) <| ai_of (i := 0) c.ha Nat.one_pos (show 1 < 2 ^ 62 by decide) ?_
  show EX (MC T n) _ _ _ (upd H at_ (.lst [.int ((p + 1 : Nat) : Int)]))
  refine len_of (len_lst c'.hs (List.length_map _)) (Nat.lt_of_le_of_lt hl (by decide)) <| if_c (fun h => ?_) fun h => ⟨.inr rfl, Int.natCast_nonneg p, by omega, ⟨by decide, ⟨hz', fin _⟩⟩⟩
  have h := List.getElem?_eq_getElem (Int.ofNat_lt.mp h)
  exact idx_of ((idx_lst c'.hs (Nat.lt_of_le_of_lt hp (by decide))).trans (List.getElem?_map.trans (congrArg (Option.map V.int) h))) ⟨hz', fin _⟩
theorem sp_leaves (hn : 1 ≤ n) (q : ∀ l H', Le [] H H' → H' l = some (.lst (L10.take 9)) → Q (.ref l) H') : MC T n 57 [] Q H :=
  call_of (ρ := []) hn T_law_leaves rfl fun n hn l hl => q l _ (.new hl) upd_self
inductive NextOf (es : List Int) (z : Int) : Prop
  | no (e : es = []) (h : z = least)
  | yes (i : Int) (hi : i ∈ es) (hm : ∀ j ∈ es, j ≤ i) (h : z = i + 1)
noncomputable def EB (es : List Int) : Prop := ∀ j ∈ es, -10 ≤ j ∧ j ≤ 2 ^ 62
theorem nxt_int {n i : Int} : nxt n (.int i) = if n ≤ i then min (i + 1) (2 ^ 63 - 1) else n := rfl
theorem NextOf.push {es : List Int} {z j : Int} (h : NextOf es z) (hj : -10 ≤ j ∧ j ≤ 2 ^ 62) : NextOf (es ++ [j]) (nxt z (.int j)) := by
  have hm : min (j + 1) (2 ^ 63 - 1) = j + 1 := by omega
  have last : j ∈ es ++ [j] := List.mem_append_right _ (.head _)
  have every : ∀ {m : Int}, (∀ k ∈ es, k ≤ m) → j ≤ m → ∀ k ∈ es ++ [j], k ≤ m := fun h1 h2 k hk => (List.mem_append.mp hk).elim (h1 k) fun h => List.mem_singleton.mp h ▸ h2
  rw [nxt_int]
  cases h with
  | no e h =>
    subst e
    exact .yes j last (every (fun k hk => nomatch hk) (Int.le_refl _)) (by rw [if_pos (by rw [h]; unfold least; omega), hm])
  | yes i hi hmax h =>
    subst h
    by_cases h : i + 1 ≤ j
    · exact .yes j last (every (fun k hk => Int.le_trans (hmax k hk) (Int.le_of_lt h)) (Int.le_refl _)) (by rw [if_pos h, hm])
    · exact .yes i (List.mem_append_left _ hi) (every hmax (Int.le_of_lt_add_one (Int.not_le.mp h))) (if_neg h)
theorem NextOf.old {es : List Int} {z j : Int} (h : NextOf es z) (hj : j ∈ es) : nxt z (.int j) = z := by
  cases h with
  | no e h => subst e; cases hj
  | yes i hi hmax h => subst h; exact if_neg (Int.not_le.mpr (Int.lt_add_one_of_le (hmax j hj)))
inductive AkOf (es : List Int) (z : Int) : Prop
  | no (e : es = []) (h : Mine.ak z = 0)
  | yes (i : Int) (hi : i ∈ es) (hm : ∀ j ∈ es, j ≤ i) (h : Mine.ak z = i + 1)
theorem NextOf.ak {es : List Int} {z : Int} (h : NextOf es z) (eb : EB es) : AkOf es z := by
  cases h with
  | no e h => subst h; exact .no e (if_pos rfl)
  | yes i hi hmax h =>
    subst h
    refine .yes i hi hmax (if_neg ?_)
    have := (eb i hi).1
    unfold least
    omega
theorem NextOf.ak_not {es : List Int} {z : Int} (h : NextOf es z) (eb : EB es) : Mine.ak z ∉ es ∧ 0 - 10 ≤ Mine.ak z ∧ Mine.ak z ≤ 2 ^ 62 + 1 := by
  cases h.ak eb with
  | no e h' => subst e; rw [h']; exact ⟨List.not_mem_nil, by decide, by decide⟩
  | yes i hi hmax h =>
    have := eb i hi
    rw [h]
    exact ⟨fun hm => Int.not_le.mpr (Int.lt_succ i) (hmax _ hm), by omega, by omega⟩
theorem ofInts_map : ∀ es : List Int, ofInts (es.map V.int) = some es
  | [] => rfl
  | t :: ts => congrArg (Option.map (t :: ·)) (ofInts_map ts)
theorem eq_lists {a b : Addr} {xs ys : List V} (h1 : H a = some (.lst xs)) (h2 : H b = some (.lst ys)) (hne : a ≠ b) (h : xs.length = ys.length → scalars xs = true ∧ scalars ys = true) : cmpV H .Eq (.ref a) (.ref b) = some (decide (xs = ys)) := by
  show ((lstO (H a)).bind fun xs => (lstO (H b)).bind fun ys => eqL a b xs ys) = _
  rw [h1, h2]
  exact if_pos ⟨hne, h⟩
theorem eq_empty {a b : Addr} {vs : List V} (h1 : H a = some (.lst vs)) (h2 : H b = some (.lst [])) (hne : a ≠ b) : cmpV H .Eq (.ref a) (.ref b) = some (decide (vs = [])) :=
  eq_lists h1 h2 hne fun h => by cases vs with
    | nil => exact ⟨rfl, rfl⟩
    | cons _ _ => cases h
theorem sp_next (hn : 1 ≤ n) {e : Addr} {es : List Int} {z : Int} (he : H e = some (.lst (es.map V.int))) (h : NextOf es z) (eb : EB es) (q : ∀ H', Le [] H H' → Q (.int (ak z)) H') : MC T n 59 [.ref e] Q H := by
  refine call_of (ρ := [some (.ref e)]) hn T_law_next rfl fun n hn l hl => ?_
  have he' : (upd H l (.lst [])) e = some (.lst (es.map V.int)) := (upd_ne (ne_new he hl)).trans he
  have q := q _ (.new (o := .lst []) hl)
  refine cmp_of (congrArg (Option.map not) (eq_empty he' upd_self (ne_new he hl))) ?_
  cases h.ak eb with
  | no e h' => rw [h'] at q; exact if_nf (congrArg (List.map V.int) e) q
  | yes i hi hmax h' =>
    have hne : es ≠ [] := by rintro rfl; cases hi
    rw [h'] at q
    refine if_nt (fun e => hne (List.map_eq_nil_iff.mp e)) ⟨es.map V.int, es, lst_eq he', ofInts_map es, hne, fun k hk hkm => ?_⟩
    cases Int.le_antisymm (hmax k hk) (hkm i hi)
    exact q
theorem sp_is_list (hn : 3 ≤ n) {a : Addr} {S : AS} {cs : List Cell} {m : Nat} (x : Arr H a S cs m) (q : ∀ H', Le [] H H' → Q (.bool (decide (keysR (rowsOf cs) = rangeL 0 (rowsOf cs).length))) H') : MC T n 32 [.ref a] Q H := by
  have hkl : (keysR (rowsOf cs)).length = (rowsOf cs).length := List.length_map _
  refine call_of (ρ := [some (.ref a), none, none]) hn T_is_list rfl fun n hn => sp_keys_of hn x fun l H1 le1 _ e1 => for_of e1 ?_
  refine for_rule (fun i ρ H' => Le [] H1 H' ∧ (∃ o, ρ = [some (.ref a), some (.int i), o]) ∧ ∀ j, j < i → (keysR (rowsOf cs))[j]? = some (.int j)) ⟨.refl, ⟨_, rfl⟩, fun j h => absurd h (Nat.not_lt_zero _)⟩ (fun i ρ H' h => h.1.lst e1 List.not_mem_nil) ?_ ?_
  · rintro i w ρ H' K' hw ⟨hle, ⟨o, rfl⟩, hall⟩ hK' hR'
    have hi := (List.getElem?_eq_some_iff.mp hw).1
    have hsc : scalar w = true := by
      obtain ⟨j, s, e⟩ := mem_keys.mp (List.mem_of_getElem? hw)
      exact x.ko _ _ _ e
    refine cmp_of (c_ne_kk hsc (y := .int i) rfl) <| if_nc (fun hwi => hR' _ _ _ ?_) fun hwi => hK' _ _ ⟨hle, ⟨_, rfl⟩, fun j hj => ?_⟩
    · have q' := q H' (le1.trans hle)
      rw [decide_eq_false fun e => ?_] at q'
      · exact q'
      · exact hwi (Option.some.inj (hw.symm.trans ((congrArg (fun l : List V => l[i]?) e).trans (range_at (hkl ▸ hi)))))
    · rcases Nat.lt_or_eq_of_le (Nat.le_of_lt_succ hj) with h | h
      · exact hall j h
      · rw [h]; exact hw.trans (congrArg some hwi)
  · rintro ρ H' ⟨hle, ⟨o, rfl⟩, hall⟩
    have q' := q H' (le1.trans hle)
    rw [decide_eq_true (List.ext_getElem? fun j => ?_)] at q'
    · exact q'
    · rcases Nat.lt_or_ge j (rowsOf cs).length with h | h
      · rw [hall j (hkl.symm ▸ h), range_at h]
      · rw [List.getElem?_eq_none (hkl.symm ▸ h), List.getElem?_eq_none (range_len.symm ▸ h)]
end
end Mine
namespace Mine
inductive RepL (W : List Addr) (H : Hp) : List (V × Tr) → List (V × V) → Prop
  | nil : RepL W H [] []
  | cons {k s v : V} {t : Tr} {L : List (V × Tr)} {R : List (V × V)} (hs : Slot W H s v) (hv : Rep W H t v) (h : RepL W H L R) : RepL W H ((k, t) :: L) ((k, s) :: R)
section
variable {H H' : Hp} {W W' : List Addr} {L : List (V × Tr)} {R : List (V × V)}
theorem RepL.to : ∀ {r : Trs} {R : List (V × V)}, RepL W H r.toL R → RepR W H r R
  | .nil, R, h => by cases h; rfl
  | .cons k t r, R, h => by
    cases h with
    | cons hs hv h => exact ⟨_, _, rfl, ⟨_, hs, hv⟩, RepL.to h⟩
theorem RepL.le (l : Le W H H') (na : NA H W) (h : RepL W H L R) : RepL W H' L R := by
  induction h with
  | nil => exact .nil
  | cons hs hv _ ih => exact .cons (hs.le l) (hv.le l na) ih
theorem RepL.sub (kk : ∀ b ∈ W', b ∈ W ∨ H b = none) (h : RepL W H L R) : RepL W' H L R := by
  induction h with
  | nil => exact .nil
  | cons hs hv _ ih => exact .cons (hs.sub kk) (hv.sub kk) ih
theorem Slot.off {s v : V} {t : Tr} (hs : Slot W H s v) (hv : Rep W H t v) {b : Addr} (e : s = .ref b) : b ∉ W := by
  subst e
  rcases hs with e | ⟨r0, d, l, e, hn, _⟩
  · subst e; exact hv.off
  · cases e; exact hn
theorem RepL.off (h : RepL W H L R) : ∀ {i : Nat} {k : V} {b : Addr}, R[i]? = some (k, .ref b) → b ∉ W := by
  induction h with
  | nil => exact fun e => nomatch e
  | cons hs hv _ ih =>
    intro i k b e
    cases i with
    | zero => exact hs.off hv (congrArg Prod.snd (Option.some.inj e))
    | succ i => exact ih (i := i) e
theorem RepL.keys (h : RepL W H L R) : keysR R = L.map (·.1) := by
  induction h with
  | nil => rfl
  | cons _ _ _ ih => exact congrArg (_ :: ·) ih
theorem RepL.filter (k0 : V) (h : RepL W H L R) : RepL W H (L.filter fun r => decide (r.1 ≠ k0)) (R.filter fun r => decide (r.1 ≠ k0)) := by
  induction h with
  | nil => exact .nil
  | @cons k s v t L R hs hv _ ih =>
    by_cases hk : k = k0
    · have h : ¬ decide (k ≠ k0) = true := fun h => of_decide_eq_true h hk
      rw [List.filter_cons_of_neg (p := fun r : V × Tr => decide (r.1 ≠ k0)) (a := (k, t)) h, List.filter_cons_of_neg (p := fun r : V × V => decide (r.1 ≠ k0)) (a := (k, s)) h]
      exact ih
    · have h : decide (k ≠ k0) = true := decide_eq_true hk
      rw [List.filter_cons_of_pos (p := fun r : V × Tr => decide (r.1 ≠ k0)) (a := (k, t)) h, List.filter_cons_of_pos (p := fun r : V × V => decide (r.1 ≠ k0)) (a := (k, s)) h]
      exact .cons hs hv ih
theorem RepL.push {k s v : V} {t : Tr} (hs : Slot W H s v) (hv : Rep W H t v) (h : RepL W H L R) : RepL W H (L ++ [(k, t)]) (R ++ [(k, s)]) := by
  induction h with
  | nil => exact .cons hs hv .nil
  | cons h1 h2 _ ih => exact .cons h1 h2 ih
theorem RepL.map {k s v : V} {t : Tr} (hs : Slot W H s v) (hv : Rep W H t v) (h : RepL W H L R) : RepL W H (L.map fun r => if r.1 = k then (k, t) else r) (R.map fun r => if r.1 = k then (k, s) else r) := by
  induction h with
  | nil => exact .nil
  | @cons k1 s1 v1 t1 L R h1 h2 _ ih =>
    show RepL W H ((if k1 = k then (k, t) else (k1, t1)) :: _) ((if k1 = k then (k, s) else (k1, s1)) :: _)
    by_cases hk : k1 = k
    · rw [if_pos hk, if_pos hk]; exact .cons hs hv ih
    · rw [if_neg hk, if_neg hk]; exact .cons h1 h2 ih
noncomputable def putL (L : List (V × Tr)) (k : V) (t : Tr) : List (V × Tr) := if k ∈ L.map (·.1) then L.map (fun r => if r.1 = k then (k, t) else r) else L ++ [(k, t)]
theorem RepL.put {k s v : V} {t : Tr} (hs : Slot W H s v) (hv : Rep W H t v) (h : RepL W H L R) : RepL W H (putL L k t) (putR R k s) := by
  unfold putL putR
  rw [h.keys]
  split
  · exact h.map hs hv
  · exact h.push hs hv
noncomputable def wat (W0 : List Addr) (at_ e a : Addr) (S : AS) : List Addr := at_ :: e :: S.w :: (S.own a ++ W0)
structure Bld (W0 : List Addr) (H0 H : Hp) (at_ e a : Addr) (S : AS) (cs : List Cell) (m : Nat) (L : List (V × Tr)) (es : List Int) : Prop where
  le : Le [at_] H0 H
  w0 : ∀ b ∈ W0, H0 b ≠ none
  na0 : NA H0 W0
  h0 : ∃ l, H0 at_ = some (.lst l)
  h1 : ∃ l, H at_ = some (.lst l)
  arr : Arr H a S cs m
  own : ∀ c ∈ S.own a, H0 c = none
  w : H0 S.w = none
  e0 : H0 e = none
  he : H e = some (.lst (es.map V.int))
  eo : e ∉ S.own a
  rep : RepL (wat W0 at_ e a S) H L (rowsOf cs)
section
variable {W0 : List Addr} {H0 : Hp} {at_ e a b : Addr} {S S' : AS} {cs : List Cell} {m : Nat} {es : List Int}
theorem wat_at : at_ ∈ wat W0 at_ e a S := .head _
theorem wat_e : e ∈ wat W0 at_ e a S := .tail _ (.head _)
theorem wat_w : S.w ∈ wat W0 at_ e a S := .tail _ (.tail _ (.head _))
theorem wat_own (h : b ∈ S.own a) : b ∈ wat W0 at_ e a S := .tail _ (.tail _ (.tail _ (List.mem_append_left _ h)))
theorem wat_0 (h : b ∈ W0) : b ∈ wat W0 at_ e a S := .tail _ (.tail _ (.tail _ (List.mem_append_right _ h)))
theorem wat_elim {P : Addr → Prop} (h1 : P at_) (h2 : P e) (h3 : P S.w) (h4 : ∀ b ∈ S.own a, P b) (h5 : ∀ b ∈ W0, P b) {b : Addr} (h : b ∈ wat W0 at_ e a S) : P b :=
  (List.mem_cons.mp h).elim (fun e => e ▸ h1) fun h => (List.mem_cons.mp h).elim (fun e => e ▸ h2) fun h => (List.mem_cons.mp h).elim (fun e => e ▸ h3) fun h => (List.mem_append.mp h).elim (h4 b) (h5 b)
theorem Bld.atn (x : Bld W0 H0 H at_ e a S cs m L es) : at_ ∉ S.own a ∧ at_ ≠ S.w ∧ at_ ≠ e := by
  obtain ⟨l, h⟩ := x.h0
  refine ⟨fun hm => ?_, ne_new h x.w, ne_new h x.e0⟩
  rw [x.own _ hm] at h; cases h
theorem Bld.ew (x : Bld W0 H0 H at_ e a S cs m L es) : e ≠ S.w := by
  intro h
  have h1 := x.he
  rw [h, x.arr.is.w] at h1; cases h1
theorem Bld.na (x : Bld W0 H0 H at_ e a S cs m L es) : NA H (wat W0 at_ e a S) := by
  refine fun b hb => wat_elim (P := fun b => ∀ d fs, H b ≠ some (.inst .absent d fs)) ?_ ?_ ?_ (fun b hb d fs eb => x.arr.is.noAbs eb hb) (fun b hb d fs eb => ?_) hb
  · intro d fs eb; obtain ⟨l, h⟩ := x.h1; rw [h] at eb; cases eb
  · intro d fs eb; rw [x.he] at eb; cases eb
  · intro d fs eb; rw [x.arr.is.w] at eb; cases eb
  · cases h : H0 b with
    | none => exact x.w0 b hb h
    | some o =>
      have hat : b ∉ [at_] := fun h => by obtain ⟨l, h1⟩ := x.h1; rw [← List.mem_singleton.mp h, eb] at h1; cases h1
      obtain ⟨o', e', l'⟩ := x.le b o h hat
      rw [eb] at e'; cases e'
      rcases l' with h' | ⟨_, _, _, _, h'⟩
      · exact x.na0 b hb d fs (h'.symm ▸ h)
      · cases h'
structure Core (W W1 W2 : List Addr) (H H' : Hp) : Prop where
  k : ∀ b ∈ W2, b ∈ W ∨ H b = none
  na : NA H W2
  l : Le W2 H H'
  s : ∀ b ∈ W1, b ∈ W2
theorem Bld.core (x : Bld W0 H0 H at_ e a S cs m L es) (mv : Mv a S S' H H') : Core (wat W0 at_ e a S) (wat W0 at_ e a S') (wat W0 at_ e a S ++ S'.own a) H H' := by
  have k1 : ∀ b ∈ wat W0 at_ e a S ++ S'.own a, b ∈ wat W0 at_ e a S ∨ H b = none := fun b hb => (List.mem_append.mp hb).elim .inl fun hb => (mv.own b hb).elim (fun h => .inl (wat_own h)) .inr
  refine ⟨k1, fun b hb d fs eb => ?_, mv.le.mono fun b hb => .inl (List.mem_append_left _ (wat_own hb)), fun b hb => wat_elim (List.mem_append_left _ wat_at) (List.mem_append_left _ wat_e) (mv.w.1 ▸ List.mem_append_left _ wat_w) (fun b h => List.mem_append_right _ h) (fun b h => List.mem_append_left _ (wat_0 h)) hb⟩
  rcases k1 b hb with h | h
  · exact x.na b h d fs eb
  · rw [h] at eb; cases eb
noncomputable def Kept (H H' : Hp) (W W' : List Addr) : Prop := ∀ s v t, Slot W H s v → Rep W H t v → Slot W' H' s v ∧ Rep W' H' t v
theorem Bld.kept (x : Bld W0 H0 H at_ e a S cs m L es) (mv : Mv a S S' H H') : Kept H H' (wat W0 at_ e a S) (wat W0 at_ e a S') := fun s v t hs hv =>
  have c := x.core mv
  ⟨((hs.sub c.k).le c.l).sub fun b hb => .inl (c.s b hb), ((hv.sub c.k).le c.l c.na).sub fun b hb => .inl (c.s b hb)⟩
theorem Bld.turn (x : Bld W0 H0 H at_ e a S cs m L es) {cs' : List Cell} {m' : Nat} {L' : List (V × Tr)} (mv : Mv a S S' H H') (arr : Arr H' a S' cs' m') (rep : RepL (wat W0 at_ e a S) H L' (rowsOf cs')) : Bld W0 H0 H' at_ e a S' cs' m' L' es := by
  obtain ⟨n1, n2, n3⟩ := x.atn
  have c := x.core mv
  obtain ⟨l, h1⟩ := x.h1
  refine ⟨x.le.trans' mv.le fun b hb => .inr (x.own b hb), x.w0, x.na0, x.h0, ⟨l, mv.le.lst h1 n1⟩, arr, fun c hc => (mv.own c hc).elim (x.own c) fun h => x.le.there (fun hm => ?_) h, mv.w.1 ▸ x.w, x.e0, mv.le.lst x.he x.eo, fun h => (mv.own e h).elim x.eo fun h => ?_, ((rep.sub c.k).le c.l c.na).sub fun b hb => .inl (c.s b hb)⟩
  · rw [List.mem_singleton.mp hm, h1] at h; cases h
  · rw [x.he] at h; cases h
theorem Bld.leW (x : Bld W0 H0 H at_ e a S cs m L es) (l : Le [b] H H') (hw : b ∈ wat W0 at_ e a S) (ho : b ∉ S.own a) (hn : b ≠ S.w) : Arr H' a S cs m ∧ RepL (wat W0 at_ e a S) H' L (rowsOf cs) :=
  have one : ∀ {c}, c ∈ [b] → c = b := List.mem_singleton.mp
  ⟨x.arr.leW l (fun c hc h => ho (one h ▸ hc)) (fun h => hn (one h).symm) (fun c hc => x.na _ (one hc ▸ hw)) (rows_off fun ec h => x.rep.off ec (one h ▸ hw)), x.rep.le (l.mono fun c hc => .inl (one hc ▸ hw)) x.na⟩
theorem Bld.ever (x : Bld W0 H0 H at_ e a S cs m L es) (j : Int) : Bld W0 H0 (upd H e (.lst (es.map V.int ++ [.int j]))) at_ e a S cs m L (es ++ [j]) := by
  obtain ⟨n1, n2, n3⟩ := x.atn
  have l : Le [e] H (upd H e (.lst (es.map V.int ++ [.int j]))) := .at (.head _)
  obtain ⟨h1, h2⟩ := x.leW l wat_e x.eo x.ew
  obtain ⟨l', h⟩ := x.h1
  exact ⟨x.le.trans' l fun b hb => .inr (List.mem_singleton.mp hb ▸ x.e0), x.w0, x.na0, x.h0, ⟨l', (upd_ne n3).trans h⟩, h1, x.own, x.w, x.e0, by rw [upd_self, List.map_append]; rfl, x.eo, h2⟩
theorem Bld.other (x : Bld W0 H0 H at_ e a S cs m L es) (l : Le [at_] H H') (h1 : ∃ l, H' at_ = some (.lst l)) : Bld W0 H0 H' at_ e a S cs m L es := by
  obtain ⟨n1, n2, n3⟩ := x.atn
  obtain ⟨g1, g2⟩ := x.leW l wat_at n1 n2
  exact ⟨x.le.trans l, x.w0, x.na0, x.h0, h1, g1, x.own, x.w, x.e0, l.lst x.he fun h => n3 (List.mem_singleton.mp h).symm, x.eo, g2⟩
theorem Bld.other0 (x : Bld W0 H0 H at_ e a S cs m L es) (l : Le [] H H') : Bld W0 H0 H' at_ e a S cs m L es := by
  obtain ⟨v, h⟩ := x.h1
  exact x.other l.any ⟨v, l.lst h List.not_mem_nil⟩
theorem Bld.ctx (x : Bld W0 H0 H at_ e a S cs m L es) {sc : Addr} {ns : List Int} {p0 p : Nat} (c0 : Ctx H0 sc at_ ns p0) (c : Ctx H sc at_ ns p) {W : List Addr} (l : Le W H H') (hW : ∀ b ∈ W, b ∈ S.own a ∨ b = e) : Ctx H' sc at_ ns p := by
  obtain ⟨n1, n2, n3⟩ := x.atn
  refine c.le l (fun h => (hW _ h).elim (fun h => ?_) fun h => ?_) fun h => (hW _ h).elim n1 n3
  · have := x.own _ h; rw [c0.hs] at this; cases this
  · have := x.e0; rw [← h, c0.hs] at this; cases this
end
end
end Mine
namespace Mine
noncomputable def FK : List V := [.int 3, .int 9, .str (Str.ofString "z"), .int 100, .int (-8), .str (Str.ofString "q")]
noncomputable def fil (L : List (V × Tr)) : List (V × Tr) := L.filter fun r => decide (r.1 ∉ FK)
noncomputable def keysL (L : List (V × Tr)) : List V := L.map (·.1)
theorem fk_sc : ∀ k ∈ FK, scalar k = true := by decide +kernel
theorem fk_b : ∀ j ∈ intsOf FK, -10 ≤ j ∧ j ≤ 2 ^ 62 := by decide +kernel
theorem k10_b : ∀ j ∈ intsOf K10, -10 ≤ j ∧ j ≤ 2 ^ 62 := by decide +kernel
theorem fk_k10 : ∀ k ∈ K10, k ∉ FK := by decide +kernel
theorem keysL_map {L : List (V × Tr)} {k : V} {t : Tr} : keysL (L.map fun r => if r.1 = k then (k, t) else r) = keysL L := by
  induction L with
  | nil => rfl
  | cons r L ih =>
    show (if r.1 = k then (k, t) else r).1 :: _ = r.1 :: _
    by_cases h : r.1 = k
    · rw [if_pos h]; exact (congrArg (k :: ·) ih).trans (congrArg (· :: keysL L) h.symm)
    · rw [if_neg h]; exact congrArg (r.1 :: ·) ih
theorem keysL_put {L : List (V × Tr)} {k k' : V} {t : Tr} : k' ∈ keysL (putL L k t) → k' ∈ keysL L ∨ k' = k := by
  unfold putL
  split
  · rw [keysL_map]; exact .inl
  · exact fun h => (List.mem_append.mp ((List.map_append (f := Prod.fst)) ▸ h : k' ∈ keysL L ++ keysL [(k, t)])).elim .inl fun h => .inr (List.mem_singleton.mp h)
theorem keysL_self {L : List (V × Tr)} {k : V} {t : Tr} (h : k ∉ keysL L) : k ∈ keysL (putL L k t) := by
  unfold putL
  rw [if_neg (show k ∉ L.map (·.1) from h)]
  exact List.mem_map.mpr ⟨(k, t), List.mem_append_right _ (.head _), rfl⟩
theorem fil_put {L : List (V × Tr)} {k : V} {t : Tr} (hk : k ∈ FK) : fil (putL L k t) = fil L := by
  have no : ∀ {r : V × Tr} {L : List (V × Tr)}, r.1 = k → fil (r :: L) = fil L := fun {r L} e => List.filter_cons_of_neg (p := fun r : V × Tr => decide (r.1 ∉ FK)) fun h => of_decide_eq_true h (e.symm ▸ hk)
  unfold putL
  split
  · rename_i h
    clear h
    induction L with
    | nil => rfl
    | cons r L ih =>
      show fil ((if r.1 = k then (k, t) else r) :: _) = _
      by_cases h : r.1 = k
      · rw [if_pos h]
        exact (no (r := (k, t)) rfl).trans (ih.trans (no h).symm)
      · rw [if_neg h]
        unfold fil at ih ⊢
        rw [List.filter_cons, List.filter_cons, ih]
  · exact (List.filter_append ..).trans ((congrArg (fil L ++ ·) (no (r := (k, t)) rfl)).trans (List.append_nil _))
theorem fil_new {L : List (V × Tr)} {k : V} {t : Tr} (hk : k ∉ FK) (h : k ∉ keysL L) : fil (putL L k t) = fil L ++ [(k, t)] := by
  unfold putL
  rw [if_neg (show k ∉ L.map (·.1) from h)]
  exact (List.filter_append ..).trans (congrArg (fil L ++ ·) (List.filter_cons_of_pos (p := fun r : V × Tr => decide (r.1 ∉ FK)) (a := (k, t)) (decide_eq_true hk)))
theorem map_id_of {L : List (V × Tr)} {k : V} {t : Tr} (h : k ∉ keysL L) : (L.map fun r => if r.1 = k then (k, t) else r) = L := by
  induction L with
  | nil => rfl
  | cons r L ih =>
    show (if r.1 = k then (k, t) else r) :: _ = _
    rw [if_neg fun e : r.1 = k => h (e ▸ .head _)]
    exact congrArg (r :: ·) (ih fun h' => h (.tail _ h'))
theorem put_put {L : List (V × Tr)} {k : V} {t t' : Tr} (h : k ∉ keysL L) : putL (putL L k t) k t' = putL L k t' := by
  have e1 : putL L k t = L ++ [(k, t)] := if_neg h
  have e2 : putL L k t' = L ++ [(k, t')] := if_neg h
  rw [e1, e2]
  unfold putL
  rw [if_pos (List.map_append ▸ List.mem_append_right _ (.head _)), List.map_append, map_id_of h]
  exact congrArg (L ++ [·]) (if_pos rfl)
theorem fil_drop {L : List (V × Tr)} {k : V} (hk : k ∈ FK) : fil (L.filter fun r => decide (r.1 ≠ k)) = fil L := by
  unfold fil
  rw [List.filter_filter]
  refine List.filter_congr fun r _ => ?_
  by_cases h : r.1 ∈ FK
  · rw [decide_eq_false (not_not_intro h)]; rfl
  · rw [decide_eq_true h, decide_eq_true (show r.1 ≠ k from fun e => h (e ▸ hk))]; rfl
structure Nx (L : List (V × Tr)) (es : List Int) (m : Nat) (z : Int) : Prop where
  nx : NextOf es z
  eb : EB es
  ik : ∀ j, V.int j ∈ keysL L → j ∈ es
  el : es.length ≤ m
theorem EB.push {es : List Int} (h : EB es) {j : Int} (hj : -10 ≤ j ∧ j ≤ 2 ^ 62) : EB (es ++ [j]) := fun k hk => (List.mem_append.mp hk).elim (h k) fun hk => List.mem_singleton.mp hk ▸ hj
theorem Nx.int {L : List (V × Tr)} {es : List Int} {m : Nat} {z : Int} (h : Nx L es m z) {j : Int} {t : Tr} (hj : -10 ≤ j ∧ j ≤ 2 ^ 62) : Nx (putL L (.int j) t) (es ++ [j]) (m + 1) (if V.int j ∈ keysL L then z else nxt z (.int j)) := by
  have e : (if V.int j ∈ keysL L then z else nxt z (.int j)) = nxt z (.int j) := by
    split
    · rename_i hk; exact (h.nx.old (h.ik j hk)).symm
    · rfl
  rw [e]
  exact ⟨h.nx.push hj, h.eb.push hj, fun i hi => (keysL_put hi).elim (fun hi => List.mem_append_left _ (h.ik i hi)) fun e => V.int.inj e ▸ List.mem_append_right _ (.head _), by rw [List.length_append]; exact Nat.succ_le_succ h.el⟩
theorem Nx.str {L : List (V × Tr)} {es : List Int} {m : Nat} {z : Int} (h : Nx L es m z) {s : Str} {t : Tr} : Nx (putL L (.str s) t) es (m + 1) (if V.str s ∈ keysL L then z else nxt z (.str s)) := by
  have e : (if V.str s ∈ keysL L then z else nxt z (.str s)) = z := by split <;> rfl
  rw [e]
  exact ⟨h.nx, h.eb, fun i hi => (keysL_put hi).elim (h.ik i) (fun e => nomatch e), Nat.le_succ_of_le h.el⟩
theorem Nx.drop {L : List (V × Tr)} {es : List Int} {m : Nat} {z : Int} (h : Nx L es m z) {k : V} : Nx (L.filter fun r => decide (r.1 ≠ k)) es m z :=
  ⟨h.nx, h.eb, fun i hi => h.ik i (by
    obtain ⟨r, hr, e⟩ := List.mem_map.mp hi
    exact List.mem_map.mpr ⟨r, (List.mem_filter.mp hr).1, e⟩), h.el⟩
section
variable {W0 : List Addr} {H0 H H' : Hp} {at_ e a sc : Addr} {S : AS} {cs : List Cell} {m p p0 : Nat} {L : List (V × Tr)} {es ns : List Int}
theorem Slot.abs {W : List Addr} {t : Tr} {s v : V} (hs : Slot W H s v) (hv : Rep W H t v) : isiV H .absent s = some false := by
  rcases hs with rfl | ⟨r, d, l, rfl, hn, hr⟩
  · exact hv.nil.notAbs
  · exact isi_obj hr
theorem Bld.put (x : Bld W0 H0 H at_ e a S cs m L es) {k s v : V} {t : Tr} (sk : scalar k = true) (hs : Slot (wat W0 at_ e a S) H s v) (hv : Rep (wat W0 at_ e a S) H t v) (hm : m + 1 ≤ 100) {n : Nat} (hn : 7 ≤ n) {Q : V → Hp → Prop}
    (q : ∀ S' cs' H', Le (S.own a) H H' → Bld W0 H0 H' at_ e a S' cs' (m + 1) (putL L k t) es → S'.next = (if k ∈ keysL L then S.next else nxt S.next k) → Kept H H' (wat W0 at_ e a S) (wat W0 at_ e a S') → Q .none H') : MC T n 104 [.ref a, k, s] Q H := by
  refine sp_put hn x.arr hm sk (hs.abs hv) (fun b e hb => hs.off hv e (wat_own hb)) fun S' cs' H' mv arr hr hnx => ?_
  refine q S' cs' H' mv.le (x.turn mv arr (hr.symm ▸ x.rep.put hs hv)) ?_ (x.kept mv)
  rw [hnx, x.rep.keys]
  rfl
theorem Bld.drop (x : Bld W0 H0 H at_ e a S cs m L es) {k : V} (sk : scalar k = true) {n : Nat} (hn : 4 ≤ n) {Q : V → Hp → Prop}
    (q : ∀ v S' cs' H', Le (S.own a) H H' → Bld W0 H0 H' at_ e a S' cs' m (L.filter fun r => decide (r.1 ≠ k)) es → S'.next = S.next → (∀ b ∈ S'.own a, b ∈ S.own a ∨ H b = none) → Q v H') : MC T n 106 [.ref a, k] Q H := by
  refine sp_drop hn x.arr sk fun v S' cs' H' mv arr hr hnx => ?_
  exact q v S' cs' H' mv.le (x.turn mv arr (hr.symm ▸ x.rep.filter k)) hnx mv.own
theorem Bld.append (x : Bld W0 H0 H at_ e a S cs m L es) {s v : V} {t : Tr} (nx : Nx L es m S.next) (hs : Slot (wat W0 at_ e a S) H s v) (hv : Rep (wat W0 at_ e a S) H t v) (hm : m + 1 ≤ 100) {n : Nat} (hn : 8 ≤ n) {Q : V → Hp → Prop}
    (q : ∀ S' cs' H', Le (S.own a) H H' → Bld W0 H0 H' at_ e a S' cs' (m + 1) (putL L (.int (ak S.next)) t) es → S'.next = nxt S.next (.int (ak S.next)) → V.int (ak S.next) ∉ keysL L → Q (.int (ak S.next)) H') : MC T n 105 [.ref a, s] Q H := by
  obtain ⟨a1, a2, a3⟩ := nx.nx.ak_not nx.eb
  have hno : V.int (ak S.next) ∉ keysL L := fun h => a1 (nx.ik _ h)
  have hno' : V.int (ak S.next) ∉ keysR (rowsOf cs) := by rw [x.rep.keys]; exact hno
  refine sp_append hn x.arr hm (hs.abs hv) (fun b e hb => hs.off hv e (wat_own hb)) (by omega) hno' fun S' cs' H' mv arr hr hnx => ?_
  refine q S' cs' H' mv.le (x.turn mv arr ?_) hnx hno
  rw [hr, putL, if_neg (show V.int (ak S.next) ∉ L.map (·.1) from hno)]
  exact x.rep.push hs hv
theorem Bld.exist (x : Bld W0 H0 H at_ e a S cs m L es) : ∀ c ∈ wat W0 at_ e a S, H c ≠ none := by
  obtain ⟨l, h1⟩ := x.h1
  refine fun c hc => wat_elim (P := fun c => H c ≠ none) (fun h => ?_) (fun h => ?_) (fun h => ?_) (fun c hc h => ?_) (fun c hc h => x.w0 c hc (x.le.there (fun hm => ?_) h)) hc
  · rw [h1] at h; cases h
  · rw [x.he] at h; cases h
  · rw [x.arr.is.w] at h; cases h
  · obtain ⟨o, ho⟩ := x.arr.is.has hc; rw [ho] at h; cases h
  · rw [List.mem_singleton.mp hm, h1] at h; cases h
theorem Bld.up (x : Bld W0 H0 H at_ e a S cs m L es) (h : m + 1 ≤ 100) : Bld W0 H0 H at_ e a S cs (m + 1) L es := ⟨x.le, x.w0, x.na0, x.h0, x.h1, x.arr.up h, x.own, x.w, x.e0, x.he, x.eo, x.rep⟩
theorem sp_foreign (x : Bld W0 H0 H at_ e a S cs m L es) (c0 : Ctx H0 sc at_ ns p0) (c : Ctx H sc at_ ns p) (nx : Nx L es m S.next) (hm : m + 1 ≤ 100) (hp : p ≤ 90000) {n : Nat} (hn : 8 ≤ n) {Q : V → Hp → Prop}
    (q : ∀ v H' S' cs' L' es', Bld W0 H0 H' at_ e a S' cs' (m + 1) L' es' → Ctx H' sc at_ ns (p + 1) → Nx L' es' (m + 1) S'.next → fil L' = fil L → Q v H') : MC T n 60 [.ref sc, .ref at_, .ref a, .ref e] Q H := by
  refine call_of (ρ := [some (.ref sc), some (.ref at_), some (.ref a), some (.ref e), none, none]) hn T_law_foreign rfl fun n hn => sp_draw (z := 30) (up hn) c hp (by decide) fun d hd l hl => ?_
  obtain ⟨k, hk⟩ : ∃ k, FK[d % 6]? = some k := ⟨_, List.getElem?_eq_getElem (show d % 6 < 6 from Nat.mod_lt _ (by decide))⟩
  have hkm := List.mem_of_getElem? hk
  refine mod_of (b := 6) (c := ((d % 6 : Nat) : Int)) rfl (by decide) <| idx_of ((idx_lst (vs := FK) upd_self (by omega)).trans hk) ?_
  have x2 := (x.other (H' := upd H at_ (.lst [.int ((p + 1 : Nat) : Int)])) (.at (.head _)) ⟨_, upd_self⟩).other0 (.new (o := .lst FK) hl)
  have c2 := c.step.le0 (.new (o := .lst FK) hl)
  have hsk := fk_sc k hkm
  refine if_c (p := (d : Int) < 18) (fun h18 => meth_of x2.arr.is.inst <| x2.put (k := k) (v := .str (Str.ofString "foreign")) (t := .sc (.str (Str.ofString "foreign"))) hsk (.inl rfl) ⟨rfl, rfl⟩ hm hn fun S' cs' H3 le3 x3 hnx kept => ?_) fun h18 => meth_of x2.arr.is.inst <| x2.drop hsk (up hn) fun v S' cs' H3 le3 x3 hnx _ => ?_
  · have c3 := x2.ctx c0 c2 le3 fun b hb => .inl hb
    cases k with
    | int j => exact app1_of x3.he <| app2_of x3.he (by rw [List.length_map]; exact Nat.lt_of_le_of_lt nx.el (by omega)) <| q _ _ S' cs' _ _ (x3.ever j) (x3.ctx c0 c3 (.at (W := [e]) (.head _)) fun b hb => .inr (List.mem_singleton.mp hb)) (hnx.symm ▸ nx.int (t := .sc (.str (Str.ofString "foreign"))) (fk_b j (mem_ints hkm))) (fil_put hkm)
    | str s => exact q _ _ S' cs' _ _ x3 c3 (hnx.symm ▸ nx.str (s := s) (t := .sc (.str (Str.ofString "foreign")))) (fil_put hkm)
    | none => cases hsk
    | bool => cases hsk
    | ref => cases hsk
  · have := nx.drop (k := k)
    exact q _ _ S' cs' _ _ (x3.up hm) (x2.ctx c0 c2 le3 fun b hb => .inl hb) (hnx.symm ▸ ⟨this.nx, this.eb, this.ik, Nat.le_succ_of_le this.el⟩) (fil_drop hkm)
end
end Mine
namespace Mine
mutual
noncomputable def Tr.cost : Tr → Nat
  | .sc _ => 0
  | .ar r => 2 + r.cost
noncomputable def Trs.cost : Trs → Nat
  | .nil => 0
  | .cons _ t r => 4 + t.cost + r.cost
end
mutual
noncomputable def Tr.dis : Tr → Prop
  | .sc _ => True
  | .ar r => (keysL r.toL).Nodup ∧ r.dis
noncomputable def Trs.dis : Trs → Prop
  | .nil => True
  | .cons _ t r => t.dis ∧ r.dis
end
theorem dis_mem : ∀ {r : Trs} {i : Nat} {k : V} {t : Tr}, r.dis → r.toL[i]? = some (k, t) → t.dis
  | .nil, i, k, t, _, h => nomatch h
  | .cons k t r, i, k', t', d, h => by
    cases i with
    | zero => cases h; exact d.1
    | succ i => exact dis_mem d.2 (i := i) h
noncomputable def costL (L : List (V × Tr)) : Nat := (L.map fun p => 4 + p.2.cost).sum
theorem cost_eq : ∀ {r : Trs}, r.cost = costL r.toL
  | .nil => rfl
  | .cons k t r => congrArg (4 + t.cost + ·) (cost_eq (r := r))
theorem costL_add {L M : List (V × Tr)} : costL (L ++ M) = costL L + costL M := by
  unfold costL; rw [List.map_append, List.sum_append]
theorem costL_take {L : List (V × Tr)} {i : Nat} {k : V} {t : Tr} (h : L[i]? = some (k, t)) : costL (L.take (i + 1)) = costL (L.take i) + 4 + t.cost := by
  rw [take_last h, costL_add, Nat.add_assoc]
  rfl
theorem costL_le {L : List (V × Tr)} {i : Nat} : costL (L.take i) ≤ costL L :=
  Nat.le_trans (Nat.le_add_right _ (costL (L.drop i))) (Nat.le_of_eq (costL_add.symm.trans (congrArg costL (List.take_append_drop i L))))
inductive Fin' (W : List Addr) (H : Hp) (r : Trs) (b : Addr) (z : Int) : Prop
  | mk (S : AS) (cs : List Cell) (m : Nat) (x : Arr H b S cs m) (hm : m + 1 ≤ 100) (h1 : ∀ c ∈ S.own b, c ∉ W) (h2 : S.w ∉ W) (h3 : RepR W H r (rowsOf cs)) (hz : z = ak S.next) (hl : z < 2 ^ 63 - 1) (hk : V.int z ∉ keysR (rowsOf cs))
section
variable {W W' : List Addr} {H H' : Hp} {r : Trs} {b : Addr} {z : Int}
theorem Fin'.rep : Fin' W H r b z → Rep W H (.ar r) (.ref b) := fun ⟨S, cs, m, x, _, h1, h2, h3, _, _, _⟩ => ⟨b, S, cs, m, rfl, x, h1, h2, h3⟩
theorem Fin'.le (l : Le W H H') (na : NA H W) : Fin' W H r b z → Fin' W H' r b z := fun ⟨S, cs, m, x, hm, h1, h2, h3, hz, hl, hk⟩ =>
  ⟨S, cs, m, x.leW l h1 h2 na (rows_off fun e => h3.off e), hm, h1, h2, h3.le l na, hz, hl, hk⟩
theorem Fin'.sub (k : ∀ c ∈ W', c ∈ W) : Fin' W H r b z → Fin' W' H r b z := fun ⟨S, cs, m, x, hm, h1, h2, h3, hz, hl, hk⟩ =>
  ⟨S, cs, m, x, hm, fun c hc h => h1 c hc (k c h), fun h => h2 (k _ h), h3.sub fun c hc => .inl (k c hc), hz, hl, hk⟩
end
theorem isi_tup {H : Hp} {u : V} (h : isSc u = true) : isiV H .tuple u = some false := by cases u <;> first | rfl | cases h
theorem not_yet {L M : List (V × Tr)} {i : Nat} {k : V} {t : Tr} (dd : (keysL M).Nodup) (hg : M[i]? = some (k, t)) (hf : fil L = M.take i) (hk : k ∉ FK) : k ∉ keysL L := by
  intro h
  obtain ⟨⟨k', t'⟩, hm, e⟩ := List.mem_map.mp h
  have e : k' = k := e
  subst e
  have h1 : (k', t') ∈ fil L := List.mem_filter.mpr ⟨hm, decide_eq_true hk⟩
  rw [hf] at h1
  obtain ⟨j, hj⟩ := List.mem_iff_getElem?.mp h1
  rw [List.getElem?_take] at hj
  split at hj
  · rename_i hji
    have hil := (List.getElem?_eq_some_iff.mp hg).1
    have h2 : (keysL M)[j]? = some k' := List.getElem?_map.trans (congrArg (Option.map Prod.fst) hj)
    have h3 : (keysL M)[i]? = some k' := List.getElem?_map.trans (congrArg (Option.map Prod.fst) hg)
    exact Nat.ne_of_lt hji ((List.getElem?_inj (by rw [keysL, List.length_map]; exact Nat.lt_trans hji hil) dd).mp (h2.trans h3.symm))
  · cases hj
theorem sp_new_ref {n : Nat} (hn : 1 ≤ n) {Q : P1} {H : Hp} {b d : Addr} {val : V} (hb : H b = none) (hd : H d = none) (hne : b ≠ d)
    (q : ∀ l H', Le [] H H' → H' b = some (.inst .rf d [val, .int 0, .ref l]) → Q (.ref b) H') : MC T n 1011 [.ref b, val] (kDone b Q) (upd (upd H d (.hid b)) b (.inst .rf d [])) :=
  call_of (ρ := [some (.ref b), some val]) hn T_Ref_init rfl fun n hn => step_val (v := val) upd_self rfl fun H1 le1 hb1 => step_val (v := .int 0) hb1 rfl fun H2 le2 hb2 => step_new rfl hb2 (fun _ => rfl) fun l1 H3 le3 n3 e3 hb3 => q l1 H3 ((le1.trans (le2.trans le3)).made hb hd) hb3
noncomputable def MS.fst (s : MS) : MS := @MS.casesOn (fun _ => MS) s .dead (fun s _ => s) (fun _ => .dead) (fun _ _ => .dead) (fun _ _ _ _ _ => .dead) (fun _ _ _ _ _ => .dead) (fun _ _ _ => .dead) (fun _ _ _ => .dead) (fun _ _ _ => .dead) (fun _ _ _ _ => .dead) (fun _ _ _ => .dead) (fun _ _ _ _ => .dead) (fun _ s _ => s) (fun _ s => s) (fun _ _ s => s) (fun _ _ s => s) (fun _ _ _ s => s) (fun _ => .dead) .dead
noncomputable def MS.snd (s : MS) : MS := @MS.casesOn (fun _ => MS) s .dead (fun _ s => s) (fun _ => .dead) (fun _ _ => .dead) (fun _ _ _ _ _ => .dead) (fun _ _ _ _ _ => .dead) (fun _ _ _ => .dead) (fun _ _ _ => .dead) (fun _ _ _ => .dead) (fun _ _ _ _ => .dead) (fun _ _ _ => .dead) (fun _ _ _ _ => .dead) (fun _ _ s => s) (fun _ _ => .dead) (fun _ _ _ => .dead) (fun _ _ _ => .dead) (fun _ _ _ _ => .dead) (fun _ => .dead) .dead
noncomputable def E11 (sc at_ fa a e : Addr) (o5 o6 o7 o8 o9 o10 : Option V) : Env' := [some (.ref sc), some (.ref at_), some (.ref fa), some (.ref a), some (.ref e), o5, o6, o7, o8, o9, o10]
noncomputable def row0 : MS := f_law_made.body.snd.fst.fst
section
variable {sc at_ : Addr} {ns : List Int}
noncomputable def MadeOk (sc at_ : Addr) (ns : List Int) (n : Nat) (r : Trs) : Prop :=
  ∀ (W0 : List Addr) (H : Hp) (v : V) (p : Nat) (Q : V → Hp → Prop), (∀ b ∈ W0, H b ≠ none) → NA H W0 → Ctx H sc at_ ns p → p + (Tr.ar r).cost ≤ 90000 → Frm [at_] H (.ar r) v →
    (∀ w b z H' p', H' w = some (.tup [.ref b, .int z]) → Le [at_] H H' → Ctx H' sc at_ ns p' → p' ≤ p + (Tr.ar r).cost → Fin' (at_ :: W0) H' r b z → Q (.ref w) H') → MC T n 61 [.ref sc, .ref at_, v] Q H
inductive St (W0 : List Addr) (H0 : Hp) (sc at_ e a : Addr) (ns : List Int) (m0 pz : Nat) (D : List (V × Tr)) (H : Hp) : Prop
  | mk (S : AS) (cs : List Cell) (m p : Nat) (L : List (V × Tr)) (es : List Int) (b : Bld W0 H0 H at_ e a S cs m L es) (c : Ctx H sc at_ ns p) (nx : Nx L es m S.next) (f : fil L = D) (hm : m ≤ m0) (hp : p ≤ pz)
inductive Sv (W0 : List Addr) (H0 : Hp) (sc at_ e a : Addr) (ns : List Int) (m0 pz : Nat) (D : List (V × Tr)) (t : Tr) (val : V) (H : Hp) : Prop
  | mk (S : AS) (cs : List Cell) (m p : Nat) (L : List (V × Tr)) (es : List Int) (b : Bld W0 H0 H at_ e a S cs m L es) (c : Ctx H sc at_ ns p) (nx : Nx L es m S.next) (f : fil L = D) (hm : m ≤ m0) (hp : p ≤ pz) (hv : Rep (wat W0 at_ e a S) H t val)
inductive Sp (W0 : List Addr) (H0 : Hp) (sc at_ e a : Addr) (ns : List Int) (m0 pz : Nat) (D : List (V × Tr)) (k : V) (t : Tr) (H : Hp) : Prop
  | mk (S : AS) (cs : List Cell) (m m1 p : Nat) (L : List (V × Tr)) (es : List Int) (z : Int) (b : Bld W0 H0 H at_ e a S cs m1 (putL L k t) es) (c : Ctx H sc at_ ns p) (nx : Nx L es m z) (f : fil L = D) (hl : m + 1 ≤ m1) (hm : m1 ≤ m0 + 2) (hp : p ≤ pz) (hn : S.next = if k ∈ keysL L then z else nxt z k)
section
variable {W0 : List Addr} {H0 H : Hp} {e a fa : Addr} {D : List (V × Tr)} {m0 pz p00 n : Nat} {k iv val : V} {t : Tr} {K : PF} {o5 o6 o7 o8 o9 o10 : Option V}
theorem made_1 (c0 : Ctx H0 sc at_ ns p00) (hn : 9 ≤ n) (hm : m0 + 3 ≤ 100) (hp : pz + 3 ≤ 90000) (st : St W0 H0 sc at_ e a ns m0 pz D H) (q : ∀ o7 H', St W0 H0 sc at_ e a ns (m0 + 2) (pz + 3) D H' → K .nxt (E11 sc at_ fa a e o5 o6 o7 o8 o9 o10) H') : EX (MC T n) row0.fst (E11 sc at_ fa a e o5 o6 o7 o8 o9 o10) K H := by
  obtain ⟨S, cs, m, p, L, es, b, c, nx, f, hm', hp'⟩ := st
  refine sp_draw (z := 3) (up hn) c (by omega) (by decide) fun d hd => rng_of (by omega) ?_
  refine for_rule (fun j ρ H2 => St W0 H0 sc at_ e a ns (m0 + j) (pz + 1 + j) D H2 ∧ ∃ o7, ρ = E11 sc at_ fa a e o5 o6 o7 o8 o9 o10) ⟨⟨S, cs, m, p + 1, L, es, b.other (.at (.head _)) ⟨_, upd_self⟩, c.step, nx, f, hm', by omega⟩, o7, rfl⟩ (fun _ _ _ _ => trivial) ?_ ?_
  · rintro j u ρ H2 K2 hu ⟨⟨S, cs, m, p, L, es, b, c, nx, f, hm', hp'⟩, o7, rfl⟩ hK2 hR2
    obtain ⟨rfl, hj⟩ := range_get hu
    exact sp_foreign b c0 c nx (by omega) (by omega) (up hn) fun v H3 S' cs' L' es' b' c' nx' hf => hK2 _ _ ⟨⟨S', cs', m + 1, p + 1, L', es', b', c', nx', hf.trans f, Nat.succ_le_succ hm', Nat.succ_le_succ hp'⟩, _, rfl⟩
  · rintro ρ H2 ⟨⟨S, cs, m, p, L, es, b, c, nx, f, hm', hp'⟩, o7, rfl⟩
    rw [range_len] at hm' hp'
    exact q o7 H2 ⟨S, cs, m, p, L, es, b, c, nx, f, by omega, by omega⟩
theorem made_3 (hc : t.cost ≤ pz) (hn : ∀ r', t = .ar r' → MadeOk sc at_ ns n r') (hp : pz ≤ 90000) (st : St W0 H0 sc at_ e a ns m0 (pz - t.cost) D H) (fT : ∀ H', Le [at_] H0 H' → Frm [at_] H' t iv) (q : ∀ val o9 H', Sv W0 H0 sc at_ e a ns m0 pz D t val H' → EX (MC T n) row0.snd.snd.snd (E11 sc at_ fa a e o5 (some iv) o7 (some val) o9 o10) K H') : EX (MC T n) row0.snd (E11 sc at_ fa a e o5 (some iv) o7 o8 o9 o10) K H := by
  obtain ⟨S, cs, m, p, L, es, b, c, nx, f, hm', hp'⟩ := st
  have fT := fT _ b.le
  cases t with
  | sc u =>
    obtain ⟨rfl, hu⟩ := fT
    exact isi_of (isi_tup hu) <| q iv o9 H ⟨S, cs, m, p, L, es, b, c, nx, f, hm', hp', rfl, hu⟩
  | ar r' =>
    have hti : isiV H .tuple iv = some true := by
      obtain ⟨a', l', rf', e', _, _, ea', _⟩ := id fT
      subst e'
      exact isi_obj ea'
    refine isi_of hti <| hn r' rfl (wat W0 at_ e a S) H iv p _ b.exist b.na c (by omega) fT fun w b' z H3 p3 ew l3 c3 hp3 fin3 => at_of ew <| q (.ref b') (some (.int z)) H3 ⟨S, cs, m, p3, L, es, b.other l3 ⟨_, c3.ha⟩, c3, nx, f, hm', by omega, fin3.rep.sub fun c hc => .inl (.tail _ hc)⟩
theorem made_4 (hn : 9 ≤ n) (hp : pz ≤ 90000) (st : Sv W0 H0 sc at_ e a ns m0 pz D t val H) (q : ∀ w : Nat, ∀ H', Sv W0 H0 sc at_ e a ns m0 (pz + 1) D t val H' → EX (MC T n) row0.snd.snd.snd.snd (E11 sc at_ fa a e o5 o6 o7 o8 o9 (some (.int w))) K H') : EX (MC T n) row0.snd.snd.snd (E11 sc at_ fa a e o5 o6 o7 o8 o9 o10) K H := by
  obtain ⟨S, cs, m, p, L, es, b, c, nx, f, hm', hp', hv⟩ := st
  have l4 : Le [at_] H (upd H at_ (.lst [.int ((p + 1 : Nat) : Int)])) := .at (.head _)
  exact sp_draw (z := 5) (up hn) c (Nat.le_trans hp' hp) (by decide) fun w _ => q w _ ⟨S, cs, m, p + 1, L, es, b.other l4 ⟨_, upd_self⟩, c.step, nx, f, hm', Nat.succ_le_succ hp', hv.le (l4.mono fun b hb => .inl (List.mem_singleton.mp hb ▸ wat_at)) b.na⟩
end
end
end Mine
namespace Mine
theorem cmp_v {Δ : Calls} {op : CmpOp} {i : Nat} {x y : V} {ρ : Env'} {Q : P1} {H : Hp} (h : ρ[i]? = some (some y)) (q : kCmp2 op x Q y H) : kCmp1 op (EV Δ (.var i) ρ) Q x H := by
  show kV ρ[i]? _ _
  rw [h]
  exact q
section
variable {sc at_ : Addr} {ns : List Int} {W0 : List Addr} {H0 H : Hp} {e a fa : Addr} {D : List (V × Tr)} {m0 pz p00 n : Nat} {k iv val : V} {t : Tr} {K : PF} {o5 o6 o7 o8 o9 o10 : Option V} {w : Nat}
theorem made_put {S : AS} {cs : List Cell} {m p : Nat} {L : List (V × Tr)} {es : List Int} (c0 : Ctx H0 sc at_ ns p00) (b : Bld W0 H0 H at_ e a S cs m L es) (c : Ctx H sc at_ ns p) (hv : Rep (wat W0 at_ e a S) H t val) (hk : scalar k = true) (hm : m + 1 ≤ 100) (hn : 9 ≤ n)
    (q : ∀ S' cs' H', Bld W0 H0 H' at_ e a S' cs' (m + 1) (putL L k t) es → Ctx H' sc at_ ns p → S'.next = (if k ∈ keysL L then S.next else nxt S.next k) → K .nxt (E11 sc at_ fa a e (some k) o6 o7 (some val) o9 (some (.int w))) H') :
    EX (MC T n) row0.snd.snd.snd.snd.fst.snd.snd (E11 sc at_ fa a e (some k) o6 o7 (some val) o9 (some (.int w))) K H := by
  have fin : ∀ (s : V) (H7 : Hp), Le [] H H7 → Slot (wat W0 at_ e a S) H7 s val → MC T n 104 [.ref a, k, s] (kNx (E11 sc at_ fa a e (some k) o6 o7 (some val) o9 (some (.int w))) (kSeq (EX (MC T n) .skip) K)) H7 := fun s H7 l7 hs7 =>
    have b7 := b.other0 l7
    b7.put hk hs7 (hv.le l7.any b.na) hm (up hn) fun S8 cs8 H8 le8 b8 hnx8 _ => q S8 cs8 H8 b8 (b7.ctx c0 (c.le0 l7) le8 fun b hb => .inl hb) hnx8
  exact meth_of b.arr.is.inst <| if_c (p := (w : Int) = 2) (fun _ rb rd hrb hrd hrne => sp_new_ref (up hn) hrb hrd hrne fun rl H7 l7 er7 => fin (.ref rb) H7 l7 (.inr ⟨rb, rd, rl, rfl, fun hm => b.exist rb hm hrb, er7⟩)) fun _ => fin val H .refl (.inl rfl)
theorem made_5 (c0 : Ctx H0 sc at_ ns p00) (hk : k ∈ K10) (ny : ∀ L, fil L = D → k ∉ keysL L) (hm : m0 + 2 ≤ 100) (hn : 9 ≤ n) (sv : Sv W0 H0 sc at_ e a ns m0 pz D t val H) (q : ∀ H', Sp W0 H0 sc at_ e a ns m0 pz D k t H' → K .nxt (E11 sc at_ fa a e (some k) o6 o7 (some val) o9 (some (.int w))) H') :
    EX (MC T n) row0.snd.snd.snd.snd.fst (E11 sc at_ fa a e (some k) o6 o7 (some val) o9 (some (.int w))) K H := by
  obtain ⟨S, cs, m, p, L, es, b, c, nx, f, hm', hp', hv⟩ := sv
  have hny := ny L f
  have hsk := k10_sc hk
  have B : ∀ H5, Le [] H H5 → EX (MC T n) row0.snd.snd.snd.snd.fst.snd (E11 sc at_ fa a e (some k) o6 o7 (some val) o9 (some (.int w))) K H5 := fun H5 l5 => by
    have b5 := b.other0 l5
    have c5 := c.le0 l5
    have hv5 := hv.le l5.any b.na
    refine if_c (p := (w : Int) = 1) (fun _ => ?_) fun _ => made_put c0 b5 c5 hv5 hsk (by omega) hn fun S' cs' H' b' c' hnx => q H' ⟨S', cs', m, _, p, L, es, S.next, b', c', nx, f, Nat.le_refl _, by omega, hp', hnx⟩
    refine meth_of b5.arr.is.inst <| b5.put (k := k) (v := .str (Str.ofString "first")) (t := .sc (.str (Str.ofString "first"))) hsk (.inl rfl) ⟨rfl, rfl⟩ (by omega) (up hn) fun S6 cs6 H6 le6 b6 hnx6 kept6 => made_put c0 b6 (b5.ctx c0 c5 le6 fun b hb => .inl hb) (kept6 val val t (.inl rfl) hv5).2 hsk (by omega) hn fun S' cs' H' b' c' hnx => ?_
    refine q H' ⟨S', cs', m, _, p, L, es, S.next, put_put (t' := t) hny ▸ b', c', nx, f, by omega, by omega, hp', ?_⟩
    rw [hnx, if_pos (keysL_self (t := .sc (.str (Str.ofString "first"))) hny), hnx6]
  refine if_c (p := (w : Int) = 0) (fun _ => sp_next (up hn) b.he nx.nx nx.eb fun H5 l5 => cmp_of (c_eq_kk hsk (y := .int (ak S.next)) rfl) <| if_c (fun hk => ?_) fun _ => B H5 l5) fun _ => B H .refl
  subst hk
  have b5 := b.other0 l5
  exact meth_of b5.arr.is.inst <| b5.append nx (.inl rfl) (hv.le l5.any b.na) (by omega) (up hn) fun S' cs' H6 le6 b6 hnx hno => cmp_v (y := .int (ak S.next)) rfl <| cmp_of (r := false) ((c_ne_kk hsk hsk).trans (congrArg (fun b => some (!b)) (decide_eq_true rfl))) <| q H6 ⟨S', cs', m, _, p, L, es, S.next, b6, b5.ctx c0 (c.le0 l5) le6 fun b hb => .inl hb, nx, f, Nat.le_refl _, by omega, hp', hnx.trans (if_neg hno).symm⟩
theorem made_6 (c0 : Ctx H0 sc at_ ns p00) (hk : k ∈ K10) (ny : ∀ L, fil L = D → k ∉ keysL L) (hm : m0 + 2 ≤ 100) (sp : Sp W0 H0 sc at_ e a ns m0 pz D k t H) (q : ∀ H', St W0 H0 sc at_ e a ns (m0 + 2) pz (D ++ [(k, t)]) H' → K .nxt (E11 sc at_ fa a e (some k) o6 o7 o8 o9 o10) H') :
    EX (MC T n) row0.snd.snd.snd.snd.snd (E11 sc at_ fa a e (some k) o6 o7 o8 o9 o10) K H := by
  obtain ⟨S, cs, m, m1, p, L, es, z, b, c, nx, f, hl, hm', hp', hnx⟩ := sp
  have hf : fil (putL L k t) = D ++ [(k, t)] := (fil_new (fk_k10 k hk) (ny L f)).trans (congrArg (· ++ [(k, t)]) f)
  have hsk := k10_sc hk
  cases k with
  | int j =>
    have := nx.int (t := t) (k10_b j (mem_ints hk))
    rw [← hnx] at this
    exact app1_of b.he <| app2_of b.he (by rw [List.length_map]; exact Nat.lt_of_le_of_lt nx.el (by omega)) <| q _ ⟨S, cs, m1, p, _, _, b.ever j, b.ctx c0 c (.at (W := [e]) (.head _)) fun b hb => .inr (List.mem_singleton.mp hb), ⟨this.nx, this.eb, this.ik, Nat.le_trans this.el hl⟩, hf, hm', hp'⟩
  | str s =>
    have := nx.str (s := s) (t := t)
    rw [← hnx] at this
    exact q _ ⟨S, cs, m1, p, _, _, b, c, ⟨this.nx, this.eb, this.ik, Nat.le_trans this.el hl⟩, hf, hm', hp'⟩
  | none => cases hsk
  | bool => cases hsk
  | ref => cases hsk
theorem made_row (c0 : Ctx H0 sc at_ ns p00) (hn : 9 ≤ n) (ih : ∀ r', t = .ar r' → MadeOk sc at_ ns n r') (hk : k ∈ K10) (ny : ∀ L, fil L = D → k ∉ keysL L) (hm : m0 + 4 ≤ 100) (hp : pz + 4 + t.cost ≤ 90000) (fT : ∀ H', Le [at_] H0 H' → Frm [at_] H' t iv) (st : St W0 H0 sc at_ e a ns m0 pz D H)
    (q : ∀ o7 o8 o9 o10 H', St W0 H0 sc at_ e a ns (m0 + 4) (pz + 4 + t.cost) (D ++ [(k, t)]) H' → K .nxt (E11 sc at_ fa a e (some k) (some iv) o7 o8 o9 o10) H') : EX (MC T n) row0 (E11 sc at_ fa a e (some k) (some iv) o7 o8 o9 o10) K H := by
  refine made_1 (K := kSeq (EX (MC T n) row0.snd) K) c0 hn (by omega) (by omega) st fun o7 H1 st1 => made_3 (W0 := W0) (pz := pz + 3 + t.cost) (Nat.le_add_left _ _) ih (by omega) ?_ fT fun val o9 H2 sv => made_4 hn (by omega) sv fun w H3 sv => made_5 (K := kSeq (EX (MC T n) row0.snd.snd.snd.snd.snd) K) c0 hk ny (by omega) hn sv fun H4 sp => made_6 c0 hk ny (by omega) sp fun H5 st5 => q o7 _ _ _ H5 ?_
  · rw [Nat.add_sub_cancel]; exact st1
  · rw [Nat.add_right_comm] at st5
    rw [show pz + 4 + t.cost = pz + 3 + t.cost + 1 by omega]
    exact st5
end
end Mine
namespace Mine
section
variable {sc at_ : Addr} {ns : List Int} {W0 : List Addr} {H0 H : Hp} {e a fa : Addr} {D : List (V × Tr)} {n : Nat} {K : PF} {o5 o6 o7 o8 o9 o10 : Option V}
theorem Arr.fresh {d1 k1 v1 hd nx w : Addr} {z : Nat} (x : IsA H a ⟨d1, k1, v1, hd, nx, w, true, [], [], [], [], z, 0, least, 0⟩) (hz : 0 < z) (hz' : z ≤ 16) : Arr H a ⟨d1, k1, v1, hd, nx, w, true, [], [], [], [], z, 0, least, 0⟩ [] 0 :=
  ⟨x, ⟨rfl, fun i e => (nomatch e), fun i k s e => (nomatch e)⟩, fun i k b e => (nomatch e), fun i k s e => (nomatch e), fun i j k s t e => (nomatch e), hz, rfl, fun _ => ⟨fun i k s e => (nomatch e), rfl, Nat.zero_le _, Nat.le_trans hz' (Nat.le_max_left _ _)⟩, fun h => (nomatch h), Nat.le_refl _, Nat.zero_le _⟩
theorem made_head {p0 : Nat} (hn : 9 ≤ n) (hw0 : ∀ b ∈ W0, H b ≠ none) (hna0 : NA H W0) (c0 : Ctx H sc at_ ns p0) (hp : p0 ≤ 90000) (q : ∀ a e H', St W0 H sc at_ e a ns 0 (p0 + 1) [] H' → K .nxt (E11 sc at_ fa a e none none none none none none) H') :
    EX (MC T n) f_law_made.body.fst [some (.ref sc), some (.ref at_), some (.ref fa), none, none, none, none, none, none, none, none] K H := by
  intro l1 hl1
  have cA := c0.le0 (.new (o := .lst [.int 2, .int 8, .int 16]) hl1)
  have leA : Le [at_] H (upd H l1 (.lst [.int 2, .int 8, .int 16])) := .new hl1
  refine sp_draw (z := 3) (up hn) cA hp (by decide) fun d hd => ?_
  have cB := cA.step
  have leB : Le [at_] H (upd (upd H l1 (.lst [.int 2, .int 8, .int 16])) at_ (.lst [.int ((p0 + 1 : Nat) : Int)])) := leA.trans (.at (.head _))
  have el1 := (upd_ne (o := .lst [.int ((p0 + 1 : Nat) : Int)]) (ne_new c0.ha hl1).symm).trans (upd_self (H := H) (a := l1) (o := .lst [.int 2, .int 8, .int 16]))
  generalize upd (upd H l1 (.lst [.int 2, .int 8, .int 16])) at_ (.lst [.int ((p0 + 1 : Nat) : Int)]) = HB at cB leB el1
  obtain ⟨z, hz, hz0, hz16⟩ : ∃ z : Nat, [V.int 2, V.int 8, V.int 16][d]? = some (.int z) ∧ 0 < z ∧ z ≤ 16 := by
    cases d with
    | zero => exact ⟨2, rfl, by decide, by decide⟩
    | succ d => cases d with
      | zero => exact ⟨8, rfl, by decide, by decide⟩
      | succ d => cases d with
        | zero => exact ⟨16, rfl, by decide, by decide⟩
        | succ d => exact absurd hd (by omega)
  refine idx_of ((idx_lst el1 (by omega)).trans hz) fun a d1 ha hd1 hne => sp_new_arr (up hn) ha hd1 hne fun k1 v1 hd2 nx1 w1 HC leC xC frC wC e he => ?_
  have hn : ∀ c, HB c = none → H c = none := fun c h => leB.there (fun hm => by rw [List.mem_singleton.mp hm, cB.ha] at h; cases h) h
  have cD := (cB.le0 leC).le0 (.new (o := .lst []) he)
  exact q a e _ ⟨_, [], 0, p0 + 1, [], [], ⟨leB.trans (leC.trans (.new he)).any, hw0, hna0, ⟨_, c0.ha⟩, ⟨_, cD.ha⟩, (Arr.fresh xC hz0 hz16).le (.new he), fun c hc => hn c (frC c hc), hn _ wC, hn _ (leC.there List.not_mem_nil he), upd_self, (xC.notNew he).1, .nil⟩, cD, ⟨.no rfl rfl, fun j h => (nomatch h), fun j h => (nomatch h), Nat.le_refl _⟩, rfl, Nat.le_refl _, Nat.le_refl _⟩
inductive DrF (W0 : List Addr) (H0 : Hp) (sc at_ e a : Addr) (ns : List Int) (m p : Nat) (es : List Int) (D : List (V × Tr)) (fk : Addr) (j : Nat) (H : Hp) : Prop
  | mk (S : AS) (cs : List Cell) (L : List (V × Tr)) (b : Bld W0 H0 H at_ e a S cs m L es) (c : Ctx H sc at_ ns p) (nx : Nx L es m S.next) (f : fil L = D) (no : ∀ x ∈ keysL L, x ∉ FK.take j) (fo : fk ∉ S.own a) (fe : H fk = some (.lst FK))
theorem made_drops {p00 m0 pz : Nat} (c0 : Ctx H0 sc at_ ns p00) (hn : 9 ≤ n) (st : St W0 H0 sc at_ e a ns m0 pz D H)
    (q : ∀ o5 H' S cs m p es, Bld W0 H0 H' at_ e a S cs m D es → Ctx H' sc at_ ns p → Nx D es m S.next → m ≤ m0 → p ≤ pz → K .nxt (E11 sc at_ fa a e o5 o6 o7 o8 o9 o10) H') : EX (MC T n) f_law_made.body.snd.snd.fst (E11 sc at_ fa a e o5 o6 o7 o8 o9 o10) K H := by
  obtain ⟨S, cs, m, p, L, es, b, c, nx, f, hm', hp'⟩ := st
  intro fk hfk
  refine for_of (vs := FK) upd_self ?_
  refine for_rule (fun j ρ H2 => DrF W0 H0 sc at_ e a ns m p es D fk j H2 ∧ ∃ o5, ρ = E11 sc at_ fa a e o5 o6 o7 o8 o9 o10) ⟨⟨S, cs, L, b.other0 (.new hfk), c.le0 (.new hfk), nx, f, fun x _ h => (nomatch h), (b.arr.is.notNew hfk).1, upd_self⟩, _, rfl⟩ (fun j ρ H2 h => ?_) ?_ ?_
  · obtain ⟨⟨_, _, _, _, _, _, _, _, _, h⟩, _⟩ := h
    exact h
  · rintro j k ρ H2 K' hk ⟨⟨S, cs, L, b, c, nx, f, no, fo, fe⟩, o5, rfl⟩ hK' hR'
    have hkm := List.mem_of_getElem? hk
    refine meth_of b.arr.is.inst <| b.drop (fk_sc k hkm) (up hn) fun v S' cs' H3 le3 b3 hnx hown => hK' _ _ ⟨⟨S', cs', _, b3, b.ctx c0 c le3 fun b hb => .inl hb, hnx.symm ▸ nx.drop, (fil_drop hkm).trans f, fun x hx hm => ?_, fun hm => (hown fk hm).elim fo fun h => ?_, le3.lst fe fo⟩, _, rfl⟩
    · obtain ⟨q', hq', rfl⟩ := List.mem_map.mp hx
      obtain ⟨hq1, hq2⟩ := List.mem_filter.mp hq'
      rw [take_last hk] at hm
      exact (List.mem_append.mp hm).elim (no q'.1 (List.mem_map.mpr ⟨q', hq1, rfl⟩)) fun hm => of_decide_eq_true hq2 (List.mem_singleton.mp hm)
    · rw [fe] at h; cases h
  · rintro ρ H2 ⟨⟨S, cs, L, b, c, nx, f, no, fo, fe⟩, o5, rfl⟩
    have hL : fil L = L := List.filter_eq_self.mpr fun x hx => decide_eq_true fun h => no x.1 (List.mem_map.mpr ⟨x, hx, rfl⟩) (List.take_length.symm ▸ h)
    rw [← f, hL] at q
    exact q o5 H2 S cs m p es b c nx hm' hp'
theorem made_tail {r : Trs} {S : AS} {cs : List Cell} {m p : Nat} {es : List Int} {Q : P1} (hn : 9 ≤ n) (b : Bld W0 H0 H at_ e a S cs m r.toL es) (c : Ctx H sc at_ ns p) (nx : Nx r.toL es m S.next) (hm : m + 1 ≤ 100) (hp : p ≤ 90000)
    (q : ∀ w b z H', H' w = some (.tup [.ref b, .int z]) → Le [at_] H0 H' → Ctx H' sc at_ ns (p + 1) → Fin' (at_ :: W0) H' r b z → Q (.ref w) H') : EX (MC T n) f_law_made.body.snd.snd.snd (E11 sc at_ fa a e o5 o6 o7 o8 o9 o10) (kBack Q) H := by
  refine sp_draw (z := 3) (up hn) c hp (by decide) fun d hd => ?_
  have b4 := b.other (H' := upd H at_ (.lst [.int ((p + 1 : Nat) : Int)])) (.at (.head _)) ⟨_, upd_self⟩
  have c4 := c.step
  generalize upd H at_ (.lst [.int ((p + 1 : Nat) : Int)]) = H4 at b4 c4
  obtain ⟨a1, a2, a3⟩ := nx.nx.ak_not nx.eb
  have hsub : ∀ c ∈ at_ :: W0, c ∈ wat W0 at_ e a S := fun c hc => (List.mem_cons.mp hc).elim (fun h => h ▸ wat_at) wat_0
  have rep4 : RepR (at_ :: W0) H4 r (rowsOf cs) := RepL.to (b4.rep.sub fun c hc => .inl (hsub c hc))
  have hkeys : V.int (ak S.next) ∉ r.toL.map (·.1) := fun h => a1 (nx.ik _ h)
  have hlt : ak S.next < 2 ^ 63 - 1 := by omega
  have final : ∀ (b' : Addr) (H5 : Hp), Le [] H4 H5 → Fin' (at_ :: W0) H5 r b' (ak S.next) → EVs (MC T n) (.cons (.call 59 (.cons (.var 4) .nil)) .nil) (E11 sc at_ fa a e o5 o6 o7 o8 o9 o10) (kCons2 (.ref b') (kLst .tup (kRet (E11 sc at_ fa a e o5 o6 o7 o8 o9 o10) (kSeq (EX (MC T n) .skip) (kBack Q))))) H5 := fun b' H5 l5 f5 => by
    have b5 := b4.other0 l5
    refine sp_next (up hn) b5.he nx.nx nx.eb fun H6 l6 w hw => ?_
    have l7 : Le [] H5 (upd H6 w (.tup [.ref b', .int (ak S.next)])) := l6.trans (.new hw)
    exact q w b' (ak S.next) _ upd_self (b4.le.trans (l5.trans l7).any) ((c4.le0 l5).le0 l7) (f5.le l7.any fun c hc => b5.na c (hsub c hc))
  refine if_c (p := (d : Int) = 2) (fun _ => sp_copy (up hn) b4.arr rep4 fun b' S' cs' H5 fr5 arr5 rep5 hnx5 => final b' H5 fr5.le ⟨S', cs', m, arr5, hm, fun c hc h => b4.exist c (hsub c h) (fr5.own c hc), fun h => b4.exist _ (hsub _ h) fr5.w, rep5.le fr5.le.any fun c hc => b4.na c (hsub c hc), by rw [hnx5], hlt, ?_⟩) fun _ => final a H4 .refl ⟨S, cs, m, b4.arr, hm, fun c hc h => ?_, fun h => ?_, rep4, rfl, hlt, ?_⟩
  · rw [toL_one rep5.nil]; exact hkeys
  · exact (List.mem_cons.mp h).elim (fun h => b4.atn.1 (h ▸ hc)) fun h => b4.w0 c h (b4.own c hc)
  · exact (List.mem_cons.mp h).elim (fun h => b4.atn.2.1 h.symm) fun h => b4.w0 _ h b4.w
  · rw [toL_one rep4.nil]; exact hkeys
theorem made_body {r : Trs} (ih : ∀ {i : Nat} {k : V} {r' : Trs}, r.toL[i]? = some (k, .ar r') → ∀ m, n ≤ m → MadeOk sc at_ ns m r') (hn : 9 ≤ n) (o : r.ok) (hl : r.len ≤ 6) (dd : (keysL r.toL).Nodup) (m : Nat) (hm : n + 1 ≤ m) : MadeOk sc at_ ns m r := by
  intro W0 H v p0 Q hw0 hna0 c0 hp hfrm q
  have hcost : (Tr.ar r).cost = 2 + costL r.toL := congrArg (2 + ·) cost_eq
  have hlen := toL_len (r := r)
  obtain ⟨fa, fl, refs, rfl, nfa, nfl, efa, efl, hfr⟩ := hfrm
  have hrl := hfr.len
  refine call_of (ρ := [some (.ref sc), some (.ref at_), some (.ref fa), none, none, none, none, none, none, none, none]) hm T_law_made rfl fun m hm => ?_
  have hm9 := Nat.le_trans hn hm
  have keepF : ∀ {m0 pz D H1 a e}, St W0 H sc at_ e a ns m0 pz D H1 → Le [at_] H H1 := fun ⟨_, _, _, _, _, _, b, _, _, _, _, _⟩ => b.le
  refine made_head (K := kSeq (EX (MC T m) f_law_made.body.snd) (kBack Q)) hm9 hw0 hna0 c0 (by omega) fun a e HD st0 => ?_
  have lD := keepF st0
  refine idx_of (idx_tup (i := 1) (lD.tup efa nfa) (by decide)) <| for_of (lD.lst efl nfl) ?_
  refine for_rule (fun i ρ H' => St W0 H sc at_ e a ns (4 * i) (p0 + 1 + costL (r.toL.take i)) (r.toL.take i) H' ∧ ∃ o5 o6 o7 o8 o9 o10, ρ = E11 sc at_ fa a e o5 o6 o7 o8 o9 o10) ⟨st0, _, _, _, _, _, _, rfl⟩ (fun i ρ H' h => (keepF h.1).lst efl nfl) ?_ ?_
  · rintro i w ρ H1 K' hw ⟨st, o5, o6, o7, o8, o9, o10, rfl⟩ hK' hR'
    obtain ⟨tb, k, iv, t, rfl, ntb, etb, fT, hg⟩ := hfr.get hw
    have hi6 : i < refs.length := (List.getElem?_eq_some_iff.mp hw).1
    have hcs := costL_take hg
    have hcl := costL_le (L := r.toL) (i := i + 1)
    refine step2_of ((keepF st).tup etb ntb) <| made_row c0 hm9 (fun r' e => ih (e ▸ hg) m hm) (ok_mem o hg).1 (fun L hf => not_yet dd hg hf (fk_k10 k (ok_mem o hg).1)) (by omega) (by omega) (fun H' l => fT.le l) st fun o7 o8 o9 o10 H' st' => hK' _ _ ⟨?_, _, _, _, _, _, _, rfl⟩
    rw [hcs, take_last hg]
    rw [Nat.add_assoc (p0 + 1), Nat.add_assoc (p0 + 1)] at st'
    exact st'
  · rintro ρ H1 ⟨st, o5, o6, o7, o8, o9, o10, rfl⟩
    rw [List.take_of_length_le (hlen.trans hrl.symm ▸ Nat.le_refl _)] at st
    exact made_drops (K := kSeq (EX (MC T m) f_law_made.body.snd.snd.snd) (kBack Q)) c0 hm9 st fun o5 H2 S cs m p es b c nx hm' hp' => made_tail hm9 b c nx (by omega) (by omega) fun w b' z H' ew le c' fin => q w b' z H' _ ew le c' (by omega) fin
theorem sp_made : ∀ h : Nat, ∀ {r : Trs}, r.ht ≤ h → (Tr.ar r).ok → (Tr.ar r).dis → ∀ n, h + 11 ≤ n → MadeOk sc at_ ns n r := by
  intro h
  induction h with
  | zero =>
    intro r hh o d n hn
    exact made_body (n := 10) (fun hg => absurd (Nat.le_trans (ht_mem hg) hh) (Nat.not_succ_le_zero _)) (by decide) o.1 o.2 d.1 n hn
  | succ h ih =>
    intro r hh o d n hn
    exact made_body (n := h + 11) (fun hg => ih (Nat.le_of_succ_le_succ (Nat.le_trans (ht_mem hg) hh)) (ok_mem o.1 hg).2 (dis_mem d.2 hg)) (by omega) o.1 o.2 d.1 n (by omega)
end
end Mine
namespace Mine
noncomputable def K9 : List V := [.int 0, .int 1, .int 2, .str (Str.ofString "a"), .int 5, .int (-3), .str (Str.ofString "b"), .int 7, .int (2 ^ 62)]
noncomputable def L9 : List V := L10.take 9
mutual
noncomputable def Tr.ok9 : Tr → Prop
  | .sc u => u ∈ L9
  | .ar r => r.ok9 ∧ r.len ≤ 5
noncomputable def Trs.ok9 : Trs → Prop
  | .nil => True
  | .cons k t r => k ∈ K9 ∧ t.ok9 ∧ r.ok9
end
theorem k9_k10 : ∀ k ∈ K9, k ∈ K10 := by decide +kernel
theorem l9_l10 : ∀ k ∈ L9, k ∈ L10 := fun k h => List.mem_of_mem_take h
theorem l9_sc : ∀ k ∈ L9, isSc k = true := by decide +kernel
theorem k9_sc : ∀ k ∈ K9, scalar k = true := by decide +kernel
mutual
theorem ok9_ok : ∀ {t : Tr}, t.ok9 → t.ok
  | .sc u, h => l9_l10 u h
  | .ar r, h => ⟨ok9_okR h.1, Nat.le_succ_of_le h.2⟩
theorem ok9_okR : ∀ {r : Trs}, r.ok9 → r.ok
  | .nil, _ => trivial
  | .cons k t r, h => ⟨k9_k10 k h.1, ok9_ok h.2.1, ok9_okR h.2.2⟩
end
noncomputable def Trs.snoc : Trs → V → Tr → Trs
  | .nil, k, t => .cons k t .nil
  | .cons k' t' r, k, t => .cons k' t' (r.snoc k t)
theorem snoc_toL : ∀ {r : Trs} {k : V} {t : Tr}, (r.snoc k t).toL = r.toL ++ [(k, t)]
  | .nil, k, t => rfl
  | .cons k' t' r, k, t => congrArg (_ :: ·) snoc_toL
theorem snoc_len : ∀ {r : Trs} {k : V} {t : Tr}, (r.snoc k t).len = r.len + 1
  | .nil, k, t => rfl
  | .cons k' t' r, k, t => congrArg (· + 1) snoc_len
theorem snoc_ht : ∀ {r : Trs} {k : V} {t : Tr} {h : Nat}, r.ht ≤ h → t.ht ≤ h → (r.snoc k t).ht ≤ h
  | .nil, k, t, h, _, h2 => Nat.max_le.mpr ⟨h2, Nat.zero_le _⟩
  | .cons k' t' r, k, t, h, h1, h2 => Nat.max_le.mpr ⟨(Nat.max_le.mp h1).1, snoc_ht (Nat.max_le.mp h1).2 h2⟩
theorem snoc_ok9 : ∀ {r : Trs} {k : V} {t : Tr}, r.ok9 → k ∈ K9 → t.ok9 → (r.snoc k t).ok9
  | .nil, k, t, _, h1, h2 => ⟨h1, h2, trivial⟩
  | .cons k' t' r, k, t, h, h1, h2 => ⟨h.1, h.2.1, snoc_ok9 h.2.2 h1 h2⟩
theorem snoc_dis : ∀ {r : Trs} {k : V} {t : Tr}, r.dis → t.dis → (r.snoc k t).dis
  | .nil, k, t, _, h2 => ⟨h2, trivial⟩
  | .cons k' t' r, k, t, h, h2 => ⟨h.1, snoc_dis h.2 h2⟩
theorem FrmR.snoc {W : List Addr} {H : Hp} : ∀ {r : Trs} {refs : List V} {k : V} {t : Tr} {b : Addr} {v : V}, FrmR W H r refs → b ∉ W → H b = some (.tup [k, v]) → Frm W H t v → FrmR W H (r.snoc k t) (refs ++ [.ref b])
  | .nil, refs, k, t, b, v, h, n1, e1, h1 => by
    have h : refs = [] := h
    subst h
    exact ⟨b, v, [], rfl, n1, e1, h1, rfl⟩
  | .cons k1 t1 r, refs, k, t, b, v, ⟨b0, v0, refs', e0, m1, m2, m3, h⟩, n1, e1, h1 => by
    subst e0
    exact ⟨b0, v0, refs' ++ [.ref b], rfl, m1, m2, m3, FrmR.snoc h n1 e1 h1⟩
noncomputable def fb : Nat → Nat
  | 0 => 6
  | d + 1 => 6 + 5 * fb d
section
variable {sc at_ : Addr} {ns : List Int}
noncomputable def FormOk (sc at_ : Addr) (ns : List Int) (n d : Nat) : Prop :=
  ∀ (W0 : List Addr) (H : Hp) (p : Nat) (Q : V → Hp → Prop), (∀ b ∈ W0, H b ≠ none) → Ctx H sc at_ ns p → p + fb d ≤ 90000 →
    (∀ v H' p' r, Le [at_] H H' → Ctx H' sc at_ ns p' → p' ≤ p + fb d → (Tr.ar r).ok9 → (Tr.ar r).dis → (Tr.ar r).ht ≤ d + 1 → Frm (at_ :: W0) H' (.ar r) v → Q v H') → MC T n 58 [.ref sc, .ref at_, .int d] Q H
noncomputable def rc : Nat → Nat
  | 0 => 1
  | d + 1 => 1 + fb d
theorem fb_rc {d : Nat} : fb d = 1 + 5 * rc d := by
  cases d with
  | zero => rfl
  | succ d => show 6 + 5 * fb d = 1 + 5 * (1 + fb d); omega
theorem rc_pos {d : Nat} : 1 ≤ rc d := by
  cases d with
  | zero => exact Nat.le_refl _
  | succ d => exact Nat.le_add_right _ _
theorem ok9_mem : ∀ {r : Trs}, r.ok9 → ∀ k ∈ keysL r.toL, k ∈ K9
  | .nil, _, k, h => nomatch h
  | .cons k t r, o, k', h => (List.mem_cons.mp h).elim (fun h => h ▸ o.1) (ok9_mem o.2.2 k')
noncomputable def E10 (sc at_ : Addr) (d : Nat) (rl : Addr) (o4 o5 o6 o7 : Option V) : Env' := [some (.ref sc), some (.ref at_), some (.int d), some (.ref rl), o4, o5, o6, o7, none, none]
noncomputable def form0 : MS := f_law_form.body.snd.fst.fst
inductive Fo (W0 : List Addr) (H0 : Hp) (sc at_ rl : Addr) (ns : List Int) (d i pz : Nat) (H : Hp) : Prop
  | mk (p : Nat) (r : Trs) (refs : List V) (le : Le [at_] H0 H) (c : Ctx H sc at_ ns p) (hp : p ≤ pz) (er : H rl = some (.lst refs)) (fr : FrmR (at_ :: rl :: W0) H r refs) (ok : r.ok9) (di : r.dis) (nd : (keysL r.toL).Nodup) (ln : r.len ≤ i) (ht : r.ht ≤ d)
structure Leaf (W : List Addr) (H : Hp) (d : Nat) (t : Tr) (v : V) : Prop where
  o : t.ok9
  di : t.dis
  h : t.ht ≤ d
  f : Frm W H t v
section
variable {W0 : List Addr} {H0 H : Hp} {rl : Addr} {d i pz n num : Nat} {key leaf : V} {K : PF} {o4 o5 o6 o7 : Option V} {Q : P1}
theorem mem1 {a : Addr} {W : List Addr} : ∀ b ∈ [a], b ∈ a :: W := fun b hb => List.mem_singleton.mp hb ▸ .head _
theorem Fo.le (f : Fo W0 H0 sc at_ rl ns d i pz H) {H' : Hp} (l : Le [] H H') : Fo W0 H0 sc at_ rl ns d i pz H' := by
  obtain ⟨p, r, refs, le, c, hp, er, fr, ok, di, nd, ln, ht⟩ := f
  exact ⟨p, r, refs, le.trans l.any, c.le0 l, hp, l.lst er List.not_mem_nil, fr.le l.any, ok, di, nd, ln, ht⟩
theorem form_1 (hr : rl ≠ at_) (hn : 2 ≤ n) (hp : pz ≤ 90000) (f : Fo W0 H0 sc at_ rl ns d i pz H) (q : ∀ num H', Fo W0 H0 sc at_ rl ns d i (pz + 1) H' → K .nxt (E10 sc at_ d rl o4 (some (.int (num : Nat))) o6 o7) H') : EX (MC T n) form0.fst (E10 sc at_ d rl o4 o5 o6 o7) K H := by
  obtain ⟨p, r, refs, le, c, hp', er, fr, ok, di, nd, ln, ht⟩ := f
  have la : Le [at_] H (upd H at_ (.lst [.int ((p + 1 : Nat) : Int)])) := .at (.head _)
  exact ⟨by decide, by decide, sp_draw (z := 108) (up hn) c (Nat.le_trans hp' hp) (by decide) fun num hnum => q num _ ⟨p + 1, r, refs, le.trans la, c.step, Nat.succ_le_succ hp', (upd_ne hr).trans er, fr.le (la.mono fun b hb => .inl (mem1 b hb)), ok, di, nd, ln, ht⟩⟩
theorem form_2 (f : Fo W0 H0 sc at_ rl ns d i pz H) (q : ∀ key H', key ∈ K9 → Fo W0 H0 sc at_ rl ns d i pz H' → K .nxt (E10 sc at_ d rl o4 (some (.int num)) (some key) o7) H') : EX (MC T n) form0.snd.fst (E10 sc at_ d rl o4 (some (.int num)) o6 o7) K H := by
  refine ⟨.inl rfl, by decide, by decide, fun l hl => mod_of (a := num) (b := 9) (c := ((num % 9 : Nat) : Int)) rfl (by decide) ?_⟩
  obtain ⟨key, hkey⟩ : ∃ k, K9[num % 9]? = some k := ⟨_, List.getElem?_eq_getElem (show num % 9 < 9 from Nat.mod_lt _ (by decide))⟩
  exact idx_of ((idx_lst (vs := K9) upd_self (by omega)).trans hkey) <| q key _ (List.mem_of_getElem? hkey) (f.le (.new hl))
theorem form_leaf (hn : 2 ≤ n) (f : Fo W0 H0 sc at_ rl ns d i pz H) (q : ∀ u H', u ∈ L9 → Fo W0 H0 sc at_ rl ns d i pz H' → Q u H') {ρ : Env'} (h5 : ρ[5]? = some (some (.int num))) : EV (MC T n) (.idx (.call 57 .nil) (.bin .Mod (.bin .FloorDiv (.var 5) (.cst (.int 9))) (.cst (.int 9)))) ρ Q H := by
  refine sp_leaves (up hn) fun l H5 l5 e5 => ?_
  show kV ρ[5]? _ _
  rw [h5]
  obtain ⟨u, hu⟩ : ∃ u, L9[num / 9 % 9]? = some u := ⟨_, List.getElem?_eq_getElem (show num / 9 % 9 < 9 from Nat.mod_lt _ (by decide))⟩
  exact ⟨by decide, by decide, mod_of (a := (num : Int) / 9) (b := 9) (c := ((num / 9 % 9 : Nat) : Int)) rfl (by decide) <| idx_of ((idx_lst e5 (by omega)).trans hu) <| q u _ (List.mem_of_getElem? hu) (f.le l5)⟩
theorem form_3 (hr : rl ≠ at_) (hw0 : ∀ b ∈ W0, H0 b ≠ none) (hn : 2 ≤ n) (ih : ∀ d', d = d' + 1 → FormOk sc at_ ns n d') (hp : pz + rc d ≤ 90001) (h1 : 1 ≤ pz) (f : Fo W0 H0 sc at_ rl ns d i pz H) (q : ∀ leaf t H', Fo W0 H0 sc at_ rl ns d i (pz - 1 + rc d) H' → Leaf (at_ :: rl :: W0) H' d t leaf → K .nxt (E10 sc at_ d rl o4 (some (.int num)) o6 (some leaf)) H') : EX (MC T n) form0.snd.snd.fst (E10 sc at_ d rl o4 (some (.int num)) o6 o7) K H := by
  have hrc := rc_pos (d := d)
  have flat : ∀ u H', u ∈ L9 → Fo W0 H0 sc at_ rl ns d i pz H' → K .nxt (E10 sc at_ d rl o4 (some (.int num)) o6 (some u)) H' := fun u H' hu ⟨p, r, refs, le, c, hp', er, fr, ok, di, nd, ln, ht⟩ =>
    q u (.sc u) H' ⟨p, r, refs, le, c, by omega, er, fr, ok, di, nd, ln, ht⟩ ⟨hu, trivial, Nat.zero_le _, rfl, l9_sc u hu⟩
  refine ⟨by decide, by decide, if_c (p := (num : Int) / 9 < 9) (fun _ => form_leaf hn f flat rfl) fun _ => if_c (p := (d : Int) = 0) (fun _ => form_leaf hn f flat rfl) fun h0 => ?_⟩
  obtain ⟨p, r, refs, le, c, hp', er, fr, ok, di, nd, ln, ht⟩ := f
  cases d with
  | zero => exact absurd rfl h0
  | succ d' =>
    have hrcd : rc (d' + 1) = 1 + fb d' := rfl
    have out : ∀ b, H b = none → b ∉ [at_] := fun b hb hm => by rw [List.mem_singleton.mp hm, c.ha] at hb; cases hb
    show MC T n 58 [.ref sc, .ref at_, .int (((d' + 1 : Nat) : Int) - 1)] _ H
    rw [show (((d' + 1 : Nat) : Int) - 1) = (d' : Int) from Int.add_sub_cancel (d' : Int) 1]
    refine ih d' rfl (rl :: W0) H p _ (fun b hb hn => ?_) c (by omega) fun v H5 p5 r5 l5 c5 hp5 o5 d5 h5 f5 => ?_
    · rcases List.mem_cons.mp hb with h | h
      · rw [h, er] at hn; cases hn
      · exact hw0 b h (le.there (out b hn) hn)
    · exact q v (.ar r5) H5 ⟨p5, r, refs, le.trans l5, c5, by omega, l5.lst er fun h => hr (List.mem_singleton.mp h), fr.le (l5.mono fun b hb => .inl (mem1 b hb)), ok, di, nd, ln, ht⟩ ⟨o5, d5, h5, f5⟩
theorem in_lst {H : Hp} {x : V} {p : Addr} {vs : List V} (e : H p = some (.lst vs)) (hx : scalar x = true) (hv : scalars vs = true) : cmpV H .In x (.ref p) = some (decide (x ∈ vs)) := by
  show ((seqO (H p)).bind fun vs => if scalar x = true ∧ scalars vs = true then some (decide (x ∈ vs)) else .none) = _
  rw [e]
  exact if_pos ⟨hx, hv⟩
theorem form_4 {t : Tr} (hr : rl ≠ at_) (hl : H0 rl = none) (hs : H0 sc ≠ none) (hw0 : ∀ b ∈ W0, H0 b ≠ none) (hk : key ∈ K9) (hi : i ≤ 100) (f : Fo W0 H0 sc at_ rl ns d i pz H) (lf : Leaf (at_ :: rl :: W0) H d t leaf) (q : ∀ H', Fo W0 H0 sc at_ rl ns d (i + 1) pz H' → K .nxt (E10 sc at_ d rl o4 o5 (some key) (some leaf)) H') : EX (MC T n) form0.snd.snd.snd (E10 sc at_ d rl o4 o5 (some key) (some leaf)) K H := by
  obtain ⟨p, r, refs, le, c, hp', er, fr, ok, di, nd, ln, ht⟩ := f
  have hrl := fr.len
  have htl := toL_len (r := r)
  have hkl : (keysL r.toL).length = refs.length := (List.length_map _).trans (htl.trans hrl.symm)
  refine comp_of er <| comp_rule (fun j acc H' => H' = H ∧ acc = (keysL r.toL).take j) (by omega) ⟨rfl, rfl⟩ (fun j acc H' h => by rw [h.2, List.length_take]; exact Nat.min_le_left _ _) (fun j acc H' h => by rw [h.1]; exact er) ?_ ?_
  · rintro j w acc H' K3 hw ⟨rfl, rfl⟩ hK3
    obtain ⟨tb, k1, v1, t1, rfl, _, etb, _, hg⟩ := fr.get hw
    exact turn2_of etb <| hK3 _ _ ⟨rfl, (take_last (List.getElem?_map.trans (congrArg (Option.map Prod.fst) hg))).symm⟩
  · rintro acc H' ⟨rfl, rfl⟩ l hl'
    rw [List.take_of_length_le (Nat.le_of_eq hkl)]
    have hks : scalars (keysL r.toL) = true := List.all_eq_true.mpr fun k hk => k9_sc k (ok9_mem ok k hk)
    have l6 : Le [] H' (upd H' l (.lst (keysL r.toL))) := .new hl'
    refine cmp_of (congrArg (Option.map not) (in_lst upd_self (k9_sc key hk) hks)) <| if_nc (fun hkn => ?_) fun _ => q _ ⟨p, r, refs, le.trans l6.any, c.le0 l6, hp', l6.lst er List.not_mem_nil, fr.le l6.any, ok, di, nd, Nat.le_succ_of_le ln, ht⟩
    have er6 := l6.lst er List.not_mem_nil
    have c6 := c.le0 l6
    have le6 := le.trans l6.any
    have fr6 := fr.le l6.any
    have fl6 := lf.f.le (l6.any (W := at_ :: rl :: W0))
    generalize upd H' l (.lst (keysL r.toL)) = H6 at er6 c6 le6 fr6 fl6
    refine app1_of er6 fun tb htb => ?_
    have l7 : Le [] H6 (upd H6 tb (.tup [key, leaf])) := .new htb
    have l8 : Le [rl] (upd H6 tb (.tup [key, leaf])) (upd (upd H6 tb (.tup [key, leaf])) rl (.lst (refs ++ [.ref tb]))) := .at (.head _)
    have l78 : Le (at_ :: rl :: W0) H6 (upd (upd H6 tb (.tup [key, leaf])) rl (.lst (refs ++ [.ref tb]))) := l7.any.trans (l8.mono fun b hb => .inl (.tail _ (mem1 b hb)))
    have htr := (ne_new er6 htb).symm
    have hta := (ne_new c6.ha htb).symm
    refine app2_of (l7.lst er6 List.not_mem_nil) (by omega) <| q _ ⟨p, r.snoc key t, _, ?_, ?_, hp', upd_self, ?_, snoc_ok9 ok hk lf.o, snoc_dis di lf.di, ?_, by rw [snoc_len]; exact Nat.succ_le_succ ln, snoc_ht ht lf.h⟩
    · exact (le6.trans l7.any).trans' l8 fun b hb => .inr (List.mem_singleton.mp hb ▸ hl)
    · exact c6.le (W := [rl]) (l7.any.trans l8) (fun h => hs (List.mem_singleton.mp h ▸ hl)) fun h => hr (List.mem_singleton.mp h).symm
    · refine (fr6.le l78).snoc (fun h => ?_) ((upd_ne htr).trans upd_self) (fl6.le l78)
      exact (List.mem_cons.mp h).elim hta fun h => (List.mem_cons.mp h).elim htr fun h => hw0 tb h (le6.there (fun hm => hta (List.mem_singleton.mp hm)) htb)
    · rw [snoc_toL, keysL, List.map_append]
      exact List.nodup_append.mpr ⟨nd, List.nodup_cons.mpr ⟨List.not_mem_nil, .nil⟩, fun x hx y hy e => hkn ((show x = key from e.trans (List.mem_singleton.mp hy)) ▸ hx)⟩
theorem form_body (ih : ∀ d', d = d' + 1 → ∀ m, n ≤ m → FormOk sc at_ ns m d') (hn : 2 ≤ n) (m : Nat) (hm : n + 1 ≤ m) : FormOk sc at_ ns m d := by
  intro W0 H p0 Q hw0 c0 hp q
  have hfr := fb_rc (d := d)
  have hrc := rc_pos (d := d)
  refine call_of (ρ := [some (.ref sc), some (.ref at_), some (.int d), none, none, none, none, none, none, none]) hm T_law_form rfl fun m hm rl hrl => ?_
  have hm2 := Nat.le_trans hn hm
  have cA := c0.le0 (.new (o := .lst []) hrl)
  have hra := (ne_new c0.ha hrl).symm
  have hsc : H sc ≠ none := fun h => by rw [c0.hs] at h; cases h
  have f0 : Fo W0 H sc at_ rl ns d 0 (p0 + 1) (upd (upd H rl (.lst [])) at_ (.lst [.int ((p0 + 1 : Nat) : Int)])) := ⟨p0 + 1, .nil, [], (Le.new hrl).any.trans (.at (.head _)), cA.step, Nat.le_refl _, (upd_ne hra).trans upd_self, rfl, trivial, trivial, .nil, Nat.le_refl _, Nat.zero_le _⟩
  have go : ∀ (k : Nat), k ≤ 5 → exFor (kStep [4] (EX (MC T m) form0)) none (rangeL 0 k) (rangeL 0 k) (kSeq (EX (MC T m) f_law_form.body.snd.snd) (kBack Q)) (E10 sc at_ d rl none none none none) (upd (upd H rl (.lst [])) at_ (.lst [.int ((p0 + 1 : Nat) : Int)])) := fun k hk => by
    refine for_rule (fun i ρ H' => i ≤ k ∧ Fo W0 H sc at_ rl ns d i (p0 + 1 + i * rc d) H' ∧ ∃ o4 o5 o6 o7, ρ = E10 sc at_ d rl o4 o5 o6 o7) ⟨Nat.zero_le _, (Nat.zero_mul (rc d)).symm ▸ f0, _, _, _, _, rfl⟩ (fun _ _ _ _ => trivial) ?_ ?_
    · rintro i u ρ H1 K' hu ⟨hi, f, o4, o5, o6, o7, rfl⟩ hK' hR'
      obtain ⟨rfl, hik⟩ := range_get hu
      have hmul : (i + 1) * rc d ≤ 5 * rc d := Nat.mul_le_mul_right _ (Nat.le_trans hik hk)
      rw [Nat.succ_mul] at hmul
      refine form_1 (K := kSeq (EX (MC T m) form0.snd) K') hra hm2 (by omega) f fun num H2 f2 => form_2 (K := kSeq (EX (MC T m) form0.snd.snd) K') f2 fun key H3 hk f3 => form_3 (K := kSeq (EX (MC T m) form0.snd.snd.snd) K') hra hw0 hm2 (fun d' e => ih d' e m hm) (by omega) (Nat.le_add_left _ _) f3 fun leaf t H4 f4 lf => form_4 hra hrl hsc hw0 hk (by omega) f4 lf fun H5 f5 => hK' _ _ ⟨hik, ?_, _, _, _, _, rfl⟩
      rw [Nat.succ_mul, ← Nat.add_assoc]
      exact f5
    · rintro ρ H' ⟨_, ⟨p, r, refs, le, c, hp', er, fr, ok, di, nd, ln, ht⟩, o4, o5, o6, o7, rfl⟩ w hw
      rw [range_len] at hp' ln
      have hmul : k * rc d ≤ 5 * rc d := Nat.mul_le_mul_right _ hk
      have lw : Le [] H' (upd H' w (.tup [.str (Str.ofString "array"), .ref rl])) := .new hw
      have hwa := (ne_new c.ha hw).symm
      refine q _ _ p r (le.trans lw.any) (c.le0 lw) (by omega) ⟨ok, Nat.le_trans ln hk⟩ ⟨nd, di⟩ (Nat.succ_le_succ ht) ⟨w, rl, refs, rfl, fun h => ?_, fun h => ?_, upd_self, lw.lst er List.not_mem_nil, (fr.le lw.any).sub fun b hb => .inl ((List.mem_cons.mp hb).elim (fun h => h ▸ .head _) fun h => .tail _ (.tail _ h))⟩
      · exact (List.mem_cons.mp h).elim hwa fun h => hw0 w h (le.there (fun hm => hwa (List.mem_singleton.mp hm)) hw)
      · exact (List.mem_cons.mp h).elim hra fun h => hw0 rl h hrl
  exact if_c (fun _ => sp_draw (z := 6) (up hm2) cA (by omega) (by decide) fun k hk => rng_of (by omega) <| go k (Nat.le_of_lt_succ hk)) fun _ => sp_draw (z := 3) (up hm2) cA (by omega) (by decide) fun k hk => rng_of (by omega) <| go k (Nat.le_trans (Nat.le_of_lt hk) (by decide))
theorem sp_form : ∀ {d : Nat}, ∀ n, d + 3 ≤ n → FormOk sc at_ ns n d := by
  intro d
  induction d with
  | zero => exact form_body (fun d' h => nomatch h) (Nat.le_refl _)
  | succ d ih => exact form_body (n := d + 3) (fun d' h => by cases h; exact ih) (Nat.le_add_left _ _)
end
end
end Mine
namespace Mine
theorem sp_new_frame {n : Nat} (hn : 1 ≤ n) {Q : P1} {H : Hp} {b d : Addr} (hb : H b = none) (hd : H d = none) (q : ∀ H', Le [] H H' → Q (.ref b) H') : MC T n 1040 [.ref b] (kDone b Q) (upd (upd H d (.hid b)) b (.inst .frame d [])) :=
  call_of (ρ := [some (.ref b), some .none, some .none, some .none, some .none]) hn T_Frame_init rfl fun n hn => step_val (v := .none) upd_self rfl fun H1 l1 hb1 => step_val (v := .none) hb1 rfl fun H2 l2 hb2 => step_val (v := .none) hb2 rfl fun H3 l3 hb3 => step_val (v := .none) hb3 rfl fun H4 l4 hb4 => step_new rfl hb4 (fun _ => rfl) fun _ H5 l5 _ _ hb5 => step_new rfl hb5 (fun _ => rfl) fun _ H6 l6 _ _ hb6 =>
    q H6 ((l1.trans (l2.trans (l3.trans (l4.trans (l5.trans l6))))).made hb hd)
noncomputable def NoteOk (H : Hp) (h : Addr) : Prop := ∃ d fs nl, H h = some (.inst .host d fs) ∧ fs[5]? = some (.ref nl) ∧ H nl = some (.lst [])
theorem NoteOk.le {H H' : Hp} {h : Addr} (x : NoteOk H h) (l : Le [] H H') : NoteOk H' h :=
  let ⟨d, fs, nl, e1, e2, e3⟩ := x
  ⟨d, fs, nl, l.host e1 List.not_mem_nil, e2, l.lst e3 List.not_mem_nil⟩
inductive HS (b d nl : Addr) (k : Nat) (H : Hp) : Prop
  | mk (fs : List V) (e : H b = some (.inst .host d fs)) (hl : fs.length = k) (h5 : fs[5]? = some (.ref nl))
theorem HS.to {b d nl : Addr} {k : Nat} {fs : List V} {v : V} {H : Hp} (hl : fs.length = k) (h5 : fs[5]? = some (.ref nl)) (h : H b = some (.inst .host d (fs ++ [v]))) : HS b d nl (k + 1) H :=
  ⟨_, h, List.length_append.trans (congrArg (· + 1) hl), (List.getElem?_append_left (List.getElem?_eq_some_iff.mp h5).1).trans h5⟩
theorem host_set {d : Addr} {fs : List V} {k : Nat} (h : fs.length = k) (hk : k < 20) (v : V) : setFld .host d fs (20 + k) v = some (.inst .host d (fs ++ [v])) := by
  subst h
  have h1 : ¬ (20 + fs.length < 20) := Nat.not_lt.mpr (Nat.le_add_right _ _)
  have h2 : 20 + fs.length < 40 := Nat.add_lt_add_left hk 20
  simp [setFld, fidx, fbase, fnum, h2]
section
variable {Δ : Calls} {b d nl : Addr} {ρ : Env'} {Q : PF} {H : Hp} {k : Nat}
theorem h_val {v : V} (hb : HS b d nl k H) (hk : k < 20) (q : ∀ H', Le [b] H H' → HS b d nl (k + 1) H' → Q .nxt ρ H') : kAs2 (20 + k) v ρ Q (.ref b) H :=
  let ⟨_, e, hl, h5⟩ := hb
  step_val e (host_set hl hk v) fun H' l h => q H' l (.to hl h5 h)
theorem h_new {o : O} (h0 : ρ[0]? = some (some (.ref b))) (hb : HS b d nl k H) (hk : k < 20) (q : ∀ H', Le [b] H H' → HS b d nl (k + 1) H' → Q .nxt ρ H') : New o (kAs1 (EV Δ (.var 0) ρ) (20 + k) ρ Q) H :=
  let ⟨_, e, hl, h5⟩ := hb
  step_new h0 e (host_set hl hk) fun _ H' l _ _ h => q H' l (.to hl h5 h)
end
theorem sp_new_host {n : Nat} (hn : 2 ≤ n) {Q : P1} {H : Hp} {b d : Addr} (hb : H b = none) (hd : H d = none) (q : ∀ H', Le [] H H' → NoteOk H' b → Q (.ref b) H') : MC T n 1020 [.ref b] (kDone b Q) (upd (upd H d (.hid b)) b (.inst .host d [])) := by
  refine call_of (ρ := [some (.ref b), some (.int 12), some .none]) hn T_Host_init rfl fun n hn => step_new rfl upd_self (fun _ => rfl) fun _ H1 l1 _ _ hb1 => step_new rfl hb1 (fun _ => rfl) fun _ H2 l2 _ _ hb2 => step_new rfl hb2 (fun _ => rfl) fun _ H3 l3 _ _ hb3 =>
    fun f fd hf hfd _ => sp_new_frame hn hf hfd fun H4 l4 => step_val (l4.host hb3 List.not_mem_nil) rfl fun H5 l5 hb5 => fld_of (fld_obj hb5) <| step_val (v := .ref f) hb5 rfl fun H6 l6 hb6 => step_new rfl hb6 (fun _ => rfl) fun nl H7 l7 n7 e7 hb7 => ?_
  have s7 : HS b d nl 6 H7 := ⟨_, hb7, rfl, rfl⟩
  have m7 := l1.trans (l2.trans (l3.trans (l4.any.trans (l5.trans (l6.trans l7)))))
  have hnb : nl ∉ [b] := fun h => ne_new hb6 n7 (List.mem_singleton.mp h).symm
  clear hb1 hb2 hb3 hb5 hb6 hb7 l1 l2 l3 l4 l5 l6 l7 hf hfd
  have : ∀ {H8}, Le [b] H7 H8 → HS b d nl 20 H8 → Q (.ref b) H8 := fun {H8} l8 ⟨fs, e, _, h5⟩ => q H8 ((m7.trans l8).made hb hd) ⟨d, fs, nl, e, h5, l8.lst e7 hnb⟩
  refine h_val (k := 6) (v := .int 0) s7 (by decide) fun H8 l8 s8 => h_new (k := 7) rfl s8 (by decide) fun H9 l9 s9 => h_new (k := 8) rfl s9 (by decide) fun H10 l10 s10 => h_val (k := 9) (v := .int 0) s10 (by decide) fun H11 l11 s11 => h_val (k := 10) (v := .int 12) s11 (by decide) fun H12 l12 s12 =>
    h_val (k := 11) (v := .int 0) s12 (by decide) fun H13 l13 s13 => h_val (k := 12) (v := .none) s13 (by decide) fun H14 l14 s14 => h_val (k := 13) (v := .int 0) s14 (by decide) fun H15 l15 s15 => h_new (k := 14) rfl s15 (by decide) fun H16 l16 s16 => h_new (k := 15) rfl s16 (by decide) fun H17 l17 s17 =>
    h_new (k := 16) rfl s17 (by decide) fun H18 l18 s18 => h_new (k := 17) rfl s18 (by decide) fun H19 l19 s19 => h_new (k := 18) rfl s19 (by decide) fun H20 l20 s20 => h_val (k := 19) (v := .bool false) s20 (by decide) fun H21 l21 s21 => this ?_ s21
  exact l8.trans (l9.trans (l10.trans (l11.trans (l12.trans (l13.trans (l14.trans (l15.trans (l16.trans (l17.trans (l18.trans (l19.trans (l20.trans l21))))))))))))
end Mine
namespace Mine
section
variable {H : Hp} {Q : V → Hp → Prop} {n : Nat} {a b : Addr} {S : AS} {cs : List Cell} {m : Nat} {r : Trs}
theorem c_ne_same {x : V} (h : scalar x = true) : cmpV H .NotEq x x = some false := by
  rw [c_ne_kk h h, decide_eq_true rfl]; rfl
theorem hasK_eq (x : Arr H a S cs m) {k : V} : hasK cs k = decide (k ∈ keysR (rowsOf cs)) := by
  unfold hasK
  rcases fnd_cases cs k with ⟨i, s, e⟩ | hno
  · rw [fnd_at x.one e, decide_eq_true (Int.natCast_nonneg i), decide_eq_true (mem_keys.mpr ⟨i, s, e⟩)]
  · rw [fnd_none hno, decide_eq_false (by decide), decide_eq_false (fun h => by obtain ⟨i, s, e⟩ := mem_keys.mp h; exact hno i s e)]
noncomputable def K15 : List V := [.int 0, .int 1, .int 2, .int 3, .int 5, .int (-3), .int (-8), .int 7, .int 9, .int 100, .int (2 ^ 62), .str (Str.ofString "a"), .str (Str.ofString "b"), .str (Str.ofString "z"), .str (Str.ofString "q")]
theorem k15_sc : ∀ k ∈ K15, scalar k = true := by decide +kernel
theorem scalars_range {k : Nat} : scalars (rangeL 0 k) = true := List.all_eq_true.mpr fun v hv => by
  obtain ⟨i, hi⟩ := List.mem_iff_getElem?.mp hv
  obtain ⟨rfl, _⟩ := range_get hi
  rfl
theorem sc_keys : ∀ {r : Trs}, r.ok → ∀ k ∈ keysL r.toL, scalar k = true
  | .nil, _, k, h => nomatch h
  | .cons k t r, o, k', h => (List.mem_cons.mp h).elim (fun h => h ▸ k10_sc o.1) (sc_keys o.2.2 k')
theorem sp_is_as (hn : 10 ≤ n) (o : (Tr.ar r).ok) (hh : (Tr.ar r).ht ≤ 4) (hv : Rep [] H (.ar r) (.ref a)) {form : V} (hf : Frm [] H (.ar r) form) (q : ∀ H', Le [] H H' → Q (.bool true) H') : MC T n 63 [.ref a, form] Q H := by
  obtain ⟨fa, fl, refs, rfl, _, _, efa, efl, hfr⟩ := id hf
  have htl := toL_len (r := r)
  have hrl := hfr.len
  have hl6 : r.len ≤ 6 := o.2
  refine call_of (ρ := [some (.ref a), some (.ref fa), none, none, none, none]) hn T_law_is_as rfl fun n hn => idx_of (idx_pair efa).2 <| comp_of efl <| comp_rule (fun j acc H' => H' = H ∧ acc = (keysL r.toL).take j) (by omega) ⟨rfl, rfl⟩ (fun j acc H' h => by rw [h.2, List.length_take]; exact Nat.min_le_left _ _) (fun j acc H' h => by rw [h.1]; exact efl) ?_ ?_
  · rintro j w acc H' K3 hw ⟨rfl, rfl⟩ hK3
    obtain ⟨tb, k1, v1, t1, rfl, _, etb, _, hg⟩ := hfr.get hw
    exact turn2_of etb <| hK3 _ _ ⟨rfl, (take_last (List.getElem?_map.trans (congrArg (Option.map Prod.fst) hg))).symm⟩
  rintro acc H' ⟨rfl, rfl⟩ kl hkl
  have hkl' : (keysL r.toL).length = r.len := (List.length_map _).trans htl
  rw [List.take_of_length_le (Nat.le_of_eq (hkl'.trans hrl.symm))]
  have hks : scalars (keysL r.toL) = true := List.all_eq_true.mpr (sc_keys o.1)
  have l1 : Le [] H' (upd H' kl (.lst (keysL r.toL))) := .new hkl
  have ek1 : (upd H' kl (.lst (keysL r.toL))) kl = some (.lst (keysL r.toL)) := upd_self
  generalize upd H' kl (.lst (keysL r.toL)) = H1 at l1 ek1
  obtain ⟨a', S, cs, m, ea, x, _, _, rep⟩ := id hv
  cases ea
  have hkr : keysR (rowsOf cs) = keysL r.toL := toL_one rep
  have hrr := rep.len
  refine sp_read (Tr.ar r).ht (Nat.le_refl _) (by omega) (hv.le0 l1) fun w H2 l2 f2 => ?_
  obtain ⟨wa, _, _, rfl, _⟩ := id f2
  obtain ⟨c1, c2, c3, _⟩ := can_repr o hh
  have x2 := (x.le l1).le l2
  have ek2 := l2.lst ek1 List.not_mem_nil
  refine ⟨_, dataT (.ar r), rfl, f2.dat o, c1, c2, c3, _, dataT (.ar r), rfl, ((hf.le l1).le l2).dat o, c1, c2, c3, cmp_of (c_ne_same rfl) <| fld_of x2.is.f6 <| len_of (len_lst ek2 hkl') (Nat.lt_of_le_of_lt hl6 (by decide)) <| cmp_of (c_ne_kk rfl rfl) <| if_nf (congrArg V.int (x.cnt.trans (congrArg Nat.cast hrr))) <| sp_is_list (up hn) x2 fun H3 l3 => ?_⟩
  have ek3 := l3.lst ek2 List.not_mem_nil
  refine len_of (len_lst ek3 hkl') (Nat.lt_of_le_of_lt hl6 (by decide)) <| rng_of (Nat.lt_of_le_of_lt hl6 (by decide)) fun l4 hl4 => ?_
  refine cmp_of (eq_lists ((upd_ne (ne_new ek3 hl4)).trans ek3) upd_self (ne_new ek3 hl4) fun _ => ⟨hks, scalars_range⟩) <| cmp_of (r := !decide (decide (keysR (rowsOf cs) = rangeL 0 (rowsOf cs).length) = decide (keysL r.toL = rangeL 0 r.len))) rfl <| if_nf (by rw [hkr, hrr]) ?_
  have l5 : Le [] H' (upd H3 l4 (.lst (rangeL 0 (r.len : Int)))) := l1.trans (l2.trans (l3.trans (.new hl4)))
  have x5 := x.le l5
  have e4 : (upd H3 l4 (.lst (rangeL 0 (r.len : Int)))) kl = some (.lst (keysL r.toL)) := (upd_ne (ne_new ek3 hl4)).trans ek3
  generalize upd H3 l4 (.lst (rangeL 0 (r.len : Int))) = H5 at e4 l5 x5
  refine ⟨.inl rfl, by decide, by decide, fun l6 hl6 => for_of (vs := K15) upd_self ?_⟩
  have lc : Le [] H5 (upd H5 l6 (.lst K15)) := .new hl6
  have x6 := x5.le lc
  have ek6 := lc.lst e4 List.not_mem_nil
  refine for_rule (fun i ρ H6 => H6 = upd H5 l6 (.lst K15) ∧ ∃ o3, ρ = [some (.ref a), some (.ref fa), some (.ref kl), o3, none, none]) ⟨rfl, _, rfl⟩ (fun i ρ H6 h => by rw [h.1]; exact upd_self) ?_ ?_
  · rintro i k ρ H6 K' hk ⟨rfl, o3, rfl⟩ hK' hR'
    have hsk := k15_sc k (List.mem_of_getElem? hk)
    exact meth_of x6.is.inst <| sp_has (up hn) x6 hsk <| cmp_of (in_lst ek6 hsk hks) <| cmp_of (r := !decide (hasK cs k = decide (k ∈ keysL r.toL))) rfl <| if_nf (hkr ▸ hasK_eq x6) <| hK' _ _ ⟨rfl, _, rfl⟩
  · rintro ρ H6 ⟨rfl, o3, rfl⟩
    exact q _ (l5.trans lc)
theorem sp_are_alike (hn : 24 ≤ n) (o : (Tr.ar r).ok) (hh : (Tr.ar r).ht ≤ 4) (ha : Rep [] H (.ar r) (.ref a)) (hb : Rep [] H (.ar r) (.ref b)) (q : ∀ H', Le [] H H' → Q (.bool true) H') : MC T n 64 [.ref a, .ref b] Q H := by
  obtain ⟨_, _, _, c1, c2, c3⟩ := can_repr o hh
  refine call_of (ρ := [some (.ref a), some (.ref b), none]) hn T_law_are_alike rfl fun n hn hb0 hd0 h1 h2 _ => sp_new_host (up hn) h1 h2 fun H1 l1 n1 => ?_
  refine sp_same (by omega) (by omega) (ha.le0 l1) (hb.le0 l1) fun r1 H2 l2 hr1 => ?_
  rw [show r1 = true from hr1.mpr rfl]
  have m2 := l1.trans l2
  refine sp_loose (by omega) (by omega) o (ha.le0 m2) (hb.le0 m2) fun H3 l3 => ?_
  have m3 := m2.trans l3
  refine sp_compare (by omega) (by omega) o (ha.le0 m3) (hb.le0 m3) fun H4 l4 => cmp_c <| cmp_of (c_ne_same rfl) ?_
  have m4 := m3.trans l4
  refine sp_plain (by omega) (by omega) (ha.le0 m4) fun av w H5 e5 l5 d5 => ⟨av, plainD (.ar r), e5, d5.dat, c1, c2, c3, ?_⟩
  have m5 := m4.trans l5
  refine sp_plain (by omega) (by omega) (hb.le0 m5) fun av w H6 e6 l6 d6 => ⟨av, plainD (.ar r), e6, d6.dat, c1, c2, c3, cmp_of (c_ne_same rfl) ?_⟩
  have m6 := m5.trans l6
  refine sp_export (by omega) (by omega) o (ha.le0 m6) fun H7 l7 => ?_
  have m7 := m6.trans l7
  refine sp_export (by omega) (by omega) o (hb.le0 m7) fun H8 l8 => cmp_of (c_ne_same rfl) ?_
  have m8 := m7.trans l8
  obtain ⟨d, fs, nl, g1, g2, g3⟩ := n1.le (l2.trans (l3.trans (l4.trans (l5.trans (l6.trans (l7.trans l8))))))
  exact fld_of (fld_obj g1 g2) fun l9 hl9 => cmp_of (eq_empty ((upd_ne (ne_new g3 hl9)).trans g3) upd_self (ne_new g3 hl9)) <| q _ (m8.trans (.new hl9))
end
end Mine
namespace Mine
noncomputable def ow : V := .str (Str.ofString "otherwise")
noncomputable def cKey : V := .str (Str.ofString "c")
inductive Other : Trs → Trs → Prop
  | add (r : Trs) : Other r (r.snoc cKey (.sc (.int 0)))
  | cut (k : V) (t : Tr) (r : Trs) : Other (.cons k t r) r
  | swap (k1 : V) (t1 : Tr) (k2 : V) (t2 : Tr) (r : Trs) : Other (.cons k1 t1 (.cons k2 t2 r)) (.cons k2 t2 (.cons k1 t1 r))
  | set (k : V) (t : Tr) (r : Trs) : Other (.cons k t r) (.cons k (.sc ow) r)
theorem snoc_ok : ∀ {r : Trs} {k : V} {t : Tr}, r.ok → k ∈ K10 → t.ok → (r.snoc k t).ok
  | .nil, k, t, _, h1, h2 => ⟨h1, h2, trivial⟩
  | .cons k' t' r, k, t, h, h1, h2 => ⟨h.1, h.2.1, snoc_ok h.2.2 h1 h2⟩
theorem c_not9 : cKey ∉ K9 := by decide +kernel
theorem c_in10 : cKey ∈ K10 := by decide +kernel
theorem ow_in : ow ∈ L10 := by decide +kernel
theorem other_ok {r r' : Trs} (h : Other r r') (o : (Tr.ar r).ok9) (d : (Tr.ar r).dis) : (Tr.ar r').ok ∧ (Tr.ar r').dis ∧ r'.ht ≤ r.ht := by
  obtain ⟨o1, o2⟩ := o
  obtain ⟨d1, d2⟩ := d
  have o1' := ok9_okR o1
  cases h with
  | add =>
    refine ⟨⟨snoc_ok o1' c_in10 (show V.int 0 ∈ L10 from .head _), by rw [snoc_len]; exact Nat.succ_le_succ o2⟩, ⟨?_, snoc_dis d2 trivial⟩, snoc_ht (Nat.le_refl _) (Nat.zero_le _)⟩
    rw [snoc_toL, keysL, List.map_append]
    exact List.nodup_append.mpr ⟨d1, List.nodup_cons.mpr ⟨List.not_mem_nil, .nil⟩, fun x hx y hy e => c_not9 (ok9_mem o1 _ ((show x = cKey from e.trans (List.mem_singleton.mp hy)) ▸ hx))⟩
  | cut k t r => exact ⟨⟨o1'.2.2, Nat.le_trans (Nat.le_of_succ_le o2) (by decide)⟩, ⟨(List.nodup_cons.mp d1).2, d2.2⟩, Nat.le_max_right _ _⟩
  | swap k1 t1 k2 t2 r =>
    refine ⟨⟨⟨o1'.2.2.1, o1'.2.2.2.1, o1'.1, o1'.2.1, o1'.2.2.2.2⟩, Nat.le_succ_of_le o2⟩, ⟨(List.Perm.swap k2 k1 _).nodup d1, d2.2.1, d2.1, d2.2.2⟩, ?_⟩
    show max t2.ht (max t1.ht r.ht) ≤ max t1.ht (max t2.ht r.ht)
    rw [← Nat.max_assoc, ← Nat.max_assoc, Nat.max_comm t2.ht]
    exact Nat.le_refl _
  | set k t r => exact ⟨⟨⟨o1'.1, ow_in, o1'.2.2⟩, Nat.le_succ_of_le o2⟩, ⟨d1, trivial, d2.2⟩, Nat.max_le.mpr ⟨Nat.zero_le _, Nat.le_max_right _ _⟩⟩
theorem drop_of {Q : P1} {H : Hp} {l : Addr} {vs : List V} {j : Nat} (e : H l = some (.lst vs)) (h : vs.length ≤ 2 ^ 24) (hj : j < 2 ^ 24) (q : New (.lst (vs.drop j)) Q H) : kTk2 List.drop (.ref l) Q (.int j) H := by
  show kL (lfOf H (.ref l)) _ _
  rw [show lfOf H (.ref l) = some vs from congrArg lfO e]
  exact ⟨h, Int.natCast_nonneg j, Int.ofNat_lt.mpr hj, q⟩
structure Oth (H0 H : Hp) (sc at_ rl : Addr) (ns : List Int) (p : Nat) (r : Trs) (refs : List V) : Prop where
  le : Le [at_] H0 H
  c : Ctx H sc at_ ns p
  e : H rl = some (.lst refs)
  f : FrmR [at_] H r refs
  n : refs.length ≤ 5
noncomputable def OthQ (H0 : Hp) (sc at_ : Addr) (ns : List Int) (p : Nat) (r : Trs) (P : V → Hp → Prop) : Prop :=
  ∀ v H' r', Le [at_] H0 H' → Ctx H' sc at_ ns p → Frm [at_] H' (.ar r') v → Other r r' → P v H'
section
variable {H0 H : Hp} {Q : V → Hp → Prop} {n : Nat} {sc at_ rl fa : Addr} {ns : List Int} {p way : Nat} {r r' r0 : Trs} {refs refs' : List V} {K : PF} {P : V → Hp → Prop} {k : V} {t : Tr}
theorem Oth.le' {H' : Hp} (x : Oth H0 H sc at_ rl ns p r refs) (l : Le [] H H') : Oth H0 H' sc at_ rl ns p r refs := ⟨x.le.trans l.any, x.c.le0 l, l.lst x.e List.not_mem_nil, x.f.le l.any, x.n⟩
theorem Oth.no (x : Oth H0 H sc at_ rl ns p r refs) {l : Addr} (h : H l = none) : l ∉ [at_] := fun m => by rw [List.mem_singleton.mp m, x.c.ha] at h; cases h
theorem oth_fin (x : Oth H0 H sc at_ rl ns p r refs) (ho : Other r r') (f : FrmR [at_] H r' refs') (q : OthQ H0 sc at_ ns p r P) {l w : Addr} (hl : H l = none) (hw : (upd H l (.lst refs')) w = none) : P (.ref w) (upd (upd H l (.lst refs')) w (.tup [.str (Str.ofString "array"), .ref l])) := by
  have l1 : Le [] H (upd H l (.lst refs')) := .new hl
  have x1 := x.le' l1
  have l2 : Le [] (upd H l (.lst refs')) (upd (upd H l (.lst refs')) w (.tup [.str (Str.ofString "array"), .ref l])) := .new hw
  have x2 := x1.le' l2
  exact q _ _ r' x2.le x2.c ⟨w, l, refs', rfl, x1.no hw, x.no hl, upd_self, l2.lst upd_self List.not_mem_nil, f.le (l1.trans l2).any⟩ ho
noncomputable def E5 (sc at_ fa rl : Addr) (way : Nat) : Env' := [some (.ref sc), some (.ref at_), some (.ref fa), some (.ref rl), some (.int way)]
theorem oth_add (x : Oth H0 H sc at_ rl ns p r refs) (q : OthQ H0 sc at_ ns p r fun v => K (.ret v) (E5 sc at_ fa rl way)) : EX (MC T n) f_law_otherwise.body.snd.fst.fst (E5 sc at_ fa rl way) K H := by
  refine fun tb htb l4 hl4 => ?_
  have g1 : Le [] H (upd H tb (.tup [cKey, .int 0])) := .new htb
  have g2 : Le [] (upd H tb (.tup [cKey, .int 0])) (upd (upd H tb (.tup [cKey, .int 0])) l4 (.lst [.ref tb])) := .new hl4
  have x2 := x.le' (g1.trans g2)
  refine addl_of x2.e upd_self (Nat.le_trans (Nat.succ_le_succ x.n) (by decide)) fun l5 hl5 w hw => oth_fin x2 (.add r) (x2.f.snoc (x.no htb) (g2.tup upd_self List.not_mem_nil) ⟨rfl, rfl⟩) q hl5 hw
theorem len24 {m : Nat} (h : m ≤ 5) : m ≤ 2 ^ 24 := Nat.le_trans h (by decide)
theorem oth_cut (x : Oth H0 H sc at_ rl ns p (.cons k t r) refs) (q : OthQ H0 sc at_ ns p (.cons k t r) fun v => K (.ret v) (E5 sc at_ fa rl way)) : EX (MC T n) f_law_otherwise.body.snd.snd.fst.fst (E5 sc at_ fa rl way) K H := by
  obtain ⟨b, v, refs', rfl, _, _, _, f⟩ := id x.f
  exact drop_of (j := 1) x.e (len24 x.n) (by decide) fun l hl w hw => oth_fin x (.cut k t r) f q hl hw
theorem oth_swap {k2 : V} {t2 : Tr} (x : Oth H0 H sc at_ rl ns p (.cons k t (.cons k2 t2 r)) refs) (q : OthQ H0 sc at_ ns p (.cons k t (.cons k2 t2 r)) fun v => K (.ret v) (E5 sc at_ fa rl way)) : EX (MC T n) f_law_otherwise.body.snd.snd.snd.fst.fst (E5 sc at_ fa rl way) K H := by
  obtain ⟨b, v, _, rfl, n1, e1, f1, b2, v2, refs', rfl, n2, e2, f2, f⟩ := id x.f
  refine idx_of (idx_lst (i := 1) x.e (by decide)) <| idx_of (idx_lst (i := 0) x.e (by decide)) fun l4 hl4 => ?_
  have g1 : Le [] H (upd H l4 (.lst [.ref b2, .ref b])) := .new hl4
  have x1 := x.le' g1
  refine drop_of (j := 2) x1.e (len24 x.n) (by decide) fun l5 hl5 => ?_
  have g2 : Le [] (upd H l4 (.lst [.ref b2, .ref b])) (upd (upd H l4 (.lst [.ref b2, .ref b])) l5 (.lst refs')) := .new hl5
  have g := (g1.trans g2).any (W := [at_])
  refine addl_of (g2.lst upd_self List.not_mem_nil) upd_self (Nat.le_trans (show 2 + refs'.length ≤ 5 from Nat.add_comm 2 _ ▸ x.n) (by decide)) fun l6 hl6 w hw => oth_fin (x1.le' g2) (.swap k t k2 t2 r) ⟨b2, v2, _, rfl, n2, g.tup e2 n2, f2.le g, b, v, _, rfl, n1, g.tup e1 n1, f1.le g, f.le g⟩ q hl6 hw
theorem oth_set (x : Oth H0 H sc at_ rl ns p (.cons k t r) refs) (q : OthQ H0 sc at_ ns p (.cons k t r) fun v => K (.ret v) (E5 sc at_ fa rl way)) : EX (MC T n) f_law_otherwise.body.snd.snd.snd.snd (E5 sc at_ fa rl way) K H := by
  obtain ⟨b, v, refs', rfl, _, e1, _, f⟩ := id x.f
  refine idx_of (idx_lst (i := 0) x.e (by decide)) <| idx_of (idx_pair e1).1 fun tb htb l4 hl4 => ?_
  have g1 : Le [] H (upd H tb (.tup [k, ow])) := .new htb
  have g2 : Le [] (upd H tb (.tup [k, ow])) (upd (upd H tb (.tup [k, ow])) l4 (.lst [.ref tb])) := .new hl4
  have x2 := x.le' (g1.trans g2)
  refine drop_of (j := 1) x2.e (len24 x.n) (by decide) fun l5 hl5 => ?_
  have g3 : Le [] (upd (upd H tb (.tup [k, ow])) l4 (.lst [.ref tb])) (upd (upd (upd H tb (.tup [k, ow])) l4 (.lst [.ref tb])) l5 (.lst refs')) := .new hl5
  refine addl_of (g3.lst upd_self List.not_mem_nil) upd_self (Nat.le_trans (show 1 + refs'.length ≤ 5 from Nat.add_comm 1 _ ▸ x.n) (by decide)) fun l6 hl6 w hw => oth_fin (x2.le' g3) (.set k t r) ⟨tb, ow, refs', rfl, x.no htb, (g2.trans g3).tup upd_self List.not_mem_nil, ⟨rfl, rfl⟩, f.le (g1.trans (g2.trans g3)).any⟩ q hl6 hw
theorem sp_otherwise (hn : 2 ≤ n) (c : Ctx H sc at_ ns p) (hp : p ≤ 90000) (o : (Tr.ar r).ok9) {form : V} (hf : Frm [at_] H (.ar r) form) (q : OthQ H sc at_ ns (p + 1) r Q) : MC T n 65 [.ref sc, .ref at_, form] Q H := by
  obtain ⟨fa, fl, refs, rfl, nfa, nfl, efa, efl, hfr⟩ := hf
  have hl5 : refs.length ≤ 5 := hfr.len ▸ o.2
  refine call_of (ρ := [some (.ref sc), some (.ref at_), some (.ref fa), none, none]) hn T_law_otherwise rfl fun n hn => idx_of (idx_pair efa).2 ⟨refs, len24 hl5, .inl efl, fun rl hrl => ?_⟩
  have l1 : Le [] H (upd H rl (.lst refs)) := .new hrl
  have c1 := c.le0 l1
  refine sp_draw (z := 4) (up hn) c1 hp (by decide) fun way hway => ?_
  have hra := (ne_new c.ha hrl).symm
  have l2 : Le [at_] H (upd (upd H rl (.lst refs)) at_ (.lst [.int ((p + 1 : Nat) : Int)])) := l1.any.trans (.at (.head _))
  have x : Oth H (upd (upd H rl (.lst refs)) at_ (.lst [.int ((p + 1 : Nat) : Int)])) sc at_ rl ns (p + 1) r refs := ⟨l2, c1.step, (upd_ne hra).trans upd_self, hfr.le l2, hl5⟩
  generalize upd (upd H rl (.lst refs)) at_ (.lst [.int ((p + 1 : Nat) : Int)]) = H1 at x
  refine fun l0 hl0 => ?_
  have x0 := x.le' (.new (o := .lst []) hl0)
  refine cmp_of (eq_empty x0.e upd_self (ne_new x.e hl0)) <| if_c (fun h => oth_add x0 q) fun h0 => if_c (p := (way : Int) = 0) (fun h => oth_add x0 q) fun h => ?_
  cases r with
  | nil => exact absurd (show refs = [] from x.f) h0
  | cons k t r =>
    refine if_c (p := (way : Int) = 1) (fun h => oth_cut x0 q) fun h => if_c (p := (way : Int) = 2) (fun h => len_of (len_lst x0.e rfl) (Nat.lt_of_le_of_lt hl5 (by decide)) <| if_c (p := (1 : Int) < (refs.length : Int)) (fun h => ?_) fun h => oth_set x0 q) fun h => oth_set x0 q
    cases r with
    | nil =>
      obtain ⟨_, _, _, rfl, _, _, _, f⟩ := x.f
      cases (show _ = [] from f)
      exact absurd (Int.ofNat_lt.mp h) (Nat.lt_irrefl 1)
    | cons k2 t2 r => exact oth_swap x0 q
end
end Mine
namespace Mine
noncomputable def cl (s : Str) : List Nat := s.cps.toList
theorem cl_app (a b : Str) : cl (a ++ b) = cl a ++ cl b := by unfold cl; rw [Str.cps_append, Array.toList_append]
theorem cl_len (a : Str) : (cl a).length = a.length := by unfold cl; simp [Str.length]
noncomputable def clash : List Nat → List Nat → Bool
  | a :: x, b :: y => decide (a ≠ b) || clash x y
  | _, _ => false
theorem clash_ne : ∀ {x y z z' : List Nat}, clash x y = true → x ++ z ≠ y ++ z'
  | a :: x, b :: y, z, z', h => by
    intro e
    rw [List.cons_append, List.cons_append] at e
    obtain ⟨e1, e2⟩ := List.cons.inj e
    simp only [clash, e1, ne_eq, not_true_eq_false, decide_false, Bool.false_or] at h
    exact clash_ne h e2
  | [], _, _, _, h => by cases h
  | _ :: _, [], _, _, h => by cases h
theorem tt_len (ts : List Str) : (tupleText ts).length = if ts = [] then 2 else if ts.length = 1 then piled ts + 1 else piled ts := by
  unfold tupleText
  rw [strLen_append, strLen_append]
  have h1 : ("(" : Str).length = 1 := by decide +kernel
  have h2 : (Str.ofString ",)").length = 2 := by decide +kernel
  have h3 : (Str.ofString ")").length = 1 := by decide +kernel
  by_cases h : ts = []
  · subst h
    rw [if_pos rfl]
    show ("(" : Str).length + (Str.join ", " []).length + (Str.ofString ")").length = 2
    have h4 : (Str.join ", " []).length = 0 := rfl
    omega
  · rw [if_neg h]
    have hj := join_length_add ts h
    by_cases h' : ts.length = 1
    · rw [if_pos h', if_pos (by simpa using h')]
      show ("(" : Str).length + _ + (Str.ofString ",)").length = _
      omega
    · rw [if_neg h', if_neg (by simpa using h')]
      show ("(" : Str).length + _ + (Str.ofString ")").length = _
      omega
theorem tt_grow {ts ts' : List Str} (h1 : ts.length = ts'.length + 1) (h2 : piled ts' + 3 ≤ piled ts) : (tupleText ts').length < (tupleText ts).length := by
  rw [tt_len, tt_len]
  have : ts ≠ [] := by rintro rfl; simp at h1
  rw [if_neg this]
  have hp : ts' = [] → piled ts' = 0 := by rintro rfl; rfl
  by_cases h : ts' = []
  · have := hp h
    have hl : ts'.length = 0 := by rw [h]; rfl
    rw [if_pos h, if_pos (by omega)]; omega
  · rw [if_neg h]
    have hl : ts'.length ≠ 0 := fun e => h (List.length_eq_zero_iff.mp e)
    rw [if_neg (show ¬ ts.length = 1 by omega)]
    split <;> omega
theorem tt2 (x y : Str) : cl (tupleText [x, y]) = 40 :: (cl x ++ ([44, 32] ++ (cl y ++ [41]))) := by
  have h1 : cl ("(" : Str) = [40] := by decide +kernel
  have h2 : cl (", " : Str) = [44, 32] := by decide +kernel
  have h3 : cl (")" : Str) = [41] := by decide +kernel
  show cl (("(" : Str) ++ (x ++ ", " ++ y) ++ (")" : Str)) = _
  simp only [cl_app, h1, h2, h3]
  simp
theorem tt_head (x : Str) (ts : List Str) : ∃ z, cl (tupleText (x :: ts)) = 40 :: (cl x ++ z) := by
  have h1 : cl ("(" : Str) = [40] := by decide +kernel
  unfold tupleText
  cases ts with
  | nil => exact ⟨_, by rw [cl_app, cl_app, h1]; simp [Str.join]; rfl⟩
  | cons y ts =>
    refine ⟨cl (", " : Str) ++ (cl (Str.join ", " (y :: ts)) ++ cl (if ((x :: y :: ts).length == 1) = true then ",)" else ")" : String)), ?_⟩
    show cl (("(" : Str) ++ (x ++ ", " ++ Str.join ", " (y :: ts)) ++ _) = _
    simp only [cl_app, h1]
    simp
theorem piled_app (a b : List Str) : piled (a ++ b) = piled a + piled b := by simp [piled]
theorem shownAll_app : ∀ (a b : List PyData), PyData.shownAll (a ++ b) = PyData.shownAll a ++ PyData.shownAll b
  | [], b => rfl
  | x :: a, b => congrArg (_ :: ·) (shownAll_app a b)
theorem shownAll_len : ∀ (a : List PyData), (PyData.shownAll a).length = a.length
  | [] => rfl
  | x :: a => congrArg (· + 1) (shownAll_len a)
theorem plainR_snoc {r : Trs} {k : V} {t : Tr} : plainR (r.snoc k t) = plainR r ++ [plainRow (k, t)] := by
  rw [plainR_map, snoc_toL, List.map_append, ← plainR_map]; rfl
theorem row_shown {k : V} {t : Tr} : (plainRow (k, t)).shown = tupleText [(dataV k).shown, (plainD t).shown] := rfl
theorem row_pos {p : V × Tr} : 1 ≤ (plainRow p).shown.length := by
  have : (plainRow p).shown = tupleText [(dataV p.1).shown, (plainD p.2).shown] := rfl
  rw [this, ← cl_len, tt2]; simp
theorem plain_shown {r : Trs} : (plainD (.ar r)).shown = tupleText [(PyData.str (Str.ofString "array")).shown, tupleText (PyData.shownAll (plainR r))] := rfl
theorem plain_inner {r r' : Trs} (h : (plainD (.ar r)).shown = (plainD (.ar r')).shown) : cl (tupleText (PyData.shownAll (plainR r))) = cl (tupleText (PyData.shownAll (plainR r'))) := by
  have h := congrArg cl h
  rw [plain_shown, plain_shown, tt2, tt2] at h
  have h := (List.cons.inj h).2
  have h := List.append_cancel_left h
  have h := List.append_cancel_left h
  exact List.append_cancel_right h
theorem plain_len {r r' : Trs} (h : (plainD (.ar r)).shown = (plainD (.ar r')).shown) : (tupleText (PyData.shownAll (plainR r))).length = (tupleText (PyData.shownAll (plainR r'))).length := by
  have := congrArg List.length (plain_inner h)
  rwa [cl_len, cl_len] at this
theorem plain_first {k k' : V} {t t' : Tr} {r r' : Trs} (h : (plainD (.ar (.cons k t r))).shown = (plainD (.ar (.cons k' t' r'))).shown) :
    ∃ z z', cl (dataV k).shown ++ ([44] ++ ([32] ++ (cl (plainD t).shown ++ z))) = cl (dataV k').shown ++ ([44] ++ ([32] ++ (cl (plainD t').shown ++ z'))) := by
  have h := plain_inner h
  obtain ⟨z, e⟩ := tt_head (plainRow (k, t)).shown (PyData.shownAll (plainR r))
  obtain ⟨z', e'⟩ := tt_head (plainRow (k', t')).shown (PyData.shownAll (plainR r'))
  have h : cl (tupleText ((plainRow (k, t)).shown :: PyData.shownAll (plainR r))) = cl (tupleText ((plainRow (k', t')).shown :: PyData.shownAll (plainR r'))) := h
  rw [e, e', row_shown, row_shown, tt2, tt2] at h
  have h := (List.cons.inj h).2
  rw [List.cons_append, List.cons_append] at h
  have h := (List.cons.inj h).2
  exact ⟨[41] ++ z, [41] ++ z', by simpa using h⟩
theorem key_clash : ∀ k ∈ K9, ∀ k' ∈ K9, k ≠ k' → clash (cl (dataV k).shown ++ [44]) (cl (dataV k').shown ++ [44]) = true := by decide +kernel
theorem leaf_clash : ∀ u ∈ L9, clash (cl (plainD (.sc u)).shown) (cl (plainD (.sc ow)).shown) = true := by decide +kernel
theorem arr_clash : clash (40 :: cl (PyData.str (Str.ofString "array")).shown) (cl (plainD (.sc ow)).shown) = true := by decide +kernel
theorem plain_ne {r r' : Trs} (h : Other r r') (o : (Tr.ar r).ok9) (d : (Tr.ar r).dis) : (plainD (.ar r)).shown ≠ (plainD (.ar r')).shown := by
  intro e
  obtain ⟨o1, o2⟩ := o
  obtain ⟨d1, d2⟩ := d
  cases h with
  | add =>
    refine Nat.lt_irrefl _ (Nat.lt_of_le_of_lt (Nat.le_of_eq (plain_len e.symm)) (tt_grow (shownAll_len _ |>.trans ?_) ?_))
    · rw [plainR_snoc, List.length_append, shownAll_len]; rfl
    · rw [plainR_snoc, shownAll_app, piled_app]
      exact Nat.add_le_add_left (Nat.add_le_add_right row_pos 2) _
  | cut k t r =>
    refine Nat.lt_irrefl _ (Nat.lt_of_le_of_lt (Nat.le_of_eq (plain_len e)) (tt_grow rfl ?_))
    rw [show PyData.shownAll (plainR (.cons k t r')) = [(plainRow (k, t)).shown] ++ PyData.shownAll (plainR r') from rfl, piled_app, Nat.add_comm]
    exact Nat.add_le_add_right (Nat.add_le_add_right row_pos 2) _
  | swap k1 t1 k2 t2 r0 =>
    obtain ⟨z, z', h⟩ := plain_first e
    have hne : k1 ≠ k2 := by
      have : (k1 :: k2 :: keysL r0.toL).Nodup := d1
      have := (List.nodup_cons.mp this).1
      exact fun e => this (by rw [e]; exact List.mem_cons_self ..)
    rw [← List.append_assoc, ← List.append_assoc (cl (dataV k2).shown)] at h
    exact clash_ne (key_clash k1 o1.1 k2 o1.2.2.1 hne) h
  | set k t r0 =>
    obtain ⟨z, z', h⟩ := plain_first e
    have h := List.append_cancel_left h
    have h := List.append_cancel_left h
    have h := List.append_cancel_left h
    cases t with
    | sc u => exact clash_ne (leaf_clash u o1.2.1) h
    | ar r2 =>
      rw [plain_shown, tt2] at h
      rw [show (40 :: (cl (PyData.str (Str.ofString "array")).shown ++ ([44, 32] ++ (cl (tupleText (PyData.shownAll (plainR r2))) ++ [41]))) ++ z) = (40 :: cl (PyData.str (Str.ofString "array")).shown) ++ (([44, 32] ++ (cl (tupleText (PyData.shownAll (plainR r2))) ++ [41])) ++ z) from by simp] at h
      exact clash_ne arr_clash h
theorem other_ne {r r' : Trs} (h : Other r r') (o : (Tr.ar r).ok9) (d : (Tr.ar r).dis) : r ≠ r' := by
  intro e
  subst e
  exact plain_ne h o d rfl
theorem join_flat : ∀ ts : List Str, cl (Str.join (Str.ofString "") ts) = (ts.map cl).flatten
  | [] => rfl
  | [x] => by simp [Str.join]
  | x :: y :: r => by
    have h0 : cl (Str.ofString "") = [] := by decide +kernel
    show cl (x ++ Str.ofString "" ++ Str.join (Str.ofString "") (y :: r)) = _
    rw [cl_app, cl_app, h0, join_flat (y :: r)]
    simp
theorem exp_flat {r : Trs} : cl (expT 0 (.ar r)) = cl (beg 0) ++ (cl (Str.ofString "array (\n") ++ (((expR 0 r).map cl).flatten ++ cl (spc (2 * 0) ++ Str.ofString ")"))) := by
  rw [expT, cl_app, join_empty, join_flat]
  simp
theorem exp_inner {r r' : Trs} (h : expT 0 (.ar r) = expT 0 (.ar r')) : ((expR 0 r).map cl).flatten = ((expR 0 r').map cl).flatten := by
  have h := congrArg cl h
  rw [exp_flat, exp_flat] at h
  have h := List.append_cancel_left h
  have h := List.append_cancel_left h
  exact List.append_cancel_right h
theorem expR_snoc {d : Nat} {r : Trs} {k : V} {t : Tr} : expR d (r.snoc k t) = expR d r ++ [expRow d (k, t)] := by
  rw [expR_map, snoc_toL, List.map_append, ← expR_map]; rfl
theorem expRow_cl {k : V} {t : Tr} : cl (expRow 0 (k, t)) = cl (spc 2) ++ (cl (expS k) ++ ([32] ++ ([61, 62, 32] ++ (cl (expT 1 t) ++ cl (Str.ofString ",\n"))))) := by
  have h : cl (Str.ofString " => ") = [32] ++ [61, 62, 32] := by decide +kernel
  unfold expRow
  simp only [cl_app, h]
  simp
theorem ekey_clash : ∀ k ∈ K9, ∀ k' ∈ K9, k ≠ k' → clash (cl (expS k) ++ [32]) (cl (expS k') ++ [32]) = true := by decide +kernel
theorem eleaf_clash : ∀ u ∈ L9, clash (cl (expS u)) (cl (expS ow)) = true := by decide +kernel
theorem ebeg_clash : clash (cl (beg 1)) (cl (expS ow)) = true := by decide +kernel
theorem export_ne {r r' : Trs} (h : Other r r') (o : (Tr.ar r).ok9) (d : (Tr.ar r).dis) : expT 0 (.ar r) ≠ expT 0 (.ar r') := by
  intro e
  have e := exp_inner e
  obtain ⟨o1, o2⟩ := o
  obtain ⟨d1, d2⟩ := d
  have rowne : ∀ k t, cl (expRow 0 (k, t)) ≠ [] := by
    intro k t h
    have := congrArg List.length h
    rw [expRow_cl] at this
    simp at this
  cases h with
  | add =>
    rw [expR_snoc, List.map_append, List.flatten_append] at e
    have := List.self_eq_append_right.mp e
    simp at this
    exact rowne _ _ this
  | cut k t r =>
    have e : cl (expRow 0 (k, t)) ++ ((expR 0 r').map cl).flatten = ((expR 0 r').map cl).flatten := e
    have := congrArg List.length e
    rw [List.length_append] at this
    exact rowne k t (List.length_eq_zero_iff.mp (by omega))
  | swap k1 t1 k2 t2 r0 =>
    have e : cl (expRow 0 (k1, t1)) ++ ((expR 0 (.cons k2 t2 r0)).map cl).flatten = cl (expRow 0 (k2, t2)) ++ ((expR 0 (.cons k1 t1 r0)).map cl).flatten := e
    have hne : k1 ≠ k2 := by
      have : (k1 :: k2 :: keysL r0.toL).Nodup := d1
      have := (List.nodup_cons.mp this).1
      exact fun e => this (by rw [e]; exact List.mem_cons_self ..)
    rw [expRow_cl, expRow_cl] at e
    simp only [List.append_assoc] at e
    have e := List.append_cancel_left e
    rw [← List.append_assoc, ← List.append_assoc (cl (expS k2))] at e
    exact clash_ne (ekey_clash k1 o1.1 k2 o1.2.2.1 hne) e
  | set k t r0 =>
    have e : cl (expRow 0 (k, t)) ++ ((expR 0 r0).map cl).flatten = cl (expRow 0 (k, .sc ow)) ++ ((expR 0 r0).map cl).flatten := e
    have e := List.append_cancel_right e
    rw [expRow_cl, expRow_cl] at e
    have e := List.append_cancel_left e
    have e := List.append_cancel_left e
    have e := List.append_cancel_left e
    have e := List.append_cancel_left e
    cases t with
    | sc u => exact clash_ne (eleaf_clash u o1.2.1) e
    | ar r2 =>
      have h2 : cl (expT 1 (.ar r2)) = cl (beg 1) ++ cl (Txt.join (Str.ofString "") (Str.ofString "array (\n" :: (expR 1 r2 ++ [spc (2 * 1) ++ Str.ofString ")"]))) := by rw [expT, cl_app]
      rw [h2, List.append_assoc] at e
      exact clash_ne ebeg_clash e
end Mine
namespace Mine
noncomputable def cb : Nat → Nat
  | 0 => 0
  | h + 1 => 2 + 6 * (4 + cb h)
theorem cb_mono {h h' : Nat} (l : h ≤ h') : cb h ≤ cb h' := by
  induction l with
  | refl => exact Nat.le_refl _
  | step _ ih => exact Nat.le_trans ih (by show _ ≤ 2 + 6 * (4 + cb _); omega)
mutual
theorem cost_b : ∀ {t : Tr}, t.ok → t.cost ≤ cb t.ht
  | .sc u, _ => Nat.zero_le _
  | .ar r, o => Nat.add_le_add_left (Nat.le_trans (cost_bR o.1) (Nat.mul_le_mul_right _ o.2)) 2
theorem cost_bR : ∀ {r : Trs}, r.ok → r.cost ≤ r.len * (4 + cb r.ht)
  | .nil, _ => Nat.zero_le _
  | .cons k t r, o => by
    have h1 := cost_b o.2.1
    have h2 := cost_bR o.2.2
    show 4 + t.cost + r.cost ≤ (r.len + 1) * (4 + cb (max t.ht r.ht))
    rw [Nat.succ_mul, Nat.add_comm]
    exact Nat.add_le_add (Nat.le_trans h2 (Nat.mul_le_mul_left _ (Nat.add_le_add_left (cb_mono (Nat.le_max_right _ _)) 4))) (Nat.add_le_add_left (Nat.le_trans h1 (cb_mono (Nat.le_max_left _ _))) 4)
end
theorem RepR.snoc {W : List Addr} {H : Hp} {k s v : V} {t : Tr} (hs : Slot W H s v) (hv : Rep W H t v) : ∀ {r : Trs} {R : List (V × V)}, RepR W H r R → RepR W H (r.snoc k t) (R ++ [(k, s)])
  | .nil, R, h => by
    have h : R = [] := h
    subst h
    exact ⟨s, [], rfl, ⟨v, hs, hv⟩, rfl⟩
  | .cons k1 t1 r, R, ⟨s1, R', e, h1, h2⟩ => by
    subst e
    exact ⟨s1, R' ++ [(k, s)], rfl, h1, RepR.snoc hs hv h2⟩
theorem snoc_key {r : Trs} {z1 z2 : Int} {t : Tr} : r.snoc (.int z1) t = r.snoc (.int z2) t ↔ z1 = z2 := by
  refine ⟨fun h => ?_, fun h => h ▸ rfl⟩
  have h := congrArg Trs.toL h
  rw [snoc_toL, snoc_toL] at h
  cases List.append_cancel_left h
  rfl
noncomputable def nTr : Tr := .sc (.str (Str.ofString "n"))
inductive Cp (W : List Addr) (H0 H : Hp) (r : Trs) (z : Int) (b : Addr) (O : List Addr) : Prop
  | mk (T : AS) (ds : List Cell) (m : Nat) (e : O = T.own b) (y : Arr H b T ds m) (hm : m + 1 ≤ 100) (le : Le W H0 H) (own : ∀ c ∈ O, H0 c = none) (w : H0 T.w = none) (rp : RepR W H0 r (rowsOf ds)) (hz : ak T.next = z) (hl : z < 2 ^ 63 - 1) (hk : V.int z ∉ keysR (rowsOf ds))
section
variable {H0 H1 H H' : Hp} {Q : V → Hp → Prop} {n : Nat} {W W' O : List Addr} {r : Trs} {a b : Addr} {z : Int}
theorem NA.of_none (h : ∀ c ∈ W, H c = none) : NA H W := fun c hc d fs e => by rw [h c hc] at e; cases e
theorem Fin'.fresh (k : ∀ c ∈ W, H c = none) : Fin' [] H r b z → Fin' W H r b z := fun ⟨S, cs, m, x, hm, _, _, h3, hz, hl, hk⟩ =>
  ⟨S, cs, m, x, hm, fun c hc h => (by obtain ⟨o, ho⟩ := x.is.has hc; rw [k c h] at ho; cases ho), fun h => (by have hw := x.is.w; rw [k _ h] at hw; cases hw), h3.sub fun c hc => .inr (k c hc), hz, hl, hk⟩
theorem Cp.own (c : Cp W H0 H r z b O) : ∀ x ∈ O, H0 x = none := by cases c; assumption
theorem Cp.le (c : Cp W H0 H r z b O) : Le W H0 H := by cases c; assumption
theorem Cp.is (c : Cp W H0 H r z b O) : (∀ x ∈ O, H x ≠ none) ∧ NA H O ∧ ∃ d fs, H b = some (.inst .arr d fs) := by
  obtain ⟨T, ds, m, e, y, _⟩ := c
  subst e
  exact ⟨fun x hx h => (by obtain ⟨o, ho⟩ := y.is.has hx; rw [h] at ho; cases ho), fun x hx d fs e => y.is.noAbs e hx, y.is.inst⟩
theorem Cp.leW (c : Cp W H0 H r z b O) (k : ∀ x ∈ W, H0 x ≠ none) (na : NA H W) (l : Le W H H') : Cp W H0 H' r z b O :=
  let ⟨T, ds, m, e, y, hm, le, own, w, rp, hz, hl, hk⟩ := c
  ⟨T, ds, m, e, y.leW l (fun x hx h => k x h (own x (e ▸ hx))) (fun h => k _ h w) na (rows_off fun e => rp.off e), hm, le.trans l, own, w, rp, hz, hl, hk⟩
theorem cp_copy (hn : 6 ≤ n) (f : Fin' W H r a z) (q : ∀ b H' O, Le [] H H' → Cp W H H' r z b O → Q (.ref b) H') : MC T n 24 [.ref a] Q H := by
  obtain ⟨S, cs, m, x, hm, _, _, rep, hz, hl, hk⟩ := f
  exact sp_copy hn x rep fun b T ds H1 fr y rp nx => q b H1 _ fr.le ⟨T, ds, m, rfl, y, hm, fr.le.any, fr.own, fr.w, rp, hz ▸ congrArg ak nx, hl, by rw [toL_one rp, ← toL_one rep]; exact hk⟩
theorem cp_append (hn : 8 ≤ n) (c : Cp W H0 H1 r z b O) (l : Le [] H1 H) (na : NA H0 W) (k1 : ∀ x ∈ W', H1 x = none) (k0 : ∀ x ∈ W', H0 x = none) (k2 : ∀ x ∈ W', H x ≠ none) (q : ∀ H', Le O H H' → Rep W' H' (.ar (r.snoc (.int z) nTr)) (.ref b) → Q (.int z) H') : MC T n 105 [.ref b, .str (Str.ofString "n")] Q H := by
  obtain ⟨T, ds, m, e, y, hm, le, own, w, rp, hz, hl, hk⟩ := c
  subst e
  have y' := y.le l
  have hw : H1 T.w ≠ none := fun h => by have hw := y.is.w; rw [h] at hw; cases hw
  refine sp_append hn y' hm rfl (fun b e => nomatch e) (hz ▸ hl) (hz ▸ hk) fun U es H3 mv w' rw' _ => ?_
  rw [hz] at rw' ⊢
  refine q H3 mv.le ⟨b, U, es, _, rfl, w', fun x hx h => ?_, fun h => hw (mv.w.1 ▸ k1 _ h), ?_⟩
  · exact (mv.own x hx).elim (fun hx => by obtain ⟨o, ho⟩ := y.is.has hx; rw [k1 x h] at ho; cases ho) fun hx => k2 x h hx
  · rw [rw']
    have up : Le (W ++ W') H0 H3 := (le.trans l.any).trans' mv.le (fun x hx => .inr (own x hx)) |>.mono fun x hx => .inl (List.mem_append_left _ hx)
    have both : ∀ x ∈ W ++ W', x ∈ W ∨ H0 x = none := fun x hx => (List.mem_append.mp hx).imp id (k0 x)
    have na' : NA H0 (W ++ W') := fun x hx d fs e => (both x hx).elim (fun h => na x h d fs e) fun h => by rw [h] at e; cases e
    exact (((rp.sub both).le up na').sub fun x hx => .inl (List.mem_append_right _ hx)).snoc (v := .str (Str.ofString "n")) (t := nTr) (.inl rfl) ⟨rfl, rfl⟩
end
end Mine
namespace Mine
theorem take_of {Q : P1} {H : Hp} {l : Addr} {vs : List V} {j : Nat} (e : H l = some (.fro vs)) (h : vs.length ≤ j) (hj : j < 2 ^ 24) (q : New (.lst vs) Q H) : kTk2 List.take (.ref l) Q (.int j) H := by
  show kL (lfOf H (.ref l)) _ _
  rw [show lfOf H (.ref l) = some vs from congrArg lfO e]
  exact ⟨Nat.le_of_lt (Nat.lt_of_le_of_lt h hj), Int.natCast_nonneg j, Int.ofNat_lt.mpr hj, (show New (.lst (vs.take j)) Q H from (List.take_of_length_le h).symm ▸ q)⟩
structure L3 (form : V) (r r3 : Trs) (a1 a2 a3 : Addr) (z1 z2 z3 : Int) (H : Hp) : Prop where
  f : Frm [] H (.ar r) form
  g1 : Fin' [] H r a1 z1
  g2 : Fin' [] H r a2 z2
  g3 : Fin' [] H r3 a3 z3
  o9 : (Tr.ar r).ok9
  dis : (Tr.ar r).dis
  oth : Other r r3
  h : (Tr.ar r).ht ≤ 3
  h3 : (Tr.ar r3).ht ≤ 3
noncomputable def EL (sc at_ : Addr) (form : V) (a1 a2 a3 : Addr) (z1 z2 z3 : Int) (o9 o10 : Option V) : Env' := [some (.ref sc), some (.ref at_), some form, some (.ref a1), some (.int z1), some (.ref a2), some (.int z2), some (.ref a3), some (.int z3), o9, o10]
noncomputable def law6 : MS := f_law.body.snd.snd.snd.snd.snd.snd
section
variable {form : V} {r r3 : Trs} {a1 a2 a3 sc at_ : Addr} {z1 z2 z3 : Int} {H H' : Hp} {n : Nat} {K : PF} {o9 o10 : Option V}
theorem nn {H : Hp} : NA H [] := fun _ h => nomatch h
theorem L3.le (x : L3 form r r3 a1 a2 a3 z1 z2 z3 H) (l : Le [] H H') : L3 form r r3 a1 a2 a3 z1 z2 z3 H' := ⟨x.f.le l, x.g1.le l nn, x.g2.le l nn, x.g3.le l nn, x.o9, x.dis, x.oth, x.h, x.h3⟩
theorem L3.o (x : L3 form r r3 a1 a2 a3 z1 z2 z3 H) : (Tr.ar r).ok ∧ (Tr.ar r3).ok := ⟨ok9_ok x.o9, (other_ok x.oth x.o9 x.dis).1⟩
theorem twice {t c n : Nat} (h : t ≤ 3) (hn : 6 + c ≤ n) : 2 * t + c ≤ n := Nat.le_trans (Nat.add_le_add_right (Nat.mul_le_mul_left 2 h) c) hn
theorem h40 {t : Nat} (h : t ≤ 3) : t ≤ 40 := Nat.le_trans h (by decide)
theorem h4 {t : Nat} (h : t ≤ 3) : t ≤ 4 := Nat.le_trans h (by decide)
theorem law_6 (q : K .nxt (EL sc at_ form a1 a2 a3 z1 z2 z3 o9 o10) H) : EX (MC T n) law6.fst (EL sc at_ form a1 a2 a3 z1 z2 z3 o9 o10) K H := q
theorem law_7 (hn : 24 ≤ n) (x : L3 form r r3 a1 a2 a3 z1 z2 z3 H) (q : ∀ H', L3 form r r3 a1 a2 a3 z1 z2 z3 H' → K .nxt (EL sc at_ form a1 a2 a3 z1 z2 z3 o9 o10) H') : EX (MC T n) law6.snd.fst (EL sc at_ form a1 a2 a3 z1 z2 z3 o9 o10) K H :=
  sp_is_as (up hn) x.o.1 (h4 x.h) x.g1.rep x.f fun H1 l1 => have x := x.le l1; sp_is_as (up hn) x.o.1 (h4 x.h) x.g2.rep x.f fun H2 l2 => q H2 (x.le l2)
theorem law_8 (hn : 24 ≤ n) (x : L3 form r r3 a1 a2 a3 z1 z2 z3 H) (q : ∀ H', L3 form r r3 a1 a2 a3 z1 z2 z3 H' → K .nxt (EL sc at_ form a1 a2 a3 z1 z2 z3 o9 o10) H') : EX (MC T n) law6.snd.snd.fst (EL sc at_ form a1 a2 a3 z1 z2 z3 o9 o10) K H :=
  sp_are_alike hn x.o.1 (h4 x.h) x.g1.rep x.g2.rep fun H1 l1 => have x := x.le l1; sp_are_alike hn x.o.1 (h4 x.h) x.g2.rep x.g1.rep fun H2 l2 => q H2 (x.le l2)
set_option maxHeartbeats 1000000 in
theorem law_9 (hn : 24 ≤ n) (x : L3 form r r3 a1 a2 a3 z1 z2 z3 H) (q : ∀ H', L3 form r r3 a1 a2 a3 z1 z2 z3 H' → K .nxt (EL sc at_ form a1 a2 a3 z1 z2 z3 o9 o10) H') : EX (MC T n) law6.snd.snd.snd.fst (EL sc at_ form a1 a2 a3 z1 z2 z3 o9 o10) K H := by
  have ne : Tr.ar r ≠ Tr.ar r3 := fun h => other_ne x.oth x.o9 x.dis (Tr.ar.inj h)
  refine sp_same (h40 x.h) (twice x.h (up hn)) x.g1.rep x.g3.rep fun b1 H1 l1 e1 => ?_
  rw [show b1 = false from Bool.eq_false_iff.mpr fun h => ne (e1.mp h)]
  have x := x.le l1
  refine sp_same (h40 x.h3) (twice x.h3 (up hn)) x.g3.rep x.g2.rep fun b2 H2 l2 e2 => ?_
  rw [show b2 = false from Bool.eq_false_iff.mpr fun h => ne (e2.mp h).symm]
  have x := x.le l2
  obtain ⟨_, _, _, c1, c2, c3⟩ := can_repr x.o.1 (h4 x.h)
  obtain ⟨_, _, _, c4, c5, c6⟩ := can_repr x.o.2 (h4 x.h3)
  refine sp_plain (Nat.le_trans x.h (by decide)) (Nat.le_trans (Nat.add_le_add_right x.h 5) (up hn)) x.g1.rep fun av w H3 e3 l3 d3 => ⟨av, _, e3, d3.dat, c1, c2, c3, ?_⟩
  have x := x.le l3
  exact sp_plain (Nat.le_trans x.h3 (by decide)) (Nat.le_trans (Nat.add_le_add_right x.h3 5) (up hn)) x.g3.rep fun bv w H4 e4 l4 d4 => ⟨bv, _, e4, d4.dat, c4, c5, c6, if_f (plain_ne x.oth x.o9 x.dis) <| q H4 (x.le l4)⟩
theorem law_10 (hn : 24 ≤ n) (x : L3 form r r3 a1 a2 a3 z1 z2 z3 H) (q : ∀ H', L3 form r r3 a1 a2 a3 z1 z2 z3 H' → K .nxt (EL sc at_ form a1 a2 a3 z1 z2 z3 o9 o10) H') : EX (MC T n) law6.snd.snd.snd.snd.fst (EL sc at_ form a1 a2 a3 z1 z2 z3 o9 o10) K H :=
  fun h1 g1 hh1 hg1 _ => sp_new_host (up hn) hh1 hg1 fun H1 l1 _ => have x := x.le l1; sp_export (Nat.le_trans x.h (by decide)) (twice x.h (up hn)) x.o.1 x.g1.rep fun H2 l2 => fun h2 g2 hh2 hg2 _ => sp_new_host (up hn) hh2 hg2 fun H3 l3 _ => have x := x.le (l2.trans l3); sp_export (Nat.le_trans x.h3 (by decide)) (twice x.h3 (up hn)) x.o.2 x.g3.rep fun H4 l4 => if_f (export_ne x.oth x.o9 x.dis) <| q H4 (x.le l4)
theorem law_11 (hn : 24 ≤ n) (x : L3 form r r3 a1 a2 a3 z1 z2 z3 H) (q : ∀ b1 b2 O1 O2 H1 H2, Cp [] H H1 r z1 b1 O1 → Le [] H1 H2 → Cp O1 H1 H2 r z2 b2 O2 → L3 form r r3 a1 a2 a3 z1 z2 z3 H2 → K .nxt (EL sc at_ form a1 a2 a3 z1 z2 z3 (some (.ref b1)) (some (.ref b2))) H2) : EX (MC T n) law6.snd.snd.snd.snd.snd.fst (EL sc at_ form a1 a2 a3 z1 z2 z3 o9 o10) K H :=
  cp_copy (up hn) x.g1 fun b1 H1 O1 l1 c1 => cp_copy (W := O1) (up hn) ((x.g2.fresh c1.own).le l1.any (.of_none c1.own)) fun b2 H2 O2 l2 c2 => q b1 b2 O1 O2 H1 H2 c1 l2 c2 (x.le (l1.trans l2))
theorem law_12 {H0 H1 : Hp} {b1 b2 : Addr} {O1 O2 : List Addr} (hn : 24 ≤ n) (c1 : Cp [] H0 H1 r z1 b1 O1) (l : Le [] H1 H) (c2 : Cp O1 H1 H r z2 b2 O2) (q : ∀ H', Le [] H0 H' → Rep [] H' (.ar (r.snoc (.int z1) nTr)) (.ref b1) → Rep [] H' (.ar (r.snoc (.int z2) nTr)) (.ref b2) → K .nxt (EL sc at_ form a1 a2 a3 z1 z2 z3 (some (.ref b1)) (some (.ref b2))) H') : EX (MC T n) law6.snd.snd.snd.snd.snd.snd.fst (EL sc at_ form a1 a2 a3 z1 z2 z3 (some (.ref b1)) (some (.ref b2))) K H := by
  obtain ⟨p1, na1, d, fs, e⟩ := c1.is
  obtain ⟨d', fs', e'⟩ := (c1.leW (H' := H) (fun _ h => nomatch h) nn l).is.2.2
  refine meth_of ⟨d', fs', e'⟩ <| cp_append (up hn) c1 l nn c2.own (fun x hx => c1.le.there List.not_mem_nil (c2.own x hx)) c2.is.1 fun H3 l3 r1 => cmp_v (y := .int z1) rfl <| cmp_of (c_ne_same rfl) ?_
  have c2' := c2.leW p1 (c1.leW (H' := H) (fun _ h => nomatch h) nn l).is.2.1 l3
  refine meth_of c2'.is.2.2 <| cp_append (W' := []) (up hn) c2' .refl na1 (fun _ h => nomatch h) (fun _ h => nomatch h) (fun _ h => nomatch h) fun H4 l4 r2 => cmp_v (y := .int z2) rfl <| cmp_of (c_ne_same rfl) <| q H4 ?_ (r1.le l4 c2'.is.2.1).nil r2
  exact ((c1.le.trans l).trans' l3 fun x hx => .inr (c1.own x hx)).trans' l4 fun x hx => .inr (c1.le.there List.not_mem_nil (c2.own x hx))
theorem cmp_cmp {Δ : Calls} {op op2 : CmpOp} {i j : Nat} {x y v : V} {ρ : Env'} {Q : P1} {H : Hp} (h1 : ρ[i]? = some (some x)) (h2 : ρ[j]? = some (some y)) (q : kCmp2 op2 x (kCmp2 op v Q) y H) : kCmp1 op (EV Δ (.cmp op2 (.var i) (.var j)) ρ) Q v H := by
  show kV ρ[i]? _ _
  rw [h1]
  exact cmp_v (Δ := Δ) h2 q
theorem law_13 {b1 b2 : Addr} (hn : 24 ≤ n) (x : L3 form r r3 a1 a2 a3 z1 z2 z3 H) (r1 : Rep [] H (.ar (r.snoc (.int z1) nTr)) (.ref b1)) (r2 : Rep [] H (.ar (r.snoc (.int z2) nTr)) (.ref b2)) (q : ∀ ρ H', K (.ret (.bool true)) ρ H') : EX (MC T n) law6.snd.snd.snd.snd.snd.snd.snd (EL sc at_ form a1 a2 a3 z1 z2 z3 (some (.ref b1)) (some (.ref b2))) K H := by
  have hs : (Tr.ar (r.snoc (.int z1) nTr)).ht ≤ 3 := Nat.succ_le_succ (snoc_ht (Nat.le_of_succ_le_succ x.h) (Nat.zero_le _))
  refine sp_same (h40 hs) (twice hs (up hn)) r1 r2 fun b3 H1 l1 e3 => cmp_cmp (x := .int z1) (y := .int z2) rfl rfl <| cmp_of (c_eq_kk rfl rfl) <| cmp_of (r := decide (b3 = decide (V.int z1 = V.int z2))) rfl <| if_t (Bool.eq_iff_iff.mpr ?_) ?_
  · rw [e3, decide_eq_true_eq]
    exact ⟨fun h => congrArg V.int (snoc_key.mp (Tr.ar.inj h)), fun h => congrArg Tr.ar (snoc_key.mpr (V.int.inj h))⟩
  · have x := x.le l1
    exact sp_is_as (up hn) x.o.1 (h4 x.h) x.g1.rep x.f fun H2 l2 => have x := x.le l2; sp_is_as (up hn) x.o.1 (h4 x.h) x.g2.rep x.f fun H3 l3 => q _ _
end
theorem na_at {H : Hp} {at_ : Addr} {l : List V} (h : H at_ = some (.lst l)) : NA H [at_] := fun c hc d fs e => by
  rw [List.mem_singleton.mp hc, h] at e; cases e
theorem law_main {n : Nat} (hn : 40 ≤ n) {H : Hp} {l : Addr} {ns : List Int} (hl : H l = some (.fro (ns.map V.int))) (hlen : ns.length ≤ 63) {Q : V → Hp → Prop} (q : ∀ H', Q (.bool true) H') : MC T n 66 [.ref l] Q H := by
  refine call_of (ρ := [some (.ref l), none, none, none, none, none, none, none, none, none, none]) hn T_law rfl fun n hn => take_of (j := 63) hl (Nat.le_trans (Nat.le_of_eq (List.length_map _)) hlen) (by decide) fun sc hsc at_ hat => ?_
  have hne := ne_new (upd_self : (upd H sc (.lst (ns.map V.int))) sc = _) hat
  have c1 : Ctx (upd (upd H sc (.lst (ns.map V.int))) at_ (.lst [.int 0])) sc at_ ns 0 := ⟨(upd_ne hne).trans upd_self, upd_self, hne, hlen⟩
  refine sp_form (d := 2) n (up hn) [] _ 0 _ (fun b h => nomatch h) c1 (by decide) fun form H2 p2 r l2 c2 hp2 o9 dis ht f2 => ?_
  have ht2 : r.ht ≤ 2 := Nat.le_of_succ_le_succ ht
  have o := ok9_ok o9
  have hp2 : p2 ≤ 186 := hp2
  have cost : ∀ {t : Tr}, t.ok → t.ht ≤ 3 → t.cost ≤ 2000 := fun o h => Nat.le_trans (cost_b o) (Nat.le_trans (cb_mono h) (by decide))
  have hc := cost o ht
  refine sp_made 3 (Nat.le_succ_of_le ht2) o dis n (up hn) [] H2 form p2 _ (fun b h => nomatch h) nn c2 (by omega) f2 fun w1 a1 z1 H3 p3 e3 l3 c3 hp3 g1 => at_of e3 ?_
  have f3 := f2.le l3
  refine sp_made 3 (Nat.le_succ_of_le ht2) o dis n (up hn) [] H3 form p3 _ (fun b h => nomatch h) nn c3 (by omega) f3 fun w2 a2 z2 H4 p4 e4 l4 c4 hp4 g2 => at_of e4 ?_
  have f4 := f3.le l4
  have g1 := g1.le l4 (na_at c3.ha)
  refine sp_otherwise (up hn) c4 (by omega) o9 f4 fun form3 H5 r3 l5 c5 f5 oth => ?_
  obtain ⟨o3, dis3, ht3⟩ := other_ok oth o9 dis
  have h3 : (Tr.ar r3).ht ≤ 3 := Nat.succ_le_succ (Nat.le_trans ht3 ht2)
  have hc3 := cost o3 h3
  refine sp_made 3 (Nat.le_trans ht3 (Nat.le_succ_of_le ht2)) o3 dis3 n (up hn) [] H5 form3 (p4 + 1) _ (fun b h => nomatch h) nn c5 (by omega) f5 fun w3 a3 z3 H6 p6 e6 l6 c6 hp6 g3 => at_of e6 ?_
  have l46 := l5.trans l6
  have x : L3 form r r3 a1 a2 a3 z1 z2 z3 H6 := ⟨(f4.le l46).sub fun _ h => absurd h List.not_mem_nil, (g1.le l46 (na_at c4.ha)).sub fun _ h => absurd h List.not_mem_nil, (g2.le l46 (na_at c4.ha)).sub fun _ h => absurd h List.not_mem_nil, g3.sub fun _ h => absurd h List.not_mem_nil, o9, dis, oth, ht, h3⟩
  have hn : 24 ≤ n := up hn
  clear f2 f3 f4 f5 g1 g2 g3 c1 c2 c3 c4 c5 c6 cost
  refine law_6 (K := kSeq (EX (MC T n) law6.snd) (kBack Q)) <| law_7 (K := kSeq (EX (MC T n) law6.snd.snd) (kBack Q)) hn x fun H7 x => law_8 (K := kSeq (EX (MC T n) law6.snd.snd.snd) (kBack Q)) hn x fun H8 x => law_9 (K := kSeq (EX (MC T n) law6.snd.snd.snd.snd) (kBack Q)) hn x fun H9 x => law_10 (K := kSeq (EX (MC T n) law6.snd.snd.snd.snd.snd) (kBack Q)) hn x fun H10 x =>
    law_11 (K := kSeq (EX (MC T n) law6.snd.snd.snd.snd.snd.snd) (kBack Q)) hn x fun b1 b2 O1 O2 H11 H12 d1 l12 d2 _ => law_12 (K := kSeq (EX (MC T n) law6.snd.snd.snd.snd.snd.snd.snd) (kBack Q)) hn d1 l12 d2 fun H13 l13 r1 r2 => law_13 (K := kBack Q) hn (x.le l13) r1 r2 fun _ _ => q _
end Mine
namespace Mine
theorem vrs_ints {vs : List Value} {ns : List Int} (h : IntsAre vs ns) : VRs (ns.map V.int) vs := by
  induction h with
  | nil => trivial
  | cons => rename_i ih; exact ⟨⟨_, rfl⟩, ih⟩
theorem law_ok {n : Nat} (hn : 40 ≤ n) : LawOk n := fun l ns hlen => law_main hn upd_self hlen fun _ => rfl
theorem join {Kf : Params → Frag} {as0 : List Addr} {e0 : ∀ P, as0 = (Kf P).map (·.1)} {q : Program} {loose : List Str} {XP : (Str → Option Value) → Heap → Prop} {d : DefRec} {kwd : List (Str × Expr)}
    (hname : d.name = Str.ofString "law") (hc : ∀ P, chkHead (Kf P) = true) (hf : ∀ P, fns.all (chkFn (Kf P) theNames) = true) (hm : (66, Str.ofString "law") ∈ topNames) :
    WalkO q loose XP (kHook Kf as0 e0).says PySem.Challenge.rw_ov0017_01.row.toRowW d kwd fun f vs => PySem.call f vs := by
  intro w s₀ s₁ mg mb G Y a o pm cd doc dV kV ho hd hcd hD hmg hg args vals as hpre hlay hrd hwl hlo
  obtain ⟨hp, gn, dr, tk, os⟩ := s₁
  have KX : (Kf w.params).In hp := kIn_of Y
  have T := G.T
  wrow_args hpre hlay hrd hwl hlo
  rename_i ns h1 h2 h3 h4 h5 b1 b2 la vs b3 hL ra w1 r0 hI hr hc1 hc2
  refine enter_call ?_
  have amb : Amb ⟨PySem.Challenge.rw_ov0017_01.row.prog, w, Kf w.params, hp, gn, dr, os⟩ := ⟨KX, ⟨mg, T.g⟩, ⟨mb, T.b, T.builtins⟩, T.nolimit⟩
  have P := prg_of amb (hc w.params)
  have F := fns_of (X := ⟨PySem.Challenge.rw_ov0017_01.row.prog, w, Kf w.params, hp, gn, dr, os⟩) (hf w.params)
  have ha : a = dAddr (Kf w.params) 66 := by
    have c := hc w.params
    simp only [chkHead, Bool.and_eq_true, List.all_eq_true] at c
    have c5 := c.1.1.2 _ hm
    simp only [topOk, Bool.and_eq_true, beq_iff_eq] at c5
    have := mg_of KX T.g c5.1.1
    rw [hname] at hmg
    rw [hmg] at this
    exact Value.ref.inj (Option.some.inj this)
  have good : Good (Kf w.params) hp hp (hp0 la ns) := by
    refine ⟨fun _ _ e => e, fun b ob e => ?_⟩
    by_cases hb : b = la
    · subst hb
      have : hp0 b ns b = some (.fro (ns.map .int)) := upd_self
      rw [this] at e
      cases e
      exact ⟨.inl rfl, vs.toArray, hL, by simpa using vrs_ints hI⟩
    · have : hp0 la ns b = none := upd_ne hb
      rw [this] at e; cases e
  have room : Room callerA (3 * 40) := ⟨by rw [depth_caller]; omega, by rw [units_caller]; omega, rfl, rfl⟩
  have hlen : ns.length ≤ 63 := by omega
  have main := call_ok P F 40 callerA room 66 [.ref la] [.ref la] (fun v _ => v = .bool true) hp (hp0 la ns) ⟨rfl, trivial⟩ good (law_ok (Nat.le_refl 40) la ns hlen)
  have main : RC _ callerA (.ref (dAddr (Kf w.params) 66)) [.ref la] _ hp (hp0 la ns) := main
  rw [← ha] at main
  refine codeAny_mono (main tk) fun res s' g => ?_
  rcases res with e | (_ | _ | _ | _) <;> first | exact g.elim | skip
  rename_i v'
  obtain ⟨h', tk', v, H', vr, hv, st⟩ := g
  subst hv
  have vr : v' = .bool true := vr
  subst vr
  exact ⟨.inl ⟨.bool true, .bool true, [], rfl, raisesW_false (fun _ h => nomatch h), .bool true, postW_of (by wrow_shape) (by wtm_val) (by w_fin), unshared_nil⟩, .of_keep st.good.base, rfl, .of_eq hg⟩
end Mine
namespace Mine.head
noncomputable def tw16894197260953374720 := ()
noncomputable def tw15898109809663626304 := ()
noncomputable def tw17238610979035211840 := ()
noncomputable def tw17972497016974392416 := ()
noncomputable def tw2554682012703037696 := ()
noncomputable def tw18123143868385100064 := ()
noncomputable def tw1985537357303476512 := ()
noncomputable def tw4473611206160876864 := ()
noncomputable def tw5944575059761466720 := ()
noncomputable def tw7450023128482652576 := ()
noncomputable def tw14086173767186703872 := ()
noncomputable def tw6202090305015876224 := ()
noncomputable def tw6232644224018631296 := ()
noncomputable def tw16172288393029767808 := ()
noncomputable def tw9074772780463953568 := ()
noncomputable def tw2096541523181747872 := ()
noncomputable def tw11402027661713467040 := ()
noncomputable def tw2428695696106030784 := ()
noncomputable def tw4357005996527412928 := ()
noncomputable def tw9380374249521086144 := ()
noncomputable def tw290710125855613696 := ()
noncomputable def tw12460202669355646752 := ()
noncomputable def tw3496171461512900480 := ()
noncomputable def tw12795389718870424448 := ()
noncomputable def tw10242447542790323104 := ()
noncomputable def tw1992862871153497056 := ()
noncomputable def tw17525636777796739105 := ()
noncomputable def tw14527164170590304321 := ()
noncomputable def tw16470739840699324481 := ()
noncomputable def tw9592777112578238593 := ()
noncomputable def tw11998209505049934977 := ()
noncomputable def tw9388430590476628193 := ()
noncomputable def tw4764554697811233 := ()
noncomputable def tw16545597347906280737 := ()
noncomputable def tw10258521583956687137 := ()
noncomputable def tw10356212845559719233 := ()
noncomputable def tw15052771764104931649 := ()
noncomputable def tw1929634836878124385 := ()
noncomputable def tw5792407227767346561 := ()
noncomputable def tw12998212659555988865 := ()
noncomputable def tw6240353410654795137 := ()
noncomputable def tw3690969761935527329 := ()
noncomputable def tw1976755195193171425 := ()
noncomputable def tw5865467396996320769 := ()
noncomputable def tw3088210815446039105 := ()
noncomputable def tw1499353310998574721 := ()
noncomputable def tw15064752311394979489 := ()
noncomputable def tw12727220549172885185 := ()
noncomputable def tw10936905620487946977 := ()
noncomputable def tw9062998866958442273 := ()
noncomputable def tw7277520189549225825 := ()
noncomputable def tw7161073391023584161 := ()
noncomputable def tw3270352941656771521 := ()
noncomputable def tw9743709737119245314 := ()
noncomputable def tw6588589085864783938 := ()
noncomputable def tw8402328212356670530 := ()
noncomputable def tw2525317073905713282 := ()
noncomputable def tw12472887615940459650 := ()
noncomputable def tw14676189674455941282 := ()
noncomputable def tw4965378191221513410 := ()
noncomputable def tw11692735721529064706 := ()
noncomputable def tw3696042808614700290 := ()
noncomputable def tw7658410731251134818 := ()
noncomputable def tw15253846138512369154 := ()
noncomputable def tw5019597260055213698 := ()
noncomputable def tw12841863872788715202 := ()
noncomputable def tw17993767162375566018 := ()
noncomputable def tw11820730986300896962 := ()
noncomputable def tw3160712208675142370 := ()
noncomputable def tw9820158181544301314 := ()
noncomputable def tw13488047542759136002 := ()
noncomputable def tw7523532297153676066 := ()
noncomputable def tw1056085985882870562 := ()
noncomputable def tw6369041477666114370 := ()
noncomputable def tw9171846695823722306 := ()
noncomputable def tw14983349147647662914 := ()
noncomputable def tw5187041380464763778 := ()
noncomputable def tw12478146576626367362 := ()
noncomputable def tw3083302935323014018 := ()
noncomputable def tw18051680202136193954 := ()
noncomputable def tw18331532914195504034 := ()
noncomputable def tw8182465387277545410 := ()
noncomputable def tw6521490308693473283 := ()
noncomputable def tw5986637957666399235 := ()
noncomputable def tw10533634037010066435 := ()
noncomputable def tw10746725682022337571 := ()
noncomputable def tw2355103038987944067 := ()
noncomputable def tw2728595385866086531 := ()
noncomputable def tw7179252675378151715 := ()
noncomputable def tw17725469503822016867 := ()
noncomputable def tw13086575352542018947 := ()
noncomputable def tw14597329475937083939 := ()
noncomputable def tw15894371620910866019 := ()
noncomputable def tw12581593161143036515 := ()
noncomputable def tw6088685845774392931 := ()
noncomputable def tw1917425121527220963 := ()
noncomputable def tw8541356943393881859 := ()
noncomputable def tw17577399041416155939 := ()
noncomputable def tw17905491414393134947 := ()
noncomputable def tw13664066127859960707 := ()
noncomputable def tw2393098407364606883 := ()
noncomputable def tw2694075680205673411 := ()
noncomputable def tw976808484645153763 := ()
noncomputable def tw10900948863051656163 := ()
noncomputable def tw11180365069992382532 := ()
noncomputable def tw11060938730435951684 := ()
noncomputable def tw9083612298779875492 := ()
noncomputable def tw7498250532897285284 := ()
noncomputable def tw13397106695672350980 := ()
noncomputable def tw14999265807660949796 := ()
noncomputable def tw8414573866900348196 := ()
noncomputable def tw3368030927266983236 := ()
noncomputable def tw14241001667801471300 := ()
noncomputable def tw16014373381606645092 := ()
noncomputable def tw999222835498014148 := ()
noncomputable def tw7387471113814080996 := ()
noncomputable def tw3863384581746538084 := ()
noncomputable def tw17015032458148788900 := ()
noncomputable def tw16922147877168347812 := ()
noncomputable def tw6489421142724028100 := ()
noncomputable def tw9838509708139735780 := ()
noncomputable def tw10059252607514160932 := ()
noncomputable def tw15506723302920939300 := ()
noncomputable def tw1503407388533364548 := ()
noncomputable def tw6846866878297920324 := ()
noncomputable def tw13986843968525588388 := ()
noncomputable def tw15895748673760503845 := ()
noncomputable def tw7096138990903361605 := ()
noncomputable def tw17850378814381688901 := ()
noncomputable def tw6161856959107265637 := ()
noncomputable def tw6536181036136497285 := ()
noncomputable def tw8216834362191484069 := ()
noncomputable def tw10021064610941686981 := ()
noncomputable def tw15796087645652482245 := ()
noncomputable def tw4196546014268931301 := ()
noncomputable def tw11923155195566972133 := ()
noncomputable def tw16576625349610184965 := ()
noncomputable def tw1522823579158628613 := ()
noncomputable def tw10786079294511566085 := ()
noncomputable def tw13955511503576765797 := ()
noncomputable def tw14078167904914714981 := ()
noncomputable def tw1519320592345488741 := ()
noncomputable def tw4839655697589452165 := ()
noncomputable def tw3103639331685909893 := ()
noncomputable def tw1211024037004892549 := ()
noncomputable def tw10265929125382437317 := ()
noncomputable def tw1660877005871194693 := ()
noncomputable def tw12324890628731678277 := ()
noncomputable def tw4311042196063409733 := ()
noncomputable def tw8603420104599213669 := ()
noncomputable def tw5080737588221150853 := ()
noncomputable def tw14149427978524627653 := ()
noncomputable def tw11255790879490906821 := ()
noncomputable def tw3405375401864073989 := ()
noncomputable def tw7661765248129044261 := ()
noncomputable def tw12182850187970735909 := ()
noncomputable def tw8187629637223713605 := ()
noncomputable def tw3980653432952411973 := ()
noncomputable def tw10010264046613662565 := ()
noncomputable def tw13906610036690215845 := ()
noncomputable def tw14349913743752837093 := ()
noncomputable def tw16078238667976319046 := ()
noncomputable def tw13508044439285423174 := ()
noncomputable def tw10573961123116132518 := ()
noncomputable def tw1673358830478937286 := ()
noncomputable def tw9515422150858430662 := ()
noncomputable def tw5906749814970224870 := ()
noncomputable def tw1748456618969930982 := ()
noncomputable def tw15827502805916655846 := ()
noncomputable def tw17988201657351507238 := ()
noncomputable def tw2326617092838664518 := ()
noncomputable def tw6640010369347007910 := ()
noncomputable def tw11288620263138037190 := ()
noncomputable def tw16111715859725283846 := ()
noncomputable def tw1909714482019496454 := ()
noncomputable def tw1689142752476645926 := ()
noncomputable def tw16874305072444578374 := ()
noncomputable def tw14512941343882779238 := ()
noncomputable def tw5764021196749891206 := ()
noncomputable def tw10521553517811329670 := ()
noncomputable def tw18384547517478447814 := ()
noncomputable def tw13276723143375012678 := ()
noncomputable def tw4053978428183960486 := ()
noncomputable def tw9101448428047585222 := ()
noncomputable def tw16984083398119652359 := ()
noncomputable def tw2260579728952749127 := ()
noncomputable def tw11105056867450500199 := ()
noncomputable def tw5629256929840616583 := ()
noncomputable def tw1062042127530464391 := ()
noncomputable def tw14112020806712329415 := ()
noncomputable def tw18007968972792079559 := ()
noncomputable def tw2529948359932261575 := ()
noncomputable def tw8185714761375850791 := ()
noncomputable def tw14090159008775844135 := ()
noncomputable def tw4693820183103290663 := ()
noncomputable def tw11582096051123008839 := ()
noncomputable def tw14385403278947933607 := ()
noncomputable def tw7680146299302783591 := ()
noncomputable def tw1319983325249436295 := ()
noncomputable def tw18014224886719972007 := ()
noncomputable def tw8041981036286801607 := ()
noncomputable def tw16987140817204460263 := ()
noncomputable def tw1272635626206103303 := ()
noncomputable def tw8409189969818401543 := ()
noncomputable def tw13605870324054321959 := ()
noncomputable def tw18125128294737035143 := ()
noncomputable def tw262713603470380999 := ()
noncomputable def tw8408249889716310983 := ()
noncomputable def tw6265338273532641288 := ()
noncomputable def tw9997931420998421608 := ()
noncomputable def tw14699756766385990792 := ()
noncomputable def tw2591067827882107080 := ()
noncomputable def tw13353151263460963528 := ()
noncomputable def tw15253147559959296200 := ()
noncomputable def tw16117624820511101160 := ()
noncomputable def tw10366927770000222440 := ()
noncomputable def tw14969395210118534408 := ()
noncomputable def tw3264716943610762504 := ()
noncomputable def tw14412733801367601576 := ()
noncomputable def tw2066564036433440168 := ()
noncomputable def tw4834694072379752904 := ()
noncomputable def tw1894759731626308040 := ()
noncomputable def tw2879759524354350568 := ()
noncomputable def tw11308087075614649832 := ()
noncomputable def tw14631306762972528136 := ()
noncomputable def tw14946772226789246504 := ()
noncomputable def tw16441004959143088680 := ()
noncomputable def tw2154566216772986472 := ()
noncomputable def tw17698105195316432488 := ()
noncomputable def tw14565420633037775528 := ()
noncomputable def tw7876399200375917224 := ()
noncomputable def tw8169693465737517768 := ()
noncomputable def tw1276956409769668328 := ()
noncomputable def tw13932022402069264104 := ()
noncomputable def tw17674571679781333832 := ()
noncomputable def tw17411354535832351560 := ()
noncomputable def tw11097941207591946120 := ()
noncomputable def tw7656372460463219624 := ()
noncomputable def tw14637134836413734856 := ()
noncomputable def tw2864405669816312776 := ()
noncomputable def tw8549075639274686408 := ()
noncomputable def tw3581614266968435656 := ()
noncomputable def tw2825341998796452840 := ()
noncomputable def tw5788964047882338313 := ()
noncomputable def tw14956371261235936329 := ()
noncomputable def tw1588943658860677225 := ()
noncomputable def tw11005904730967762025 := ()
noncomputable def tw10018764681926925449 := ()
noncomputable def tw17377423518514600169 := ()
noncomputable def tw7833285031277912329 := ()
noncomputable def tw11862927689305589065 := ()
noncomputable def tw17539234302018041193 := ()
noncomputable def tw14168692526580214153 := ()
noncomputable def tw18176413224385145225 := ()
noncomputable def tw15647610678857825673 := ()
noncomputable def tw17894702793023417833 := ()
noncomputable def tw7705420606127192585 := ()
noncomputable def tw5331137831679937033 := ()
noncomputable def tw820421773197932041 := ()
noncomputable def tw2340069552987342377 := ()
noncomputable def tw5015311536963163689 := ()
noncomputable def tw4554283584077286953 := ()
noncomputable def tw10472834687351259785 := ()
noncomputable def tw9646481798937456297 := ()
noncomputable def tw11305582741114486441 := ()
noncomputable def tw7421959067914383049 := ()
noncomputable def tw4377270945021899497 := ()
noncomputable def tw16212550141715871497 := ()
noncomputable def tw4330215655383310121 := ()
noncomputable def tw2976249973925969801 := ()
noncomputable def tw315434073420411817 := ()
noncomputable def tw17486074103640542121 := ()
noncomputable def tw15782939476341012554 := ()
noncomputable def tw17608190574486352970 := ()
noncomputable def tw12668424612319814730 := ()
noncomputable def tw3015213733521366154 := ()
noncomputable def tw134757484588840074 := ()
noncomputable def tw5096742575497195690 := ()
noncomputable def tw10128820837102578890 := ()
noncomputable def tw9103479521544129834 := ()
noncomputable def tw17113217626458354986 := ()
noncomputable def tw11636873012791513418 := ()
noncomputable def tw17212568112599259466 := ()
noncomputable def tw10706776884845955466 := ()
noncomputable def tw17836260108008149386 := ()
noncomputable def tw8182079617134344778 := ()
noncomputable def tw9318794584737855082 := ()
noncomputable def tw5061997093462229610 := ()
noncomputable def tw69809265629811306 := ()
noncomputable def tw18080951475816111786 := ()
noncomputable def tw5996384718915585738 := ()
noncomputable def tw13917482298092908234 := ()
noncomputable def tw13896987355042952010 := ()
noncomputable def tw17453365369857097546 := ()
noncomputable def tw9717200733822644074 := ()
noncomputable def tw6968674436765558698 := ()
noncomputable def tw5487235932777146282 := ()
noncomputable def tw6518409114910312394 := ()
noncomputable def tw14843749296085226474 := ()
noncomputable def tw6099028997845504075 := ()
noncomputable def tw3127049524044150859 := ()
noncomputable def tw17007033763367706731 := ()
noncomputable def tw17339705970751849611 := ()
noncomputable def tw15676425527210111115 := ()
noncomputable def tw9625377726130185387 := ()
noncomputable def tw11289835788462762251 := ()
noncomputable def tw8172283286065499403 := ()
noncomputable def tw1608297297296620843 := ()
noncomputable def tw5927865893512547691 := ()
noncomputable def tw15305915472762889579 := ()
noncomputable def tw5853483612964156811 := ()
noncomputable def tw13743032657059413451 := ()
noncomputable def tw15468718075485040107 := ()
noncomputable def tw14667470093908496907 := ()
noncomputable def tw5506250874072839755 := ()
noncomputable def tw6388477656530123435 := ()
noncomputable def tw3404819636646143723 := ()
noncomputable def tw16769997242578385675 := ()
noncomputable def tw1172538174109094731 := ()
noncomputable def tw8097174177036852075 := ()
noncomputable def tw14488727979953464203 := ()
noncomputable def tw5479459121986351116 := ()
noncomputable def tw10270352894671993868 := ()
noncomputable def tw7512725033676591148 := ()
noncomputable def tw1506576300011279404 := ()
noncomputable def tw14969872817325187116 := ()
noncomputable def tw9464831228461672588 := ()
noncomputable def tw4708111749353345164 := ()
noncomputable def tw2588942769649879372 := ()
noncomputable def tw7575806435727305068 := ()
noncomputable def tw12287978374625458572 := ()
noncomputable def tw1642545813376747948 := ()
noncomputable def tw6522505103286579628 := ()
noncomputable def tw17854896373637125580 := ()
noncomputable def tw15638870477510070732 := ()
noncomputable def tw2857895335220236748 := ()
noncomputable def tw7156519585557434892 := ()
noncomputable def tw17789423225533864492 := ()
noncomputable def tw16845296645482713644 := ()
noncomputable def tw14139502460874162764 := ()
noncomputable def tw48543519692965452 := ()
noncomputable def tw3790771472595898956 := ()
noncomputable def tw9082462177598256812 := ()
noncomputable def tw11484358847640170188 := ()
noncomputable def tw7090939061502383884 := ()
noncomputable def tw6891450509433485068 := ()
noncomputable def tw7256407767356113836 := ()
noncomputable def tw9325057278558614444 := ()
noncomputable def tw3991279037241028524 := ()
noncomputable def tw15845715064670954444 := ()
noncomputable def tw10205530081349824492 := ()
noncomputable def tw14127983276867164173 := ()
noncomputable def tw6121141971511671821 := ()
noncomputable def tw5392078452651409485 := ()
noncomputable def tw7805308653706644653 := ()
noncomputable def tw1318689175770300589 := ()
noncomputable def tw8812732774380208333 := ()
noncomputable def tw6153569298028143949 := ()
noncomputable def tw13282463811983059277 := ()
noncomputable def tw907359911958329709 := ()
noncomputable def tw7272792461964422541 := ()
noncomputable def tw15781038721244158349 := ()
noncomputable def tw16817119741492734445 := ()
noncomputable def tw14139617269561922093 := ()
noncomputable def tw8402214883040486957 := ()
noncomputable def tw16572314662081343053 := ()
noncomputable def tw8838475285390394957 := ()
noncomputable def tw8660149134131535693 := ()
noncomputable def tw7599496313472250701 := ()
noncomputable def tw12601080634535202701 := ()
noncomputable def tw6237802210402583469 := ()
noncomputable def tw9644850379433450445 := ()
noncomputable def tw13600378441667735501 := ()
noncomputable def tw3122906425038022637 := ()
noncomputable def tw17332727794074296334 := ()
noncomputable def tw940147379719373870 := ()
noncomputable def tw16659920880120507502 := ()
noncomputable def tw11596733309237848174 := ()
noncomputable def tw12328230846540189838 := ()
noncomputable def tw10389290468125465742 := ()
noncomputable def tw11426403942048686318 := ()
noncomputable def tw12359489953124434286 := ()
noncomputable def tw7616930195647119758 := ()
noncomputable def tw12865059321931465230 := ()
noncomputable def tw16474958459275807246 := ()
noncomputable def tw1495726902847802894 := ()
noncomputable def tw12362083183470981646 := ()
noncomputable def tw13750642191701924398 := ()
noncomputable def tw7309950759910210094 := ()
noncomputable def tw17093656651364094606 := ()
noncomputable def tw9374387883903384206 := ()
noncomputable def tw8866670633112419022 := ()
noncomputable def tw10431609616501453582 := ()
noncomputable def tw709382114072422158 := ()
noncomputable def tw6053997905714604814 := ()
noncomputable def tw9746458257258439470 := ()
noncomputable def tw12773685731770592110 := ()
noncomputable def tw13180129090757240718 := ()
noncomputable def tw3089916443595474862 := ()
noncomputable def tw15520248196984853422 := ()
noncomputable def tw1398043889541792783 := ()
noncomputable def tw739537129135343663 := ()
noncomputable def tw8586521899292070991 := ()
noncomputable def tw16640130746408290383 := ()
noncomputable def tw4090201507572337743 := ()
noncomputable def tw8715499118904818895 := ()
noncomputable def tw1620002657737552111 := ()
noncomputable def tw3794523003379204399 := ()
noncomputable def tw12310735299239354703 := ()
noncomputable def tw12371566548271132015 := ()
noncomputable def tw17784522201281872271 := ()
noncomputable def tw4746297304354101679 := ()
noncomputable def tw15181326774706428367 := ()
noncomputable def tw8626486368039343599 := ()
noncomputable def tw16714887947964762639 := ()
noncomputable def tw7627683417492964911 := ()
noncomputable def tw5515381820778694223 := ()
noncomputable def tw15564447279633807951 := ()
noncomputable def tw13357441389134331599 := ()
noncomputable def tw7624658959004494543 := ()
noncomputable def tw9196398404247428943 := ()
noncomputable def tw6930615606355531631 := ()
noncomputable def tw12032222614953749359 := ()
noncomputable def tw10340462753498674063 := ()
noncomputable def tw16997897962222511 := ()
noncomputable def tw4433315090154635215 := ()
noncomputable def tw12740806245664736207 := ()
noncomputable def tw807142644699662319 := ()
noncomputable def tw18282902561792777199 := ()
noncomputable def tw5651425540991249520 := ()
noncomputable def tw12604462930493870256 := ()
noncomputable def tw12695399030622205104 := ()
noncomputable def tw3185377453876500656 := ()
noncomputable def tw16782820856776367440 := ()
noncomputable def tw7313386461004707312 := ()
noncomputable def tw1463646239528298992 := ()
noncomputable def tw2661039320868540944 := ()
noncomputable def tw14028522991509751376 := ()
noncomputable def tw6847273489543275152 := ()
noncomputable def tw3453547403478019728 := ()
noncomputable def tw13504307299585405616 := ()
noncomputable def tw13246386896891170512 := ()
noncomputable def tw17646911460466567920 := ()
noncomputable def tw2545145822199252752 := ()
noncomputable def tw12212823987433534256 := ()
noncomputable def tw6870361546347238192 := ()
noncomputable def tw17275705279478898512 := ()
noncomputable def tw4691952243595246448 := ()
noncomputable def tw10872037306656784433 := ()
noncomputable def tw1643771367246577777 := ()
noncomputable def tw11770459041652445329 := ()
noncomputable def tw17197444120159719569 := ()
noncomputable def tw5319049981483164881 := ()
noncomputable def tw12822298378996975857 := ()
noncomputable def tw7734086686654790897 := ()
noncomputable def tw9987851973559822609 := ()
noncomputable def tw17173245716831642929 := ()
noncomputable def tw16917608666046251313 := ()
noncomputable def tw11124748197601291601 := ()
noncomputable def tw67086481866811729 := ()
noncomputable def tw4063747431996464497 := ()
noncomputable def tw3928599903575798129 := ()
noncomputable def tw8264559056461403633 := ()
noncomputable def tw12095829319087573521 := ()
noncomputable def tw12949380547846470161 := ()
noncomputable def tw7789450098604059249 := ()
noncomputable def tw16579250180923337425 := ()
noncomputable def tw11704837465938651953 := ()
noncomputable def tw18177665153149118353 := ()
noncomputable def tw9802980913210911633 := ()
noncomputable def tw13478637309914159250 := ()
noncomputable def tw2625984366357065906 := ()
noncomputable def tw2506711637615833298 := ()
noncomputable def tw10317212456122042642 := ()
noncomputable def tw17008234436448823602 := ()
noncomputable def tw9202431907968578930 := ()
noncomputable def tw14531177953140590962 := ()
noncomputable def tw11485113708198979986 := ()
noncomputable def tw1687793838685487538 := ()
noncomputable def tw12037728316022314418 := ()
noncomputable def tw7604411431414283762 := ()
noncomputable def tw17262968490309938674 := ()
noncomputable def tw8451290768687142514 := ()
noncomputable def tw3321875119742208626 := ()
noncomputable def tw3821945547825155762 := ()
noncomputable def tw10748227973586771634 := ()
noncomputable def tw1714602735852981970 := ()
noncomputable def tw2441957057352720082 := ()
noncomputable def tw15091486752826498866 := ()
noncomputable def tw10730805705081004914 := ()
noncomputable def tw2201313380682377074 := ()
noncomputable def tw8815353094830122866 := ()
noncomputable def tw467416434755642258 := ()
noncomputable def tw15127644999133008818 := ()
noncomputable def tw12892129938458570674 := ()
noncomputable def tw9030979908501067730 := ()
noncomputable def tw9354026244260953042 := ()
noncomputable def tw17265401458761052179 := ()
noncomputable def tw3512634313551410195 := ()
noncomputable def tw7940748693946456147 := ()
noncomputable def tw14909605222495392915 := ()
noncomputable def tw7148437315225170067 := ()
noncomputable def tw11434997419882176723 := ()
noncomputable def tw5104563664521345299 := ()
noncomputable def tw4709128311485490483 := ()
noncomputable def tw14643959010103036307 := ()
noncomputable def tw8671685427711848851 := ()
noncomputable def tw16278871845796110771 := ()
noncomputable def tw1919890906376249811 := ()
noncomputable def tw6174258528820157971 := ()
noncomputable def tw6298033893332097587 := ()
noncomputable def tw708152393587867187 := ()
noncomputable def tw2797894973233656403 := ()
noncomputable def tw13689084217373910675 := ()
noncomputable def tw13213268828098156179 := ()
noncomputable def tw10105583180162433683 := ()
noncomputable def tw4857777746444614323 := ()
noncomputable def tw16226220715811633075 := ()
noncomputable def tw6402496994288996404 := ()
noncomputable def tw7270002223443293236 := ()
noncomputable def tw6880043348581005364 := ()
noncomputable def tw17287069475806534740 := ()
noncomputable def tw12398312691204496596 := ()
noncomputable def tw6871339299614917876 := ()
noncomputable def tw12244833863542804788 := ()
noncomputable def tw6307057079134178644 := ()
noncomputable def tw6426539377367359892 := ()
noncomputable def tw6474009502463322548 := ()
noncomputable def tw8569104457590258164 := ()
noncomputable def tw377444749377882612 := ()
noncomputable def tw3715144110773694964 := ()
noncomputable def tw13637325136056909300 := ()
noncomputable def tw17346037399652195860 := ()
noncomputable def tw1937370526825066196 := ()
noncomputable def tw2400818531096893172 := ()
noncomputable def tw15895551434495452948 := ()
noncomputable def tw3986194592780655508 := ()
noncomputable def tw2350586252961548244 := ()
noncomputable def tw2249667046024356820 := ()
noncomputable def tw13335025841360890868 := ()
noncomputable def tw5638995163158488052 := ()
noncomputable def tw1472379273497163797 := ()
noncomputable def tw12364624919760631829 := ()
noncomputable def tw6684681932595197013 := ()
noncomputable def tw6085824867444503733 := ()
noncomputable def tw5725584637647431893 := ()
noncomputable def tw2994366008111725845 := ()
noncomputable def tw4976181008148175253 := ()
noncomputable def tw3212073173673764245 := ()
noncomputable def tw18060483585939721653 := ()
noncomputable def tw5141578139466067413 := ()
noncomputable def tw12074249297620881909 := ()
noncomputable def tw18433677622606106133 := ()
noncomputable def tw1224924573807776437 := ()
noncomputable def tw5438144065070405397 := ()
noncomputable def tw12147184966966947637 := ()
noncomputable def tw5501060405047882677 := ()
noncomputable def tw4972248218790579157 := ()
noncomputable def tw11544532188706048022 := ()
noncomputable def tw9716329373054682134 := ()
noncomputable def tw11484797826999851062 := ()
noncomputable def tw8159583801465064534 := ()
noncomputable def tw9767149119325585590 := ()
noncomputable def tw9107825763807709430 := ()
noncomputable def tw15250023729529759990 := ()
noncomputable def tw322437386772585718 := ()
noncomputable def tw10865165270600546614 := ()
noncomputable def tw5612995960945425718 := ()
noncomputable def tw8610661140672950678 := ()
noncomputable def tw17552560543380974038 := ()
noncomputable def tw12352672977532951062 := ()
noncomputable def tw16065720564569863766 := ()
noncomputable def tw12851702773856589430 := ()
noncomputable def tw11427066125472700054 := ()
noncomputable def tw532055438628499158 := ()
noncomputable def tw14112051064653734678 := ()
noncomputable def tw15785421084128741142 := ()
noncomputable def tw9133290819911140118 := ()
noncomputable def tw15539854500240908086 := ()
noncomputable def tw14842460003800876886 := ()
noncomputable def tw14982685227137828758 := ()
noncomputable def tw2413573451304230806 := ()
noncomputable def tw12205659690895024086 := ()
noncomputable def tw604627371996746742 := ()
noncomputable def tw2298694737197419510 := ()
noncomputable def tw12427710115714267126 := ()
noncomputable def tw2172669909848549399 := ()
noncomputable def tw17050696954950088759 := ()
noncomputable def tw17188972718952451159 := ()
noncomputable def tw6247268493268985975 := ()
noncomputable def tw5751227541892866231 := ()
noncomputable def tw1315816938146588887 := ()
noncomputable def tw7287109101882759415 := ()
noncomputable def tw13653928888864918839 := ()
noncomputable def tw12858780395421280599 := ()
noncomputable def tw9065935926736091543 := ()
noncomputable def tw11338825007792423415 := ()
noncomputable def tw13379354915994877463 := ()
noncomputable def tw6836605351468522007 := ()
noncomputable def tw12214093580764582487 := ()
noncomputable def tw13002585709282622103 := ()
noncomputable def tw11290360913936777911 := ()
noncomputable def tw6604829842348296887 := ()
noncomputable def tw7960053054240918295 := ()
noncomputable def tw13137911371727378231 := ()
noncomputable def tw8627200689577751383 := ()
noncomputable def tw8874674299285249911 := ()
noncomputable def tw9984397402777080727 := ()
noncomputable def tw15510365090734361527 := ()
noncomputable def tw11857307637417881527 := ()
noncomputable def tw8534208459206503383 := ()
noncomputable def tw7704315382344345624 := ()
noncomputable def tw1970811146720035896 := ()
noncomputable def tw14344768424176206936 := ()
noncomputable def tw1438866918597655640 := ()
noncomputable def tw5353729903917744248 := ()
noncomputable def tw6507506987150044280 := ()
noncomputable def tw15798066900824788120 := ()
noncomputable def tw2876011056497122456 := ()
noncomputable def tw13942192884097748152 := ()
noncomputable def tw14615432700455777464 := ()
noncomputable def tw10668533816033670360 := ()
noncomputable def tw17371765431496345816 := ()
noncomputable def tw14195316510222423288 := ()
noncomputable def tw9325123708862168440 := ()
noncomputable def tw8035625575855466936 := ()
noncomputable def tw10736139440505347576 := ()
noncomputable def tw2241074392170341912 := ()
noncomputable def tw15296082917334920728 := ()
noncomputable def tw7013799640231393816 := ()
noncomputable def tw1212124681294104184 := ()
noncomputable def tw13199516396595161752 := ()
noncomputable def tw2393937325987436248 := ()
noncomputable def tw15841401105113185080 := ()
noncomputable def tw17464823870196871000 := ()
noncomputable def tw14877080517539528568 := ()
noncomputable def tw17362218986543327160 := ()
noncomputable def tw15666658371737129944 := ()
noncomputable def tw15039987702171664376 := ()
noncomputable def tw649443455394278489 := ()
noncomputable def tw12131037823706036345 := ()
noncomputable def tw6207834228037699737 := ()
noncomputable def tw8550467674348477657 := ()
noncomputable def tw7712916153251135833 := ()
noncomputable def tw6587087628758450585 := ()
noncomputable def tw6079359036626576793 := ()
noncomputable def tw13954853420313727417 := ()
noncomputable def tw4235852798576303577 := ()
noncomputable def tw17444863063712431705 := ()
noncomputable def tw18100283295969611417 := ()
noncomputable def tw6791874446421159577 := ()
noncomputable def tw17782148633632673465 := ()
noncomputable def tw9407594320385231609 := ()
noncomputable def tw11821203517306503961 := ()
noncomputable def tw13381877923881390905 := ()
noncomputable def tw6931653728971238233 := ()
noncomputable def tw3290047583113660281 := ()
noncomputable def tw15735840784391694233 := ()
noncomputable def tw3556061257289618393 := ()
noncomputable def tw14744981736328886265 := ()
noncomputable def tw9214367901419015226 := ()
noncomputable def tw1718890006036334650 := ()
noncomputable def tw15204471325056678010 := ()
noncomputable def tw18260194641540637818 := ()
noncomputable def tw8337448324364255386 := ()
noncomputable def tw5723944856813171866 := ()
noncomputable def tw1489404036187247834 := ()
noncomputable def tw11597336398036118778 := ()
noncomputable def tw11296743742662292762 := ()
noncomputable def tw2237326684586592538 := ()
noncomputable def tw5092371620264689978 := ()
noncomputable def tw17826015225549371706 := ()
noncomputable def tw4273228799998304602 := ()
noncomputable def tw3688799982635324794 := ()
noncomputable def tw4947412792043415962 := ()
noncomputable def tw2681166955253090778 := ()
noncomputable def tw15326552575505426906 := ()
noncomputable def tw12775505166333009402 := ()
noncomputable def tw10333954764705244698 := ()
noncomputable def tw9553506758532729402 := ()
noncomputable def tw11724780754615379514 := ()
noncomputable def tw6327039764776113722 := ()
noncomputable def tw9186546921256032858 := ()
noncomputable def tw14061139507663348314 := ()
noncomputable def tw4023466491090337370 := ()
noncomputable def tw8476099583838051002 := ()
noncomputable def tw12207028300977255130 := ()
noncomputable def tw7906546307943345882 := ()
noncomputable def tw8988664977312594650 := ()
noncomputable def tw3869590956505411354 := ()
noncomputable def tw6846597200999610202 := ()
noncomputable def tw11988142204041823098 := ()
noncomputable def tw12201952087667049370 := ()
noncomputable def tw9777900189565919194 := ()
noncomputable def tw44622916816846810 := ()
noncomputable def tw1858156416291392539 := ()
noncomputable def tw12729216178547133499 := ()
noncomputable def tw4387028780061031483 := ()
noncomputable def tw11613311375368785083 := ()
noncomputable def tw6100774026682323163 := ()
noncomputable def tw17541063381433097499 := ()
noncomputable def tw3973953319845086491 := ()
noncomputable def tw13227620805987009915 := ()
noncomputable def tw10840385229135970747 := ()
noncomputable def tw3616486834168423931 := ()
noncomputable def tw8382746154173761051 := ()
noncomputable def tw12120646240234225243 := ()
noncomputable def tw12987040726578829979 := ()
noncomputable def tw1626232751844553403 := ()
noncomputable def tw466721876749952763 := ()
noncomputable def tw1618804561499322139 := ()
noncomputable def tw1919001801439425371 := ()
noncomputable def tw17190349231170142043 := ()
noncomputable def tw9698977904933032859 := ()
noncomputable def tw9142320679590124636 := ()
noncomputable def tw14882813523228863612 := ()
noncomputable def tw5140934472235413692 := ()
noncomputable def tw573967197379146972 := ()
noncomputable def tw14740928361383774428 := ()
noncomputable def tw7688317290187622652 := ()
noncomputable def tw12242153458792446204 := ()
noncomputable def tw1082313596108445148 := ()
noncomputable def tw693309671712327132 := ()
noncomputable def tw6272251169252508156 := ()
noncomputable def tw9162278640276766204 := ()
noncomputable def tw2973143901146584636 := ()
noncomputable def tw14646466228836335164 := ()
noncomputable def tw10015159338476511836 := ()
noncomputable def tw10467814448475477596 := ()
noncomputable def tw6260244149815935644 := ()
noncomputable def tw1728724042893426364 := ()
noncomputable def tw10062970787820224252 := ()
noncomputable def tw8299393411229908732 := ()
noncomputable def tw2581250870941146908 := ()
noncomputable def tw10875119458065257276 := ()
noncomputable def tw16031315777459398524 := ()
noncomputable def tw5346772772824661884 := ()
noncomputable def tw12428389735305899900 := ()
noncomputable def tw3333069708870698940 := ()
noncomputable def tw1291722185910714397 := ()
noncomputable def tw6692803169904595997 := ()
noncomputable def tw8773370040425892893 := ()
noncomputable def tw7494366503370351645 := ()
noncomputable def tw13988103294471073821 := ()
noncomputable def tw1214346256449528893 := ()
noncomputable def tw5038994553942263901 := ()
noncomputable def tw14586503196746008701 := ()
noncomputable def tw4239589573987675453 := ()
noncomputable def tw5363715690607933 := ()
noncomputable def tw11714945338242495837 := ()
noncomputable def tw18277060748420158845 := ()
noncomputable def tw17297054508065495485 := ()
noncomputable def tw1995287165650055613 := ()
noncomputable def tw9280153536138602973 := ()
noncomputable def tw7253898381062576733 := ()
noncomputable def tw17142359554024780413 := ()
noncomputable def tw7119846925741900413 := ()
noncomputable def tw13510609219080548989 := ()
noncomputable def tw16800043278716471037 := ()
noncomputable def tw1858285994304674589 := ()
noncomputable def tw527386997569798941 := ()
noncomputable def tw10987702880554017565 := ()
noncomputable def tw15967466079928408925 := ()
noncomputable def tw733406405333840765 := ()
noncomputable def tw4576125674228380541 := ()
noncomputable def tw16903022960794457021 := ()
noncomputable def tw2781723093108153277 := ()
noncomputable def tw15501141472565082077 := ()
noncomputable def tw6772502638888315869 := ()
noncomputable def tw13295774097974887486 := ()
noncomputable def tw4528443807372415038 := ()
noncomputable def tw16582591585412914238 := ()
noncomputable def tw17854890406432584798 := ()
noncomputable def tw2491421050496283774 := ()
noncomputable def tw17243387458012846398 := ()
noncomputable def tw3651205649096709438 := ()
noncomputable def tw5013180600929471838 := ()
noncomputable def tw8895791426145780158 := ()
noncomputable def tw4543076655600059902 := ()
noncomputable def tw11893822550167381502 := ()
noncomputable def tw3368474557548986910 := ()
noncomputable def tw16106133796442146334 := ()
noncomputable def tw15604011560834605598 := ()
noncomputable def tw16821450928103126590 := ()
noncomputable def tw7992697801930647134 := ()
noncomputable def tw45052839361067614 := ()
noncomputable def tw3364305129493290686 := ()
noncomputable def tw14205479233844494046 := ()
noncomputable def tw11063524718261073790 := ()
noncomputable def tw3547030090768783262 := ()
noncomputable def tw3062044705579621278 := ()
noncomputable def tw10510622979536455646 := ()
noncomputable def tw10504981510240967646 := ()
noncomputable def tw11194998557105285118 := ()
noncomputable def tw13078646160514809887 := ()
noncomputable def tw7181452741857391679 := ()
noncomputable def tw17348764703882912863 := ()
noncomputable def tw4381510469713062047 := ()
noncomputable def tw14393718171448925343 := ()
noncomputable def tw14417885227837004991 := ()
noncomputable def tw16446913148795680959 := ()
noncomputable def tw3880867118405822719 := ()
noncomputable def tw15035418422258542911 := ()
noncomputable def tw9114333099845857663 := ()
noncomputable def tw8758324158161630591 := ()
noncomputable def tw16871623187472473471 := ()
noncomputable def tw17889261914703972767 := ()
noncomputable def tw15263674166054382079 := ()
noncomputable def tw4277651752456152607 := ()
noncomputable def tw10170068340998493759 := ()
noncomputable def tw10261356005730403935 := ()
noncomputable def tw10079960370226730655 := ()
noncomputable def tw4932745802714450591 := ()
noncomputable def tw12024539317367501503 := ()
noncomputable def tw3749026756887285471 := ()
noncomputable def tw10519217271611395807 := ()
noncomputable def tw15794997505209512671 := ()
noncomputable def tw533756555076263647 := ()
noncomputable def tw10070411193226618655 := ()
noncomputable def tw8497721794823489343 := ()
noncomputable def tw1971652810694446911 := ()
noncomputable def tw174166394780034911 := ()
noncomputable def tw14631705268626504575 := ()
noncomputable def tw14720509044617813951 := ()
noncomputable def tw3501597964444990463 := ()
noncomputable def tw14509954798642075794 := ()
noncomputable def tw182244880405429049 := ()
end Mine.head
namespace Mine
set_option maxHeartbeats 8000000 in
theorem head : PySem.Challenge.rw_ov0017_01.Holds := by
  w_on
  o_law
  k_head
  (case hw => w_witness2)
  refine join rfl (fun P => ?_) (fun P => ?_) (by decide +kernel)
  · kernel_rfl
  · kernel_rfl
end Mine
theorem PySem.Challenge.cw_ov0017_01_holds : PySem.Challenge.rw_ov0017_01.Holds := by
  exact Mine.head
