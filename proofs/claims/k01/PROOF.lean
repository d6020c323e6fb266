import PyProof.Rows.All
import Wide.All
import OpenK.AllK
import Wide.FinOn
import HandS.ForMost
import HandS.ForExc
import PyProof.P3Statements
import KE.KDictKeyed
import KE.SortData
import HandS.Slots
import HandS.SlotsVar
import HandS.SlotsOwn
import HandS.Lambda
import HandS.Deep
import HandS.TupLe
import HandS.TupAny
import KE.DataCmp
import HandS.Wide
import HandS.IsInst
import HandS.Conv
import HandS.Star
import HandS.WordsExc
import HandS.TupLen
import KE.KDictSum
import KE.KDictWalk
import KE.GoesEnum
import HandS.Zip
import HandS.DictComp
import KE.KDictDisplayH
import HandS.Defaults
import HandS.HeadHook2
import HandS.Head0
import HandS.Head1
import HandS.Head2
import HandS.HeadEnd
import HandS.HeadHook1
import HandS.TupSets
import PySem.Challenge.RW_shelfmove_k01_whole_views
set_option Elab.async false
set_option linter.all false
set_option maxRecDepth 100000
set_option maxHeartbeats 4000000
/-! the abstract machine: values, heap, results -/
namespace Ev
open PySem PySem.Spec PyProof.Rows L2

inductive AV where
  | non | bl (b : Bool) | int (i : Int) | str (x : Str) | tup (xs : List AV) | obj (n : Nat)
instance : Inhabited AV := ⟨.non⟩

inductive AO where
  | lst (xs : List AV)
  | fz (ns : List Int)
  | dct (kvs : List (AV × AV))
  | ins (c : Nat) (fs : List (Option AV))

/-! ### the heap: a tree by binary places -/
inductive Tr where
  | nil
  | node (v : Option AO) (l r : Tr)
def Tr.get : Tr → Nat → Option AO
  | .nil, _ => none
  | .node v l r, n => match n with
    | 0 => v
    | m + 1 => match Nat.beq (m % 2) 0 with
      | true => l.get (m / 2)
      | false => r.get (m / 2)
def Tr.put : Nat → Tr → Nat → AO → Tr
  | 0, t, _, _ => t
  | d + 1, t, n, o =>
    match t with
    | .nil => (match n with
      | 0 => .node (some o) .nil .nil
      | m + 1 => match Nat.beq (m % 2) 0 with
        | true => .node none (Tr.put d .nil (m / 2) o) .nil
        | false => .node none .nil (Tr.put d .nil (m / 2) o))
    | .node v l r => (match n with
      | 0 => .node (some o) l r
      | m + 1 => match Nat.beq (m % 2) 0 with
        | true => .node v (Tr.put d l (m / 2) o) r
        | false => .node v l (Tr.put d r (m / 2) o))
theorem beq_ff {a b : Nat} (h : Nat.beq a b = false) : a ≠ b := Nat.ne_of_beq_eq_false h
theorem beq_tt {a b : Nat} (h : Nat.beq a b = true) : a = b := Nat.eq_of_beq_eq_true h
theorem Tr.get_nil (n : Nat) : Tr.get .nil n = none := rfl
theorem Tr.get_put_same : ∀ (d : Nat) (t : Tr) (n : Nat) (o : AO), n + 1 < 2 ^ d → (Tr.put d t n o).get n = some o
  | 0, _, n, _, h => by simp at h
  | d + 1, t, n, o, h => by
    cases t with
    | nil =>
      cases n with
      | zero => rfl
      | succ m =>
        have hm : m / 2 + 1 < 2 ^ d := by rw [Nat.pow_succ] at h; omega
        show (match Nat.beq (m % 2) 0 with
          | true => Tr.node none (Tr.put d .nil (m / 2) o) .nil
          | false => Tr.node none .nil (Tr.put d .nil (m / 2) o)).get (m + 1) = _
        cases hb : Nat.beq (m % 2) 0 with
        | true => show (match Nat.beq (m % 2) 0 with | true => (Tr.put d .nil (m / 2) o).get (m / 2) | false => Tr.get .nil (m / 2)) = _; rw [hb]; exact Tr.get_put_same d .nil _ o hm
        | false => show (match Nat.beq (m % 2) 0 with | true => Tr.get .nil (m / 2) | false => (Tr.put d .nil (m / 2) o).get (m / 2)) = _; rw [hb]; exact Tr.get_put_same d .nil _ o hm
    | node v l r =>
      cases n with
      | zero => rfl
      | succ m =>
        have hm : m / 2 + 1 < 2 ^ d := by rw [Nat.pow_succ] at h; omega
        show (match Nat.beq (m % 2) 0 with
          | true => Tr.node v (Tr.put d l (m / 2) o) r
          | false => Tr.node v l (Tr.put d r (m / 2) o)).get (m + 1) = _
        cases hb : Nat.beq (m % 2) 0 with
        | true => show (match Nat.beq (m % 2) 0 with | true => (Tr.put d l (m / 2) o).get (m / 2) | false => r.get (m / 2)) = _; rw [hb]; exact Tr.get_put_same d l _ o hm
        | false => show (match Nat.beq (m % 2) 0 with | true => l.get (m / 2) | false => (Tr.put d r (m / 2) o).get (m / 2)) = _; rw [hb]; exact Tr.get_put_same d r _ o hm
theorem Tr.get_put_ne : ∀ (d : Nat) (t : Tr) (n k : Nat) (o : AO), k ≠ n → (Tr.put d t n o).get k = t.get k
  | 0, _, n, _, _, h => rfl
  | d + 1, t, n, k, o, h => by
    cases t with
    | nil =>
      cases n with
      | zero =>
        cases k with
        | zero => exact absurd rfl h
        | succ j => show (match Nat.beq (j % 2) 0 with | true => Tr.get .nil (j / 2) | false => Tr.get .nil (j / 2)) = none; cases Nat.beq (j % 2) 0 <;> rfl
      | succ m =>
        show (match Nat.beq (m % 2) 0 with
          | true => Tr.node none (Tr.put d .nil (m / 2) o) .nil
          | false => Tr.node none .nil (Tr.put d .nil (m / 2) o)).get k = none
        cases hb : Nat.beq (m % 2) 0 with
        | true =>
          cases k with
          | zero => rfl
          | succ j =>
            show (match Nat.beq (j % 2) 0 with | true => (Tr.put d .nil (m / 2) o).get (j / 2) | false => Tr.get .nil (j / 2)) = none
            cases hj : Nat.beq (j % 2) 0 with
            | true =>
              have h1 := beq_tt hb
              have h2 := beq_tt hj
              exact Tr.get_put_ne d .nil _ _ o (by omega)
            | false => rfl
        | false =>
          cases k with
          | zero => rfl
          | succ j =>
            show (match Nat.beq (j % 2) 0 with | true => Tr.get .nil (j / 2) | false => (Tr.put d .nil (m / 2) o).get (j / 2)) = none
            cases hj : Nat.beq (j % 2) 0 with
            | true => rfl
            | false =>
              have h1 := beq_ff hb
              have h2 := beq_ff hj
              exact Tr.get_put_ne d .nil _ _ o (by omega)
    | node v l r =>
      cases n with
      | zero =>
        cases k with
        | zero => exact absurd rfl h
        | succ j => rfl
      | succ m =>
        show (match Nat.beq (m % 2) 0 with
          | true => Tr.node v (Tr.put d l (m / 2) o) r
          | false => Tr.node v l (Tr.put d r (m / 2) o)).get k = _
        cases hb : Nat.beq (m % 2) 0 with
        | true =>
          cases k with
          | zero => rfl
          | succ j =>
            show (match Nat.beq (j % 2) 0 with | true => (Tr.put d l (m / 2) o).get (j / 2) | false => r.get (j / 2)) = (match Nat.beq (j % 2) 0 with | true => l.get (j / 2) | false => r.get (j / 2))
            cases hj : Nat.beq (j % 2) 0 with
            | true =>
              have h1 := beq_tt hb
              have h2 := beq_tt hj
              exact Tr.get_put_ne d l _ _ o (by omega)
            | false => rfl
        | false =>
          cases k with
          | zero => rfl
          | succ j =>
            show (match Nat.beq (j % 2) 0 with | true => l.get (j / 2) | false => (Tr.put d r (m / 2) o).get (j / 2)) = (match Nat.beq (j % 2) 0 with | true => l.get (j / 2) | false => r.get (j / 2))
            cases hj : Nat.beq (j % 2) 0 with
            | true => rfl
            | false =>
              have h1 := beq_ff hb
              have h2 := beq_ff hj
              exact Tr.get_put_ne d r _ _ o (by omega)

/-- the heap: n objects; those below ro are read alone -/
structure AH where
  t : Tr
  n : Nat
  ro : Nat
def AH.get (h : AH) (k : Nat) : Option AO := match Nat.blt k h.n with
  | true => h.t.get k
  | false => none
def top : Nat := 1000000
def AH.push (h : AH) (o : AO) : AH := ⟨Tr.put 24 h.t h.n o, h.n + 1, h.ro⟩
def AH.set (h : AH) (k : Nat) (o : AO) : AH := ⟨Tr.put 24 h.t k o, h.n, h.ro⟩
theorem blt_tt {a b : Nat} : Nat.blt a b = true ↔ a < b := ⟨fun h => Nat.le_of_ble_eq_true h, fun h => Nat.ble_eq_true_of_le h⟩
theorem blt_ff {a b : Nat} : Nat.blt a b = false ↔ b ≤ a := by
  constructor
  · intro h
    apply Nat.le_of_not_lt
    intro q
    rw [blt_tt.mpr q] at h; cases h
  · intro h
    cases e : Nat.blt a b with
    | false => rfl
    | true => exact absurd (blt_tt.mp e) (Nat.not_lt.mpr h)
theorem AH.get_lt {h : AH} {k : Nat} {o : AO} (e : h.get k = some o) : k < h.n := by
  unfold AH.get at e
  cases q : Nat.blt k h.n with
  | true => exact blt_tt.mp q
  | false => rw [q] at e; cases e
theorem AH.get_push_new {h : AH} {o : AO} (hn : h.n < top) : (h.push o).get h.n = some o := by
  unfold AH.get AH.push
  show (match Nat.blt h.n (h.n + 1) with | true => (Tr.put 24 h.t h.n o).get h.n | false => none) = some o
  rw [blt_tt.mpr (Nat.lt_succ_self _)]
  exact Tr.get_put_same 24 _ _ _ (by unfold top at hn; have : (2 : Nat) ^ 24 = 16777216 := by decide
                                     omega)
theorem AH.get_push_old {h : AH} {o : AO} {k : Nat} (hk : k ≠ h.n) : (h.push o).get k = h.get k := by
  unfold AH.get AH.push
  show (match Nat.blt k (h.n + 1) with | true => (Tr.put 24 h.t h.n o).get k | false => none) = (match Nat.blt k h.n with | true => h.t.get k | false => none)
  rw [Tr.get_put_ne 24 _ _ _ _ hk]
  cases e : Nat.blt k h.n with
  | true => rw [blt_tt.mpr (Nat.lt_succ_of_lt (blt_tt.mp e))]
  | false => rw [blt_ff.mpr (by have := blt_ff.mp e; omega)]
theorem AH.get_set_same {h : AH} {o : AO} {k : Nat} (hn : h.n ≤ top) (hk : k < h.n) : (h.set k o).get k = some o := by
  unfold AH.get AH.set
  show (match Nat.blt k h.n with | true => (Tr.put 24 h.t k o).get k | false => none) = some o
  rw [blt_tt.mpr hk]
  exact Tr.get_put_same 24 _ _ _ (by unfold top at hn; have : (2 : Nat) ^ 24 = 16777216 := by decide
                                     omega)
theorem AH.get_set_ne {h : AH} {o : AO} {k j : Nat} (hk : j ≠ k) : (h.set k o).get j = h.get j := by
  unfold AH.get AH.set
  show (match Nat.blt j h.n with | true => (Tr.put 24 h.t k o).get j | false => none) = _
  rw [Tr.get_put_ne 24 _ _ _ _ hk]

/-! ### results -/
/-- an exception: its class, its one field -/
structure AX where
  c : Nat
  f : Option (Str × AV)
inductive R (α : Type) where
  | ok (a : α) (h : AH)
  | ex (x : AX) (h : AH)
  | bad
def R.bind {α β : Type} (r : R α) (k : α → AH → R β) : R β := match r with
  | .ok a h => k a h
  | .ex x h => .ex x h
  | .bad => .bad
end Ev
set_option Elab.async false
set_option linter.all false
set_option maxRecDepth 100000
set_option maxHeartbeats 4000000
/-! the abstract machine: operations, syntax, evaluation -/
namespace Ev
open PySem PySem.Spec PyProof.Rows L2

/-! ### data -/
mutual
def AV.dat : AV → Option PyData
  | .non => some .none
  | .bl b => some (.bool b)
  | .int i => some (.int i)
  | .str x => some (.str x)
  | .tup xs => (AV.dats xs).map .tuple
  | .obj _ => none
def AV.dats : List AV → Option (List PyData)
  | [] => some []
  | x :: xs => match AV.dat x with
    | some d => (AV.dats xs).map (d :: ·)
    | none => none
end
mutual
/-- no object from n on -/
def AV.cln (n : Nat) : AV → Bool
  | .non => true
  | .bl _ => true
  | .int _ => true
  | .str _ => true
  | .tup xs => AV.clns n xs
  | .obj k => Nat.blt k n
def AV.clns (n : Nat) : List AV → Bool
  | [] => true
  | x :: xs => match AV.cln n x with
    | true => AV.clns n xs
    | false => false
end
mutual
def AV.key : AV → Option NestedKey
  | .non => some .none
  | .bl b => some (.num (if b then 1 else 0))
  | .int i => some (.num i)
  | .str x => some (.text x)
  | .tup xs => (AV.keys xs).map .tup
  | .obj _ => none
def AV.keys : List AV → Option (List NestedKey)
  | [] => some []
  | x :: xs => match AV.key x with
    | some d => (AV.keys xs).map (d :: ·)
    | none => none
end
/-- a dict's key: a tuple, not too deep -/
def AV.tkey : AV → Option NestedKey
  | .tup xs => match AV.keys xs with
    | some ks => (match Nat.ble (NestedKey.depth (.tup ks)) 8 with
      | true => some (.tup ks)
      | false => none)
    | none => none
  | _ => none
/-- data, a list's items too -/
def datL (h : AH) (v : AV) : Option PyData := match v with
  | .obj n => (match h.get n with
    | some (.lst xs) => (AV.dats xs).map .list
    | some (.fz ns) => some (.list (ns.map .int))
    | _ => none)
  | v => v.dat
def eqA (h : AH) (x y : AV) : Option Bool := match datL h x, datL h y with
  | some d, some e => (match SeqAt.shaped d && SeqAt.shaped e with
    | true => some (PyData.eqv d e)
    | false => none)
  | _, _ => none
/-! ### dicts -/
def dfind (k : NestedKey) : List (AV × AV) → Option AV
  | [] => none
  | (a, v) :: r => match AV.tkey a with
    | some k' => (match decide (k' = k) with
      | true => some v
      | false => dfind k r)
    | none => none
def dhas (k : NestedKey) : List (AV × AV) → Bool
  | [] => false
  | (a, _) :: r => match AV.tkey a with
    | some k' => (match decide (k' = k) with
      | true => true
      | false => dhas k r)
    | none => false
def dput (k : NestedKey) (kv v : AV) : List (AV × AV) → List (AV × AV)
  | [] => [(kv, v)]
  | (a, u) :: r => match AV.tkey a with
    | some k' => (match decide (k' = k) with
      | true => (a, v) :: r
      | false => (a, u) :: dput k kv v r)
    | none => (a, u) :: r
/-! ### results, small words -/
def rOpt {α : Type} (o : Option α) (h : AH) : R α := match o with
  | some a => .ok a h
  | none => .bad
def lim (n : Nat) : Bool := Nat.ble n 16777216
def alloc (h : AH) (o : AO) : R AV := match Nat.blt h.n top with
  | true => .ok (.obj h.n) (h.push o)
  | false => .bad
def small (i : Int) : Bool := decide (-(2 ^ 64) < i ∧ i < 2 ^ 64)
/-- great factors -/
def wide (i j : Int) : Bool := decide (i.natAbs < 2 ^ 9000 ∧ j.natAbs < 2 ^ 9000)
def binA (op : Operator) (x y : AV) (h : AH) : R AV := match op, x, y with
  | .Add, .int i, .int j => .ok (.int (i + j)) h
  | .Add, .tup xs, .tup ys => (match lim (xs.length + ys.length) with
    | true => .ok (.tup (xs ++ ys)) h
    | false => .bad)
  | .Add, .obj a, .obj b => (match h.get a, h.get b with
    | some (.lst xs), some (.lst ys) => (match lim (xs.length + ys.length) with
      | true => alloc h (.lst (xs ++ ys))
      | false => .bad)
    | _, _ => .bad)
  | .Sub, .int i, .int j => .ok (.int (i - j)) h
  | .Mult, .int i, .int j => (match small i || small j || wide i j with
    | true => .ok (.int (i * j)) h
    | false => .bad)
  | .FloorDiv, .int i, .int j => (match decide (0 < j ∧ j < 1073741824) with
    | true => .ok (.int (i / j)) h
    | false => .bad)
  | .Mod, .int i, .int j => (match decide (0 < j) with
    | true => .ok (.int (i % j)) h
    | false => .bad)
  | .Pow, .int i, .int j => (match decide (0 ≤ j ∧ j ≤ 1000000 ∧ i.natAbs < 2 ^ 64) with
    | true => .ok (.int (i ^ j.toNat)) h
    | false => .bad)
  | _, _, _ => .bad
def itemsIn (h : AH) (v : AV) : Option (List AV) := match v with
  | .tup xs => some xs
  | .obj n => (match h.get n with
    | some (.lst xs) => some xs
    | _ => none)
  | _ => none
def hasA (d : PyData) : List PyData → Bool
  | [] => false
  | e :: r => match PyData.eqv e d with
    | true => true
    | false => hasA d r
def inA (h : AH) (x y : AV) : Option Bool := match y with
  | .tup ys => (match x.dat, AV.dats ys with
    | some d, some ds => (match SeqAt.shaped d && SeqAt.shaped (.tuple ds) with
      | true => some (hasA d ds)
      | false => none)
    | _, _ => none)
  | .obj n => (match h.get n with
    | some (.lst ys) => (match x.dat, AV.dats ys with
      | some d, some ds => (match SeqAt.shaped d && SeqAt.shaped (.list ds) with
        | true => some (hasA d ds)
        | false => none)
      | _, _ => none)
    | some (.dct kvs) => (match AV.tkey x with
      | some k => some (dhas k kvs)
      | none => none)
    | _ => none)
  | _ => none
def cmpA (op : CmpOp) (x y : AV) (h : AH) : R AV := match op with
  | .Eq => rOpt ((eqA h x y).map .bl) h
  | .NotEq => rOpt ((eqA h x y).map fun b => .bl (!b)) h
  | .In => rOpt ((inA h x y).map .bl) h
  | .NotIn => rOpt ((inA h x y).map fun b => .bl (!b)) h
  | .Lt => (match x, y with
    | .int i, .int j => .ok (.bl (decide (i < j))) h
    | .tup xs, .tup ys => (match AV.dats xs, AV.dats ys with
      | some d, some e => (match PySem.W.alike (.tuple d) (.tuple e) && (SeqAt.shaped (.tuple d) && SeqAt.shaped (.tuple e)) with
        | true => .ok (.bl (PySem.W.dataLt (.tuple d) (.tuple e))) h
        | false => .bad)
      | _, _ => .bad)
    | _, _ => .bad)
  | .LtE => (match x, y with
    | .int i, .int j => .ok (.bl (decide (i ≤ j))) h
    | _, _ => .bad)
  | .Gt => (match x, y with
    | .int i, .int j => .ok (.bl (decide (j < i))) h
    | _, _ => .bad)
  | .GtE => (match x, y with
    | .int i, .int j => .ok (.bl (decide (j ≤ i))) h
    | _, _ => .bad)
  | .Is => (match x, y with
    | .non, .non => .ok (.bl true) h
    | .bl a, .bl b => .ok (.bl (a == b)) h
    | _, .non => .ok (.bl false) h
    | _, _ => .bad)
  | .IsNot => (match x, y with
    | .non, .non => .ok (.bl false) h
    | .bl a, .bl b => .ok (.bl (!(a == b))) h
    | _, .non => .ok (.bl true) h
    | _, _ => .bad)
def subA (x y : AV) (h : AH) : R AV := match x, y with
  | .tup xs, .int i => rOpt (atI xs i) h
  | .obj n, .int i => (match h.get n with
    | some (.lst xs) => rOpt (atI xs i) h
    | some (.fz ns) => rOpt ((atI ns i).map .int) h
    | _ => .bad)
  | .obj n, .tup ks => (match h.get n, AV.tkey (.tup ks) with
    | some (.dct kvs), some k => rOpt (dfind k kvs) h
    | _, _ => .bad)
  | _, _ => .bad
end Ev
set_option Elab.async false
set_option linter.all false
set_option maxRecDepth 100000
set_option maxHeartbeats 4000000
/-! the abstract machine: syntax, evaluation -/
namespace Ev
open PySem PySem.Spec PyProof.Rows L2

abbrev Loc' := List (Option AV)
abbrev Fn := List AV → AH → R AV
/-- the defs, the module's constants -/
structure Tab where
  fn : Nat → Fn
  gl : Nat → AV

inductive Bi where
  | abs | int | max2 | min2 | str
  deriving DecidableEq
inductive Bl where
  | all | any | sum | tuple | list | sorted | sset
  deriving DecidableEq
inductive Bm where
  | append | pop | pop0 | extend
  deriving DecidableEq
/-- built-in types -/
inductive Ty where
  | nt | bool | int | str | tuple | list | dict
  deriving DecidableEq
def Ty.eq : Ty → Ty → Bool
  | .nt, .nt => true | .bool, .bool => true | .int, .int => true | .str, .str => true | .tuple, .tuple => true | .list, .list => true | .dict, .dict => true
  | _, _ => false
def Ty.sub : Ty → Ty → Bool
  | .bool, .int => true
  | a, b => Ty.eq a b
def Ty.name : Ty → String
  | .nt => "NoneType" | .bool => "bool" | .int => "int" | .str => "str" | .tuple => "tuple" | .list => "list" | .dict => "dict"
/-- the classes that isinstance asks for -/
inductive Cl where
  | ty (n : Ty)
  | tys (n m : Ty)
  | own (c : Nat) (cs : List Nat)

mutual
inductive E where
  | var (i : Nat)
  | non
  | bl (b : Bool)
  | int (i : Int)
  | str (x : Str)
  | gl (i : Nat)
  | tup (es : Es)
  | mk (es : Es)
  | lc (own : List (Str × Nat)) (t : T) (it : It) (ifs : O) (e : E)
  | lc2 (own : List (Str × Nat)) (vs1 : List Nat) (t : T) (it : It) (t1 : T) (it1 : It) (e : E)
  | dct0
  | dct1 (k v : E)
  | dc (own : List (Str × Nat)) (t : T) (it : It) (k v : E)
  | bin (op : Operator) (a b : E)
  | neg (a : E)
  | cmp (op : CmpOp) (a b : E)
  | oeq (ng : Bool) (alts : List (Nat × Nat)) (a b : E)
  | chain (op op' : CmpOp) (a b c : E)
  | and (a b : E)
  | or (a b : E)
  | not (a : E)
  | ite (c a b : E)
  | sub (a i : E)
  | sl (a : E) (lo hi : O)
  | att (a : E) (alts : List (Nat × Nat))
  | prop (a : E) (alts : List (Nat × Nat))
  | call (k : Nat) (es : Es)
  | meth (o : E) (alts : List (Nat × Nat)) (es : Es)
  | new (c k : Nat) (es : Es)
  | len (a : E)
  | lenO (a : E) (alts : List (Nat × Nat))
  | bi (b : Bi) (es : Es)
  | b1 (b : Bl) (a : E)
  | bm (m : Bm) (o : E) (es : Es)
  | isi (a : E) (c : Cl)
inductive Es where
  | nil
  | cons (e : E) (r : Es)
  | star (e : E) (r : Es)
inductive O where
  | none
  | some (e : E)
inductive It where
  | of (e : E)
  | key (i : Nat)
  | enum (e : E)
  | zip (a b : E)
  | rng (a : E)
inductive T where
  | nm (i : Nat)
  | tp (ts : Ts)
inductive Ts where
  | nil
  | cons (t : T) (r : Ts)
end
mutual
inductive S where
  | expr (e : E)
  | asg (t : T) (e : E)
  | par (i j : Nat) (a b : E)
  | att (o : E) (alts : List (Nat × Nat)) (e : E)
  | put (d k v : E)
  | ite (c : E) (a b : Ss)
  | whl (c : E) (b : Ss)
  | for_ (t : T) (it : It) (b : Ss)
  | ret (e : E)
  | pass
  | never
inductive Ss where
  | nil
  | cons (s : S) (r : Ss)
end

/-! ### what is walked -/
inductive Src where
  | tp (xs : List AV)
  | ob (n : Nat)
  | ent (xs : List AV)
  | enl (n : Nat)
  | zpt (xs ys : List AV)
  | zpl (n m : Nat)
  | rg (n : Nat)
  | dk (n : Nat) (ks : List AV)
def Src.at : Src → AH → Nat → Option (Option AV)
  | .tp xs, _, i => some xs[i]?
  | .ob n, h, i => (match h.get n with
    | some (.lst xs) => some xs[i]?
    | _ => none)
  | .ent xs, h, i => (match xs[i]? with
    | some x => some (some (.tup [.int i, x]))
    | none => some none)
  | .enl n, h, i => (match h.get n with
    | some (.lst xs) => (match xs[i]? with
      | some x => some (some (.tup [.int i, x]))
      | none => some none)
    | _ => none)
  | .zpt xs ys, h, i => (match xs[i]?, ys[i]? with
    | some x, some y => some (some (.tup [x, y]))
    | _, _ => some none)
  | .zpl n m, h, i => (match h.get n, h.get m with
    | some (.lst xs), some (.lst ys) => (match xs[i]?, ys[i]? with
      | some x, some y => some (some (.tup [x, y]))
      | _, _ => some none)
    | _, _ => none)
  | .rg n, _, i => (match Nat.blt i n with
    | true => some (some (.int i))
    | false => some none)
  | .dk _ ks, _, i => some ks[i]?
def srcOf (v : AV) (h : AH) : Option Src := match v with
  | .tup xs => some (.tp xs)
  | .obj n => (match h.get n with
    | some (.lst _) => some (.ob n)
    | _ => none)
  | _ => none
/-- .. or a dict's keys -/
def srcK (v : AV) (h : AH) : Option Src := match v with
  | .obj n => (match h.get n with
    | some (.dct kvs) => some (.dk n (kvs.map (·.1)))
    | _ => srcOf v h)
  | v => srcOf v h
/-- while a dict is walked nothing that stood is written -/
def lockH (s : Src) (h : AH) : AH := match s with
  | .dk _ _ => ⟨h.t, h.n, h.n⟩
  | _ => h
def freeH (ro : Nat) (h : AH) : AH := ⟨h.t, h.n, ro⟩
def enOf (v : AV) (h : AH) : Option Src := match v with
  | .tup xs => some (.ent xs)
  | .obj n => (match h.get n with
    | some (.lst _) => some (.enl n)
    | _ => none)
  | _ => none
def zpOf (v w : AV) (h : AH) : Option Src := match v, w with
  | .tup xs, .tup ys => some (.zpt xs ys)
  | .obj n, .obj m => (match h.get n, h.get m with
    | some (.lst _), some (.lst _) => some (.zpl n m)
    | _, _ => none)
  | _, _ => none
def turns : Nat := 1000000
/-- a turn gives something, or nothing (its tests) -/
def compLoop (s : Src) (turn : AV → AH → R (List AV)) : Nat → Nat → AH → R (List AV)
  | 0, _, _ => .bad
  | m + 1, i, h => match s.at h i with
    | some (some x) => (match turn x h with
      | .ok ys h1 => (match compLoop s turn m (i + 1) h1 with
        | .ok r h2 => .ok (ys ++ r) h2
        | _ => .bad)
      | _ => .bad)
    | some none => .ok [] h
    | none => .bad
inductive RS where
  | nx (l : Loc') (h : AH)
  | rt (v : AV) (h : AH)
  | ex (x : AX) (h : AH)
  | bad
def RS.bind (r : RS) (k : Loc' → AH → RS) : RS := match r with
  | .nx l h => k l h
  | .rt v h => .rt v h
  | .ex x h => .ex x h
  | .bad => .bad
def R.toS {α : Type} (r : R α) (k : α → AH → RS) : RS := match r with
  | .ok a h => k a h
  | .ex x h => .ex x h
  | .bad => .bad
def forLoop (s : Src) (turn : AV → Loc' → AH → RS) : Nat → Nat → Loc' → AH → RS
  | 0, _, _, _ => .bad
  | m + 1, i, l, h => match s.at h i with
    | some (some x) => (turn x l h).bind fun l1 h1 => forLoop s turn m (i + 1) l1 h1
    | some none => .nx l h
    | none => .bad
def whileLoop (c : Loc' → AH → R AV) (b : Loc' → AH → RS) : Nat → Loc' → AH → RS
  | 0, _, _ => .bad
  | m + 1, l, h => (c l h).toS fun v h1 => match v with
    | .bl true => (b l h1).bind fun l2 h2 => whileLoop c b m l2 h2
    | .bl false => .nx l h1
    | _ => .bad

/-! ### targets -/
mutual
def asgT : T → AV → Loc' → Option Loc'
  | .nm i, v, l => some (l.set i (some v))
  | .tp ts, v, l => (match v with
    | .tup xs => asgTs ts xs l
    | _ => none)
def asgTs : Ts → List AV → Loc' → Option Loc'
  | .nil, [], l => some l
  | .cons t r, x :: xs, l => (match asgT t x l with
    | some l1 => asgTs r xs l1
    | none => none)
  | .nil, _ :: _, _ => none
  | .cons _ _, [], _ => none
end
def wipeL (l : Loc') : List Nat → Loc'
  | [] => l
  | v :: vs => (wipeL l vs).set v none
def cutA {α : Type} (xs : List α) (lo hi : Option Int) : List α := (xs.drop (HT.sIx xs.length 0 lo)).take (HT.sIx xs.length xs.length hi - HT.sIx xs.length 0 lo)
def slA (x : AV) (lo hi : Option Int) (h : AH) : R AV := match x with
  | .tup xs => .ok (.tup (cutA xs lo hi)) h
  | .obj n => (match h.get n with
    | some (.lst xs) => alloc h (.lst (cutA xs lo hi))
    | some (.fz ns) => alloc h (.lst ((cutA ns lo hi).map .int))
    | _ => .bad)
  | _ => .bad
def insOf (h : AH) (v : AV) : Option (Nat × List (Option AV)) := match v with
  | .obj n => (match h.get n with
    | some (.ins c fs) => some (c, fs)
    | _ => none)
  | _ => none
def altOf {α : Type} (c : Nat) : List (Nat × α) → Option α
  | [] => none
  | (k, a) :: r => match Nat.beq k c with
    | true => some a
    | false => altOf c r
def attA (v : AV) (alts : List (Nat × Nat)) (h : AH) : R AV := match insOf h v with
  | some (c, fs) => (match altOf c alts with
    | some i => rOpt (fs[i]?.join) h
    | none => .bad)
  | none => .bad
def putS' (i : Nat) (v : AV) (vs : List (Option AV)) : List (Option AV) := (vs ++ List.replicate (i + 1 - vs.length) Option.none).set i (some v)
def setA (v : AV) (alts : List (Nat × Nat)) (y : AV) (h : AH) : R AV := match v with
  | .obj n => (match h.get n with
    | some (.ins c fs) => (match altOf c alts with
      | some i => (match Nat.ble h.ro n with
        | true => .ok .non (h.set n (.ins c (putS' i y fs)))
        | false => .bad)
      | none => .bad)
    | _ => .bad)
  | _ => .bad
def lenA (v : AV) (h : AH) : R AV := match v with
  | .tup xs => .ok (.int xs.length) h
  | .str x => (match lim x.length with
    | true => .ok (.int x.length) h
    | false => .bad)
  | .obj n => (match h.get n with
    | some (.lst xs) => .ok (.int xs.length) h
    | some (.fz ns) => .ok (.int ns.length) h
    | some (.dct kvs) => .ok (.int kvs.length) h
    | _ => .bad)
  | _ => .bad
def biA (b : Bi) (vs : List AV) (h : AH) : R AV := match b, vs with
  | .abs, [.int i] => .ok (.int (if i < 0 then -i else i)) h
  | .int, [.int i] => .ok (.int i) h
  | .max2, [.int i, .int j] => .ok (.int (if j > i then j else i)) h
  | .min2, [.int i, .int j] => .ok (.int (if j < i then j else i)) h
  | _, _ => .bad
def blsOf : List AV → Option (List Bool)
  | [] => some []
  | .bl b :: r => (blsOf r).map (b :: ·)
  | _ :: _ => none
def intsOf : List AV → Option (List Int)
  | [] => some []
  | .int b :: r => (intsOf r).map (b :: ·)
  | _ :: _ => none
/-- put in order, the first of equals first -/
def insA (x : AV × PyData) : List (AV × PyData) → List (AV × PyData)
  | [] => [x]
  | y :: r => match PySem.W.dataLt y.2 x.2 with
    | true => y :: insA x r
    | false => x :: y :: r
def sortP : List (AV × PyData) → List (AV × PyData)
  | [] => []
  | x :: r => insA x (sortP r)
def allAlike : List PyData → Bool
  | [] => true
  | d :: r => r.all (fun e => PySem.W.alike d e && PySem.W.alike e d) && allAlike r
def tupsOk : List PyData → Bool
  | [] => true
  | .tuple (_ :: _) :: r => tupsOk r
  | _ :: _ => false
def sortA (xs : List AV) : Option (List AV) := match AV.dats xs with
  | some ds => (match allAlike ds && (ds.all fun d => PySem.W.alike d d) && tupsOk ds && (ds.all fun d => Nat.ble d.depth 50) with
    | true => some ((sortP (xs.zip ds)).map (·.1))
    | false => none)
  | none => none
/-- the first of each key -/
def dedup (ks : List NestedKey) : List AV → Option (List AV)
  | [] => some []
  | x :: r => match AV.tkey x with
    | some k => (match ks.any fun k' => decide (k' = k) with
      | true => dedup ks r
      | false => (dedup (k :: ks) r).map (x :: ·))
    | none => none
def b1A (b : Bl) (a : AV) (h : AH) : R AV := match a with
  | .tup xs => (match b with
    | .tuple => .ok (.tup xs) h
    | .list => alloc h (.lst xs)
    | _ => .bad)
  | .obj n => (match h.get n with
    | some (.lst xs) => (match b with
      | .all => rOpt ((blsOf xs).map fun bs => .bl (bs.all id)) h
      | .any => rOpt ((blsOf xs).map fun bs => .bl (bs.any id)) h
      | .sum => rOpt ((intsOf xs).map fun ns => .int ns.sum) h
      | .tuple => .ok (.tup xs) h
      | .list => alloc h (.lst xs)
      | .sorted => (match sortA xs with
        | some ys => alloc h (.lst ys)
        | none => .bad)
      | .sset => (match dedup [] xs with
        | some zs => (match sortA zs with
          | some ys => alloc h (.lst ys)
          | none => .bad)
        | none => .bad))
    | some (.fz ns) => (match b with
      | .sum => .ok (.int ns.sum) h
      | .list => alloc h (.lst (ns.map .int))
      | _ => .bad)
    | some (.dct kvs) => (match b with
      | .list => alloc h (.lst (kvs.map (·.1)))
      | .sorted => (match sortA (kvs.map (·.1)) with
        | some ys => alloc h (.lst ys)
        | none => .bad)
      | _ => .bad)
    | _ => .bad)
  | _ => .bad
def isLst (v : AV) (h : AH) : Bool := match v with
  | .obj n => (match h.get n with
    | some (.lst _) => true
    | _ => false)
  | _ => false
def bmA (m : Bm) (o : AV) (vs : List AV) (h : AH) : R AV := match o with
  | .obj n => (match h.get n with
    | some (.lst xs) => (match Nat.ble h.ro n with
      | true => (match m, vs with
        | .append, [y] => (match Nat.blt xs.length 16777216 with
          | true => .ok .non (h.set n (.lst (xs ++ [y])))
          | false => .bad)
        | .pop, [] => (match xs.getLast? with
          | some y => .ok y (h.set n (.lst xs.dropLast))
          | none => .bad)
        | .pop0, [.int 0] => (match xs with
          | y :: r => .ok y (h.set n (.lst r))
          | [] => .bad)
        | .extend, [.obj m] => (match Nat.beq n m with
          | true => .bad
          | false => (match h.get m with
            | some (.lst ys) => (match lim (xs.length + ys.length) with
              | true => .ok .non (h.set n (.lst (xs ++ ys)))
              | false => .bad)
            | _ => .bad))
        | _, _ => .bad)
      | false => .bad)
    | _ => .bad)
  | _ => .bad
def tyIs (v : AV) (h : AH) : Option Ty := match v with
  | .non => some .nt
  | .bl _ => some .bool
  | .int _ => some .int
  | .str _ => some .str
  | .tup _ => some .tuple
  | .obj k => (match h.get k with
    | some (.lst _) => some .list
    | some (.fz _) => some .list
    | some (.dct _) => some .dict
    | _ => none)
def isiA (v : AV) (c : Cl) (h : AH) : Option Bool := match c with
  | .ty n => (tyIs v h).map fun t => Ty.sub t n
  | .tys n m => (tyIs v h).map fun t => Ty.sub t n || Ty.sub t m
  | .own c cs => (match v with
    | .obj k => (match h.get k with
      | some (.ins c' _) => (match cs.any (Nat.beq c') with
        | true => some (Nat.beq c' c)
        | false => none)
      | _ => (tyIs v h).map fun _ => false)
    | _ => some false)
def putD (d k v : AV) (h : AH) : R AV := match d with
  | .obj n => (match h.get n with
    | some (.dct kvs) => (match AV.tkey k with
      | some q => (match Nat.ble h.ro n && Nat.blt kvs.length 16777216 with
        | true => .ok .non (h.set n (.dct (dput q k v kvs)))
        | false => .bad)
      | none => .bad)
    | _ => .bad)
  | _ => .bad
/-- a list of keys and values, put one behind another -/
def dictOfL : List AV → List (AV × AV) → Option (List (AV × AV))
  | [], acc => some acc
  | .tup [k, v] :: r, acc => (match AV.tkey k with
    | some q => dictOfL r (dput q k v acc)
    | none => none)
  | _ :: _, _ => none
/-- no exception -/
def R.nox {α : Type} (r : R α) : R α := match r with
  | .ex _ _ => .bad
  | r => r
def asB (r : R AV) (k : Bool → AH → R AV) : R AV := r.bind fun v h => match v with
  | .bl b => k b h
  | _ => .bad
section
variable (τ : Tab)
mutual
def evE : E → Loc' → AH → R AV
  | .var i, l, h => rOpt (l[i]?.join) h
  | .non, _, h => .ok .non h
  | .bl b, _, h => .ok (.bl b) h
  | .int i, _, h => .ok (.int i) h
  | .str x, _, h => .ok (.str x) h
  | .gl i, _, h => .ok (τ.gl i) h
  | .tup es, l, h => (evEs es l h).bind fun vs h1 => (match lim vs.length with
    | true => .ok (.tup vs) h1
    | false => .bad)
  | .mk es, l, h => (evEs es l h).bind fun vs h1 => (match lim vs.length with
    | true => alloc h1 (.lst vs)
    | false => .bad)
  | .lc own t it ifs e, l, h => (evIt it l h).bind fun s h1 => (compLoop s (fun x h2 => match asgT t x (wipeL l (own.map (·.2))) with
    | some l2 => (match ifs with
      | .none => (evE e l2 h2).bind fun v h4 => .ok [v] h4
      | .some c => (evE c l2 h2).bind fun b h3 => (match b with
        | .bl true => (evE e l2 h3).bind fun v h4 => .ok [v] h4
        | .bl false => .ok [] h3
        | _ => .bad))
    | none => .bad) turns 0 (lockH s h1)).bind fun xs h5 => (match lim xs.length with
      | true => alloc (freeH h1.ro h5) (.lst xs)
      | false => .bad)
  | .lc2 own vs1 t it t1 it1 e, l, h => (evIt it l h).bind fun s h1 => (compLoop s (fun x h2 => match asgT t x (wipeL l (own.map (·.2))) with
    | some l2 => (evIt it1 l2 h2).bind fun s1 h3 => compLoop s1 (fun y h4 => match asgT t1 y (wipeL l2 vs1) with
      | some l3 => (evE e l3 h4).bind fun v h5 => .ok [v] h5
      | none => .bad) turns 0 h3
    | none => .bad) turns 0 (lockH s h1)).bind fun xs h5 => (match lim xs.length with
      | true => alloc (freeH h1.ro h5) (.lst xs)
      | false => .bad)
  | .dct0, _, h => alloc h (.dct [])
  | .dct1 k v, l, h => (evE k l h).bind fun a h1 => (evE v l h1).bind fun b h2 => (match AV.tkey a with
    | some _ => alloc h2 (.dct [(a, b)])
    | none => .bad)
  | .dc own t it k v, l, h => (evIt it l h).bind fun s h1 => (compLoop s (fun x h2 => match asgT t x (wipeL l (own.map (·.2))) with
    | some l2 => (evE k l2 h2).bind fun a h3 => (evE v l2 h3).bind fun b h4 => .ok [.tup [a, b]] h4
    | none => .bad) turns 0 (lockH s h1)).bind fun ps h5 => (match dictOfL ps [], lim ps.length with
      | some d, true => alloc (freeH h1.ro h5) (.dct d)
      | _, _ => .bad)
  | .bin op a b, l, h => (evE a l h).bind fun x h1 => (evE b l h1).bind fun y h2 => binA op x y h2
  | .neg a, l, h => (evE a l h).bind fun x h1 => (match x with
    | .int i => .ok (.int (-i)) h1
    | _ => .bad)
  | .cmp op a b, l, h => (evE a l h).bind fun x h1 => (evE b l h1).bind fun y h2 => cmpA op x y h2
  | .oeq ng alts a b, l, h => (evE a l h).bind fun x h1 => (evE b l h1).bind fun y h2 => (match insOf h2 x, insOf h2 y with
    | some (c, _), some (c', _) => (match Nat.beq c c' with
      | true => (match altOf c alts with
        | some k => asB (τ.fn k [x, y] h2) fun r h3 => .ok (.bl (if ng then !r else r)) h3
        | none => .bad)
      | false => .bad)
    | _, _ => .bad)
  | .chain op op' a b c, l, h => (evE a l h).bind fun x h1 => (evE b l h1).bind fun y h2 => asB (cmpA op x y h2) fun r h3 => (match r with
    | true => (evE c l h3).bind fun z h4 => cmpA op' y z h4
    | false => .ok (.bl false) h3)
  | .and a b, l, h => asB (evE a l h) fun r h1 => (match r with
    | true => evE b l h1
    | false => .ok (.bl false) h1)
  | .or a b, l, h => asB (evE a l h) fun r h1 => (match r with
    | true => .ok (.bl true) h1
    | false => evE b l h1)
  | .not a, l, h => asB (evE a l h) fun r h1 => .ok (.bl (!r)) h1
  | .ite c a b, l, h => asB (evE c l h) fun r h1 => (match r with
    | true => evE a l h1
    | false => evE b l h1)
  | .sub a i, l, h => (evE a l h).bind fun x h1 => (evE i l h1).bind fun y h2 => subA x y h2
  | .sl a lo hi, l, h => (evE a l h).bind fun x h1 => (evO lo l h1).bind fun p h2 => (evO hi l h2).bind fun q h3 => slA x p q h3
  | .att a alts, l, h => (evE a l h).bind fun x h1 => attA x alts h1
  | .prop a alts, l, h => (evE a l h).bind fun x h1 => (match insOf h1 x with
    | some (c, _) => (match altOf c alts with
      | some k => (τ.fn k [x] h1).nox
      | none => .bad)
    | none => .bad)
  | .call k es, l, h => (evEs es l h).bind fun vs h1 => τ.fn k vs h1
  | .meth o alts es, l, h => (evE o l h).bind fun x h1 => (match insOf h1 x with
    | some (c, _) => (match altOf c alts with
      | some k => (evEs es l h1).bind fun vs h2 => τ.fn k (x :: vs) h2
      | none => .bad)
    | none => .bad)
  | .new c k es, l, h => (evEs es l h).bind fun vs h1 => (alloc h1 (.ins c [])).bind fun o h2 => (τ.fn k (o :: vs) h2).bind fun r h3 => (match r with
    | .non => .ok o h3
    | _ => .bad)
  | .len a, l, h => (evE a l h).bind fun x h1 => lenA x h1
  | .lenO a alts, l, h => (evE a l h).bind fun x h1 => (match insOf h1 x with
    | some (c, _) => (match altOf c alts with
      | some k => (τ.fn k [x] h1).bind fun n h2 => (match n with
        | .int i => (match decide (0 ≤ i ∧ i < 1000000) with
          | true => .ok (.int i) h2
          | false => .bad)
        | _ => .bad)
      | none => .bad)
    | none => .bad)
  | .bi b es, l, h => (evEs es l h).bind fun vs h1 => biA b vs h1
  | .b1 b a, l, h => (evE a l h).bind fun x h1 => b1A b x h1
  | .bm m o es, l, h => (evE o l h).bind fun x h1 => (match isLst x h1 with
    | true => (evEs es l h1).bind fun vs h2 => bmA m x vs h2
    | false => .bad)
  | .isi a c, l, h => (evE a l h).bind fun x h1 => rOpt ((isiA x c h1).map .bl) h1
def evEs : Es → Loc' → AH → R (List AV)
  | .nil, _, h => .ok [] h
  | .cons e r, l, h => (evE e l h).bind fun x h1 => (evEs r l h1).bind fun xs h2 => .ok (x :: xs) h2
  | .star e r, l, h => (evE e l h).bind fun x h1 => (match itemsIn h1 x with
    | some ys => (evEs r l h1).bind fun xs h2 => .ok (ys ++ xs) h2
    | none => .bad)
def evO : O → Loc' → AH → R (Option Int)
  | .none, _, h => .ok none h
  | .some e, l, h => (evE e l h).bind fun x h1 => (match x with
    | .int i => .ok (some i) h1
    | _ => .bad)
def evIt : It → Loc' → AH → R Src
  | .of e, l, h => (evE e l h).bind fun x h1 => rOpt (srcOf x h1) h1
  | .key i, l, h => (match l[i]?.join with
    | some x => rOpt (srcK x h) h
    | none => .bad)
  | .enum e, l, h => (evE e l h).bind fun x h1 => rOpt (enOf x h1) h1
  | .zip a b, l, h => (evE a l h).bind fun x h1 => (evE b l h1).bind fun y h2 => rOpt (zpOf x y h2) h2
  | .rng a, l, h => (evE a l h).bind fun x h1 => (match x with
    | .int i => (match decide (-(2 ^ 62) ≤ i ∧ i < 2 ^ 62) with
      | true => .ok (.rg i.toNat) h1
      | false => .bad)
    | _ => .bad)
end
mutual
def evS : S → Loc' → AH → RS
  | .expr e, l, h => (evE τ e l h).toS fun _ h1 => .nx l h1
  | .asg t e, l, h => (evE τ e l h).toS fun v h1 => (match asgT t v l with
    | some l1 => .nx l1 h1
    | none => .bad)
  | .par i j a b, l, h => (evE τ a l h).toS fun v h1 => (evE τ b l h1).toS fun u h2 => .nx ((l.set i (some v)).set j (some u)) h2
  | .att o alts e, l, h => (evE τ e l h).toS fun v h1 => (evE τ o l h1).toS fun x h2 => (setA x alts v h2).toS fun _ h3 => .nx l h3
  | .put d k e, l, h => (evE τ e l h).toS fun v h1 => (evE τ d l h1).toS fun x h2 => (evE τ k l h2).toS fun y h3 => (putD x y v h3).toS fun _ h4 => .nx l h4
  | .ite c a b, l, h => (evE τ c l h).toS fun v h1 => (match v with
    | .bl true => evSs a l h1
    | .bl false => evSs b l h1
    | _ => .bad)
  | .whl c b, l, h => whileLoop (evE τ c) (evSs b) turns l h
  | .for_ t it b, l, h => (evIt τ it l h).toS fun s h1 => forLoop s (fun x l h => match asgT t x l with
    | some l1 => evSs b l1 h
    | none => .bad) turns 0 l h1
  | .ret e, l, h => (evE τ e l h).toS fun v h1 => .rt v h1
  | .pass, l, h => .nx l h
  | .never, _, _ => .bad
def evSs : Ss → Loc' → AH → RS
  | .nil, l, h => .nx l h
  | .cons s r, l, h => (evS s l h).bind fun l1 h1 => evSs r l1 h1
end
end
/-- a def of so many names -/
def fnA (τ : Tab) (n : Nat) (body : Ss) : Fn := fun args h => match evSs τ body (args.map some ++ List.replicate (n - args.length) none) h with
  | .nx _ h1 => .ok .non h1
  | .rt v h1 => .ok v h1
  | .ex x h1 => .ex x h1
  | .bad => .bad
example (τ : Tab) (h : AH) : evE τ (.bin .Add (.int 2) (.int 3)) [] h = .ok (.int 5) h := rfl

end Ev
set_option Elab.async false
set_option linter.all false
set_option maxRecDepth 100000
set_option maxHeartbeats 4000000
/-! the abstract machine and the layer: how they stand to each other -/
namespace Ev
open PySem PySem.Spec PyProof.Rows L2

abbrev Mu := Nat → Option Addr

mutual
inductive Den (K : PySem.W.Frag) (μ : Mu) (H : Hp) : AV → V → Prop
  | non : Den K μ H .non .non
  | bl (b : Bool) : Den K μ H (.bl b) (.bl b)
  | int (i : Int) : Den K μ H (.int i) (.int i)
  | str (x : Str) : Den K μ H (.str x) (.str x)
  | tup {a : Addr} {vs : List V} {xs : List AV} : SqT K H a vs → DenL K μ H xs vs → Den K μ H (.tup xs) (.ref a)
  | obj {n : Nat} {a : Addr} : μ n = some a → Den K μ H (.obj n) (.ref a)
inductive DenL (K : PySem.W.Frag) (μ : Mu) (H : Hp) : List AV → List V → Prop
  | nil : DenL K μ H [] []
  | cons {x : AV} {v : V} {xs : List AV} {vs : List V} : Den K μ H x v → DenL K μ H xs vs → DenL K μ H (x :: xs) (v :: vs)
end
section
variable {K : PySem.W.Frag} {μ μ' : Mu} {H H' : Hp}
theorem DenL.length : ∀ {xs : List AV} {vs : List V}, DenL K μ H xs vs → xs.length = vs.length
  | _, _, .nil => rfl
  | _, _, .cons _ r => congrArg Nat.succ (DenL.length r)
theorem DenL.get : ∀ {xs : List AV} {vs : List V} {i : Nat} {x : AV}, DenL K μ H xs vs → xs[i]? = some x → ∃ v, vs[i]? = some v ∧ Den K μ H x v
  | _, _, _, _, .nil, e => by simp at e
  | _, _, 0, _, .cons d _, e => by simp at e; subst e; exact ⟨_, rfl, d⟩
  | _, _, i + 1, x, .cons _ r, e => by
    obtain ⟨v, h1, h2⟩ := DenL.get (i := i) (x := x) r (by simpa using e)
    exact ⟨v, by simpa using h1, h2⟩
theorem DenL.append : ∀ {xs ys : List AV} {vs ws : List V}, DenL K μ H xs vs → DenL K μ H ys ws → DenL K μ H (xs ++ ys) (vs ++ ws)
  | _, _, _, _, .nil, q => q
  | _, _, _, _, .cons d r, q => .cons d (DenL.append r q)
theorem DenL.drop : ∀ {xs : List AV} {vs : List V} (n : Nat), DenL K μ H xs vs → DenL K μ H (xs.drop n) (vs.drop n)
  | _, _, 0, r => r
  | _, _, _ + 1, .nil => .nil
  | _, _, n + 1, .cons _ r => DenL.drop n r
theorem DenL.take : ∀ {xs : List AV} {vs : List V} (n : Nat), DenL K μ H xs vs → DenL K μ H (xs.take n) (vs.take n)
  | _, _, 0, _ => .nil
  | _, _, _ + 1, .nil => .nil
  | _, _, n + 1, .cons d r => .cons d (DenL.take n r)
theorem DenL.mem : ∀ {xs : List AV} {vs : List V} {v : V}, DenL K μ H xs vs → v ∈ vs → ∃ x, x ∈ xs ∧ Den K μ H x v
  | _, _, _, .nil, e => by cases e
  | _, _, v, .cons d r, e => by
    rcases List.mem_cons.mp e with e | e
    · subst e; exact ⟨_, List.mem_cons_self, d⟩
    · obtain ⟨x, h1, h2⟩ := DenL.mem r e
      exact ⟨x, List.mem_cons_of_mem _ h1, h2⟩
/-! what is meant by a value stays meant -/
mutual
theorem Den.mono (e : ∀ n a, μ n = some a → μ' n = some a) (t : ∀ a xs, SqT K H a xs → SqT K H' a xs) : ∀ {x : AV} {v : V}, Den K μ H x v → Den K μ' H' x v
  | _, _, .non => .non
  | _, _, .bl b => .bl b
  | _, _, .int i => .int i
  | _, _, .str x => .str x
  | _, _, .tup s r => .tup (t _ _ s) (DenL.mono e t r)
  | _, _, .obj q => .obj (e _ _ q)
theorem DenL.mono (e : ∀ n a, μ n = some a → μ' n = some a) (t : ∀ a xs, SqT K H a xs → SqT K H' a xs) : ∀ {xs : List AV} {vs : List V}, DenL K μ H xs vs → DenL K μ' H' xs vs
  | _, _, .nil => .nil
  | _, _, .cons d r => .cons (Den.mono e t d) (DenL.mono e t r)
end
/-! a clean value is meant where the younger objects are forgotten -/
mutual
theorem Den.clean {n : Nat} (e : ∀ k a, k < n → μ k = some a → μ' k = some a) : ∀ {x : AV} {v : V}, Den K μ H x v → AV.cln n x = true → Den K μ' H x v
  | _, _, .non, _ => .non
  | _, _, .bl b, _ => .bl b
  | _, _, .int i, _ => .int i
  | _, _, .str x, _ => .str x
  | _, _, .tup s r, c => .tup s (DenL.clean e r (by unfold AV.cln at c; exact c))
  | _, _, .obj q, c => .obj (e _ _ (by unfold AV.cln at c; exact blt_tt.mp c) q)
theorem DenL.clean {n : Nat} (e : ∀ k a, k < n → μ k = some a → μ' k = some a) : ∀ {xs : List AV} {vs : List V}, DenL K μ H xs vs → AV.clns n xs = true → DenL K μ' H xs vs
  | _, _, .nil, _ => .nil
  | _, _, @DenL.cons _ _ _ x v xs vs d r, c => by
    have c' : (match AV.cln n x with | true => AV.clns n xs | false => false) = true := by unfold AV.clns at c; exact c
    cases q : AV.cln n x with
    | false => rw [q] at c'; cases c'
    | true => rw [q] at c'; exact .cons (Den.clean e d q) (DenL.clean e r c')
end
end

/-! ### objects -/
/-- a dict with tuple keys, told by its entries -/
def DO (P : Program) (w : World) (a : Addr) (xs : List (NestedKey × Addr × Value)) : HO := .ext fun h => ∃ o es ep, h.get? a = some o ∧ o.ExactDict ∧ o.data = .dict es ep ∧ es.toList = xs.map (entryOfKey (nestedKind P w)) ∧ (xs.map (·.1)).Nodup
def RelKv (K : PySem.W.Frag) (μ : Mu) (H : Hp) (p : AV × AV) (x : NestedKey × Addr × Value) : Prop := AV.tkey p.1 = some x.1 ∧ Den K μ H p.1 (.ref x.2.1) ∧ ∃ w, RelV w x.2.2 ∧ Den K μ H p.2 w
/-- the classes' places -/
structure Ca where
  at_ : Nat → Addr
  T : List (Addr × Str)
instance : CoeFun Ca (fun _ => Nat → Addr) := ⟨Ca.at_⟩
def RelO (P : Program) (w : World) (K : PySem.W.Frag) (ca : Ca) (rw : Bool) (μ : Mu) (H : Hp) (a : Addr) : AO → Prop
  | .lst xs => xs.length ≤ sizeLine ∧ ∃ vs, H a = some (.lst vs) ∧ DenL K μ H xs vs
  | .fz ns => ∃ o, H a = some (.frz o (.lst (ns.map V.int)))
  | .dct kvs => (a == sysModules) = false ∧ kvs.length ≤ sizeLine ∧ ∃ xs, (H a = some (DO P w a xs) ∨ (rw = false ∧ ∃ o, H a = some (.frz o (DO P w a xs)))) ∧ Paired (RelKv K μ H) kvs xs
  | .ins c fs => ∃ dx vs, H a = some (SlX.SlO a (ca c) dx vs) ∧ H dx = some (.xd []) ∧ ∀ (i : Nat) v, fs[i]? = some (some v) → ∃ u, vs[i]? = some (some u) ∧ Den K μ H v u

/-- the world of a proof: program, world, written part, classes -/
structure Wd where
  P : Program
  w : World
  K : PySem.W.Frag
  ca : Ca
  E : XK
/-- may be written -/
def rwOf (ro n : Nat) : Bool := Nat.ble ro n
structure RelH (W : Wd) (ro : Nat) (μ : Mu) (h : AH) (H : Hp) : Prop where
  lim : h.n ≤ top
  rol : ro ≤ h.n
  roe : h.ro = ro
  inj : ∀ n m a, μ n = some a → μ m = some a → n = m
  obj : ∀ n o, h.get n = some o → ∃ a, μ n = some a ∧ RelO W.P W.w W.K W.ca (rwOf ro n) μ H a o
  back : ∀ n a, μ n = some a → ∃ o, h.get n = some o
  full : ∀ n, n < h.n → ∃ o, h.get n = some o
  tabs : LamX.Tabs W.ca.T H
/-- how the layer's heap goes on -/
structure Step (ro : Nat) (μ : Mu) (H : Hp) (μ' : Mu) (H' : Hp) : Prop where
  ext : ∀ n a, μ n = some a → μ' n = some a
  new : ∀ n b, μ' n = some b → μ n = some b ∨ H b = none
  frm : ∀ b o, (∀ n, ro ≤ n → μ n ≠ some b) → (∀ ps, o ≠ .tbl ps) → H b = some o → H' b = some o
  kep : ∀ b o, H b = some o → ∃ o', H' b = some o'
theorem Step.refl {ro : Nat} {μ : Mu} {H : Hp} : Step ro μ H μ H := ⟨fun _ _ e => e, fun _ _ e => .inl e, fun _ _ _ _ e => e, fun _ o e => ⟨o, e⟩⟩
theorem Step.trans {ro : Nat} {μ μ1 μ2 : Mu} {H H1 H2 : Hp} (a : Step ro μ H μ1 H1) (b : Step ro μ1 H1 μ2 H2) : Step ro μ H μ2 H2 where
  ext := fun n x e => b.ext n x (a.ext n x e)
  new := fun n x e => by
    rcases b.new n x e with q | q
    · exact a.new n x q
    · right
      cases r : H x with
      | none => rfl
      | some o =>
        obtain ⟨o', z⟩ := a.kep x o r
        rw [q] at z; cases z
  frm := fun x o f nt e => b.frm x o (fun n hn q => by
    rcases a.new n x q with z | z
    · exact f n hn z
    · rw [e] at z; cases z) nt (a.frm x o f nt e)
  kep := fun x o e => by
    obtain ⟨o1, e1⟩ := a.kep x o e
    exact b.kep x o1 e1
section
variable {W : Wd} {ro : Nat} {μ μ' : Mu} {h h' : AH} {H H' : Hp}
theorem RelO.is {P : Program} {w : World} {K : PySem.W.Frag} {ca : Ca} {rw : Bool} {a : Addr} {o : AO} (r : RelO P w K ca rw μ H a o) : ∃ u, H a = some u ∧ (∀ xs, u ≠ .tup xs) ∧ ∀ q xs, u ≠ .frz q (.tup xs) := by
  cases o with
  | lst xs => obtain ⟨_, vs, e, _⟩ := r; exact ⟨_, e, fun _ z => (by cases z), fun _ _ z => (by cases z)⟩
  | fz ns => obtain ⟨q, e⟩ := r; exact ⟨_, e, fun _ z => (by cases z), fun _ _ z => (by cases z)⟩
  | dct kvs =>
    obtain ⟨_, _, xs, e | ⟨_, q, e⟩, _⟩ := r
    · exact ⟨_, e, fun _ z => (by unfold DO at z; cases z), fun _ _ z => (by unfold DO at z; cases z)⟩
    · exact ⟨_, e, fun _ z => (by cases z), fun _ _ z => (by unfold DO at z; cases z)⟩
  | ins c fs => obtain ⟨dx, vs, e, _⟩ := r; exact ⟨_, e, fun _ z => (by unfold SlX.SlO at z; cases z), fun _ _ z => (by unfold SlX.SlO at z; cases z)⟩
/-- a heap that has this at a -/
theorem heap_at (a : Addr) (o : Obj) (ho : o.isFreed = false) : ∃ h : Heap, h.get? a = some o := by
  refine ⟨(Heap.mk (Array.replicate a o) default).push o, ?_⟩
  have e := Heap.get?_push_size (Heap.mk (Array.replicate a o) default) (o := o) ho
  have z : (Heap.mk (Array.replicate a o) default).objs.size = a := Array.size_replicate
  rw [z] at e
  exact e
def codeLike (q : Str) : Obj := { cls := .none, data := .fields #[.none, .str q 0] }
theorem code_do {P : Program} {w : World} {a c : Addr} {q : Str} {xs : List (NestedKey × Addr × Value)} : DO P w a xs ≠ LamX.CodeO a q := fun z => by
  obtain ⟨h, e⟩ := heap_at a (codeLike q) rfl
  unfold DO LamX.CodeO at z
  injection z with z
  have z2 := congrFun z h
  have k : ∃ (oc : Obj) (vs : Array Value) (t : Tok), h.get? a = some oc ∧ oc.data = .fields vs ∧ vs[1]? = some (.str q t) := ⟨_, _, _, e, rfl, rfl⟩
  rw [← z2] at k
  obtain ⟨o, es, ep, h1, _, h3, _⟩ := k
  rw [e] at h1; cases h1
  cases h3
theorem code_sl {a C dx : Addr} {q : Str} {vs : List (Option V)} : SlX.SlO a C dx vs ≠ LamX.CodeO a q := fun z => by
  obtain ⟨h, e⟩ := heap_at a (codeLike q) rfl
  unfold SlX.SlO LamX.CodeO at z
  injection z with z
  have z2 := congrFun z h
  have k : ∃ (oc : Obj) (vs : Array Value) (t : Tok), h.get? a = some oc ∧ oc.data = .fields vs ∧ vs[1]? = some (.str q t) := ⟨_, _, _, e, rfl, rfl⟩
  rw [← z2] at k
  obtain ⟨sl, h1, _⟩ := k
  rw [e] at h1
  have h2 := Option.some.inj h1
  have h3 := congrArg Obj.data h2
  cases h3
/-- no table, no code object stands at a -/
def NoCode (H : Hp) (a : Addr) : Prop := ∀ u, H a = some u → (∀ ps, u ≠ .tbl ps) ∧ ∀ q, u ≠ LamX.CodeO a q
theorem tabs_upd {T : List (Addr × Str)} {a : Addr} {u : HO} (t : LamX.Tabs T H) (n : NoCode H a) : LamX.Tabs T (upd H a u) := fun p hp => by
  obtain ⟨ps, h1, h2, h3⟩ := t p hp
  refine ⟨ps, by rw [upd_ne (fun z => (n _ (by rw [← z]; exact h1)).1 ps rfl)]; exact h1, h2, fun pos cv e => ?_⟩
  obtain ⟨c, e1, e2⟩ := h3 pos cv e
  refine ⟨c, e1, ?_⟩
  by_cases z : c = a
  · subst z; exact absurd rfl ((n _ e2).2 p.2)
  · rw [upd_ne z]; exact e2
theorem nocode_lst {a : Addr} {vs : List V} (e : H a = some (.lst vs)) : NoCode H a := fun u q => by
  rw [e] at q; cases q
  exact ⟨fun ps z => (by cases z), fun q z => (by unfold LamX.CodeO at z; cases z)⟩
theorem nocode_do {P : Program} {w : World} {a : Addr} {xs : List (NestedKey × Addr × Value)} (e : H a = some (DO P w a xs)) : NoCode H a := fun u q => by
  rw [e] at q; cases q
  exact ⟨fun ps z => (by unfold DO at z; cases z), fun q => code_do (c := a)⟩
theorem nocode_frz {a : Addr} {o : Obj} {u : HO} (e : H a = some (.frz o u)) : NoCode H a := fun u q => by
  rw [e] at q; cases q
  exact ⟨fun ps z => (by cases z), fun q z => (by unfold LamX.CodeO at z; cases z)⟩
theorem RelO.nocode {P : Program} {w : World} {K : PySem.W.Frag} {ca : Ca} {rw : Bool} {a : Addr} {o : AO} (r : RelO P w K ca rw μ H a o) : NoCode H a := by
  cases o with
  | lst xs => obtain ⟨_, vs, e, _⟩ := r; exact nocode_lst e
  | fz ns => obtain ⟨q, e⟩ := r; exact nocode_frz e
  | dct kvs =>
    obtain ⟨_, _, xs, e | ⟨_, q, e⟩, _⟩ := r
    · exact nocode_do e
    · exact nocode_frz e
  | ins c fs =>
    obtain ⟨dx, vs, e, _⟩ := r
    intro u q
    rw [e] at q; cases q
    exact ⟨fun ps z => (by unfold SlX.SlO at z; cases z), fun q => code_sl⟩
theorem RelH.there (R : RelH W ro μ h H) {n : Nat} {a : Addr} (e : μ n = some a) : ∃ o, h.get n = some o ∧ RelO W.P W.w W.K W.ca (rwOf ro n) μ H a o := by
  obtain ⟨o, q⟩ := R.back n a e
  obtain ⟨b, e', r⟩ := R.obj n o q
  rw [e] at e'; cases e'
  exact ⟨o, q, r⟩
/-- tuples are never the machine's own objects -/
theorem RelH.sq (R : RelH W ro μ h H) (st : Step ro μ H μ' H') {a : Addr} {xs : List V} (s : SqT W.K H a xs) : SqT W.K H' a xs := by
  rcases s with s | s
  · left
    rcases s with s | ⟨o, s⟩
    · exact .inl (st.frm a _ (fun n _ e => by
        obtain ⟨o, _, r⟩ := R.there e
        obtain ⟨u, e1, e2, _⟩ := r.is
        rw [s] at e1; cases e1
        exact e2 _ rfl) (fun ps z => by cases z) s)
    · exact .inr ⟨o, st.frm a _ (fun n _ e => by
        obtain ⟨o', _, r⟩ := R.there e
        obtain ⟨u, e1, _, e2⟩ := r.is
        rw [s] at e1; cases e1
        exact e2 _ _ rfl) (fun ps z => by cases z) s⟩
  · exact .inr s
theorem RelH.den (R : RelH W ro μ h H) (st : Step ro μ H μ' H') {x : AV} {v : V} (d : Den W.K μ H x v) : Den W.K μ' H' x v := d.mono st.ext fun _ _ => R.sq st
theorem RelH.denL (R : RelH W ro μ h H) (st : Step ro μ H μ' H') {x : List AV} {v : List V} (d : DenL W.K μ H x v) : DenL W.K μ' H' x v := d.mono st.ext fun _ _ => R.sq st
theorem Paired.mono' {α β : Type} {F G : α → β → Prop} : ∀ {l₁ : List α} {l₂ : List β}, Paired F l₁ l₂ → (∀ a b, F a b → G a b) → Paired G l₁ l₂
  | _, _, .nil, _ => .nil
  | _, _, .cons r t, f => .cons (f _ _ r) (Paired.mono' t f)
/-- an object that is left as it is -/
theorem RelO.keep {P : Program} {w : World} {K : PySem.W.Frag} {ca : Ca} {rw : Bool} {a : Addr} {o : AO} (d : ∀ x v, Den K μ H x v → Den K μ' H' x v) (ka : ∀ u, H a = some u → H' a = some u)
    (kx : ∀ b, H b = some (.xd []) → H' b = some (.xd [])) (r : RelO P w K ca rw μ H a o) : RelO P w K ca rw μ' H' a o := by
  have dl : ∀ xs vs, DenL K μ H xs vs → DenL K μ' H' xs vs := by
    intro xs
    induction xs with
    | nil => intro vs q; cases q; exact .nil
    | cons x xs ih => intro vs q; cases q with | cons q1 q2 => exact .cons (d _ _ q1) (ih _ q2)
  cases o with
  | lst xs => obtain ⟨z, vs, e, q⟩ := r; exact ⟨z, vs, ka _ e, dl _ _ q⟩
  | fz ns => obtain ⟨q, e⟩ := r; exact ⟨q, ka _ e⟩
  | dct kvs =>
    obtain ⟨s, z, xs, e, q⟩ := r
    exact ⟨s, z, xs, e.imp (ka _) fun ⟨q, o, e⟩ => ⟨q, o, ka _ e⟩, Paired.mono' q fun p x ⟨q1, q2, u, q3, q4⟩ => ⟨q1, d _ _ q2, u, q3, d _ _ q4⟩⟩
  | ins c fs =>
    obtain ⟨dx, vs, e1, e2, q⟩ := r
    exact ⟨dx, vs, ka _ e1, kx _ e2, fun i v hi => by
      obtain ⟨u, h1, h2⟩ := q i v hi
      exact ⟨u, h1, d _ _ h2⟩⟩
end

/-! ### what is wanted behind an expression -/
/-- an exception as the layer sees it -/
def XRel (W : Wd) (μ : Mu) (H : Hp) (x : AX) (cls : Value) (d : Option Addr) : Prop := cls = .ref (W.ca x.c) ∧ match x.f with
  | none => d = none
  | some (n, v) => ∃ a u, d = some a ∧ H a = some (.xd [(n, u)]) ∧ Den W.K μ H v u
def postG {α β : Type} (D : Mu → Hp → α → β → Prop) (W : Wd) (ro : Nat) (μ : Mu) (H : Hp) (r : R α) (Q : β → Hp → Prop) : Prop := match r with
  | .ok v h' => ∀ μ' u H', Step ro μ H μ' H' → RelH W ro μ' h' H' → D μ' H' v u → Q u H'
  | .ex x h' => ∀ μ' H' cls d, Step ro μ H μ' H' → RelH W ro μ' h' H' → XRel W μ' H' x cls d → W.E cls d H'
  | .bad => False
abbrev post (W : Wd) (ro : Nat) (μ : Mu) (H : Hp) (r : R AV) (Q : VK) : Prop := postG (fun μ H => Den W.K μ H) W ro μ H r Q
abbrev postL (W : Wd) (ro : Nat) (μ : Mu) (H : Hp) (r : R (List AV)) (Q : List V → Hp → Prop) : Prop := postG (fun μ H => DenL W.K μ H) W ro μ H r Q
def RelL (K : PySem.W.Frag) (μ : Mu) (H : Hp) (l : Loc') (σ : L2.St) : Prop := l.length = σ.length ∧ ∀ (i : Nat) v, l[i]? = some (some v) → ∃ u, σ[i]? = some (some u) ∧ Den K μ H v u
def trE (W : Wd) (m : Loc' → AH → R AV) : TE := fun σ H Q => ∃ ro μ l h, RelL W.K μ H l σ ∧ RelH W ro μ h H ∧ post W ro μ H (m l h) Q
theorem RelL.step {W : Wd} {ro : Nat} {μ μ' : Mu} {h : AH} {H H' : Hp} {l : Loc'} {σ : L2.St} (R : RelH W ro μ h H) (st : Step ro μ H μ' H') (r : RelL W.K μ H l σ) : RelL W.K μ' H' l σ :=
  ⟨r.1, fun i v e => by
    obtain ⟨u, h1, h2⟩ := r.2 i v e
    exact ⟨u, h1, R.den st h2⟩⟩
/-- the wish behind a bind -/
theorem postG.bind {α β γ δ : Type} {D : Mu → Hp → α → β → Prop} {D' : Mu → Hp → γ → δ → Prop} {W : Wd} {ro : Nat} {μ : Mu} {H : Hp} {r : R α} {k : α → AH → R γ} {Q : δ → Hp → Prop} (p : postG D' W ro μ H (r.bind k) Q) :
    postG D W ro μ H r fun u H1 => ∃ μ1 v h1, Step ro μ H μ1 H1 ∧ RelH W ro μ1 h1 H1 ∧ D μ1 H1 v u ∧ r = .ok v h1 ∧ postG D' W ro μ1 H1 (k v h1) Q := by
  cases r with
  | ok v h1 =>
    intro μ1 u H1 st R d
    refine ⟨μ1, v, h1, st, R, d, rfl, ?_⟩
    have p' : postG D' W ro μ H (k v h1) Q := p
    cases e : k v h1 with
    | ok v2 h2 =>
      rw [e] at p'
      intro μ2 u2 H2 st2 R2 d2
      exact p' μ2 u2 H2 (st.trans st2) R2 d2
    | ex x h2 => rw [e] at p'; exact fun μ2 H2 c d st2 => p' μ2 H2 c d (st.trans st2)
    | bad => rw [e] at p'; exact p'
  | ex x h1 => exact p
  | bad => exact p
theorem postG.imp {α β : Type} {D : Mu → Hp → α → β → Prop} {W : Wd} {ro : Nat} {μ : Mu} {H : Hp} {r : R α} {Q Q' : β → Hp → Prop} (p : postG D W ro μ H r Q) (h : ∀ u H', Q u H' → Q' u H') : postG D W ro μ H r Q' := by
  cases r with
  | ok v h1 => exact fun μ1 u H1 st R d => h _ _ (p μ1 u H1 st R d)
  | ex x h1 => exact p
  | bad => exact p
/-- from a later place on -/
theorem postG.later {α β : Type} {D : Mu → Hp → α → β → Prop} {W : Wd} {ro : Nat} {μ μ1 : Mu} {H H1 : Hp} {r : R α} {Q : β → Hp → Prop} (p : postG D W ro μ H r Q) (st : Step ro μ H μ1 H1) : postG D W ro μ1 H1 r Q := by
  cases r with
  | ok v h1 => exact fun μ2 u H2 st2 R d => p μ2 u H2 (st.trans st2) R d
  | ex x h1 => exact fun μ2 H2 c d st2 => p μ2 H2 c d (st.trans st2)
  | bad => exact p
theorem PE.weaken {X : Cx} {e : Expr} {t t' : TE} (p : PE X e t) (h : ∀ σ H Q, t' σ H Q → t σ H Q) : PE X e t' := ⟨fun pins s σ H Q I q => p.run pins s σ H Q I (h σ H Q q)⟩
theorem PT.weaken {X : Cx} {e : Expr} {t t' : TT} (p : PT X e t) (h : ∀ σ H Q, t' σ H Q → t σ H Q) : PT X e t' := ⟨fun pins s σ H Q I q => p.run pins s σ H Q I (h σ H Q q)⟩

/-! ### new objects, changed ones -/
section
variable {W : Wd} {ro : Nat} {μ : Mu} {h : AH} {H : Hp}
def muPut (μ : Mu) (n : Nat) (a : Addr) : Mu := fun k => if k = n then some a else μ k
theorem RelH.dom (R : RelH W ro μ h H) {n : Nat} (hn : h.n ≤ n) : μ n = none := by
  cases e : μ n with
  | none => rfl
  | some a =>
    obtain ⟨o, q⟩ := R.back n a e
    exact absurd (AH.get_lt q) (by omega)
theorem RelH.fresh (R : RelH W ro μ h H) {p : Addr} (hp : H p = none) (n : Nat) : μ n ≠ some p := fun e => by
  obtain ⟨o, _, r⟩ := R.there e
  obtain ⟨u, q, _⟩ := r.is
  rw [hp] at q; cases q
/-- something new in the layer's heap that is not the machine's -/
theorem Step.laid {p : Addr} {u : HO} (hp : H p = none) : Step ro μ H μ (upd H p u) :=
  ⟨fun _ _ e => e, fun _ _ e => .inl e, fun b o _ _ e => by rw [upd_ne (fun z => by rw [z, hp] at e; cases e)]; exact e, fun b o e => ⟨o, by rw [upd_ne (fun z => by rw [z, hp] at e; cases e)]; exact e⟩⟩
theorem sq_upd {K : PySem.W.Frag} {p : Addr} {u : HO} {a : Addr} {xs : List V} (n1 : ∀ ys, H p ≠ some (.tup ys)) (n2 : ∀ o ys, H p ≠ some (.frz o (.tup ys))) (s : SqT K H a xs) : SqT K (upd H p u) a xs := by
  rcases s with s | s
  · left
    rcases s with s | ⟨o, s⟩
    · exact .inl (by rw [upd_ne (fun z => by rw [z] at s; exact n1 _ s)]; exact s)
    · exact .inr ⟨o, by rw [upd_ne (fun z => by rw [z] at s; exact n2 _ _ s)]; exact s⟩
  · exact .inr s
theorem RelH.laid (R : RelH W ro μ h H) {p : Addr} {u : HO} (hp : H p = none) : RelH W ro μ h (upd H p u) where
  lim := R.lim
  rol := R.rol
  roe := R.roe
  inj := R.inj
  obj := fun n o e => by
    obtain ⟨a, e1, r⟩ := R.obj n o e
    refine ⟨a, e1, r.keep (fun x v d => R.den (Step.laid hp) d) (fun v q => ?_) fun b q => ?_⟩
    · rw [upd_ne (fun z => by rw [z, hp] at q; cases q)]; exact q
    · rw [upd_ne (fun z => by rw [z, hp] at q; cases q)]; exact q
  back := R.back
  full := R.full
  tabs := R.tabs.ext fun b o q => by rw [upd_ne (fun z => by rw [z, hp] at q; cases q)]; exact q
/-- a new object of the machine's, already in the layer's heap -/
theorem RelH.own (R : RelH W ro μ h H) {p : Addr} {o : AO} (hn : h.n < top) (hf : ∀ n, μ n ≠ some p) (r : RelO W.P W.w W.K W.ca true μ H p o) : RelH W ro (muPut μ h.n p) (h.push o) H := by
  have ext : ∀ n a, μ n = some a → muPut μ h.n p n = some a := fun n a e => by
    unfold muPut
    have : n ≠ h.n := fun z => by rw [R.dom (Nat.le_of_eq z.symm)] at e; cases e
    rw [if_neg this]; exact e
  have dn : ∀ x v, Den W.K μ H x v → Den W.K (muPut μ h.n p) H x v := fun x v d => d.mono ext fun _ _ q => q
  refine ⟨by show h.n + 1 ≤ top; omega, by have := R.rol; show ro ≤ h.n + 1; omega, R.roe, fun n m a e1 e2 => ?_, fun n o' e => ?_, fun n a e => ?_, fun n e => ?_, R.tabs⟩
  · unfold muPut at e1 e2
    by_cases h1 : n = h.n
    · by_cases h2 : m = h.n
      · omega
      · rw [if_pos h1] at e1; rw [if_neg h2] at e2; cases e1; exact absurd e2 (hf m)
    · by_cases h2 : m = h.n
      · rw [if_neg h1] at e1; rw [if_pos h2] at e2; cases e2; exact absurd e1 (hf n)
      · rw [if_neg h1] at e1; rw [if_neg h2] at e2; exact R.inj n m a e1 e2
  · by_cases h1 : n = h.n
    · subst h1
      rw [AH.get_push_new hn] at e; cases e
      refine ⟨p, by unfold muPut; rw [if_pos rfl], ?_⟩
      rw [show rwOf ro h.n = true from Nat.ble_eq_true_of_le R.rol]
      exact r.keep dn (fun _ q => q) fun _ q => q
    · rw [AH.get_push_old h1] at e
      obtain ⟨a, e1, r1⟩ := R.obj n o' e
      exact ⟨a, ext n a e1, r1.keep dn (fun _ q => q) fun _ q => q⟩
  · unfold muPut at e
    by_cases h1 : n = h.n
    · subst h1; exact ⟨o, AH.get_push_new hn⟩
    · rw [if_neg h1] at e
      obtain ⟨o', q⟩ := R.back n a e
      exact ⟨o', by rw [AH.get_push_old h1]; exact q⟩
  · have e : n < h.n + 1 := e
    by_cases h1 : n = h.n
    · subst h1; exact ⟨o, AH.get_push_new hn⟩
    · obtain ⟨o', q⟩ := R.full n (by omega)
      exact ⟨o', by rw [AH.get_push_old h1]; exact q⟩
theorem Step.own (R : RelH W ro μ h H) {p : Addr} {u : HO} (hp : H p = none) : Step ro μ H (muPut μ h.n p) (upd H p u) where
  ext := fun n a e => by
    unfold muPut
    have : n ≠ h.n := fun z => by rw [R.dom (Nat.le_of_eq z.symm)] at e; cases e
    rw [if_neg this]; exact e
  new := fun n b e => by
    unfold muPut at e
    by_cases h1 : n = h.n
    · rw [if_pos h1] at e; cases e; exact .inr hp
    · rw [if_neg h1] at e; exact .inl e
  frm := (Step.laid (μ := μ) (ro := ro) hp).frm
  kep := (Step.laid (μ := μ) (ro := ro) hp).kep
/-- an object is changed -/
theorem Step.write {n : Nat} {a : Addr} {u : HO} (e : μ n = some a) (hn : ro ≤ n) : Step ro μ H μ (upd H a u) where
  ext := fun _ _ e => e
  new := fun _ _ e => .inl e
  frm := fun b o f _ q => by rw [upd_ne (fun z => f n hn (by rw [z]; exact e))]; exact q
  kep := fun b o q => by
    by_cases z : b = a
    · exact ⟨u, by rw [z, upd_same]⟩
    · exact ⟨o, by rw [upd_ne z]; exact q⟩
theorem RelH.write (R : RelH W ro μ h H) {n : Nat} {a : Addr} {u : HO} {o o' : AO} (e : μ n = some a) (hn : ro ≤ n) (ho : h.get n = some o) (hx : H a ≠ some (.xd [])) (r : RelO W.P W.w W.K W.ca true μ (upd H a u) a o') : RelH W ro μ (h.set n o') (upd H a u) where
  lim := R.lim
  rol := R.rol
  roe := R.roe
  inj := R.inj
  obj := fun k x q => by
    by_cases hk : k = n
    · subst hk
      rw [AH.get_set_same R.lim (AH.get_lt ho)] at q; cases q
      refine ⟨a, e, ?_⟩
      rw [show rwOf ro k = true from Nat.ble_eq_true_of_le hn]
      exact r
    · rw [AH.get_set_ne hk] at q
      obtain ⟨b, e1, r1⟩ := R.obj k x q
      have hb : b ≠ a := fun z => hk (R.inj k n b e1 (by rw [z]; exact e))
      refine ⟨b, e1, r1.keep (fun x v d => R.den (Step.write e hn) d) (fun v q => by rw [upd_ne hb]; exact q) fun c q => ?_⟩
      rw [upd_ne (fun z => hx (by rw [← z]; exact q))]; exact q
  back := fun k b q => by
    by_cases hk : k = n
    · subst hk; exact ⟨o', AH.get_set_same R.lim (AH.get_lt ho)⟩
    · obtain ⟨x, e1⟩ := R.back k b q
      exact ⟨x, by rw [AH.get_set_ne hk]; exact e1⟩
  full := fun k q => by
    by_cases hk : k = n
    · subst hk; exact ⟨o', AH.get_set_same R.lim (AH.get_lt ho)⟩
    · obtain ⟨x, e1⟩ := R.full k q
      exact ⟨x, by rw [AH.get_set_ne hk]; exact e1⟩
  tabs := by
    obtain ⟨oo, _, r1⟩ := R.there e
    exact tabs_upd R.tabs r1.nocode
end
end Ev
set_option Elab.async false
set_option linter.all false
set_option maxRecDepth 100000
set_option maxHeartbeats 4000000
/-! the machine's operations are the layer's -/
namespace Ev
open PySem PySem.Spec PyProof.Rows L2

abbrev wd (X : Cx) (ca : Ca) (E : XK) : Wd := ⟨X.prog, X.w, X.K, ca, E⟩
def trOp2 (W : Wd) (f : AV → AV → AH → R AV) : R2 := fun x y H Q => ∃ ro μ h ax ay, RelH W ro μ h H ∧ Den W.K μ H ax x ∧ Den W.K μ H ay y ∧ post W ro μ H (f ax ay h) Q
section
variable {W : Wd} {ro : Nat} {μ : Mu} {h : AH} {H : Hp} {Q : VK}
theorem postG.val {α β : Type} {D : Mu → Hp → α → β → Prop} {Q : β → Hp → Prop} {v : α} (R : RelH W ro μ h H) (p : postG D W ro μ H (.ok v h) Q) {u : β} (d : D μ H v u) : Q u H := p μ u H Step.refl R d
theorem postG.opt {α β : Type} {D : Mu → Hp → α → β → Prop} {Q : β → Hp → Prop} {o : Option α} (p : postG D W ro μ H (rOpt o h) Q) : ∃ v, o = some v ∧ postG D W ro μ H (.ok v h) Q := by
  cases o with
  | none => exact False.elim p
  | some v => exact ⟨v, rfl, p⟩
theorem postG.alloc {o : AO} (R : RelH W ro μ h H) (p : post W ro μ H (alloc h o) Q) : h.n < top ∧ ∀ a u, H a = none → RelO W.P W.w W.K W.ca true μ (upd H a u) a o → Q (.ref a) (upd H a u) := by
  unfold Ev.alloc at p
  cases e : Nat.blt h.n top with
  | false => rw [e] at p; exact False.elim p
  | true =>
    rw [e] at p
    have hn := blt_tt.mp e
    refine ⟨hn, fun a u ha r => p (muPut μ h.n a) (.ref a) (upd H a u) (Step.own R ha) ((R.laid ha).own hn (fun n => R.fresh ha n) r) (.obj ?_)⟩
    unfold muPut
    rw [if_pos rfl]
theorem lim_le {n : Nat} (e : lim n = true) : n ≤ sizeLine := by
  rw [sizeLine_eq]
  exact Nat.le_of_ble_eq_true e
/-! data -/
mutual
theorem den_dp : ∀ {x : AV} {v : V} {d : PyData}, Den W.K μ H x v → AV.dat x = some d → Dp W.K H v d
  | _, _, _, .non, e => by unfold AV.dat at e; cases e; exact .non
  | _, _, _, .bl b, e => by unfold AV.dat at e; cases e; exact .bl b
  | _, _, _, .int i, e => by unfold AV.dat at e; cases e; exact .int i
  | _, _, _, .str x, e => by unfold AV.dat at e; cases e; exact .str x
  | _, _, _, @Den.tup _ _ _ a vs xs s r, e => by
    unfold AV.dat at e
    cases q : AV.dats xs with
    | none => rw [q] at e; cases e
    | some ds => rw [q] at e; cases e; exact .tup s (den_dps r q)
  | _, _, _, .obj _, e => by unfold AV.dat at e; cases e
theorem den_dps : ∀ {xs : List AV} {vs : List V} {ds : List PyData}, DenL W.K μ H xs vs → AV.dats xs = some ds → DpAll W.K H vs ds
  | _, _, _, .nil, e => by unfold AV.dats at e; cases e; exact .nil
  | _, _, _, @DenL.cons _ _ _ x v xs vs d r, e => by
    unfold AV.dats at e
    cases q : AV.dat x with
    | none => rw [q] at e; cases e
    | some dx =>
      rw [q] at e
      cases q2 : AV.dats xs with
      | none => rw [q2] at e; cases e
      | some ds => rw [q2] at e; cases e; exact .cons (den_dp d q) (den_dps r q2)
end
theorem dp_ints : ∀ (ns : List Int), DpAll W.K H (ns.map V.int) (ns.map .int)
  | [] => .nil
  | n :: r => .cons (.int n) (dp_ints r)
theorem den_dpL (R : RelH W ro μ h H) {x : AV} {v : V} {d : PyData} (q : Den W.K μ H x v) (e : datL h x = some d) : Dp W.K H v d := by
  cases q with
  | non => exact den_dp (.non (μ := μ)) e
  | bl b => exact den_dp (.bl (μ := μ) b) e
  | int i => exact den_dp (.int (μ := μ) i) e
  | str x => exact den_dp (.str (μ := μ) x) e
  | tup s r => exact den_dp (.tup s r) e
  | @obj n a hm =>
    unfold datL at e
    obtain ⟨o, ho, r⟩ := R.there hm
    dsimp only at e
    rw [ho] at e
    cases o with
    | lst xs =>
      dsimp only at e
      obtain ⟨_, vs, hv, dl⟩ := r
      cases q2 : AV.dats xs with
      | none => rw [q2] at e; cases e
      | some ds => rw [q2] at e; cases e; exact .lst (SqL.of hv) (den_dps dl q2)
    | fz ns =>
      dsimp only at e
      obtain ⟨ob, hv⟩ := r
      cases e
      exact .lst (.inl (.inr ⟨ob, hv⟩)) (dp_ints ns)
    | dct kvs => cases e
    | ins c fs => cases e
end
section
variable {X : Cx} {ca : Ca} {E : XK}
theorem eqA_ok (hu : X.A.units + 64 < cLine) : OpR X (compareOp .Eq) (trOp2 (wd X ca E) (cmpA .Eq)) := by
  intro pins s σ H x y v u Q I rx ry ⟨ro, μ, h, ax, ay, R, dx, dy, p⟩
  obtain ⟨z, e, p⟩ := postG.opt (show post (wd X ca E) ro μ H (rOpt ((eqA h ax ay).map .bl) h) Q from p)
  unfold eqA at e
  cases q1 : datL h ax with
  | none => rw [q1] at e; simp at e
  | some d =>
    cases q2 : datL h ay with
    | none => rw [q1, q2] at e; simp at e
    | some d2 =>
      rw [q1, q2] at e
      simp only at e
      cases q3 : (SeqAt.shaped d && SeqAt.shaped d2) with
      | false => rw [q3] at e; simp at e
      | true =>
        rw [q3] at e
        simp only [Option.map_some, Option.some.injEq] at e
        obtain ⟨s1, s2⟩ := Bool.and_eq_true_iff.mp q3
        subst e
        exact op_eqD hu pins s σ H x y v u Q I rx ry ⟨d, d2, den_dpL R dx q1, den_dpL R dy q2, s1, s2, p.val R (.bl _)⟩
theorem neA_ok (hu : X.A.units + 64 < cLine) : OpR X (compareOp .NotEq) (trOp2 (wd X ca E) (cmpA .NotEq)) := by
  intro pins s σ H x y v u Q I rx ry ⟨ro, μ, h, ax, ay, R, dx, dy, p⟩
  obtain ⟨z, e, p⟩ := postG.opt (show post (wd X ca E) ro μ H (rOpt ((eqA h ax ay).map fun b => .bl (!b)) h) Q from p)
  unfold eqA at e
  cases q1 : datL h ax with
  | none => rw [q1] at e; simp at e
  | some d =>
    cases q2 : datL h ay with
    | none => rw [q1, q2] at e; simp at e
    | some d2 =>
      rw [q1, q2] at e
      simp only at e
      cases q3 : (SeqAt.shaped d && SeqAt.shaped d2) with
      | false => rw [q3] at e; simp at e
      | true =>
        rw [q3] at e
        simp only [Option.map_some, Option.some.injEq] at e
        obtain ⟨s1, s2⟩ := Bool.and_eq_true_iff.mp q3
        subst e
        exact op_neD hu pins s σ H x y v u Q I rx ry ⟨d, d2, den_dpL R dx q1, den_dpL R dy q2, s1, s2, p.val R (.bl _)⟩
theorem hasA_any (d : PyData) : ∀ ds : List PyData, hasA d ds = ds.any fun z => PyData.eqv z d
  | [] => rfl
  | e :: r => by
    show (match PyData.eqv e d with | true => true | false => hasA d r) = _
    rw [List.any_cons]
    cases PyData.eqv e d with
    | true => rfl
    | false => exact hasA_any d r
/-! keys -/
section
variable {K : PySem.W.Frag} {μ : Mu} {H : Hp} {hp : Heap} (hT : ∀ a xs, SqT K H a xs → ∃ its : List Value, Vals xs its ∧ IsTup hp a its.toArray)
include hT
mutual
theorem nest_of : ∀ {x : AV} {v : V} {k : NestedKey} {u : Value}, Den K μ H x v → AV.key x = some k → RelV v u → NestedIs hp k u
  | _, _, _, _, .non, e, r => by unfold AV.key at e; cases e; cases r; exact NestedIs.none
  | _, _, _, _, .bl b, e, r => by unfold AV.key at e; cases e; cases r; exact NestedIs.bool rfl
  | _, _, _, _, .int i, e, r => by unfold AV.key at e; cases e; obtain ⟨t, rfl⟩ := r; exact NestedIs.int _ _
  | _, _, _, _, .str y, e, r => by unfold AV.key at e; cases e; obtain ⟨t, rfl⟩ := r; exact NestedIs.text _ _
  | _, _, _, _, @Den.tup _ _ _ a vs xs s dl, e, r => by
    cases r
    unfold AV.key at e
    cases q : AV.keys xs with
    | none => rw [q] at e; cases e
    | some ks =>
      rw [q] at e; cases e
      obtain ⟨its, rv, o, ho, hc, n, hd⟩ := hT _ _ s
      exact NestedIs.tup ho hc hd (nests_of dl q rv)
  | _, _, _, _, .obj _, e, r => by unfold AV.key at e; cases e
theorem nests_of : ∀ {xs : List AV} {vs : List V} {ks : List NestedKey} {us : List Value}, DenL K μ H xs vs → AV.keys xs = some ks → Vals vs us → NestedAll hp ks us
  | _, _, _, _, .nil, e, r => by unfold AV.keys at e; cases e; cases r; exact NestedAll.nil
  | _, _, _, _, @DenL.cons _ _ _ x v xs vs d1 d2, e, r => by
    cases r with
    | cons r1 r2 =>
      unfold AV.keys at e
      cases q : AV.key x with
      | none => rw [q] at e; cases e
      | some k =>
        rw [q] at e
        cases q2 : AV.keys xs with
        | none => rw [q2] at e; cases e
        | some ks' => rw [q2] at e; cases e; exact NestedAll.cons (nest_of d1 q r1) (nests_of d2 q2 r2)
end
end

theorem Inv.tupT {pins : List (Addr × Obj)} {σ : L2.St} {H : Hp} {s : Shared} (I : Inv X pins σ H s) : ∀ a xs, SqT X.K H a xs → ∃ its : List Value, Vals xs its ∧ IsTup s.heap a its.toArray := fun a xs q =>
  let ⟨its, r, p, _⟩ := I.tuple q
  ⟨its, r, p⟩
/-- a key of a dict -/
theorem tkey_is {pins : List (Addr × Obj)} {σ : L2.St} {H : Hp} {s : Shared} {μ : Mu} {x : AV} {v : V} {k : NestedKey} {u : Value} (I : Inv X pins σ H s) (d : Den X.K μ H x v) (e : AV.tkey x = some k) (r : RelV v u) : ∃ a, u = .ref a ∧ (nestedKind X.prog X.w).is s.heap k a := by
  cases d with
  | @tup a vs xs sq dl =>
    cases r
    unfold AV.tkey at e
    dsimp only at e
    cases q : AV.keys xs with
    | none => rw [q] at e; cases e
    | some ks =>
      rw [q] at e
      dsimp only at e
      cases q2 : Nat.ble (NestedKey.depth (.tup ks)) 8 with
      | false => rw [q2] at e; cases e
      | true =>
        rw [q2] at e
        cases e
        refine ⟨a, rfl, nest_of (Inv.tupT I) (x := .tup xs) (.tup sq dl) (by unfold AV.key; rw [q]; rfl) rfl, Nat.le_of_ble_eq_true q2⟩
  | _ => unfold AV.tkey at e; cases e
theorem Paired.mem2 {α β : Type} {F : α → β → Prop} : ∀ {l₁ : List α} {l₂ : List β} {b : β}, Paired F l₁ l₂ → b ∈ l₂ → ∃ a, a ∈ l₁ ∧ F a b
  | _, _, _, .nil, h => by cases h
  | _, _, b, .cons r t, h => by
    rcases List.mem_cons.mp h with h | h
    · subst h; exact ⟨_, List.mem_cons_self, r⟩
    · obtain ⟨a, h1, h2⟩ := Paired.mem2 t h
      exact ⟨a, List.mem_cons_of_mem _ h1, h2⟩
/-- a dict of ours is one of the library's -/
theorem dict_is {pins : List (Addr × Obj)} {σ : L2.St} {H : Hp} {s : Shared} {μ : Mu} {a : Addr} {kvs : List (AV × AV)} {xs : List (NestedKey × Addr × Value)} (I : Inv X pins σ H s) {rw : Bool} (e : H a = some (DO X.prog X.w a xs) ∨ (rw = false ∧ ∃ o, H a = some (.frz o (DO X.prog X.w a xs)))) (p : Paired (RelKv X.K μ H) kvs xs) :
    s.heap.DictOfH (nestedKind X.prog X.w) a xs := by
  have k : ObjOk X.prog X.w H s.heap a (DO X.prog X.w a xs) := by
    rcases e with e | ⟨_, q, e⟩
    · exact I.hok a _ e
    · exact (I.hok a _ e).2
  obtain ⟨⟨o, es, ep, h1, h2, h3, h4, h5⟩, _, _⟩ := k
  refine ⟨o, es, ep, h1, h2, h3, h4, fun x hx => ?_, h5⟩
  obtain ⟨kv, _, q1, q2, _⟩ := Paired.mem2 p hx
  obtain ⟨b, e1, e2⟩ := tkey_is I q2 q1 (u := .ref x.2.1) rfl
  cases e1
  exact e2
theorem dfind_at {K : PySem.W.Frag} {μ : Mu} {H : Hp} {k : NestedKey} : ∀ {kvs : List (AV × AV)} {xs : List (NestedKey × Addr × Value)}, Paired (RelKv K μ H) kvs xs → ∀ v, dfind k kvs = some v → ∃ b u w, atKey xs k = some (b, u) ∧ RelV w u ∧ Den K μ H v w
  | _, _, .nil, v, e => by cases e
  | _, _, @Paired.cons _ _ _ p x kvs xs ⟨q1, q2, w, q3, q4⟩ t, v, e => by
    obtain ⟨a, av⟩ := p
    obtain ⟨k', b, u⟩ := x
    have e' : (match AV.tkey a with | some k' => (match decide (k' = k) with | true => some av | false => dfind k kvs) | none => none) = some v := e
    dsimp only at q1
    rw [q1] at e'
    dsimp only at e'
    by_cases h : k' = k
    · rw [decide_eq_true h] at e'
      cases e'
      exact ⟨b, u, w, by simp [atKey, h], q3, q4⟩
    · rw [decide_eq_false h] at e'
      obtain ⟨b2, u2, w2, z1, z2⟩ := dfind_at t v e'
      refine ⟨b2, u2, w2, ?_, z2⟩
      simp only [atKey, List.find?_cons, decide_eq_false h] at z1 ⊢
      exact z1
theorem dhas_at {K : PySem.W.Frag} {μ : Mu} {H : Hp} {k : NestedKey} : ∀ {kvs : List (AV × AV)} {xs : List (NestedKey × Addr × Value)}, Paired (RelKv K μ H) kvs xs → dhas k kvs = (atKey xs k).isSome
  | _, _, .nil => rfl
  | _, _, @Paired.cons _ _ _ p x kvs xs ⟨q1, q2, w, q3, q4⟩ t => by
    obtain ⟨a, av⟩ := p
    obtain ⟨k', b, u⟩ := x
    show (match AV.tkey a with | some k' => (match decide (k' = k) with | true => true | false => dhas k kvs) | none => false) = _
    dsimp only at q1
    rw [q1]
    dsimp only
    by_cases h : k' = k
    · rw [decide_eq_true h]
      simp [atKey, h]
    · rw [decide_eq_false h]
      dsimp only
      rw [dhas_at t]
      simp only [atKey, List.find?_cons, decide_eq_false h]
theorem kin_ok (hu : X.A.units + 65 < cLine) {neg : Bool} : OpR X (compareOp (if neg then .NotIn else .In)) (trOp2 (wd X ca E) (cmpA (if neg then .NotIn else .In))) := by
  intro pins s σ H x y v u Q I rx ry ⟨ro, μ, h, ax, ay, R, dx, dy, p⟩
  have p : ∃ b, inA h ax ay = some b ∧ post (wd X ca E) ro μ H (.ok (.bl (if neg then !b else b)) h) Q := by
    cases neg with
    | true =>
      obtain ⟨z, e, p⟩ := postG.opt (show post (wd X ca E) ro μ H (rOpt ((inA h ax ay).map fun b => .bl (!b)) h) Q from p)
      cases q : inA h ax ay with
      | none => rw [q] at e; cases e
      | some b => rw [q] at e; cases e; exact ⟨b, rfl, p⟩
    | false =>
      obtain ⟨z, e, p⟩ := postG.opt (show post (wd X ca E) ro μ H (rOpt ((inA h ax ay).map .bl) h) Q from p)
      cases q : inA h ax ay with
      | none => rw [q] at e; cases e
      | some b => rw [q] at e; cases e; exact ⟨b, rfl, p⟩
  obtain ⟨b, e, p⟩ := p
  have q := p.val R (.bl _)
  unfold inA at e
  cases dy with
  | @tup a vs ys sq dl =>
    dsimp only at e
    cases q1 : AV.dat ax with
    | none => rw [q1] at e; cases e
    | some d =>
      cases q2 : AV.dats ys with
      | none => rw [q1, q2] at e; cases e
      | some ds =>
        rw [q1, q2] at e
        dsimp only at e
        cases q3 : (SeqAt.shaped d && SeqAt.shaped (.tuple ds)) with
        | false => rw [q3] at e; cases e
        | true =>
          rw [q3] at e
          cases e
          obtain ⟨s1, s2⟩ := Bool.and_eq_true_iff.mp q3
          obtain ⟨as, r1⟩ := Dp.reads I d x v (den_dp (W := wd X ca E) dx q1) rx
          obtain ⟨bs, r2⟩ := Dp.reads I (.tuple ds) (.ref a) u (.tup sq (den_dps (W := wd X ca E) dl q2)) ry
          have hr : X.A.units + 1 + min (PyData.depthAll ds) d.depth < cLine := by
            have := SeqAt.depth_of_shaped s1
            have : min (PyData.depthAll ds) d.depth ≤ d.depth := Nat.min_le_right _ _
            omega
          rw [hasA_any] at q
          cases neg with
          | true => exact SeqAt.notIn_tuple_reads r2 r1 (SeqAt.canLay_of_shaped s2) (SeqAt.canLay_of_shaped s1) hr ⟨.bl _, H, I, rfl, q⟩
          | false => exact SeqAt.in_tuple_reads r2 r1 (SeqAt.canLay_of_shaped s2) (SeqAt.canLay_of_shaped s1) hr ⟨.bl _, H, I, rfl, q⟩
  | @obj n a hm =>
    dsimp only at e
    obtain ⟨o, ho, r⟩ := R.there hm
    rw [ho] at e
    cases ry
    cases o with
    | lst ys =>
      dsimp only at e
      obtain ⟨_, vs, hv, dl⟩ := r
      cases q1 : AV.dat ax with
      | none => rw [q1] at e; cases e
      | some d =>
        cases q2 : AV.dats ys with
        | none => rw [q1, q2] at e; cases e
        | some ds =>
          rw [q1, q2] at e
          dsimp only at e
          cases q3 : (SeqAt.shaped d && SeqAt.shaped (.list ds)) with
          | false => rw [q3] at e; cases e
          | true =>
            rw [q3] at e
            cases e
            obtain ⟨s1, s2⟩ := Bool.and_eq_true_iff.mp q3
            rw [hasA_any] at q
            have d1 := den_dp (W := wd X ca E) dx q1
            have d2 : Dp X.K H (.ref a) (.list ds) := .lst (SqL.of hv) (den_dps (W := wd X ca E) dl q2)
            cases neg with
            | true => exact op_notInD hu pins s σ H x (.ref a) v (.ref a) Q I rx rfl ⟨d, ds, d1, d2, s1, s2, q⟩
            | false => exact op_inD hu pins s σ H x (.ref a) v (.ref a) Q I rx rfl ⟨d, ds, d1, d2, s1, s2, q⟩
    | dct kvs =>
      dsimp only at e
      obtain ⟨hS, _, xs, hv, pk⟩ := r
      cases q1 : AV.tkey ax with
      | none => rw [q1] at e; cases e
      | some k =>
        rw [q1] at e
        cases e
        obtain ⟨b, eb, kb⟩ := tkey_is I dx q1 rx
        subst eb
        have dm := dict_is I hv pk
        rw [dhas_at pk] at q
        have hroom : (nestedKind X.prog X.w).room X.A.in1 := by show X.A.units + 1 + 8 < cLine; omega
        cases neg with
        | true => exact notIn_keyed hroom kb hS ⟨xs, dm, rfl⟩ ⟨.bl _, H, I.tok _, by rw [valueAt_pairsH, Option.isSome_map]; rfl, q⟩
        | false => exact in_keyed hroom kb hS ⟨xs, dm, rfl⟩ ⟨.bl _, H, I.tok _, by rw [valueAt_pairsH, Option.isSome_map]; rfl, q⟩
    | fz ns => cases e
    | ins c fs => cases e
  | _ => cases e
end
end Ev
set_option Elab.async false
set_option linter.all false
set_option maxRecDepth 100000
set_option maxHeartbeats 4000000
namespace Ev
open PySem PySem.Spec PyProof.Rows L2
section
variable {X : Cx} {ca : Ca} {E : XK}
theorem cmpI {op : CmpOp} {g : Int → Int → Bool} (hr : OpR X (compareOp op) (rI0 fun i j => .bl (g i j))) {f : AV → AV → AH → R AV}
    (hf : ∀ ax ay h, (∃ i j, ax = .int i ∧ ay = .int j ∧ f ax ay h = .ok (.bl (g i j)) h) ∨ f ax ay h = .bad) : OpR X (compareOp op) (trOp2 (wd X ca E) f) := by
  intro pins s σ H x y v u Q I rx ry ⟨ro, μ, h, ax, ay, R, dx, dy, p⟩
  rcases hf ax ay h with ⟨i, j, rfl, rfl, e⟩ | e
  · rw [e] at p
    cases dx
    cases dy
    exact hr pins s σ H _ _ v u Q I rx ry ⟨i, j, rfl, rfl, p.val R (.bl _)⟩
  · rw [e] at p
    exact False.elim p
theorem le_ok : OpR X (compareOp .LtE) (trOp2 (wd X ca E) (cmpA .LtE)) := cmpI op_le fun ax ay h => by
  cases ax <;> cases ay <;> first | exact .inl ⟨_, _, rfl, rfl, rfl⟩ | exact .inr rfl
theorem gt_ok : OpR X (compareOp .Gt) (trOp2 (wd X ca E) (cmpA .Gt)) := cmpI op_gt fun ax ay h => by
  cases ax <;> cases ay <;> first | exact .inl ⟨_, _, rfl, rfl, rfl⟩ | exact .inr rfl
theorem ge_ok : OpR X (compareOp .GtE) (trOp2 (wd X ca E) (cmpA .GtE)) := cmpI op_ge fun ax ay h => by
  cases ax <;> cases ay <;> first | exact .inl ⟨_, _, rfl, rfl, rfl⟩ | exact .inr rfl
theorem lt_ok (hu : X.A.units + 65 < cLine) : OpR X (compareOp .Lt) (trOp2 (wd X ca E) (cmpA .Lt)) := by
  intro pins s σ H x y v u Q I rx ry ⟨ro, μ, h, ax, ay, R, dx, dy, p⟩
  cases ax with
  | int i =>
    cases ay with
    | int j =>
      cases dx
      cases dy
      exact op_lt pins s σ H _ _ v u Q I rx ry ⟨i, j, rfl, rfl, postG.val R (show post _ _ _ _ (.ok (.bl (decide (i < j))) h) _ from p) (.bl _)⟩
    | _ => exact False.elim p
  | tup xs =>
    cases ay with
    | tup ys =>
      unfold cmpA at p
      dsimp only at p
      cases q1 : AV.dats xs with
      | none => rw [q1] at p; exact False.elim p
      | some d =>
        cases q2 : AV.dats ys with
        | none => rw [q1, q2] at p; exact False.elim p
        | some e =>
          rw [q1, q2] at p
          dsimp only at p
          cases q3 : (PySem.W.alike (.tuple d) (.tuple e) && (SeqAt.shaped (.tuple d) && SeqAt.shaped (.tuple e))) with
          | false => rw [q3] at p; exact False.elim p
          | true =>
            rw [q3] at p
            obtain ⟨a1, a2⟩ := Bool.and_eq_true_iff.mp q3
            obtain ⟨s1, s2⟩ := Bool.and_eq_true_iff.mp a2
            cases dx with
            | tup sx dlx =>
              cases dy with
              | tup sy dly =>
                obtain ⟨as, r1⟩ := Dp.reads I (.tuple d) _ v (.tup sx (den_dps (W := wd X ca E) dlx q1)) rx
                obtain ⟨bs, r2⟩ := Dp.reads I (.tuple e) _ u (.tup sy (den_dps (W := wd X ca E) dly q2)) ry
                have hr : X.A.units + min (PyData.depth (.tuple d)) (PyData.depth (.tuple e)) < cLine := by
                  have := SeqAt.depth_of_shaped s1
                  have : min (PyData.depth (.tuple d)) (PyData.depth (.tuple e)) ≤ PyData.depth (.tuple d) := Nat.min_le_left _ _
                  omega
                exact PySem.W.rcLt_alike (.tuple d) (.tuple e) X.A s v u as bs r1 r2 a1 (fun z => by cases z) hr X.prog X.w X.xe _ ⟨.bl _, H, I, rfl, postG.val R p (.bl _)⟩
    | _ => exact False.elim p
  | _ => exact False.elim p
theorem RelV.non_iff {x : V} : decide (x = V.non) = true ↔ x = .non := by simp
theorem den_non {K : PySem.W.Frag} {μ : Mu} {H : Hp} {a : AV} {x : V} (d : Den K μ H a x) : (x = .non ↔ a = .non) := by
  cases d <;> simp
theorem is_ok : OpR X (compareOp .Is) (trOp2 (wd X ca E) (cmpA .Is)) := by
  intro pins s σ H x y v u Q I rx ry ⟨ro, μ, h, ax, ay, R, dx, dy, p⟩
  cases ay with
  | non =>
    cases dy
    refine op_isN pins s σ H x .non v u Q I rx ry ⟨rfl, ?_⟩
    cases dx with
    | non => exact postG.val R (show post _ _ _ _ (.ok (.bl true) h) _ from p) (.bl _)
    | bl b => exact postG.val R (show post _ _ _ _ (.ok (.bl false) h) _ from p) (.bl _)
    | int b => exact postG.val R (show post _ _ _ _ (.ok (.bl false) h) _ from p) (.bl _)
    | str b => exact postG.val R (show post _ _ _ _ (.ok (.bl false) h) _ from p) (.bl _)
    | tup _ _ => exact postG.val R (show post _ _ _ _ (.ok (.bl false) h) _ from p) (.bl _)
    | obj _ => exact postG.val R (show post _ _ _ _ (.ok (.bl false) h) _ from p) (.bl _)
  | bl b =>
    cases ax with
    | bl a =>
      cases dx
      cases dy
      refine op_is_bl pins s σ H _ _ v u Q I rx ry ⟨a, b, rfl, rfl, ?_⟩
      have q := postG.val R (show post _ _ _ _ (.ok (.bl (a == b)) h) _ from p) (.bl _)
      rw [Bool.beq_eq_decide_eq] at q
      exact q
    | _ => exact False.elim p
  | _ => cases ax <;> exact False.elim p
theorem isnot_ok : OpR X (compareOp .IsNot) (trOp2 (wd X ca E) (cmpA .IsNot)) := by
  intro pins s σ H x y v u Q I rx ry ⟨ro, μ, h, ax, ay, R, dx, dy, p⟩
  cases ay with
  | non =>
    cases dy
    refine op_notN pins s σ H x .non v u Q I rx ry ⟨rfl, ?_⟩
    cases dx with
    | non => exact postG.val R (show post _ _ _ _ (.ok (.bl false) h) _ from p) (.bl _)
    | bl b => exact postG.val R (show post _ _ _ _ (.ok (.bl true) h) _ from p) (.bl _)
    | int b => exact postG.val R (show post _ _ _ _ (.ok (.bl true) h) _ from p) (.bl _)
    | str b => exact postG.val R (show post _ _ _ _ (.ok (.bl true) h) _ from p) (.bl _)
    | tup _ _ => exact postG.val R (show post _ _ _ _ (.ok (.bl true) h) _ from p) (.bl _)
    | obj _ => exact postG.val R (show post _ _ _ _ (.ok (.bl true) h) _ from p) (.bl _)
  | bl b =>
    cases ax with
    | bl a =>
      cases dx
      cases dy
      refine op_isnot_bl pins s σ H _ _ v u Q I rx ry ⟨a, b, rfl, rfl, ?_⟩
      have q := postG.val R (show post _ _ _ _ (.ok (.bl (!(a == b))) h) _ from p) (.bl _)
      rw [Bool.beq_eq_decide_eq] at q
      exact q
    | _ => exact False.elim p
  | _ => cases ax <;> exact False.elim p
theorem cmp_ok (hu : X.A.units + 65 < cLine) : ∀ op, OpR X (compareOp op) (trOp2 (wd X ca E) (cmpA op))
  | .Eq => eqA_ok (by omega)
  | .NotEq => neA_ok (by omega)
  | .Lt => lt_ok hu
  | .LtE => le_ok
  | .Gt => gt_ok
  | .GtE => ge_ok
  | .Is => is_ok
  | .IsNot => isnot_ok
  | .In => kin_ok (neg := false) hu
  | .NotIn => kin_ok (neg := true) hu
theorem bin_ok : ∀ op, OpR X (binaryOp op) (trOp2 (wd X ca E) (binA op)) := by
  intro op pins s σ H x y v u Q I rx ry ⟨ro, μ, h, ax, ay, R, dx, dy, p⟩
  cases op with
  | Add =>
    cases ax with
    | int i =>
      cases ay with
      | int j =>
        cases dx
        cases dy
        exact op_add pins s σ H _ _ v u Q I rx ry ⟨i, j, rfl, rfl, postG.val R (show post _ _ _ _ (.ok (.int (i + j)) h) _ from p) (.int _)⟩
      | _ => exact False.elim p
    | tup xs =>
      cases ay with
      | tup ys =>
        unfold binA at p
        dsimp only at p
        cases e : lim (xs.length + ys.length) with
        | false => rw [e] at p; exact False.elim p
        | true =>
          rw [e] at p
          dsimp only at p
          have hz := lim_le e
          cases dx with
          | @tup a vs _ sx dlx =>
            cases dy with
            | @tup b ws _ sy dly =>
              refine op_catA pins s σ H _ _ v u Q I rx ry ⟨a, b, vs, ws, rfl, rfl, sx, sy, by rw [← dlx.length, ← dly.length]; exact hz, fun e1 => ?_, fun e1 e2 => ?_, fun e1 e2 c hc => ?_⟩
              · subst e1
                cases dlx
                exact postG.val R p (.tup sy dly)
              · subst e2
                cases dly
                rw [List.append_nil] at p; exact postG.val R p (.tup sx dlx)
              · exact p μ _ _ (Step.laid hc) (R.laid hc) (.tup (SqT.of upd_same) ((R.denL (Step.laid hc) dlx).append (R.denL (Step.laid hc) dly)))
      | _ => exact False.elim p
    | obj n =>
      cases ay with
      | obj m =>
        cases dx with
        | @obj _ a hn =>
          cases dy with
          | @obj _ b hm =>
            obtain ⟨o1, ho1, r1⟩ := R.there hn
            obtain ⟨o2, ho2, r2⟩ := R.there hm
            unfold binA at p
            dsimp only at p
            rw [ho1, ho2] at p
            cases o1 with
            | lst xs =>
              cases o2 with
              | lst ys =>
                dsimp only at p
                cases e : lim (xs.length + ys.length) with
                | false => rw [e] at p; exact False.elim p
                | true =>
                  rw [e] at p
                  dsimp only at p
                  have hz := lim_le e
                  obtain ⟨hn, q⟩ := postG.alloc R p
                  obtain ⟨_, vs, hv, dl⟩ := r1
                  obtain ⟨_, ws, hw, dl2⟩ := r2
                  refine op_cat pins s σ H _ _ v u Q I rx ry ⟨a, b, vs, ws, rfl, rfl, hv, hw, by rw [← dl.length, ← dl2.length]; exact hz, fun c hc => q c _ hc ⟨by rw [List.length_append]; exact hz, _, upd_same, (R.denL (Step.laid hc) dl).append (R.denL (Step.laid hc) dl2)⟩⟩
              | _ => exact False.elim p
            | _ => cases o2 <;> exact False.elim p
      | _ => exact False.elim p
    | _ => cases ay <;> exact False.elim p
  | Sub =>
    cases ax with
    | int i =>
      cases ay with
      | int j =>
        cases dx
        cases dy
        exact op_sub pins s σ H _ _ v u Q I rx ry ⟨i, j, rfl, rfl, postG.val R (show post _ _ _ _ (.ok (.int (i - j)) h) _ from p) (.int _)⟩
      | _ => exact False.elim p
    | _ => cases ay <;> exact False.elim p
  | Mult =>
    cases ax with
    | int i =>
      cases ay with
      | int j =>
        cases dx
        cases dy
        unfold binA at p
        dsimp only at p
        cases e : (small i || small j || wide i j) with
        | false => rw [e] at p; exact False.elim p
        | true =>
          rw [e] at p
          rcases Bool.or_eq_true_iff.mp e with e | e
          · refine op_mul pins s σ H _ _ v u Q I rx ry ⟨i, j, rfl, rfl, ?_, postG.val R p (.int _)⟩
            rcases Bool.or_eq_true_iff.mp e with e | e
            · exact .inl (of_decide_eq_true e)
            · exact .inr (of_decide_eq_true e)
          · have e' := of_decide_eq_true e
            exact op_mulW pins s σ H _ _ v u Q I rx ry ⟨i, j, rfl, rfl, wide_mul e'.1 e'.2 (by decide) (by decide) (by decide), postG.val R p (.int _)⟩
      | _ => exact False.elim p
    | _ => cases ay <;> exact False.elim p
  | FloorDiv =>
    cases ax with
    | int i =>
      cases ay with
      | int j =>
        cases dx
        cases dy
        unfold binA at p
        dsimp only at p
        cases e : decide (0 < j ∧ j < 1073741824) with
        | false => rw [e] at p; exact False.elim p
        | true =>
          rw [e] at p
          have e' := of_decide_eq_true e
          exact op_fdiv pins s σ H _ _ v u Q I rx ry ⟨i, j, rfl, rfl, e', postG.val R p (.int _)⟩
      | _ => exact False.elim p
    | _ => cases ay <;> exact False.elim p
  | Mod =>
    cases ax with
    | int i =>
      cases ay with
      | int j =>
        cases dx
        cases dy
        unfold binA at p
        dsimp only at p
        cases e : decide (0 < j) with
        | false => rw [e] at p; exact False.elim p
        | true =>
          rw [e] at p
          exact op_mod pins s σ H _ _ v u Q I rx ry ⟨i, j, rfl, rfl, of_decide_eq_true e, postG.val R p (.int _)⟩
      | _ => exact False.elim p
    | _ => cases ay <;> exact False.elim p
  | Pow =>
    cases ax with
    | int i =>
      cases ay with
      | int j =>
        cases dx
        cases dy
        unfold binA at p
        dsimp only at p
        cases e : decide (0 ≤ j ∧ j ≤ 1000000 ∧ i.natAbs < 2 ^ 64) with
        | false => rw [e] at p; exact False.elim p
        | true =>
          rw [e] at p
          have e' := of_decide_eq_true e
          exact op_pow pins s σ H _ _ v u Q I rx ry ⟨i, j, rfl, rfl, e', postG.val R p (.int _)⟩
      | _ => exact False.elim p
    | _ => cases ay <;> exact False.elim p
  | _ => cases ax <;> cases ay <;> exact False.elim p
/-! subscripts -/
theorem den_atI {K : PySem.W.Frag} {μ : Mu} {H : Hp} {xs : List AV} {vs : List V} {i : Int} {x : AV} (d : DenL K μ H xs vs) (e : atI xs i = some x) : ∃ v, atI vs i = some v ∧ Den K μ H x v := by
  unfold atI at e ⊢
  rw [← d.length]
  cases q : L2.ixN xs.length i with
  | none => rw [q] at e; cases e
  | some j =>
    rw [q] at e
    exact d.get e
theorem atI_map {α β : Type} (f : α → β) (xs : List α) (i : Int) : atI (xs.map f) i = (atI xs i).map f := by
  unfold atI
  rw [List.length_map]
  cases L2.ixN xs.length i with
  | none => rfl
  | some j => exact List.getElem?_map
theorem sub_ok (hu : X.A.units + 65 < cLine) : IxR X (trOp2 (wd X ca E) subA) := by
  intro value slice pins s σ H x y v u Q I rx ry ⟨ro, μ, h, ax, ay, R, dx, dy, p⟩ hs
  cases ax with
  | tup xs =>
    cases ay with
    | int i =>
      cases dx with
      | @tup a vs _ sx dl =>
        cases dy
        obtain ⟨z, e, p⟩ := postG.opt (show post (wd X ca E) ro μ H (rOpt (atI xs i) h) Q from p)
        obtain ⟨w', e1, d1⟩ := den_atI dl e
        exact ix_tup value slice pins s σ H _ _ v u Q I rx ry ⟨a, vs, i, w', rfl, rfl, sx, e1, p.val R d1⟩ hs
    | _ => exact False.elim p
  | obj n =>
    cases dx with
    | @obj _ a hn =>
      obtain ⟨o, ho, r⟩ := R.there hn
      cases ay with
      | int i =>
        cases dy
        unfold subA at p
        dsimp only at p
        rw [ho] at p
        cases o with
        | lst xs =>
          obtain ⟨z, e, p⟩ := postG.opt (show post (wd X ca E) ro μ H (rOpt (atI xs i) h) Q from p)
          obtain ⟨_, vs, hv, dl⟩ := r
          obtain ⟨w', e1, d1⟩ := den_atI dl e
          exact ix_list value slice pins s σ H _ _ v u Q I rx ry ⟨a, vs, i, w', rfl, rfl, SqL.of hv, e1, p.val R d1⟩ hs
        | fz ns =>
          obtain ⟨z, e, p⟩ := postG.opt (show post (wd X ca E) ro μ H (rOpt ((atI ns i).map .int) h) Q from p)
          obtain ⟨ob, hv⟩ := r
          cases q : atI ns i with
          | none => rw [q] at e; cases e
          | some k =>
            rw [q] at e; cases e
            exact ix_list value slice pins s σ H _ _ v u Q I rx ry ⟨a, ns.map V.int, i, .int k, rfl, rfl, .inl (.inr ⟨ob, hv⟩), by rw [atI_map, q]; rfl, p.val R (.int k)⟩ hs
        | dct kvs => exact False.elim p
        | ins c fs => exact False.elim p
      | tup ks =>
        unfold subA at p
        dsimp only at p
        rw [ho] at p
        cases o with
        | dct kvs =>
          cases q1 : AV.tkey (.tup ks) with
          | none => rw [q1] at p; exact False.elim p
          | some k =>
            rw [q1] at p
            obtain ⟨z, e, p⟩ := postG.opt (show post (wd X ca E) ro μ H (rOpt (dfind k kvs) h) Q from p)
            obtain ⟨hS, _, xs, hv, pk⟩ := r
            obtain ⟨b, eb, kb⟩ := tkey_is I dy q1 ry
            subst eb
            cases rx
            have dm := dict_is I hv pk
            obtain ⟨b2, u2, w2, z1, z2, z3⟩ := dfind_at pk z e
            have hroom : (nestedKind X.prog X.w).room X.A.in1 := by show X.A.units + 1 + 8 < cLine; omega
            refine tail_any dm.typeIs F.slot_dict_getitem.lookup (getItem_keyed hroom kb ⟨xs, dm, rfl⟩ (v := u2) (by rw [valueAt_pairsH, z1]; rfl) ⟨w2, H, I.tok _, z2, p.val R z3⟩) hs
        | _ => cases q1 : AV.tkey (.tup ks) <;> (rw [q1] at p; exact False.elim p)
      | _ => exact False.elim p
  | _ => cases ay <;> exact False.elim p
end
end Ev
set_option Elab.async false
set_option linter.all false
set_option maxRecDepth 100000
set_option maxHeartbeats 4000000
/-! the machine's expressions are the layer's -/
namespace Ev
open PySem PySem.Spec PyProof.Rows L2

/-- the machine and the layer at one place -/
structure At (W : Wd) (ro : Nat) (μ : Mu) (l : Loc') (h : AH) (σ : L2.St) (H : Hp) : Prop where
  L : RelL W.K μ H l σ
  R : RelH W ro μ h H
abbrev dV (W : Wd) : Mu → Hp → AV → V → Prop := fun μ H => Den W.K μ H
abbrev dL (W : Wd) : Mu → Hp → List AV → List V → Prop := fun μ H => DenL W.K μ H
def dB : Mu → Hp → Bool → Bool → Prop := fun _ _ v b => v = b
/-- a bool, or nothing -/
def toB (r : R AV) : R Bool := r.bind fun v h => match v with
  | .bl b => .ok b h
  | _ => .bad
theorem asB_eq (r : R AV) (k : Bool → AH → R AV) : asB r k = (toB r).bind k := by
  cases r with
  | ok v h => cases v <;> rfl
  | ex x h => rfl
  | bad => rfl
def tE (W : Wd) (m : Loc' → AH → R AV) : TE := fun σ H Q => ∃ ro μ l h, At W ro μ l h σ H ∧ postG (dV W) W ro μ H (m l h) Q
def tT (W : Wd) (m : Loc' → AH → R AV) : TT := fun σ H Q => ∃ ro μ l h, At W ro μ l h σ H ∧ postG dB W ro μ H (toB (m l h)) Q
def tA (W : Wd) (m : Loc' → AH → R (List AV)) : TA := fun σ H Q => ∃ ro μ l h, At W ro μ l h σ H ∧ postG (dL W) W ro μ H (m l h) Q
section
variable {W : Wd} {ro : Nat} {μ : Mu} {l : Loc'} {h : AH} {σ : L2.St} {H : Hp}
theorem bindP {α β γ δ : Type} (D : Mu → Hp → α → β → Prop) {D' : Mu → Hp → γ → δ → Prop} {r : R α} {k : α → AH → R γ} {Q : δ → Hp → Prop} (A : At W ro μ l h σ H) (p : postG D' W ro μ H (r.bind k) Q) :
    postG D W ro μ H r fun u H1 => ∃ μ1 v h1, At W ro μ1 l h1 σ H1 ∧ D μ1 H1 v u ∧ Step ro μ H μ1 H1 ∧ postG D' W ro μ1 H1 (k v h1) Q :=
  (postG.bind (D := D) p).imp fun u H1 ⟨μ1, v, h1, st, R1, d, _, q⟩ => ⟨μ1, v, h1, ⟨A.L.step A.R st, R1⟩, d, st, q⟩
/-- an expression, then the rest -/
theorem goE {β : Type} {D' : Mu → Hp → AV → β → Prop} {m : Loc' → AH → R AV} {k : AV → AH → R AV} {Q : β → Hp → Prop} (A : At W ro μ l h σ H) (p : postG D' W ro μ H ((m l h).bind k) Q) :
    tE W m σ H fun u H1 => ∃ μ1 v h1, At W ro μ1 l h1 σ H1 ∧ Den W.K μ1 H1 v u ∧ Step ro μ H μ1 H1 ∧ postG D' W ro μ1 H1 (k v h1) Q := ⟨ro, μ, l, h, A, bindP (dV W) A p⟩
theorem goL {β : Type} {D' : Mu → Hp → AV → β → Prop} {m : Loc' → AH → R (List AV)} {k : List AV → AH → R AV} {Q : β → Hp → Prop} (A : At W ro μ l h σ H) (p : postG D' W ro μ H ((m l h).bind k) Q) :
    tA W m σ H fun u H1 => ∃ μ1 v h1, At W ro μ1 l h1 σ H1 ∧ DenL W.K μ1 H1 v u ∧ Step ro μ H μ1 H1 ∧ postG D' W ro μ1 H1 (k v h1) Q := ⟨ro, μ, l, h, A, bindP (dL W) A p⟩
/-- two expressions, then an operation -/
theorem go2 {ma mb : Loc' → AH → R AV} {f : AV → AV → AH → R AV} {Q : VK} (A : At W ro μ l h σ H) (p : postG (dV W) W ro μ H ((ma l h).bind fun x h1 => (mb l h1).bind fun y h2 => f x y h2) Q) :
    tE W ma σ H fun x H1 => tE W mb σ H1 fun y H2 => trOp2 W f x y H2 Q :=
  ⟨ro, μ, l, h, A, (bindP (dV W) A p).imp fun x H1 ⟨μ1, v, h1, A1, d1, st1, p1⟩ =>
    ⟨ro, μ1, l, h1, A1, (bindP (dV W) A1 p1).imp fun y H2 ⟨μ2, u, h2, A2, d2, st2, p2⟩ => ⟨ro, μ2, h2, v, u, A2.R, A1.R.den st2 d1, d2, p2⟩⟩⟩
/-- a test -/
theorem asB_bool {β : Type} {D' : Mu → Hp → AV → β → Prop} {r : R AV} {k : Bool → AH → R AV} {Q : β → Hp → Prop} (A : At W ro μ l h σ H) (p : postG D' W ro μ H (asB r k) Q) :
    postG dB W ro μ H (toB r) fun b H1 => ∃ μ1 h1, At W ro μ1 l h1 σ H1 ∧ Step ro μ H μ1 H1 ∧ postG D' W ro μ1 H1 (k b h1) Q := by
  rw [asB_eq] at p
  refine (bindP (D := dB) A p).imp fun b H1 ⟨μ1, v, h1, A1, d, st, q⟩ => ?_
  cases d
  exact ⟨μ1, h1, A1, st, q⟩
theorem asB_val {β : Type} {D' : Mu → Hp → AV → β → Prop} {r : R AV} {k : Bool → AH → R AV} {Q : β → Hp → Prop} (A : At W ro μ l h σ H) (p : postG D' W ro μ H (asB r k) Q) :
    postG (dV W) W ro μ H r fun u H1 => ∃ b μ1 h1, u = .bl b ∧ At W ro μ1 l h1 σ H1 ∧ Step ro μ H μ1 H1 ∧ postG D' W ro μ1 H1 (k b h1) Q := by
  refine (bindP (D := dV W) A p).imp fun u H1 ⟨μ1, v, h1, A1, d, st, q⟩ => ?_
  cases v with
  | bl b => cases d; exact ⟨b, μ1, h1, rfl, A1, st, q⟩
  | _ => exact False.elim q
/-- what is a bool, as a value -/
theorem bool_of {r : R AV} {Q : Bool → Hp → Prop} (p : postG dB W ro μ H (toB r) Q) : postG (dV W) W ro μ H r fun u H1 => ∃ k, u = .bl k ∧ Q k H1 := by
  cases r with
  | ok v h1 =>
    intro μ1 u H1 st R d
    cases v with
    | bl b => cases d; exact ⟨b, rfl, p μ1 b H1 st R rfl⟩
    | _ => exact False.elim p
  | ex x h1 => exact p
  | bad => exact p
end

abbrev SimE (X : Cx) (W : Wd) (e : Expr) (m : Loc' → AH → R AV) : Prop := PE X e (tE W m)
abbrev SimT (X : Cx) (W : Wd) (e : Expr) (m : Loc' → AH → R AV) : Prop := PT X e (tT W m)
abbrev SimA (X : Cx) (W : Wd) (es : List Expr) (m : Loc' → AH → R (List AV)) : Prop := PA X es (tA W m)
theorem PA.weaken {X : Cx} {es : List Expr} {t t' : TA} (p : PA X es t) (h : ∀ σ H Q, t' σ H Q → t σ H Q) : PA X es t' := ⟨fun pos pins s σ H Q I q => p.run pos pins s σ H Q I (h σ H Q q)⟩
theorem PE.either {X : Cx} {e : Expr} {t u : TE} (p : PE X e t) (q : PE X e u) : PE X e (fun σ H Q => t σ H Q ∨ u σ H Q) := ⟨fun pins s σ H Q I w => w.elim (p.run pins s σ H Q I) (q.run pins s σ H Q I)⟩
section
variable {X : Cx} {ca : Ca} {E : XK} {a b c : Expr} {es : List Expr} {ma mb mc : Loc' → AH → R AV} {ms : Loc' → AH → R (List AV)} {pos : Pos}
theorem sim_var {i : Nat} {x : Str} (hN : X.N[i]? = some x) (hv : Vis X.env.scope x) (hd : (x == ("__debug__" : Str)) = false) (hc : (x == ("__classdict__" : Str)) = false) : SimE X (wd X ca E) (.Name x pos) (fun l h => rOpt (l[i]?.join) h) :=
  PE.weaken (pe_var (i := i) hN hv hd hc) fun σ H Q ⟨ro, μ, l, h, A, p⟩ => by
    obtain ⟨v, e, p⟩ := postG.opt p
    cases q : l[i]? with
    | none => rw [q] at e; cases e
    | some o =>
      rw [q] at e
      have e' : o = some v := e
      subst e'
      obtain ⟨u, h1, h2⟩ := A.L.2 i v q
      exact ⟨u, h1, p.val A.R h2⟩
theorem sim_c {e : Expr} {v : V} {x : AV} (p : PE X e (tC v)) (d : ∀ μ H, Den X.K μ H x v) : SimE X (wd X ca E) e (fun _ h => .ok x h) :=
  PE.weaken p fun σ H Q ⟨ro, μ, l, h, A, p⟩ => p.val A.R (d μ H)
theorem sim_nil : SimA X (wd X ca E) [] (fun _ h => .ok [] h) := PA.weaken pa_nil fun σ H Q ⟨ro, μ, l, h, A, p⟩ => p.val A.R .nil
theorem sim_cons (ha : SimE X (wd X ca E) a ma) (hr : SimA X (wd X ca E) es ms) (hs : starEach (a :: es) X.env = (false, eval a X.env) :: starEach es X.env) :
    SimA X (wd X ca E) (a :: es) (fun l h => (ma l h).bind fun x h1 => (ms l h1).bind fun xs h2 => .ok (x :: xs) h2) :=
  PA.weaken (pa_cons ha hr hs) fun σ H Q ⟨ro, μ, l, h, A, p⟩ => ⟨ro, μ, l, h, A, (bindP (dV _) A p).imp fun x H1 ⟨μ1, v, h1, A1, d1, st1, p1⟩ =>
    ⟨ro, μ1, l, h1, A1, (bindP (dL _) A1 p1).imp fun y H2 ⟨μ2, u, h2, A2, d2, st2, p2⟩ => p2.val A2.R (.cons (A1.R.den st2 d1) d2)⟩⟩
theorem sim_tup {k : Nat} (ha : SimA X (wd X ca E) es ms) : SimE X (wd X ca E) (.Tuple es k pos) (fun l h => (ms l h).bind fun vs h1 => match lim vs.length with | true => .ok (.tup vs) h1 | false => .bad) :=
  PE.weaken (pe_tup ha) fun σ H Q ⟨ro, μ, l, h, A, p⟩ => ⟨ro, μ, l, h, A, (bindP (dL _) A p).imp fun xs H1 ⟨μ1, v, h1, A1, d1, st1, p1⟩ => by
    cases e : lim v.length with
    | false => rw [e] at p1; exact False.elim p1
    | true =>
      rw [e] at p1
      exact ⟨by rw [← d1.length]; exact lim_le e, fun q hq => p1 μ1 _ _ (Step.laid hq) (A1.R.laid hq) (.tup (SqT.of upd_same) (A1.R.denL (Step.laid hq) d1))⟩⟩
theorem sim_mk (ha : SimA X (wd X ca E) es ms) : SimE X (wd X ca E) (.List es pos) (fun l h => (ms l h).bind fun vs h1 => match lim vs.length with | true => alloc h1 (.lst vs) | false => .bad) :=
  PE.weaken (pe_lst ha) fun σ H Q ⟨ro, μ, l, h, A, p⟩ => ⟨ro, μ, l, h, A, (bindP (dL _) A p).imp fun xs H1 ⟨μ1, v, h1, A1, d1, st1, p1⟩ => by
    cases e : lim v.length with
    | false => rw [e] at p1; exact False.elim p1
    | true =>
      rw [e] at p1
      have z := lim_le e
      obtain ⟨_, q⟩ := postG.alloc A1.R p1
      exact ⟨by rw [← d1.length]; exact z, fun c hc => q c _ hc ⟨z, _, upd_same, A1.R.denL (Step.laid hc) d1⟩⟩⟩
theorem sim_bin {op : Operator} (ha : SimE X (wd X ca E) a ma) (hb : SimE X (wd X ca E) b mb) : SimE X (wd X ca E) (.BinOp a op b pos) (fun l h => (ma l h).bind fun x h1 => (mb l h1).bind fun y h2 => binA op x y h2) :=
  PE.weaken (pe_op (bin_ok op) ha hb) fun σ H Q ⟨ro, μ, l, h, A, p⟩ => go2 A p
theorem sim_neg (ha : SimE X (wd X ca E) a ma) : SimE X (wd X ca E) (.UnaryOp .USub a pos) (fun l h => (ma l h).bind fun x h1 => match x with | .int i => .ok (.int (-i)) h1 | _ => .bad) :=
  PE.weaken (pe_un un_neg ha) fun σ H Q ⟨ro, μ, l, h, A, p⟩ => ⟨ro, μ, l, h, A, (bindP (dV _) A p).imp fun x H1 ⟨μ1, v, h1, A1, d1, st1, p1⟩ => by
    cases v with
    | int i => cases d1; exact ⟨i, rfl, p1.val A1.R (.int _)⟩
    | _ => exact False.elim p1⟩
theorem sim_cmp {op : CmpOp} (hu : X.A.units + 65 < cLine) (ha : SimE X (wd X ca E) a ma) (hb : SimE X (wd X ca E) b mb) (hm : behindInMarks op b = false) :
    SimE X (wd X ca E) (.Compare a [op] [b] pos) (fun l h => (ma l h).bind fun x h1 => (mb l h1).bind fun y h2 => cmpA op x y h2) :=
  PE.weaken (pe_cmpR (cmp_ok hu op) ha hb hm) fun σ H Q ⟨ro, μ, l, h, A, p⟩ => go2 A p
/-- a test by its value -/
theorem sim_pt (p : SimE X (wd X ca E) a ma) (he : ∀ whole, isTrue a X.env whole = (do let v ← whole; standAt a.pos; holding [v] (truthy v))) : SimT X (wd X ca E) a ma :=
  PT.weaken (pt_val p he) fun σ H Q ⟨ro, μ, l, h, A, p⟩ => ⟨ro, μ, l, h, A, bool_of p⟩
theorem simt_cmp {op : CmpOp} (hu : X.A.units + 65 < cLine) (ha : SimE X (wd X ca E) a ma) (hb : SimE X (wd X ca E) b mb) (hm : behindInMarks op b = false) :
    SimT X (wd X ca E) (.Compare a [op] [b] pos) (fun l h => (ma l h).bind fun x h1 => (mb l h1).bind fun y h2 => cmpA op x y h2) :=
  PT.weaken (pt_cmpR (cmp_ok hu op) ha hb hm) fun σ H Q ⟨ro, μ, l, h, A, p⟩ => go2 A (bool_of p)
theorem go3 {W : Wd} {ro : Nat} {μ : Mu} {l : Loc'} {h : AH} {σ : L2.St} {H : Hp} {op op' : CmpOp} {Q : VK} (A : At W ro μ l h σ H)
    (p : postG (dV W) W ro μ H ((ma l h).bind fun x h1 => (mb l h1).bind fun y h2 => asB (cmpA op x y h2) fun r h3 => match r with | true => (mc l h3).bind fun z h4 => cmpA op' y z h4 | false => .ok (.bl false) h3) Q) :
    tChain (trOp2 W (cmpA op)) (trOp2 W (cmpA op')) (tE W ma) (tE W mb) (tE W mc) σ H Q :=
  ⟨ro, μ, l, h, A, (bindP (dV W) A p).imp fun x H1 ⟨μ1, v, h1, A1, d1, st1, p1⟩ =>
    ⟨ro, μ1, l, h1, A1, (bindP (dV W) A1 p1).imp fun y H2 ⟨μ2, u, h2, A2, d2, st2, p2⟩ => ⟨ro, μ2, h2, v, u, A2.R, A1.R.den st2 d1, d2,
      (asB_val A2 p2).imp fun z H3 ⟨k, μ3, h3, ez, A3, st3, p3⟩ => ⟨k, ez, by
        cases k with
        | true => rw [if_pos rfl]; exact ⟨ro, μ3, l, h3, A3, (bindP (dV W) A3 p3).imp fun w H4 ⟨μ4, t, h4, A4, d4, st4, p4⟩ => ⟨ro, μ4, h4, u, t, A4.R, A2.R.den (st3.trans st4) d2, d4, p4⟩⟩
        | false => rw [if_neg Bool.false_ne_true]; exact p3.val A3.R (.bl _)⟩⟩⟩⟩
theorem sim_chain {op op' : CmpOp} (hu : X.A.units + 65 < cLine) (ha : SimE X (wd X ca E) a ma) (hb : SimE X (wd X ca E) b mb) (hc : SimE X (wd X ca E) c mc) (hm : lastMarks [op, op'] [b, c] = false) :
    SimE X (wd X ca E) (.Compare a [op, op'] [b, c] pos) (fun l h => (ma l h).bind fun x h1 => (mb l h1).bind fun y h2 => asB (cmpA op x y h2) fun r h3 => match r with | true => (mc l h3).bind fun z h4 => cmpA op' y z h4 | false => .ok (.bl false) h3) :=
  PE.weaken (pe_chain (cmp_ok hu op) (cmp_ok hu op') ha hb hc hm) fun σ H Q ⟨ro, μ, l, h, A, p⟩ => go3 A p
theorem simt_chain {op op' : CmpOp} (hu : X.A.units + 65 < cLine) (ha : SimE X (wd X ca E) a ma) (hb : SimE X (wd X ca E) b mb) (hc : SimE X (wd X ca E) c mc) (hm : lastMarks [op, op'] [b, c] = false) :
    SimT X (wd X ca E) (.Compare a [op, op'] [b, c] pos) (fun l h => (ma l h).bind fun x h1 => (mb l h1).bind fun y h2 => asB (cmpA op x y h2) fun r h3 => match r with | true => (mc l h3).bind fun z h4 => cmpA op' y z h4 | false => .ok (.bl false) h3) :=
  PT.weaken (pt_chain (cmp_ok hu op) (cmp_ok hu op') ha hb hc hm) fun σ H Q ⟨ro, μ, l, h, A, p⟩ => go3 A (bool_of p)
/-! and, or, not -/
def andM (ma mb : Loc' → AH → R AV) : Loc' → AH → R AV := fun l h => asB (ma l h) fun r h1 => match r with
  | true => mb l h1
  | false => .ok (.bl false) h1
def orM (ma mb : Loc' → AH → R AV) : Loc' → AH → R AV := fun l h => asB (ma l h) fun r h1 => match r with
  | true => .ok (.bl true) h1
  | false => mb l h1
theorem toB_asB (r : R AV) (k : Bool → AH → R AV) : toB (asB r k) = (toB r).bind fun b h => toB (k b h) := by
  cases r with
  | ok v h => cases v <;> rfl
  | ex x h => rfl
  | bad => rfl
theorem sim_and {d : Expr} {rest : List Expr} (ha : SimE X (wd X ca E) a ma) (hb : SimE X (wd X ca E) (.BoolOp .And (d :: rest) pos) mb) : SimE X (wd X ca E) (.BoolOp .And (a :: d :: rest) pos) (andM ma mb) :=
  PE.weaken (pe_and ha hb) fun σ H Q ⟨ro, μ, l, h, A, p⟩ => ⟨ro, μ, l, h, A, (asB_val A p).imp fun u H1 ⟨k, μ1, h1, e, A1, st, q⟩ => ⟨k, e, by
    cases k with
    | true => rw [if_pos rfl]; exact ⟨ro, μ1, l, h1, A1, q⟩
    | false => rw [if_neg Bool.false_ne_true]; exact q.val A1.R (.bl _)⟩⟩
theorem sim_or {d : Expr} {rest : List Expr} (ha : SimE X (wd X ca E) a ma) (hb : SimE X (wd X ca E) (.BoolOp .Or (d :: rest) pos) mb) : SimE X (wd X ca E) (.BoolOp .Or (a :: d :: rest) pos) (orM ma mb) :=
  PE.weaken (pe_or ha hb) fun σ H Q ⟨ro, μ, l, h, A, p⟩ => ⟨ro, μ, l, h, A, (asB_val A p).imp fun u H1 ⟨k, μ1, h1, e, A1, st, q⟩ => ⟨k, e, by
    cases k with
    | true => rw [if_pos rfl]; exact q.val A1.R (.bl _)
    | false => rw [if_neg Bool.false_ne_true]; exact ⟨ro, μ1, l, h1, A1, q⟩⟩⟩
theorem sim_one {op} (ha : SimE X (wd X ca E) a ma) : SimE X (wd X ca E) (.BoolOp op [a] pos) ma := pe_one ha
abbrev SimW (X : Cx) (W : Wd) (e : Expr) (m : Loc' → AH → R AV) : Prop := PW X e (tT W m)
theorem PW.weaken {X : Cx} {e : Expr} {t t' : TT} (p : PW X e t) (h : ∀ σ H Q, t' σ H Q → t σ H Q) : PW X e t' := ⟨fun wh pins s σ H Q I q => p.run wh pins s σ H Q I (h σ H Q q)⟩
theorem simw_and {d : Expr} {rest : List Expr} (ha : SimT X (wd X ca E) a ma) (hb : SimW X (wd X ca E) (.BoolOp .And (d :: rest) pos) mb) : SimW X (wd X ca E) (.BoolOp .And (a :: d :: rest) pos) (andM ma mb) :=
  PW.weaken (pw_and ha hb) fun σ H Q ⟨ro, μ, l, h, A, p⟩ => ⟨ro, μ, l, h, A, by
    unfold andM at p
    rw [toB_asB] at p
    refine (bindP dB A p).imp fun k H1 ⟨μ1, v, h1, A1, e, st, q⟩ => ?_
    cases e
    cases k with
    | true => rw [if_pos rfl]; exact ⟨ro, μ1, l, h1, A1, q⟩
    | false => rw [if_neg Bool.false_ne_true]; exact postG.val A1.R (show postG dB _ ro μ1 H1 (.ok false h1) Q from q) rfl⟩
theorem simw_or {d : Expr} {rest : List Expr} (ha : SimT X (wd X ca E) a ma) (hb : SimW X (wd X ca E) (.BoolOp .Or (d :: rest) pos) mb) : SimW X (wd X ca E) (.BoolOp .Or (a :: d :: rest) pos) (orM ma mb) :=
  PW.weaken (pw_or ha hb) fun σ H Q ⟨ro, μ, l, h, A, p⟩ => ⟨ro, μ, l, h, A, by
    unfold orM at p
    rw [toB_asB] at p
    refine (bindP dB A p).imp fun k H1 ⟨μ1, v, h1, A1, e, st, q⟩ => ?_
    cases e
    cases k with
    | true => rw [if_pos rfl]; exact postG.val A1.R (show postG dB _ ro μ1 H1 (.ok true h1) Q from q) rfl
    | false => rw [if_neg Bool.false_ne_true]; exact ⟨ro, μ1, l, h1, A1, q⟩⟩
theorem simw_one {op} (ha : SimT X (wd X ca E) a ma) : SimW X (wd X ca E) (.BoolOp op [a] pos) ma := by
  cases op with
  | And => exact pw_and1 ha
  | Or => exact pw_or1 ha
theorem sim_not (ha : SimE X (wd X ca E) a ma) : SimE X (wd X ca E) (.UnaryOp .Not a pos) (fun l h => asB (ma l h) fun r h1 => .ok (.bl (!r)) h1) :=
  PE.weaken (pe_not ha) fun σ H Q ⟨ro, μ, l, h, A, p⟩ => ⟨ro, μ, l, h, A, (asB_val A p).imp fun u H1 ⟨k, μ1, h1, e, A1, st, q⟩ => ⟨k, e, q.val A1.R (.bl _)⟩⟩
theorem simt_not (ha : SimT X (wd X ca E) a ma) : SimT X (wd X ca E) (.UnaryOp .Not a pos) (fun l h => asB (ma l h) fun r h1 => .ok (.bl (!r)) h1) :=
  PT.weaken (pt_not ha) fun σ H Q ⟨ro, μ, l, h, A, p⟩ => ⟨ro, μ, l, h, A, by
    rw [toB_asB] at p
    refine (bindP dB A p).imp fun k H1 ⟨μ1, v, h1, A1, e, st, q⟩ => ?_
    cases e
    exact postG.val A1.R (show postG dB _ ro μ1 H1 (.ok (!k) h1) Q from q) rfl⟩
theorem sim_ite (hc : SimT X (wd X ca E) c mc) (ha : SimE X (wd X ca E) a ma) (hb : SimE X (wd X ca E) b mb) : SimE X (wd X ca E) (.IfExp c a b pos) (fun l h => asB (mc l h) fun r h1 => match r with | true => ma l h1 | false => mb l h1) :=
  PE.weaken (pe_ifExp hc ha hb) fun σ H Q ⟨ro, μ, l, h, A, p⟩ => ⟨ro, μ, l, h, A, (asB_bool A p).imp fun k H1 ⟨μ1, h1, A1, st, q⟩ => by
    cases k with
    | true => rw [if_pos rfl]; exact ⟨ro, μ1, l, h1, A1, q⟩
    | false => rw [if_neg Bool.false_ne_true]; exact ⟨ro, μ1, l, h1, A1, q⟩⟩
theorem sim_sub (hu : X.A.units + 65 < cLine) (ha : SimE X (wd X ca E) a ma) (hb : SimE X (wd X ca E) b mb) (hs : PlainIx b) : SimE X (wd X ca E) (.Subscript a b pos) (fun l h => (ma l h).bind fun x h1 => (mb l h1).bind fun y h2 => subA x y h2) :=
  PE.weaken (pe_ix (sub_ok hu) ha hb hs) fun σ H Q ⟨ro, μ, l, h, A, p⟩ => go2 A p
end
end Ev
set_option Elab.async false
set_option linter.all false
set_option maxRecDepth 100000
set_option maxHeartbeats 4000000
/-! calls -/
namespace Ev
open PySem PySem.Spec PyProof.Rows L2

def notStar : Expr → Bool
  | .Starred _ _ => false
  | _ => true
theorem star_one {e : Expr} {es : List Expr} {env : Env} (h : notStar e = true) : starEach (e :: es) env = (false, eval e env) :: starEach es env := by
  cases e <;> first | rfl | exact absurd h Bool.false_ne_true
theorem star_any {pos : Pos} {env : Env} : ∀ {es : List Expr}, es.all notStar = true → (backTo pos (starEach es env)).any (·.1) = false
  | [], _ => rfl
  | e :: es, h => by
    rw [List.all_cons, Bool.and_eq_true] at h
    rw [star_one h.1]
    show (false || (backTo pos (starEach es env)).any (·.1)) = false
    rw [star_any h.2]
    rfl
theorem star_all {pos : Pos} {env : Env} : ∀ {es : List Expr}, es.all notStar = true → (backTo pos (starEach es env)).all (fun x => !x.1) = true
  | [], _ => rfl
  | e :: es, h => by
    rw [List.all_cons, Bool.and_eq_true] at h
    rw [star_one h.1]
    show (true && (backTo pos (starEach es env)).all (fun x => !x.1)) = true
    rw [star_all h.2]
    rfl
/-- o is no call without arguments -/
def baseOk : Expr → Bool
  | .Call (.Name _ _) [] [] _ => false
  | _ => true
theorem base_ok {o : Expr} {m : Str} {env : Env} {t : Sem Value} (h : baseOk o = true) : attributeBase o m env t = t := by
  cases o with
  | Call f as ks pos =>
    cases f with
    | Name id p =>
      cases as with
      | nil =>
        cases ks with
        | nil => exact absurd h Bool.false_ne_true
        | cons k ks => rfl
      | cons a as => rfl
    | _ => rfl
  | _ => rfl
section
variable {M : Model} {A : Around} {E : Value → Shared → Prop} {s : Shared} {env : Env}
theorem meth_of {o : Expr} {m : Str} {apos pos : Pos} {es : List Expr} {Q : Value → Shared → Prop} (hb : baseOk o = true) (hs : es.all notStar = true) (hn : es.length < 20) (hl : (apos.endLine == pos.line) = true)
    (h : wpAny M A (eval o env) (fun ov s₁ => wpAny M A (getMethod ov m (do return (← importBound o env).getD true)) (fun fx s₂ => wpAny M A (callWith pos fx.1 fx.2 (backTo pos (starEach es env)) (backToKw pos (keywordEach [] env))) Q E s₂) E s₁) E s) :
    wpAny M A (eval (.Call (.Attribute o m apos) es [] pos) env) Q E s := by
  have hform : methodCallForm (es.length + ([] : List Keyword).length) (backTo pos (starEach es env)) (backToKw pos (keywordEach [] env)) = true := by
    show ((backTo pos (starEach es env)).all (fun x => !x.1) && true && decide (es.length + 0 + 0 < 30)) = true
    rw [star_all hs, decide_eq_true (by omega)]
    rfl
  have hpos : methodCallPos true o env apos pos = pure pos := by
    unfold methodCallPos
    simp [hl]
  rw [arm_eval_Call, base_ok hb]
  refine wpAny_bind (thn h fun ov s₁ h₁ => wpAny_bind (wpAny_standAt ?_))
  unfold methodCall
  rw [hform]
  refine wpAny_bind (wpAny_holding (thn h₁ fun fx s₂ h₂ => ?_))
  exact wpAny_bind (wpAny_of_eq hpos h₂)
end

/-! ### promises of the table -/
abbrev Wd.to (W : Wd) (E : XK) : Wd := { W with E := E }
theorem RelH.to {W : Wd} {ro : Nat} {μ : Mu} {h : AH} {H : Hp} (R : RelH W ro μ h H) (E : XK) : RelH (W.to E) ro μ h H := ⟨R.lim, R.rol, R.roe, R.inj, R.obj, R.back, R.full, R.tabs⟩
def spF (W : Wd) (F : Fn) : Sp := fun vs H Q E => ∃ ro μ h args, RelH W ro μ h H ∧ DenL W.K μ H args vs ∧ postG (dV (W.to E)) (W.to E) ro μ H (F args h) Q
/-- a def stands at f -/
def FnS (X : Cx) (ca : Ca) (lv : Nat) (F : Fn) (f : Addr) : Prop := FnR X.prog X.w X.K X.mg X.base (L2.CX X.prog X.w) lv f (spF (wd X ca E0) F)
/-- what leaves a def, as the body wants it -/
def WE0 (E : XK) : WX := fun cls d _ H => E cls d H
theorem passE {X : Cx} {E : XK} (tk : Takes X (WE0 E)) : Passes (L2.CX X.prog X.w) X E := passes_call tk fun _ _ _ _ h => h
section
variable {X : Cx} {ca : Ca} {E : XK} {lv : Nat} {a : Expr} {es : List Expr} {ma : Loc' → AH → R AV} {ms : Loc' → AH → R (List AV)} {pos p apos : Pos} {x : Str} {F : Fn} {f : Addr}
theorem to_sp {ro : Nat} {μ : Mu} {h : AH} {H : Hp} {args : List AV} {vs : List V} {Q : VK} (R : RelH (wd X ca E) ro μ h H) (d : DenL X.K μ H args vs) (p : postG (dV (wd X ca E)) (wd X ca E) ro μ H (F args h) Q) : spF (wd X ca E0) F vs H Q E :=
  ⟨ro, μ, h, args, R.to E0, d, p⟩
theorem sim_call {e : Expr} (hr : Room lv X.A) (tk : Takes X (WE0 E)) (hg : Gl X x) (hm : X.mg x = some (.ref f)) (hk : PySem.W.keepIn X.K (.ref f) = true) (hf : FnS X ca lv F f) (ha : SimA X (wd X ca E) (e :: es) ms) (hs : (e :: es).all notStar = true) (hd : (x == ("__debug__" : Str)) = false) :
    SimE X (wd X ca E) (.Call (.Name x p) (e :: es) [] pos) (fun l h => (ms l h).bind fun vs h1 => F vs h1) := by
  refine ⟨fun pins s σ H Q I ⟨ro, μ, l, h, A, q⟩ => ?_⟩
  have hs' := hs
  rw [List.all_cons, Bool.and_eq_true] at hs'
  refine wpAny_Call_Name_kw (ld_glob I hg hm ?_ hd)
  refine PySem.W.callWith_K (h₀ := X.base) I.ok.mod.kin hk (thn (ha.run pos pins s σ H _ I ⟨ro, μ, l, h, A, bindP (dL _) A q⟩) fun us s1 ⟨vs, H1, I1, r, μ1, v, h1, A1, d, st, q1⟩ => ⟨I1.kIn, ?_⟩) (star_one hs'.1) (star_any hs'.2)
  exact wpAny_call (run_fnR hf hr (passE tk) I1 r (to_sp A1.R d q1))
theorem sim_call0 (hr : Room lv X.A) (tk : Takes X (WE0 E)) (hg : Gl X x) (hm : X.mg x = some (.ref f)) (hk : PySem.W.keepIn X.K (.ref f) = true) (hf : FnS X ca lv F f) (hd : (x == ("__debug__" : Str)) = false) :
    SimE X (wd X ca E) (.Call (.Name x p) [] [] pos) (fun l h => F [] h) := by
  refine ⟨fun pins s σ H Q I ⟨ro, μ, l, h, A, q⟩ => ?_⟩
  refine wpAny_Call_Name_kw (ld_glob I hg hm ?_ hd)
  exact PySem.W.callWith_K0 I.kIn hk (wpAny_call (run_fnR (us := []) (vs := []) hf hr (passE tk) I .nil (to_sp A.R .nil q)))
/-! ### instances -/
theorem ins_slt {ro : Nat} {μ : Mu} {h : AH} {H : Hp} {v : AV} {u : V} {c : Nat} {fs : List (Option AV)} (R : RelH (wd X ca E) ro μ h H) (d : Den X.K μ H v u) (e : insOf h v = some (c, fs)) :
    ∃ n b dx vs, v = .obj n ∧ μ n = some b ∧ u = .ref b ∧ h.get n = some (.ins c fs) ∧ SlX.Slt H b (ca c) dx vs ∧ H b = some (SlX.SlO b (ca c) dx vs) ∧ H dx = some (.xd []) ∧ ∀ (i : Nat) v, fs[i]? = some (some v) → ∃ u, vs[i]? = some (some u) ∧ Den X.K μ H v u := by
  unfold insOf at e
  cases d with
  | @obj n b hn =>
    obtain ⟨o, ho, r⟩ := R.there hn
    dsimp only at e
    rw [ho] at e
    cases o with
    | ins c' fs' =>
      cases e
      obtain ⟨dx, vs, h1, h2, h3⟩ := r
      exact ⟨n, b, dx, vs, rfl, hn, rfl, ho, .inr ⟨h1, h2⟩, h1, h2, h3⟩
    | _ => cases e
  | _ => cases e
/-- a class's slot, by its place -/
def SltK (X : Cx) (ca : Ca) (f : Str) (p : Nat × Nat) : Prop := SlX.SCls X.K (ca p.1) ∧ ∃ d, SlX.Slot1 X.K (ca p.1) f d p.2
theorem alt_mem {α : Type} {c : Nat} {a : α} : ∀ {l : List (Nat × α)}, altOf c l = some a → (c, a) ∈ l
  | [], e => by cases e
  | (k, b) :: r, e => by
    have e' : (match Nat.beq k c with | true => some b | false => altOf c r) = some a := e
    cases q : Nat.beq k c with
    | true =>
      rw [q] at e'
      cases e'
      have := Nat.eq_of_beq_eq_true q
      subst this
      exact List.mem_cons_self
    | false =>
      rw [q] at e'
      exact List.mem_cons_of_mem _ (alt_mem e')
theorem sim_att {g : Str} {alts : List (Nat × Nat)} (ha : SimE X (wd X ca E) a ma) (hk : ∀ q ∈ alts, SltK X ca g q) (hb : baseOk a = true) : SimE X (wd X ca E) (.Attribute a g pos) (fun l h => (ma l h).bind fun x h1 => attA x alts h1) :=
  PE.weaken (SlX.pe_sl ha (base_ok hb)) fun σ H Q ⟨ro, μ, l, h, A, p⟩ => ⟨ro, μ, l, h, A, (bindP (dV _) A p).imp fun u H1 ⟨μ1, v, h1, A1, d1, st1, p1⟩ => by
    unfold attA at p1
    cases e : insOf h1 v with
    | none => rw [e] at p1; exact False.elim p1
    | some q =>
      obtain ⟨c, fs⟩ := q
      rw [e] at p1
      dsimp only at p1
      obtain ⟨n, b, dx, vs, rfl, hn, rfl, hg, hs, _, _, hf⟩ := ins_slt A1.R d1 e
      cases e2 : altOf c alts with
      | none => rw [e2] at p1; exact False.elim p1
      | some i =>
        rw [e2] at p1
        obtain ⟨w, ew, p2⟩ := postG.opt p1
        cases e3 : fs[i]? with
        | none => rw [e3] at ew; cases ew
        | some o =>
          rw [e3] at ew
          have ew' : o = some w := ew
          subst ew'
          obtain ⟨t, ht, dt⟩ := hf i w e3
          obtain ⟨k1, d, k2⟩ := hk _ (alt_mem e2)
          exact ⟨b, ca c, dx, d, vs, i, t, rfl, hs, k1, k2, ht, p2.val A1.R dt⟩⟩
/-- a class's method (or property's getter), by its place in the table -/
def MetK (X : Cx) (ca : Ca) (τ : Tab) (lv : Nat) (m : Str) (q : Nat × Nat) : Prop := SlX.SCls X.K (ca q.1) ∧ ∃ g, Meth X.K (ca q.1) m g ∧ FnS X ca lv (τ.fn q.2) g
theorem sim_meth {τ : Tab} {e : Expr} {m : Str} {alts : List (Nat × Nat)} (hr : Room lv X.A) (tk : Takes X (WE0 E)) (ho : SimE X (wd X ca E) a ma) (hk : ∀ q ∈ alts, MetK X ca τ lv m q) (ha : SimA X (wd X ca E) (e :: es) ms) (hb : baseOk a = true) (hs : (e :: es).all notStar = true) (hn : (e :: es).length < 20) (hl : (apos.endLine == pos.line) = true) :
    SimE X (wd X ca E) (.Call (.Attribute a m apos) (e :: es) [] pos) (fun l h => (ma l h).bind fun x h1 => match insOf h1 x with
      | some (c, _) => (match altOf c alts with
        | some k => (ms l h1).bind fun vs h2 => τ.fn k (x :: vs) h2
        | none => .bad)
      | none => .bad) := by
  refine ⟨fun pins s σ H Q I ⟨ro, μ, l, h, A, q⟩ => ?_⟩
  have hs' := hs
  rw [List.all_cons, Bool.and_eq_true] at hs'
  refine meth_of hb hs hn hl (thn (ho.run pins s σ H _ I ⟨ro, μ, l, h, A, bindP (dV _) A q⟩) fun u s1 ⟨x, H1, I1, rx, μ1, v, h1, A1, d1, st1, q1⟩ => ?_)
  cases e1 : insOf h1 v with
  | none => rw [e1] at q1; exact False.elim q1
  | some z =>
    obtain ⟨c, fs⟩ := z
    rw [e1] at q1
    dsimp only at q1
    obtain ⟨n, b, dx, vs, rfl, hn, rfl, hg, hsl, _, _, hf⟩ := ins_slt A1.R d1 e1
    cases e2 : altOf c alts with
    | none => rw [e2] at q1; exact False.elim q1
    | some k =>
      rw [e2] at q1
      dsimp only at q1
      obtain ⟨k1, g, k2, k3⟩ := hk _ (alt_mem e2)
      obtain rfl : u = Value.ref b := rx
      refine SlX.getmethsl_ok I1 hsl k1 k2 ?_
      refine PySem.W.callWith_K (first := [.ref b]) (h₀ := X.base) I.ok.mod.kin k2.kp (thn (ha.run pos pins s1 σ H1 _ I1 ⟨ro, μ1, l, h1, A1, bindP (dL _) A1 q1⟩) fun us s2 ⟨ws, H2, I2, r, μ2, w, h2, A2, d2, st2, q2⟩ => ⟨I2.kIn, ?_⟩) (star_one hs'.1) (star_any hs'.2)
      exact wpAny_call (run_fnR (us := .ref b :: us) (vs := .ref b :: ws) k3 hr (passE tk) I2 (.cons rfl r) (to_sp A2.R (.cons (A1.R.den st2 d1) d2) q2))
theorem sim_meth0 {τ : Tab} {m : Str} {alts : List (Nat × Nat)} (hr : Room lv X.A) (tk : Takes X (WE0 E)) (ho : SimE X (wd X ca E) a ma) (hk : ∀ q ∈ alts, MetK X ca τ lv m q) (hb : baseOk a = true) (hl : (apos.endLine == pos.line) = true) :
    SimE X (wd X ca E) (.Call (.Attribute a m apos) [] [] pos) (fun l h => (ma l h).bind fun x h1 => match insOf h1 x with
      | some (c, _) => (match altOf c alts with
        | some k => τ.fn k [x] h1
        | none => .bad)
      | none => .bad) := by
  refine ⟨fun pins s σ H Q I ⟨ro, μ, l, h, A, q⟩ => ?_⟩
  refine meth_of hb rfl (by decide) hl (thn (ho.run pins s σ H _ I ⟨ro, μ, l, h, A, bindP (dV _) A q⟩) fun u s1 ⟨x, H1, I1, rx, μ1, v, h1, A1, d1, st1, q1⟩ => ?_)
  cases e1 : insOf h1 v with
  | none => rw [e1] at q1; exact False.elim q1
  | some z =>
    obtain ⟨c, fs⟩ := z
    rw [e1] at q1
    dsimp only at q1
    obtain ⟨n, b, dx, vs, rfl, hn, rfl, hg, hsl, _, _, hf⟩ := ins_slt A1.R d1 e1
    cases e2 : altOf c alts with
    | none => rw [e2] at q1; exact False.elim q1
    | some k =>
      rw [e2] at q1
      dsimp only at q1
      obtain ⟨k1, g, k2, k3⟩ := hk _ (alt_mem e2)
      obtain rfl : u = Value.ref b := rx
      refine SlX.getmethsl_ok I1 hsl k1 k2 ?_
      exact PySem.W.callWith_K0 (first := [.ref b]) I1.kIn k2.kp (wpAny_call (run_fnR (us := [.ref b]) (vs := [.ref b]) k3 hr (passE tk) I1 (.cons rfl .nil) (to_sp A1.R (.cons d1 .nil) q1)))
/-! a new instance -/
theorem made_sl {C : Addr} {pins : List (Addr × Obj)} {σ : L2.St} {H : Hp} {s : Shared} {b dx : Addr} (I : Inv X pins σ (upd (upd H dx (.own b)) b (.ins C dx [])) s) (ne : dx ≠ b) : Inv X pins σ (SlX.slH H b C dx []) s := by
  have hs : SlX.Slt (upd (upd H dx (.own b)) b (.ins C dx [])) b C dx [] := .inl ⟨upd_same, rfl⟩
  obtain ⟨_, sl, mA, e, r, _⟩ := SlX.slt_at I hs
  have z := SlX.inv_slot (vs' := []) (sl' := sl) (h' := s.heap) (t' := s.toks) I hs (fun _ _ _ _ q => q) (fun _ q => q) e (SlX.SlR.nil _)
  have e2 : SlX.slH (upd (upd H dx (.own b)) b (.ins C dx [])) b C dx [] = SlX.slH H b C dx [] := by
    funext y
    by_cases h1 : y = b
    · subst h1; unfold SlX.slH; rw [upd_same, upd_same]
    · by_cases h2 : y = dx
      · subst h2; unfold SlX.slH; rw [upd_ne h1, upd_ne h1, upd_same, upd_same]
      · rw [SlX.slH_ne h1 h2, SlX.slH_ne h1 h2, upd_ne h1, upd_ne h2]
  rw [e2] at z
  exact z
end
end Ev
set_option Elab.async false
set_option linter.all false
set_option maxRecDepth 100000
set_option maxHeartbeats 4000000
/-! instances: made, compared, measured -/
namespace Ev
open PySem PySem.Spec PyProof.Rows L2
section
variable {X : Cx} {ca : Ca} {E : XK} {lv : Nat} {a b : Expr} {es : List Expr} {ma mb : Loc' → AH → R AV} {ms : Loc' → AH → R (List AV)} {pos p apos : Pos} {x : Str} {F : Fn} {f : Addr}
/-- the new instance in both heaps -/
theorem new_at {W : Wd} {ro : Nat} {μ : Mu} {h : AH} {H : Hp} {c : Nat} {o dx : Addr} (R : RelH W ro μ h H) (hn : h.n < top) (ho : H o = none) (hd : H dx = none) (ne : dx ≠ o) :
    Step ro μ H (muPut μ h.n o) (SlX.slH H o (W.ca c) dx []) ∧ RelH W ro (muPut μ h.n o) (h.push (.ins c [])) (SlX.slH H o (W.ca c) dx []) ∧ muPut μ h.n o h.n = some o := by
  have R1 : RelH W ro μ h (upd H dx (.xd [])) := R.laid hd
  have ho1 : upd H dx (HO.xd []) o = none := by rw [upd_ne (Ne.symm ne)]; exact ho
  have R2 : RelH W ro μ h (SlX.slH H o (W.ca c) dx []) := R1.laid ho1
  refine ⟨(Step.laid hd).trans (Step.own R1 ho1), R2.own hn (fun n => R.fresh ho n) ⟨dx, [], ?_, ?_, fun i v e => by simp at e⟩, by unfold muPut; rw [if_pos rfl]⟩
  · unfold SlX.slH; rw [upd_same]
  · unfold SlX.slH; rw [upd_ne ne, upd_same]
theorem run_new {C : Addr} {k : Nat} {sp : Sp} {pins : List (Addr × Obj)} {σ : L2.St} {H : Hp} {s : Shared} {Q : VK} {us : List Value} {vs : List V} (M : Mk X.K C f) (hf : FnR X.prog X.w X.K X.mg X.base (L2.CX X.prog X.w) k f sp) (hr : Room (k + 1) X.A) (tk : Takes X (WE0 E)) (I : Inv X pins σ H s) (r : Vals vs us)
    (h : ∀ o dx, H o = none → H dx = none → dx ≠ o → sp (.ref o :: vs) (SlX.slH H o C dx []) (fun v H2 => v = .non ∧ Q (.ref o) H2) E) :
    wpAny (model X.prog X.w) X.A (call (.ref C) us) (EP X pins σ Q) X.xe s := by
  have ne : s.heap.objs.size ≠ s.heap.objs.size + 1 := Nat.ne_of_lt (Nat.lt_succ_self _)
  have q := h (s.heap.objs.size + 1) s.heap.objs.size (I.hok.fresh (Nat.le_succ _)) (I.hok.fresh (Nat.le_refl _)) ne
  have I2 := made_sl (Inv.made (C := C) I) ne
  refine wpAny_call (make_map (f := f) I.kIn M.makes M.init (beq_iff_eq.mp M.fn) (codeAny_mono (hf _ X.stack _ _ (Value.ref (s.heap.objs.size + 1) :: us) _ _ E (hr.make C us []) (I2.env0.make C us []) (.cons (show RelV (.ref _) _ from rfl) r) q) fun w s' hq => ?_))
  cases w with
  | error e => exact passE tk pins σ _ _ e s' I2 hq
  | ok fl =>
    cases fl with
    | ret u =>
      obtain ⟨v, H', I3, rv, ev, q3⟩ := I2.after hq
      subst ev
      exact ⟨rv, ⟨.ref (s.heap.objs.size + 1), H', I3, rfl, q3⟩⟩
    | _ => exact False.elim hq
def newM (c : Nat) (F : Fn) (ms : Loc' → AH → R (List AV)) : Loc' → AH → R AV := fun l h => (ms l h).bind fun vs h1 => (alloc h1 (.ins c [])).bind fun o h2 => (F (o :: vs) h2).bind fun r h3 => match r with
  | .non => .ok o h3
  | _ => .bad
theorem new_sp {c : Nat} {ro : Nat} {μ : Mu} {h : AH} {H : Hp} {v : List AV} {vs : List V} {Q : VK} (R : RelH (wd X ca E) ro μ h H) (d : DenL X.K μ H v vs)
    (q : postG (dV (wd X ca E)) (wd X ca E) ro μ H ((alloc h (.ins c [])).bind fun o h2 => (F (o :: v) h2).bind fun r h3 => match r with | .non => .ok o h3 | _ => .bad) Q) :
    ∀ o dx, H o = none → H dx = none → dx ≠ o → spF (wd X ca E0) F (.ref o :: vs) (SlX.slH H o (ca c) dx []) (fun v H2 => v = .non ∧ Q (.ref o) H2) E := by
  intro o dx ho hd ne
  unfold alloc at q
  cases e : Nat.blt h.n top with
  | false => rw [e] at q; exact False.elim q
  | true =>
    rw [e] at q
    obtain ⟨st, R2, hm⟩ := new_at (c := c) R (blt_tt.mp e) ho hd ne
    have q2 := postG.later (show postG (dV (wd X ca E)) (wd X ca E) ro μ H ((F (.obj h.n :: v) (h.push (.ins c []))).bind fun r h3 => match r with | .non => .ok (.obj h.n) h3 | _ => .bad) Q from q) st
    refine to_sp R2 (.cons (.obj hm) (R.denL st d)) ((postG.bind (D := dV (wd X ca E)) q2).imp fun u H3 ⟨μ3, r, h3, st3, R3, d3, _, q3⟩ => ?_)
    cases r with
    | non => cases d3; exact ⟨rfl, q3.val R3 (.obj (st3.ext _ _ hm))⟩
    | _ => exact False.elim q3
theorem sim_new {c : Nat} {e : Expr} (M : Mk X.K (ca c) f) (hr : Room (lv + 1) X.A) (tk : Takes X (WE0 E)) (hg : Gl X x) (hm : X.mg x = some (.ref (ca c))) (hf : FnS X ca lv F f) (ha : SimA X (wd X ca E) (e :: es) ms) (hs : (e :: es).all notStar = true) (hd : (x == ("__debug__" : Str)) = false) :
    SimE X (wd X ca E) (.Call (.Name x p) (e :: es) [] pos) (newM c F ms) := by
  refine ⟨fun pins s σ H Q I ⟨ro, μ, l, h, A, q⟩ => ?_⟩
  have hs' := hs
  rw [List.all_cons, Bool.and_eq_true] at hs'
  refine wpAny_Call_Name_kw (ld_glob I hg hm ?_ hd)
  refine PySem.W.callWith_K (h₀ := X.base) I.ok.mod.kin M.kp (thn (ha.run pos pins s σ H _ I ⟨ro, μ, l, h, A, bindP (dL _) A q⟩) fun us s1 ⟨vs, H1, I1, r, μ1, v, h1, A1, d, st, q1⟩ => ⟨I1.kIn, ?_⟩) (star_one hs'.1) (star_any hs'.2)
  exact run_new M hf hr tk I1 r (new_sp A1.R d q1)
theorem sim_new0 {c : Nat} (M : Mk X.K (ca c) f) (hr : Room (lv + 1) X.A) (tk : Takes X (WE0 E)) (hg : Gl X x) (hm : X.mg x = some (.ref (ca c))) (hf : FnS X ca lv F f) (hd : (x == ("__debug__" : Str)) = false) :
    SimE X (wd X ca E) (.Call (.Name x p) [] [] pos) (newM c F fun _ h => .ok [] h) := by
  refine ⟨fun pins s σ H Q I ⟨ro, μ, l, h, A, q⟩ => ?_⟩
  refine wpAny_Call_Name_kw (ld_glob I hg hm ?_ hd)
  exact PySem.W.callWith_K0 I.kIn M.kp (run_new (us := []) (vs := []) M hf hr tk I .nil (new_sp A.R .nil q))
/-! a property -/
def PrpK (X : Cx) (ca : Ca) (τ : Tab) (lv : Nat) (m : Str) (q : Nat × Nat) : Prop := SlX.SCls X.K (ca q.1) ∧ ∃ d g, PySem.W.findIn X.K (.ref (ca q.1)) m = some (some (.ref d)) ∧ PySem.W.specialIn X.K (.ref d) "__get__" = some (some (.builtin "property.__get__")) ∧
  PySem.W.takesIn X.K (.ref d) = some true ∧ (∃ rest, PySem.W.recIn X.K d "property" = some (.ref g :: rest)) ∧ FnS X ca lv (τ.fn q.2) g
theorem nox_E0 {α β : Type} {D : Mu → Hp → α → β → Prop} {W : Wd} {ro : Nat} {μ : Mu} {H : Hp} {r : R α} {Q : β → Hp → Prop} (p : postG D W ro μ H r.nox Q) : postG D (W.to E0) ro μ H r Q := by
  cases r with
  | ok v h => exact fun μ1 u H1 st R d => p μ1 u H1 st (R.to W.E) d
  | ex x h => exact False.elim p
  | bad => exact p
theorem sim_prop {τ : Tab} {m : Str} {alts : List (Nat × Nat)} (hr : Room (lv + 1) X.A) (ha : SimE X (wd X ca E) a ma) (hk : ∀ q ∈ alts, PrpK X ca τ lv m q) (hb : baseOk a = true) :
    SimE X (wd X ca E) (.Attribute a m pos) (fun l h => (ma l h).bind fun x h1 => match insOf h1 x with
      | some (c, _) => (match altOf c alts with
        | some k => (τ.fn k [x] h1).nox
        | none => .bad)
      | none => .bad) := by
  refine ⟨fun pins s σ H Q I ⟨ro, μ, l, h, A, q⟩ => ?_⟩
  refine attr_of (base_ok hb) (thn (ha.run pins s σ H _ I ⟨ro, μ, l, h, A, bindP (dV _) A q⟩) fun u s1 ⟨x, H1, I1, rx, μ1, v, h1, A1, d1, st1, q1⟩ => ?_)
  cases e1 : insOf h1 v with
  | none => rw [e1] at q1; exact False.elim q1
  | some z =>
    obtain ⟨c, fs⟩ := z
    rw [e1] at q1
    dsimp only at q1
    obtain ⟨n, b, dx, vs, rfl, hn, rfl, hg, hsl, _, _, hf⟩ := ins_slt A1.R d1 e1
    cases e2 : altOf c alts with
    | none => rw [e2] at q1; exact False.elim q1
    | some k =>
      rw [e2] at q1
      dsimp only at q1
      obtain ⟨k1, d, g, k2, k3, k4, k5, k6⟩ := hk _ (alt_mem e2)
      obtain rfl : u = Value.ref b := rx
      refine SlX.getprop_sl (E := E0) I1 hsl k1 k2 k3 k4 k5 k6 hr (fun H s e s' z => ?_) ?_
      · obtain ⟨_, _, _, _, _, _, _, _, _, _, _, _, w⟩ := z
        exact w
      · exact ⟨ro, μ1, h1, [.obj n], A1.R.to E0, .cons d1 .nil, nox_E0 (W := wd X ca E) q1⟩
/-! len of an instance -/
def lenK (τ : Tab) (alts : List (Nat × Nat)) : AV → AH → R AV := fun x h1 => match insOf h1 x with
  | some (c, _) => (match altOf c alts with
    | some k => (τ.fn k [x] h1).bind fun n h2 => (match n with
      | .int i => (match decide (0 ≤ i ∧ i < 1000000) with
        | true => .ok (.int i) h2
        | false => .bad)
      | _ => .bad)
    | none => .bad)
  | none => .bad
theorem sim_lenO {τ : Tab} {alts : List (Nat × Nat)} (hr : Room (lv + 1) X.A) (tk : Takes X (WE0 E)) (hg : Gl X "len") (hm : X.mg "len" = none) (ha : SimE X (wd X ca E) a ma) (hk : ∀ q ∈ alts, MetK X ca τ lv "__len__" q) (hs : notStar a = true) :
    SimE X (wd X ca E) (.Call (.Name "len" p) [a] [] pos) (fun l h => (ma l h).bind (lenK τ alts)) := by
  refine ⟨fun pins s σ H Q I ⟨ro, μ, l, h, A, q⟩ => ?_⟩
  refine wpAny_Call_Name_kw (ld_blt I hg hm PySem.boot_len ?_)
  refine PyProof.Rows.callWith_builtin1 (thn ((pa_cons ha pa_nil (star_one hs)).run pos pins s σ H (fun vs H1 => ∃ x, vs = [x] ∧ ∃ μ1 v h1, At (wd X ca E) ro μ1 l h1 σ H1 ∧ Den X.K μ1 H1 v x ∧ Step ro μ H μ1 H1 ∧ postG (dV (wd X ca E)) (wd X ca E) ro μ1 H1 (lenK τ alts v h1) Q) I ⟨ro, μ, l, h, A, (bindP (dV _) A q).imp fun x H1 w => ⟨x, rfl, w⟩⟩) fun us s1 ⟨vs, H1, I1, r1, x, ex, μ1, v, h1, A1, d1, st1, q1⟩ => ?_) (star_one hs) rfl
  subst ex
  obtain ⟨u, rfl, ru⟩ := r1.one
  unfold lenK at q1
  cases e1 : insOf h1 v with
  | none => rw [e1] at q1; exact False.elim q1
  | some z =>
    obtain ⟨c, fs⟩ := z
    rw [e1] at q1
    dsimp only at q1
    obtain ⟨n, b, dx, vs, rfl, hn, rfl, hg, hsl, _, _, hf⟩ := ins_slt A1.R d1 e1
    cases e2 : altOf c alts with
    | none => rw [e2] at q1; exact False.elim q1
    | some k =>
      rw [e2] at q1
      dsimp only at q1
      obtain ⟨k1, g, k2, k3⟩ := hk _ (alt_mem e2)
      obtain rfl : u = Value.ref b := ru
      obtain ⟨sl, od, _, J, _⟩ := SlX.slt_inst I1 hsl
      obtain ⟨m, hF⟩ := I1.fr
      refine PySem.W.len_K hF I1.ok.mod.kin J k2.at_ k2.fn ?_
      refine wpAny_mono (wpAny_call (SlX.run_at (us := [.ref b]) (ws := [.ref b]) (Q := fun w H2 => ∃ i : Int, w = .int i ∧ (0 ≤ i ∧ i < 2 ^ 63) ∧ Q (.int i) H2) k3 hr.in1 I1.env0.in1 (passE tk) I1 (.cons rfl .nil) (to_sp A1.R (.cons d1 .nil) ((postG.bind (D := dV (wd X ca E)) q1).imp fun w H2 ⟨μ2, z, h2, st2, R2, d2, _, q2⟩ => ?_)))) (fun w s2 z => ?_) fun _ _ y => y
      · cases z with
        | int i =>
          cases d2
          dsimp only at q2
          cases e3 : decide (0 ≤ i ∧ i < 1000000) with
          | false => rw [e3] at q2; exact False.elim q2
          | true =>
            rw [e3] at q2
            have e4 := of_decide_eq_true e3
            exact ⟨i, rfl, ⟨e4.1, by omega⟩, q2.val R2 (.int _)⟩
        | _ => exact False.elim q2
      · obtain ⟨y, H2, I2, rz, i, ei, hi, qz⟩ := z
        subst ei
        obtain ⟨t, rfl⟩ := rz
        exact ⟨hi, .int i, H2, I2.tok _, ⟨_, rfl⟩, qz⟩
end
end Ev
set_option Elab.async false
set_option linter.all false
set_option maxRecDepth 100000
set_option maxHeartbeats 4000000
namespace Ev
open PySem PySem.Spec PyProof.Rows L2
section
variable {prog : Program} {w : World} {A : Around} {E : Value → Shared → Prop} {s : Shared} {K : PySem.W.Frag} {x C L f : Addr} {h₀ : Heap} {m : Str → Option Value} {ox : Obj} {od : Option Obj} {b tb : Value}
open PySem.W in
/-- an inherited != turns the own == round -/
theorem objNe {Q : Value → Shared → Prop} (hu : A.units + 1 < cLine) (X : K.In s.heap) (I : InstAt s.heap x ox C od) (hm : subIn K (.ref C) (.type "object") = some true) (he : findIn K (.ref C) "__eq__" = some (some (.ref f))) (hf : isFn K (.ref f) = true)
    (h : wpAny (model prog w) A.in1 (call (.ref f) [.ref x, b]) (fun v s' => ∃ k, v = .bool k ∧ Q (.bool (!k)) s') E s) : wpAny (model prog w) A (call (.builtin "object.__ne__") [.ref x, b]) Q E s := by
  refine wpAny_call (codeAny_call_builtin PySem.F.cmp_object.ne.plain PySem.F.cmpEntry_ne ?_)
  simp only [checkBuiltinCall, PySem.F.cmpKind_ne, PySem.F.cmpSplit_ne]
  refine wpAny_bind ?_
  unfold isInstance
  refine wpAny_bind (I.type.here ((looks_subIn X hm).here ?_))
  simp only [Bool.not_true, Bool.false_eq_true, if_false]
  have fin : wpAny (model prog w) A.in1 (Builtin.«object.__ne__» ⟨[.ref x, b], []⟩) (fun r s' => ∃ v, r = .done (.ret v) ∧ Q v s') E s := by
    unfold Builtin.«object.__ne__»
    refine wpAny_bind (m := slotArgs _ _ _) (wpAny_pure ?_)
    refine wpAny_bind (wpAny_cRoomFor (by show A.units + 1 < cLine; exact hu) ?_)
    refine wpAny_bind (ifBound_K X I he hf (wpAny_mono h (fun v s' ⟨k, e, q⟩ => ?_) fun _ _ e => e))
    subst e
    exact wpAny_bind (wpAny_truthy_bool (wpAny_pure ⟨_, rfl, q⟩))
  have ha := PySem.F.cmpArgs_ne (.ref x) b
  cases hsig : Manifest.signature? "object.__ne__" with
  | none => exact wpAny_pure (wpAny_mono fin (fun r s' ⟨v, e, q⟩ => by subst e; exact q) fun _ _ e => e)
  | some sig =>
    simp only [argsOk, hsig] at ha
    have h2 : Bind.checkArgs "object.__ne__" sig ⟨[.ref x, b], []⟩ = pure () := ha
    refine wpAny_of_eq h2 (wpAny_mono fin (fun r s' ⟨v, e, q⟩ => by subst e; exact q) fun _ _ e => e)
open PySem.W in
theorem richNe {Q : Value → Shared → Prop} (hu : A.units + 1 < cLine) (F : Fr h₀ L s.heap m) (X₀ : K.In h₀) (I : InstAt s.heap x ox C od) (hb : Looks (model prog w) s.heap (typeOf b) tb) (hn : notFirst K C tb = true) (hm : subIn K (.ref C) (.type "object") = some true)
    (hs : findIn K (.ref C) "__ne__" = some (some (.builtin "object.__ne__"))) (he : findIn K (.ref C) "__eq__" = some (some (.ref f))) (hf : isFn K (.ref f) = true)
    (h : wpAny (model prog w) A.in1 (call (.ref f) [.ref x, b]) (fun v s' => ∃ k, v = .bool k ∧ Q (.bool (!k)) s') E s) : wpAny (model prog w) A (richCompare .NotEq (.ref x) b) Q E s := by
  have X := X₀.keeps F.keep
  have one : wpAny (model prog w) A (tryCompare (.ref x) "__ne__" b) (fun r s' => ∃ v, r = some v ∧ Q v s') E s := by
    unfold tryCompare
    simp only [callSpecialIfBound?, bindSpecialIfBound?]
    refine wpAny_bind (wpAny_holding (wpAny_bind (wpAny_bind (wpAny_bind (I.type.here ((looks_findIn X hs).here ?_))))))
    simp only [PySem.F.cmp_object.ne.bind]
    have z : wpAny (model prog w) A (call (.builtin "object.__ne__") ([.ref x] ++ [b]) >>= fun v => pure (some v)) (fun r s' => wpAny (model prog w) A (match r with | some .notImplemented => pure none | none => pure none | some y => pure (some y)) (fun r s' => ∃ v, r = some v ∧ Q v s') E s') E s :=
      wpAny_bind (wpAny_mono (objNe (Q := fun v s' => (∃ k, v = .bool k) ∧ Q v s') hu X I hm he hf (wpAny_mono h (fun v s' ⟨k, e, q⟩ => ⟨k, e, ⟨_, rfl⟩, q⟩) fun _ _ e => e)) (fun v s' ⟨⟨k, e⟩, q⟩ => by subst e; exact wpAny_pure (wpAny_pure ⟨_, rfl, q⟩)) fun _ _ e => e)
    refine wpAny_bind (wpAny_askSetting (wpAny_ite ?_))
    split
    · exact wpAny_bind (wpAny_pure (wpAny_pure z))
    · exact wpAny_tryCatch (wpAny_bind (wpAny_pure (wpAny_pure z)))
  unfold richCompare
  simp only [oneThing_ref]
  refine wpAny_holding (wpAny_bind (wpAny_cRoomFor (by omega) ?_))
  refine wpAny_bind (I.type.here (wpAny_bind (hb.here ?_)))
  split
  · rename_i q
    have e : subIn K tb (.ref C) = some false := by
      rcases Bool.or_eq_true_iff.mp hn with e | e
      · rw [beq_iff_eq.mp e] at q; simp at q
      · exact beq_iff_eq.mp e
    refine wpAny_bind ((looks_subIn X e).here ?_)
    simp only [Bool.false_eq_true, if_false]
    refine wpAny_bind (wpAny_mono one (fun r s' z => ?_) fun _ _ e => e)
    obtain ⟨v, rfl, hq⟩ := z
    exact wpAny_pure hq
  · refine wpAny_bind (wpAny_pure ?_)
    simp only [Bool.false_eq_true, if_false]
    refine wpAny_bind (wpAny_mono one (fun r s' z => ?_) fun _ _ e => e)
    obtain ⟨v, rfl, hq⟩ := z
    exact wpAny_pure hq
end
section
variable {X : Cx} {ca : Ca} {E : XK} {lv : Nat} {a b : Expr} {ma mb : Loc' → AH → R AV} {pos : Pos}
/-- the classes' own == -/
def EqK (X : Cx) (ca : Ca) (τ : Tab) (lv : Nat) (q : Nat × Nat) : Prop := SlX.SCls X.K (ca q.1) ∧ PySem.W.subIn X.K (.ref (ca q.1)) (.type "object") = some true ∧ PySem.W.findIn X.K (.ref (ca q.1)) "__ne__" = some (some (.builtin "object.__ne__")) ∧
  ∃ g, PySem.W.findIn X.K (.ref (ca q.1)) "__eq__" = some (some (.ref g)) ∧ PySem.W.isFn X.K (.ref g) = true ∧ FnS X ca lv (τ.fn q.2) g
def eqK (τ : Tab) (ng : Bool) (alts : List (Nat × Nat)) : AV → AV → AH → R AV := fun x y h2 => match insOf h2 x, insOf h2 y with
  | some (c, _), some (c', _) => (match Nat.beq c c' with
    | true => (match altOf c alts with
      | some k => asB (τ.fn k [x, y] h2) fun r h3 => .ok (.bl (if ng then !r else r)) h3
      | none => .bad)
    | false => .bad)
  | _, _ => .bad
theorem own_eq {τ : Tab} {ng : Bool} {alts : List (Nat × Nat)} (hr : Room (lv + 1) X.A) (tk : Takes X (WE0 E)) (hk : ∀ q ∈ alts, EqK X ca τ lv q) : OpR X (compareOp (if ng then .NotEq else .Eq)) (trOp2 (wd X ca E) (eqK τ ng alts)) := by
  intro pins s σ H x y v u Q I rx ry ⟨ro, μ, h, ax, ay, R, dx, dy, q1⟩
  unfold eqK at q1
  cases e1 : insOf h ax with
  | none => rw [e1] at q1; exact False.elim q1
  | some z =>
    obtain ⟨c, fs⟩ := z
    cases e2 : insOf h ay with
    | none => rw [e1, e2] at q1; exact False.elim q1
    | some z2 =>
      obtain ⟨c', fs'⟩ := z2
      rw [e1, e2] at q1
      dsimp only at q1
      cases e3 : Nat.beq c c' with
      | false => rw [e3] at q1; exact False.elim q1
      | true =>
        rw [e3] at q1
        have ec := Nat.eq_of_beq_eq_true e3
        subst ec
        dsimp only at q1
        cases e4 : altOf c alts with
        | none => rw [e4] at q1; exact False.elim q1
        | some k =>
          rw [e4] at q1
          obtain ⟨n, o1, dx1, vs1, rfl, hn, rfl, _, hs1, _, _, _⟩ := ins_slt R dx e1
          obtain ⟨n2, o2, dx2, vs2, rfl, hn2, rfl, _, hs2, _, _, _⟩ := ins_slt R dy e2
          obtain ⟨k1, k2, k3, g, k4, k5, k6⟩ := hk _ (alt_mem e4)
          cases (show v = Value.ref o1 from rx)
          cases (show u = Value.ref o2 from ry)
          obtain ⟨sl, od, _, J, _⟩ := SlX.slt_inst I hs1
          obtain ⟨sl', od', _, J', _⟩ := SlX.slt_inst I hs2
          obtain ⟨m, hF⟩ := I.fr
          have nf : PySem.W.notFirst X.K (ca c) (.ref (ca c)) = true := by unfold PySem.W.notFirst; rw [beq_self_eq_true]; rfl
          have sp := to_sp (F := τ.fn k) (Q := fun w H2 => ∃ r, w = .bl r ∧ Q (.bl (if ng then !r else r)) H2) R (.cons dx (.cons dy .nil)) ((asB_val (l := []) (σ := []) ⟨⟨rfl, fun i v e => by simp at e⟩, R⟩ q1).imp fun w H2 ⟨r, μ2, h2, ew, A2, st2, q2⟩ => ⟨r, ew, q2.val A2.R (.bl _)⟩)
          cases ng with
          | false =>
            refine PySem.W.cmp_K (op := .Eq) (tb := .ref (ca c)) hr.units0 hF I.ok.mod.kin J J'.type nf k4 k5 ?_
            refine wpAny_mono (wpAny_call (run_fnR (us := [.ref o1, .ref o2]) (vs := [.ref o1, .ref o2]) k6 (hr.mono (Nat.le_succ _)) (passE tk) I (.cons rfl (.cons rfl .nil)) sp)) (fun w s' ⟨z', H', I', rz, r, ez, qz⟩ => ?_) fun _ _ x => x
            subst ez
            cases rz
            exact ⟨.bl r, H', I', rfl, qz⟩
          | true =>
            refine richNe (tb := .ref (ca c)) (by have := hr.units; omega) hF I.ok.mod.kin J J'.type nf k2 k3 k4 k5 ?_
            refine wpAny_mono (wpAny_call (SlX.run_at (us := [.ref o1, .ref o2]) (ws := [.ref o1, .ref o2]) k6 hr.in1 I.env0.in1 (passE tk) I (.cons rfl (.cons rfl .nil)) sp)) (fun w s' ⟨z', H', I', rz, r, ez, qz⟩ => ?_) fun _ _ x => x
            subst ez
            cases rz
            exact ⟨r, rfl, .bl (!r), H', I', rfl, qz⟩
theorem sim_oeq {τ : Tab} {ng : Bool} {alts : List (Nat × Nat)} (hr : Room (lv + 1) X.A) (tk : Takes X (WE0 E)) (hk : ∀ q ∈ alts, EqK X ca τ lv q) (ha : SimE X (wd X ca E) a ma) (hb : SimE X (wd X ca E) b mb) (hm : behindInMarks (if ng then .NotEq else .Eq) b = false) :
    SimE X (wd X ca E) (.Compare a [if ng then .NotEq else .Eq] [b] pos) (fun l h => (ma l h).bind fun x h1 => (mb l h1).bind fun y h2 => eqK τ ng alts x y h2) :=
  PE.weaken (pe_cmpR (own_eq hr tk hk) ha hb hm) fun σ H Q ⟨ro, μ, l, h, A, p⟩ => go2 A p
theorem simt_oeq {τ : Tab} {ng : Bool} {alts : List (Nat × Nat)} (hr : Room (lv + 1) X.A) (tk : Takes X (WE0 E)) (hk : ∀ q ∈ alts, EqK X ca τ lv q) (ha : SimE X (wd X ca E) a ma) (hb : SimE X (wd X ca E) b mb) (hm : behindInMarks (if ng then .NotEq else .Eq) b = false) :
    SimT X (wd X ca E) (.Compare a [if ng then .NotEq else .Eq] [b] pos) (fun l h => (ma l h).bind fun x h1 => (mb l h1).bind fun y h2 => eqK τ ng alts x y h2) :=
  PT.weaken (pt_cmpR (own_eq hr tk hk) ha hb hm) fun σ H Q ⟨ro, μ, l, h, A, p⟩ => go2 A (bool_of p)
end
end Ev
set_option Elab.async false
set_option linter.all false
set_option maxRecDepth 100000
set_option maxHeartbeats 4000000
/-! built-ins -/
namespace Ev
open PySem PySem.Spec PyProof.Rows L2
def trC (W : Wd) (g : List AV → AH → R AV) : List V → Hp → VK → Prop := fun xs H Q => ∃ ro μ h args, RelH W ro μ h H ∧ DenL W.K μ H args xs ∧ postG (dV W) W ro μ H (g args h) Q
section
variable {X : Cx} {ca : Ca} {E : XK} {a b : Expr} {es : List Expr} {ma mb : Loc' → AH → R AV} {ms : Loc' → AH → R (List AV)} {pos p apos : Pos} {x : Str} {id : String} {g : List AV → AH → R AV}
theorem sim_B {e : Expr} (hc : CallR X (.builtin id) (trC (wd X ca E) g)) (hg : Gl X x) (hm : X.mg x = none) (hv : bootBuiltins x = some (.builtin id)) (ha : SimA X (wd X ca E) (e :: es) ms) (hs : (e :: es).all notStar = true) (hn : x ≠ "__name__") (hd : (x == ("__debug__" : Str)) = false) :
    SimE X (wd X ca E) (.Call (.Name x p) (e :: es) [] pos) (fun l h => (ms l h).bind g) := by
  have hs' := hs
  rw [List.all_cons, Bool.and_eq_true] at hs'
  exact PE.weaken (pe_callB hc hg hm hv ha hn hd (star_one hs'.1) (star_any hs'.2)) fun σ H Q ⟨ro, μ, l, h, A, p⟩ => ⟨ro, μ, l, h, A, (bindP (dL _) A p).imp fun xs H1 ⟨μ1, v, h1, A1, d1, st1, p1⟩ => ⟨ro, μ1, h1, v, A1.R, d1, p1⟩⟩
theorem sim_B1 (hc : CallR X (.builtin id) (trC (wd X ca E) g)) (hg : Gl X x) (hm : X.mg x = none) (hv : bootBuiltins x = some (.builtin id)) (ha : SimE X (wd X ca E) a ma) (hs : notStar a = true) (hn : x ≠ "__name__") (hd : (x == ("__debug__" : Str)) = false) :
    SimE X (wd X ca E) (.Call (.Name x p) [a] [] pos) (fun l h => (ma l h).bind fun v h1 => g [v] h1) :=
  PE.weaken (pe_callB hc hg hm hv (pa_cons ha pa_nil (star_one hs)) hn hd (star_one hs) rfl) fun σ H Q ⟨ro, μ, l, h, A, p⟩ => ⟨ro, μ, l, h, A, (bindP (dV _) A p).imp fun xs H1 ⟨μ1, v, h1, A1, d1, st1, p1⟩ => ⟨ro, μ1, h1, [v], A1.R, .cons d1 .nil, p1⟩⟩
theorem sim_Ty {e : Expr} (hc : CallR X (.type id) (trC (wd X ca E) g)) (hg : Gl X x) (hm : X.mg x = none) (hv : bootBuiltins x = some (.type id)) (ha : SimA X (wd X ca E) (e :: es) ms) (hs : (e :: es).all notStar = true) (hn : x ≠ "__name__") (hd : (x == ("__debug__" : Str)) = false) :
    SimE X (wd X ca E) (.Call (.Name x p) (e :: es) [] pos) (fun l h => (ms l h).bind g) := by
  have hs' := hs
  rw [List.all_cons, Bool.and_eq_true] at hs'
  exact PE.weaken (pe_callTy hc hg hm hv ha hn hd (star_one hs'.1) (star_any hs'.2)) fun σ H Q ⟨ro, μ, l, h, A, p⟩ => ⟨ro, μ, l, h, A, (bindP (dL _) A p).imp fun xs H1 ⟨μ1, v, h1, A1, d1, st1, p1⟩ => ⟨ro, μ1, h1, v, A1.R, d1, p1⟩⟩
theorem sim_Ty1 (hc : CallR X (.type id) (trC (wd X ca E) g)) (hg : Gl X x) (hm : X.mg x = none) (hv : bootBuiltins x = some (.type id)) (ha : SimE X (wd X ca E) a ma) (hs : notStar a = true) (hn : x ≠ "__name__") (hd : (x == ("__debug__" : Str)) = false) :
    SimE X (wd X ca E) (.Call (.Name x p) [a] [] pos) (fun l h => (ma l h).bind fun v h1 => g [v] h1) :=
  PE.weaken (pe_callTy hc hg hm hv (pa_cons ha pa_nil (star_one hs)) hn hd (star_one hs) rfl) fun σ H Q ⟨ro, μ, l, h, A, p⟩ => ⟨ro, μ, l, h, A, (bindP (dV _) A p).imp fun xs H1 ⟨μ1, v, h1, A1, d1, st1, p1⟩ => ⟨ro, μ1, h1, [v], A1.R, .cons d1 .nil, p1⟩⟩
/-! len -/
def g1 (f : AV → AH → R AV) : List AV → AH → R AV := fun vs h => match vs with
  | [v] => f v h
  | _ => .bad
theorem g1_of {W : Wd} {f : AV → AH → R AV} {xs : List V} {H : Hp} {Q : VK} (h : trC W (g1 f) xs H Q) : ∃ ro μ h v x, xs = [x] ∧ RelH W ro μ h H ∧ Den W.K μ H v x ∧ postG (dV W) W ro μ H (f v h) Q := by
  obtain ⟨ro, μ, h, args, R, d, p⟩ := h
  cases d with
  | nil => exact False.elim p
  | cons d1 d2 =>
    cases d2 with
    | nil => exact ⟨ro, μ, h, _, _, rfl, R, d1, p⟩
    | cons _ _ => exact False.elim p
theorem call_lenA : CallR X (.builtin "len") (trC (wd X ca E) (g1 lenA)) := by
  intro pins s σ H xs us Q I r hq
  obtain ⟨ro, μ, h, v, x, rfl, R, d, p⟩ := g1_of hq
  cases d with
  | @tup a vs ys sq dl =>
    refine call_len_seq pins s σ H _ us Q I r ⟨a, vs, rfl, .inr sq, ?_⟩
    rw [← dl.length]
    exact postG.val R (show postG (dV (wd X ca E)) _ ro μ H (.ok (.int ys.length) h) Q from p) (.int _)
  | str y =>
    unfold lenA at p
    dsimp only at p
    cases e : lim y.length with
    | false => rw [e] at p; exact False.elim p
    | true =>
      rw [e] at p
      exact call_len pins s σ H _ us Q I r ⟨.str y, y.length, rfl, ⟨lim_le e, rfl⟩, p.val R (.int _)⟩
  | @obj n a hn =>
    obtain ⟨o, ho, ro'⟩ := R.there hn
    unfold lenA at p
    dsimp only at p
    rw [ho] at p
    cases o with
    | lst ys =>
      obtain ⟨_, vs, hv, dl⟩ := ro'
      refine call_len_seq pins s σ H _ us Q I r ⟨a, vs, rfl, .inl (SqL.of hv), ?_⟩
      rw [← dl.length]
      exact postG.val R p (.int _)
    | fz ns =>
      obtain ⟨ob, hv⟩ := ro'
      refine call_len_seq pins s σ H _ us Q I r ⟨a, ns.map V.int, rfl, .inl (.inl (.inr ⟨ob, hv⟩)), ?_⟩
      rw [List.length_map]
      exact postG.val R p (.int _)
    | dct kvs =>
      obtain ⟨hS, hz, ys, hv, pk⟩ := ro'
      obtain ⟨u, rfl, ru⟩ := r.one
      cases ru
      have dm := dict_is I hv pk
      have hl : kvs.length = ys.length := Paired.length pk
      refine call_len_dictH hS dm (by rw [← hl]; rw [sizeLine_eq] at hz; omega) ?_
      rw [← hl]
      exact ⟨.int kvs.length, H, I.tok _, ⟨_, rfl⟩, p.val R (.int _)⟩
    | ins c fs => exact False.elim p
  | non => exact False.elim p
  | bl b => exact False.elim p
  | int b => exact False.elim p
/-! numbers -/
def biT (b : Bi) : List AV → AH → R AV := biA b
theorem call_absA : CallR X (.builtin "abs") (trC (wd X ca E) (biA .abs)) := by
  intro pins s σ H xs us Q I r ⟨ro, μ, h, args, R, d, p⟩
  cases d with
  | nil => exact False.elim p
  | @cons x v _ _ d1 d2 =>
    cases d2 with
    | cons _ _ => cases d1 <;> exact False.elim p
    | nil =>
      cases d1 with
      | int i => exact call_abs pins s σ H _ us Q I r ⟨i, rfl, postG.val R (show postG (dV (wd X ca E)) _ ro μ H (.ok (.int (if i < 0 then -i else i)) h) Q from p) (.int _)⟩
      | _ => exact False.elim p
theorem call_intA : CallR X (.type "int") (trC (wd X ca E) (biA .int)) := by
  intro pins s σ H xs us Q I r ⟨ro, μ, h, args, R, d, p⟩
  cases d with
  | nil => exact False.elim p
  | @cons x v _ _ d1 d2 =>
    cases d2 with
    | cons _ _ => cases d1 <;> exact False.elim p
    | nil =>
      cases d1 with
      | int i => exact call_int1 pins s σ H _ us Q I r (.inl ⟨i, rfl, postG.val R (show postG (dV (wd X ca E)) _ ro μ H (.ok (.int i) h) Q from p) (.int _)⟩)
      | _ => exact False.elim p
theorem call_maxA (hc : X.calm = true) : CallR X (.builtin "max") (trC (wd X ca E) (biA .max2)) := by
  intro pins s σ H xs us Q I r ⟨ro, μ, h, args, R, d, p⟩
  cases d with
  | nil => exact False.elim p
  | @cons x v _ _ d1 d2 =>
    cases d2 with
    | nil => cases d1 <;> exact False.elim p
    | @cons y u _ _ d3 d4 =>
      cases d4 with
      | cons _ _ => cases d1 <;> first | exact False.elim p | (cases d3 <;> exact False.elim p)
      | nil =>
        cases d1 with
        | int i =>
          cases d3 with
          | int j => exact call_max2 hc pins s σ H _ us Q I r ⟨i, j, rfl, postG.val R (show postG (dV (wd X ca E)) _ ro μ H (.ok (.int (if j > i then j else i)) h) Q from p) (.int _)⟩
          | _ => exact False.elim p
        | _ => cases d3 <;> exact False.elim p
theorem call_minA (hc : X.calm = true) : CallR X (.builtin "min") (trC (wd X ca E) (biA .min2)) := by
  intro pins s σ H xs us Q I r ⟨ro, μ, h, args, R, d, p⟩
  cases d with
  | nil => exact False.elim p
  | @cons x v _ _ d1 d2 =>
    cases d2 with
    | nil => cases d1 <;> exact False.elim p
    | @cons y u _ _ d3 d4 =>
      cases d4 with
      | cons _ _ => cases d1 <;> first | exact False.elim p | (cases d3 <;> exact False.elim p)
      | nil =>
        cases d1 with
        | int i =>
          cases d3 with
          | int j => exact call_min2 hc pins s σ H _ us Q I r ⟨i, j, rfl, postG.val R (show postG (dV (wd X ca E)) _ ro μ H (.ok (.int (if j < i then j else i)) h) Q from p) (.int _)⟩
          | _ => exact False.elim p
        | _ => cases d3 <;> exact False.elim p
/-! all, any, sum, tuple, list -/
theorem bls_of {K : PySem.W.Frag} {μ : Mu} {H : Hp} : ∀ {xs : List AV} {vs : List V} {bs : List Bool}, DenL K μ H xs vs → blsOf xs = some bs → vs = bs.map V.bl
  | _, _, _, .nil, e => by cases e; rfl
  | _, _, bs, @DenL.cons _ _ _ x v xs vs d r, e => by
    cases d with
    | bl b =>
      have e' : (blsOf xs).map (b :: ·) = some bs := e
      cases q : blsOf xs with
      | none => rw [q] at e'; cases e'
      | some cs => rw [q] at e'; cases e'; rw [bls_of r q]; rfl
    | _ => cases e
theorem ints_of {K : PySem.W.Frag} {μ : Mu} {H : Hp} : ∀ {xs : List AV} {vs : List V} {bs : List Int}, DenL K μ H xs vs → intsOf xs = some bs → vs = bs.map V.int
  | _, _, _, .nil, e => by cases e; rfl
  | _, _, bs, @DenL.cons _ _ _ x v xs vs d r, e => by
    cases d with
    | int b =>
      have e' : (intsOf xs).map (b :: ·) = some bs := e
      cases q : intsOf xs with
      | none => rw [q] at e'; cases e'
      | some cs => rw [q] at e'; cases e'; rw [ints_of r q]; rfl
    | _ => cases e
theorem den_ints {K : PySem.W.Frag} {μ : Mu} {H : Hp} : ∀ ns : List Int, DenL K μ H (ns.map .int) (ns.map V.int)
  | [] => .nil
  | n :: r => .cons (.int n) (den_ints r)
theorem call_allA (hc : X.calm = true) : CallR X (.builtin "all") (trC (wd X ca E) (g1 (b1A .all))) := by
  intro pins s σ H xs us Q I r hq
  obtain ⟨ro, μ, h, v, x, rfl, R, d, p⟩ := g1_of hq
  cases d with
  | @obj n a hn =>
    obtain ⟨o, ho, r1⟩ := R.there hn
    unfold b1A at p
    dsimp only at p
    rw [ho] at p
    cases o with
    | lst ys =>
      obtain ⟨_, vs, hv, dl⟩ := r1
      obtain ⟨z, e, p⟩ := postG.opt p
      cases q : blsOf ys with
      | none => rw [q] at e; cases e
      | some bs =>
        rw [q] at e; cases e
        have ev := bls_of dl q
        subst ev
        exact cr_all hc pins s σ H _ us Q I r ⟨a, bs, rfl, SqL.of hv, p.val R (.bl _)⟩
    | _ => exact False.elim p
  | _ => exact False.elim p
theorem call_anyA (hc : X.calm = true) : CallR X (.builtin "any") (trC (wd X ca E) (g1 (b1A .any))) := by
  intro pins s σ H xs us Q I r hq
  obtain ⟨ro, μ, h, v, x, rfl, R, d, p⟩ := g1_of hq
  cases d with
  | @obj n a hn =>
    obtain ⟨o, ho, r1⟩ := R.there hn
    unfold b1A at p
    dsimp only at p
    rw [ho] at p
    cases o with
    | lst ys =>
      obtain ⟨_, vs, hv, dl⟩ := r1
      obtain ⟨z, e, p⟩ := postG.opt p
      cases q : blsOf ys with
      | none => rw [q] at e; cases e
      | some bs =>
        rw [q] at e; cases e
        have ev := bls_of dl q
        subst ev
        exact cr_any hc pins s σ H _ us Q I r ⟨a, bs, rfl, SqL.of hv, p.val R (.bl _)⟩
    | _ => exact False.elim p
  | _ => exact False.elim p
theorem call_sumA (hc : X.calm = true) : CallR X (.builtin "sum") (trC (wd X ca E) (g1 (b1A .sum))) := by
  intro pins s σ H xs us Q I r hq
  obtain ⟨ro, μ, h, v, x, rfl, R, d, p⟩ := g1_of hq
  cases d with
  | @obj n a hn =>
    obtain ⟨o, ho, r1⟩ := R.there hn
    unfold b1A at p
    dsimp only at p
    rw [ho] at p
    cases o with
    | lst ys =>
      obtain ⟨_, vs, hv, dl⟩ := r1
      obtain ⟨z, e, p⟩ := postG.opt p
      cases q : intsOf ys with
      | none => rw [q] at e; cases e
      | some bs =>
        rw [q] at e; cases e
        have ev := ints_of dl q
        subst ev
        exact cr_sum hc pins s σ H _ us Q I r ⟨a, bs, rfl, SqL.of hv, p.val R (.int _)⟩
    | fz ns =>
      obtain ⟨ob, hv⟩ := r1
      exact cr_sum hc pins s σ H _ us Q I r ⟨a, ns, rfl, .inl (.inr ⟨ob, hv⟩), p.val R (.int _)⟩
    | _ => exact False.elim p
  | _ => exact False.elim p
theorem call_tupleA : CallR X (.type "tuple") (trC (wd X ca E) (g1 (b1A .tuple))) := by
  intro pins s σ H xs us Q I r hq
  obtain ⟨ro, μ, h, v, x, rfl, R, d, p⟩ := g1_of hq
  cases d with
  | @tup a vs ys sq dl => exact call_tuple_of pins s σ H _ us Q I r ⟨a, vs, rfl, .inr ⟨sq, postG.val R (show postG (dV (wd X ca E)) _ ro μ H (.ok (.tup ys) h) Q from p) (.tup sq dl)⟩⟩
  | @obj n a hn =>
    obtain ⟨o, ho, r1⟩ := R.there hn
    unfold b1A at p
    dsimp only at p
    rw [ho] at p
    cases o with
    | lst ys =>
      obtain ⟨_, vs, hv, dl⟩ := r1
      exact call_tuple_of pins s σ H _ us Q I r ⟨a, vs, rfl, .inl ⟨SqL.of hv, fun c hc => p μ _ _ (Step.laid hc) (R.laid hc) (.tup (SqT.of upd_same) (R.denL (Step.laid hc) dl))⟩⟩
    | _ => exact False.elim p
  | _ => exact False.elim p
/-! the keys of a dict -/
theorem raw_src {d : Addr} {es : Array DictEntry} {ep : Nat} (lo : (d == sysModules) = false) : PySem.W.KdlSrc X.prog X.w "dict" d d es.size (fun i v => ∃ hi : i < es.size, v = es[i].key) (fun h => h.DictRaw d es ep) where
  type := fun _ hm => hm.typeIs
  there := fun _ hm => let ⟨o, ho, _⟩ := hm; ⟨Heap.lt_size ho, Heap.lt_size ho⟩
  keep := fun _ _ hm hk => hm.at fun o e => hk d (.inl rfl) o e
  notList := by decide
  notTuple := by decide
  hint := fun _ _ _ _ hm hq => PySem.W.kdl_hint_dict hm.typeIs hq
  iter := fun _ s hh hm => ⟨_, _, (fun _ _ hq => wpAny_pyIter_dict_raw lo hm hq), Walks.rawKeys hh _ d (by obtain ⟨o, ho, _⟩ := hm; exact Nat.ne_of_lt (Heap.lt_size ho)) es ep, ⟨⟨_, Heap.get?_push_size _ rfl, rfl, rfl⟩, hm.at fun o e => Heap.get?_push_of_some _ e⟩⟩
/-- the keys that are collected -/
theorem keys_vals {K : PySem.W.Frag} {μ : Mu} {H : Hp} {P : Program} {w : World} : ∀ {kvs : List (AV × AV)} {xs : List (NestedKey × Addr × Value)}, Paired (RelKv K μ H) kvs xs → DenL K μ H (kvs.map (·.1)) (xs.map fun x => .ref x.2.1)
  | _, _, .nil => .nil
  | _, _, .cons ⟨_, q2, _⟩ t => .cons q2 (keys_vals (P := P) (w := w) t)
end
end Ev
set_option Elab.async false
set_option linter.all false
set_option maxRecDepth 100000
set_option maxHeartbeats 4000000
/-! list(..), sorted(..) -/
namespace Ev
open PySem PySem.Spec PyProof.Rows L2
/-! ### the order -/
theorem insA_at (x : AV × PyData) : ∀ (l1 l2 : List (AV × PyData)), (∀ b ∈ l1, PySem.W.dataLt b.2 x.2 = true) → (∀ y ∈ l2.head?, PySem.W.dataLt y.2 x.2 = false) → insA x (l1 ++ l2) = l1 ++ x :: l2
  | [], [], _, _ => rfl
  | [], y :: r, _, h => by
    show (match PySem.W.dataLt y.2 x.2 with | true => y :: insA x r | false => x :: y :: r) = _
    rw [h y rfl]
    rfl
  | y :: l1, l2, h1, h2 => by
    show (match PySem.W.dataLt y.2 x.2 with | true => y :: insA x (l1 ++ l2) | false => x :: y :: (l1 ++ l2)) = _
    rw [h1 y List.mem_cons_self]
    show y :: insA x (l1 ++ l2) = _
    rw [insA_at x l1 l2 (fun b hb => h1 b (List.mem_cons_of_mem _ hb)) h2]
    rfl
abbrev leP : AV × PyData → AV × PyData → Bool := PySem.W.dataLe false (·.2)
theorem leP_eq (a b : AV × PyData) : leP a b = !PySem.W.dataLt b.2 a.2 := rfl
theorem leP_total : PySem.W.TotalLe leP := PySem.W.sortLe_total _ _ _
theorem sortP_eq : ∀ l : List (AV × PyData), sortP l = l.mergeSort leP
  | [] => by simp [sortP]
  | x :: r => by
    have tr : ∀ a b c : AV × PyData, leP a b = true → leP b c = true → leP a c = true := fun a b c => leP_total.trans a b c
    have to : ∀ a b : AV × PyData, (leP a b || leP b a) = true := fun a b => by rcases leP_total.total a b with h | h <;> simp [h]
    obtain ⟨l1, l2, e1, e2, e3⟩ := List.mergeSort_cons tr to x r
    show insA x (sortP r) = _
    rw [sortP_eq r, e2, e1]
    refine insA_at x l1 l2 (fun b hb => ?_) fun y hy => ?_
    · have := e3 b hb
      rw [leP_eq] at this
      simpa using this
    · have p := PySem.W.sort_pairwise leP_total (x :: r)
      rw [e1] at p
      have p2 := (List.pairwise_append.mp p).2.1
      have p3 := (List.pairwise_cons.mp p2).1 y (by cases l2 with | nil => cases hy | cons z zs => cases hy; exact List.mem_cons_self)
      rw [leP_eq] at p3
      simpa using p3
theorem alike_of : ∀ {ds : List PyData}, allAlike ds = true → (ds.all fun d => PySem.W.alike d d) = true → PySem.W.AllAlike ds
  | [], _, _ => fun d hd => by cases hd
  | x :: r, h1, h2 => by
    have h1' : (r.all (fun e => PySem.W.alike x e && PySem.W.alike e x) && allAlike r) = true := h1
    rw [Bool.and_eq_true, List.all_eq_true] at h1'
    rw [List.all_cons, Bool.and_eq_true] at h2
    have ih := alike_of h1'.2 h2.2
    intro d hd d' hd'
    rcases List.mem_cons.mp hd with e | e <;> rcases List.mem_cons.mp hd' with e' | e'
    · rw [e, e']; exact h2.1
    · rw [e]; exact (Bool.and_eq_true_iff.mp (h1'.1 d' e')).1
    · rw [e']; exact (Bool.and_eq_true_iff.mp (h1'.1 d e)).2
    · exact ih d e d' e'
theorem tups_of : ∀ {ds : List PyData}, tupsOk ds = true → ∀ d ∈ ds, ∃ x r, d = .tuple (x :: r)
  | [], _, d, hd => by cases hd
  | .tuple (x :: r) :: ds, h, d, hd => by
    rcases List.mem_cons.mp hd with e | e
    · exact ⟨x, r, e⟩
    · exact tups_of (ds := ds) h d e
  | .tuple [] :: _, h, _, _ => by cases h
  | .none :: _, h, _, _ => by cases h
  | .bool _ :: _, h, _, _ => by cases h
  | .int _ :: _, h, _, _ => by cases h
  | .str _ :: _, h, _, _ => by cases h
  | .list _ :: _, h, _, _ => by cases h
  | .dict _ :: _, h, _, _ => by cases h
theorem dats_len : ∀ {xs : List AV} {ds : List PyData}, AV.dats xs = some ds → xs.length = ds.length
  | [], _, e => by unfold AV.dats at e; cases e; rfl
  | x :: xs, ds, e => by
    unfold AV.dats at e
    cases q : AV.dat x with
    | none => rw [q] at e; cases e
    | some d =>
      rw [q] at e
      cases q2 : AV.dats xs with
      | none => rw [q2] at e; cases e
      | some es => rw [q2] at e; cases e; simp [dats_len q2]
theorem zip_map2 {α β : Type} : ∀ {xs : List α} {ys : List β}, xs.length = ys.length → (xs.zip ys).map (·.2) = ys
  | [], [], _ => rfl
  | x :: xs, y :: ys, h => by simp [zip_map2 (xs := xs) (ys := ys) (by simpa using h)]
  | [], _ :: _, h => by cases h
  | _ :: _, [], h => by cases h
/-! the machine's data holds no lists -/
mutual
theorem dat_none {h : Heap} : ∀ (x : AV) {d : PyData} {v : Value} {as : List Addr}, AV.dat x = some d → Reads h v d as → as = []
  | .non, _, _, _, e, r => by unfold AV.dat at e; cases e; cases r; rfl
  | .bl _, _, _, _, e, r => by unfold AV.dat at e; cases e; cases r; rfl
  | .int _, _, _, _, e, r => by unfold AV.dat at e; cases e; cases r; rfl
  | .str _, _, _, _, e, r => by unfold AV.dat at e; cases e; cases r; rfl
  | .obj _, _, _, _, e, r => by unfold AV.dat at e; cases e
  | .tup xs, _, _, _, e, r => by
    unfold AV.dat at e
    cases q : AV.dats xs with
    | none => rw [q] at e; cases e
    | some ds =>
      rw [q] at e; cases e
      cases r with
      | tuple _ _ _ ra => exact dats_none xs q ra
theorem dats_none {h : Heap} : ∀ (xs : List AV) {ds : List PyData} {vs : List Value} {as : List Addr}, AV.dats xs = some ds → ReadsAll h vs ds as → as = []
  | [], _, _, _, e, r => by unfold AV.dats at e; cases e; cases r; rfl
  | x :: xs, _, _, _, e, r => by
    unfold AV.dats at e
    cases q : AV.dat x with
    | none => rw [q] at e; cases e
    | some d =>
      rw [q] at e
      cases q2 : AV.dats xs with
      | none => rw [q2] at e; cases e
      | some es =>
        rw [q2] at e; cases e
        cases r with
        | cons r1 r2 => rw [dat_none x q r1, dats_none xs q2 r2]; rfl
end
section
variable {X : Cx} {ca : Ca} {E : XK}
/-- a value that is meant by a machine's value -/
def RDen (K : PySem.W.Frag) (μ : Mu) (H : Hp) (v : Value) (b : AV × PyData) : Prop := ∃ u, RelV u v ∧ Den K μ H b.1 u
theorem each_den {K : PySem.W.Frag} {μ : Mu} {H : Hp} : ∀ {xs : List AV} {vs : List V} {us : List Value} {ds : List PyData}, DenL K μ H xs vs → Vals vs us → xs.length = ds.length → PySem.W.EachIs (RDen K μ H) us (xs.zip ds)
  | _, _, _, [], .nil, .nil, _ => .nil
  | _, _, _, d :: ds, .cons d1 dr, .cons r1 rr, h => .cons ⟨_, r1, d1⟩ (each_den dr rr (by simpa using h))
  | _, _, _, [], .cons _ _, _, h => by cases h
  | _, _, _, _ :: _, .nil, _, h => by cases h
theorem each_reads {μ : Mu} {H : Hp} {pins : List (Addr × Obj)} {σ : L2.St} {s : Shared} (I : Inv X pins σ H s) : ∀ {xs : List AV} {vs : List V} {us : List Value} {ds : List PyData}, DenL X.K μ H xs vs → Vals vs us → AV.dats xs = some ds → PySem.W.EachIs (fun v b => ∃ as, Reads s.heap v (Prod.snd b) as ∧ as = []) us (xs.zip ds)
  | _, _, _, ds, .nil, .nil, e => by unfold AV.dats at e; cases e; exact .nil
  | _, _, _, ds, @DenL.cons _ _ _ x v xs vs d1 dr, .cons r1 rr, e => by
    unfold AV.dats at e
    cases q : AV.dat x with
    | none => rw [q] at e; cases e
    | some d =>
      rw [q] at e
      cases q2 : AV.dats xs with
      | none => rw [q2] at e; cases e
      | some es =>
        rw [q2] at e; cases e
        obtain ⟨as, ra⟩ := Dp.reads I d v _ (den_dp (W := wd X ⟨fun _ => 0, []⟩ E0) d1 q) r1
        exact .cons ⟨as, ra, dat_none x q ra⟩ (each_reads I dr rr q2)
theorem vals_back {K : PySem.W.Frag} {μ : Mu} {H : Hp} : ∀ {us : List Value} {bs : List (AV × PyData)}, PySem.W.EachIs (RDen K μ H) us bs → ∃ vs, Vals vs us ∧ DenL K μ H (bs.map (·.1)) vs
  | _, _, .nil => ⟨[], .nil, .nil⟩
  | _, _, .cons ⟨u, r, d⟩ t => by
    obtain ⟨vs, h1, h2⟩ := vals_back t
    exact ⟨u :: vs, .cons r h1, .cons d h2⟩
/-- a list of ours, put in order -/
theorem sort_core {A : Around} {pins : List (Addr × Obj)} {σ : L2.St} {H : Hp} {s : Shared} {l : Addr} {μ : Mu} {xs ys : List AV} {vs : List V} {us : List Value} {n : Nat} {Q : Value → Shared → Prop} {EE : Value → Shared → Prop} (hu : A.units + 70 < cLine) (I : Inv X pins σ H s) (d : DenL X.K μ H xs vs) (r : Vals vs us) (e : sortA xs = some ys) (hz : xs.length ≤ sizeLine)
    (hn : ∀ u, H l ≠ some u) (hl : s.heap.get? l = some (seqObj "list" us.toArray n))
    (q : ∀ zs out h' c, Vals zs out → DenL X.K μ H ys zs → zs.length ≤ sizeLine → (∀ b o, b ≠ l → s.heap.get? b = some o → h'.get? b = some o) → h'.get? l = some (seqObj "list" out.toArray c) → Q .none { s with heap := h' }) :
    wpAny (model X.prog X.w) A (call (.builtin "list.sort") [.ref l]) Q EE s := by
  unfold sortA at e
  cases q1 : AV.dats xs with
  | none => rw [q1] at e; cases e
  | some ds =>
    rw [q1] at e
    dsimp only at e
    cases q2 : (allAlike ds && (ds.all fun d => PySem.W.alike d d) && tupsOk ds && (ds.all fun d => Nat.ble d.depth 50)) with
    | false => rw [q2] at e; cases e
    | true =>
      rw [q2] at e
      cases e
      simp only [Bool.and_eq_true] at q2
      obtain ⟨⟨⟨a1, a2⟩, a3⟩, a4⟩ := q2
      have hlen := dats_len q1
      have hmap : (xs.zip ds).map (·.2) = ds := zip_map2 hlen
      have hzl : (xs.zip ds).length = xs.length := by rw [List.length_zip, hlen, Nat.min_self]
      refine PySem.W.list_sort_data (R := RDen X.K μ H) (enc := Prod.snd) (bs := xs.zip ds) (vs := us) hl (each_den d r hlen) ?_ (by rw [hmap]; exact alike_of a1 a2) (.inl (by rw [hmap]; exact tups_of a3)) (by rw [hzl]; exact hz) (fun b hb => ?_) fun out ho he => ?_
      · exact (each_reads I d r q1).mono fun _ _ ⟨as, ra, z⟩ => ⟨as, ra, by rw [z]; exact List.not_mem_nil⟩
      · have hm : b.2 ∈ ds := by rw [← hmap]; exact List.mem_map.mpr ⟨b, hb, rfl⟩
        have := List.all_eq_true.mp a4 _ hm
        have := Nat.le_of_ble_eq_true this
        omega
      · obtain ⟨zs, v1, v2⟩ := vals_back he
        rw [← sortP_eq] at v2
        obtain ⟨c, hc⟩ := sortedHeap_at (vs := us) (out := out.toArray) hl
        refine q zs out _ c v1 v2 ?_ (fun b o hb hq => ?_) hc
        · rw [v1.length, ho, hzl]; exact hz
        · rw [sortedHeap_old hb (Heap.lt_size hq)]; exact hq
theorem ls_new {pins : List (Addr × Obj)} {σ : L2.St} {H : Hp} {s : Shared} {zs : List V} {out : List Value} {h' : Heap} {t' c : Nat} (I : Inv X pins σ H s) (k : ∀ b o, s.heap.get? b = some o → h'.get? b = some o) {l : Addr} (hl : s.heap.objs.size ≤ l) (hg : h'.get? l = some (seqObj "list" out.toArray c)) (v : Vals zs out) (hz : zs.length ≤ sizeLine) :
    Inv X pins σ (upd H l (.lst zs)) { s with heap := h', toks := t' } := I.laid k hl ⟨hz, out, c, v, hg⟩
/-- a new list of items, put in order -/
theorem sorted_tail {A : Around} {pins : List (Addr × Obj)} {σ : L2.St} {H : Hp} {s : Shared} {μ : Mu} {xs ys : List AV} {vs : List V} {us : List Value} {Q : VK} {EE : Value → Shared → Prop} (hu : A.units + 70 < cLine) (I : Inv X pins σ H s) (d : DenL X.K μ H xs vs) (r : Vals vs us) (e : sortA xs = some ys) (hz : xs.length ≤ sizeLine)
    (q : ∀ zs p, DenL X.K μ H ys zs → zs.length ≤ sizeLine → H p = none → Q (.ref p) (upd H p (.lst zs))) :
    wpAny (model X.prog X.w) A (do let l ← newList us; let _ ← holding [l] (call (.builtin "list.sort") [l] []); ret l) (fun f s' => ∃ v, f = .done (.ret v) ∧ EP X pins σ Q v s') EE s := by
  have hul : us.length ≤ sizeLine := by rw [← r.length, ← d.length]; exact hz
  refine wpAny_bind (wpAny_newList ?_ hul)
  have hf : H s.heap.objs.size = none := I.hok.fresh (Nat.le_refl _)
  have hob : (s.heap.push (seqObj "list" us.toArray 0)).get? s.heap.objs.size = some (seqObj "list" us.toArray 0) := Heap.get?_push_size _ rfl
  have I1 : Inv X pins σ H { s with heap := s.heap.push (seqObj "list" us.toArray 0) } := I.kept (t' := s.toks) fun b o z => Heap.get?_push_of_some _ z
  refine wpAny_bind (wpAny_holding (sort_core hu I1 d r e hz (fun u z => by rw [hf] at z; cases z) hob fun zs out h' c v1 v2 v3 k g => wpAny_pure ⟨_, rfl, ?_⟩))
  refine ⟨.ref s.heap.objs.size, _, ls_new (s := s) (t' := s.toks) I (fun b o z => k b o (Nat.ne_of_lt (Heap.lt_size z)) (Heap.get?_push_of_some _ z)) (Nat.le_refl _) g v1 v3, rfl, q zs _ v2 v3 hf⟩
theorem refs_at : ∀ {us : List Value} {ys : List (NestedKey × Addr × Value)}, us.length = ys.length → (∀ (j : Nat) (v : Value) (y : NestedKey × Addr × Value), us[j]? = some v → ys[j]? = some y → v = .ref y.2.1) → Vals (ys.map fun x => V.ref x.2.1) us
  | [], [], _, _ => .nil
  | u :: us, y :: ys, hl, h => .cons (h 0 u y rfl rfl) (refs_at (by simpa using hl) fun j v y' e1 e2 => h (j + 1) v y' (by simpa using e1) (by simpa using e2))
  | [], _ :: _, hl, _ => by simp at hl
  | _ :: _, [], hl, _ => by simp at hl
theorem acc_vals {es : Array DictEntry} {ys : List (NestedKey × Addr × Value)} {acc : Array Value} (hs : es.size = ys.length) (he : ∀ i (hi : i < es.size), ∃ y, ys[i]? = some y ∧ es[i].key = .ref y.2.1 ∧ es[i].val = y.2.2 ∧ True) (ha : ItemsOf (fun i v => ∃ hi : i < es.size, v = es[i].key) acc es.size) : Vals (ys.map fun x => V.ref x.2.1) acc.toList :=
  refs_at (by rw [Array.length_toList, ha.1, hs]) fun j v y e1 e2 => by
    obtain ⟨hi, ev⟩ := ha.2 j v (by rw [← Array.getElem?_toList]; exact e1)
    obtain ⟨y', h1, h2, _⟩ := he j hi
    rw [e2] at h1
    cases h1
    rw [ev, h2]
theorem call_sortedA (hc : X.calm = true) (hu : X.A.units + 75 < cLine) : CallR X (.builtin "sorted") (trC (wd X ca E) (g1 (b1A .sorted))) := by
  intro pins s σ H xs us Q I r hq
  obtain ⟨ro, μ, h, v, x, rfl, R, d, p⟩ := g1_of hq
  obtain ⟨u, rfl, ru⟩ := r.one
  have key : ∀ {ys zs : List AV}, sortA ys = some zs → postG (dV (wd X ca E)) (wd X ca E) ro μ H (alloc h (.lst zs)) Q → ∀ ws p', DenL X.K μ H zs ws → ws.length ≤ sizeLine → H p' = none → Q (.ref p') (upd H p' (.lst ws)) := fun {ys zs} _ pa ws p' dw hw hp' => by
    obtain ⟨_, q⟩ := postG.alloc R pa
    exact q p' _ hp' ⟨by rw [dw.length]; exact hw, ws, upd_same, R.denL (Step.laid hp') dw⟩
  refine Calls.call_function_entry PyProof.Rows.kind_sorted PyProof.Rows.plain_sorted PyProof.Rows.entry_sorted (PyProof.Rows.args_sorted1 _) ?_
  unfold Builtin.«sorted»
  refine wpAny_bind (m := checkCount "sorted" 1 1 _) (wpAny_pure ?_)
  cases d with
  | @obj n a hn =>
    obtain ⟨o, ho, r1⟩ := R.there hn
    unfold b1A at p
    dsimp only at p
    rw [ho] at p
    cases ru
    cases o with
    | lst ys =>
      dsimp only at p
      cases e : sortA ys with
      | none => rw [e] at p; exact False.elim p
      | some zs =>
        rw [e] at p
        obtain ⟨hz, vs, hv, dl⟩ := r1
        obtain ⟨its, rv, pl, _⟩ := I.list (SqL.of (K := X.K) hv)
        obtain ⟨oo, nn, g1, g2, _, g3⟩ := pl
        refine wpAny_bind (wpAny_collect_seq a (.inl rfl) g1 g2 g3 (fun h' hk => ?_) (by rw [List.size_toArray, ← rv.length, ← dl.length]; exact hz))
        rw [List.toList_toArray]
        exact sorted_tail (A := X.A.in1) (by show X.A.units + 1 + 70 < cLine; omega) (I.kept (t' := s.toks) hk) dl rv e hz (key e p)
    | dct kvs =>
      dsimp only at p
      cases e : sortA (kvs.map (·.1)) with
      | none => rw [e] at p; exact False.elim p
      | some zs =>
        rw [e] at p
        obtain ⟨hS, hz, ys, hv, pk⟩ := r1
        have dm := dict_is I hv pk
        obtain ⟨es, ep, hr, hs, he⟩ := dm.raw
        have hl : kvs.length = ys.length := Paired.length pk
        refine wpAny_bind (PySem.W.kdu_collect (A := X.A.in1) (raw_src (X := X) hS) (I.ok.hd hc) hr (by rw [hs, ← hl]; exact hz) fun h' tk acc hk hacc => ?_)
        have av := acc_vals hs (fun i hi => let ⟨y, a1, a2, a3, _⟩ := he i hi; ⟨y, a1, a2, a3, trivial⟩) hacc
        have dk : DenL X.K μ H (kvs.map (·.1)) (ys.map fun x => V.ref x.2.1) := keys_vals (P := X.prog) (w := X.w) pk
        exact sorted_tail (A := X.A.in1) (by show X.A.units + 1 + 70 < cLine; omega) (I.kept (t' := tk) hk) dk av e (by rw [List.length_map]; exact hz) (key e p)
    | _ => exact False.elim p
  | _ => exact False.elim p
theorem call_listA (hc : X.calm = true) : CallR X (.type "list") (trC (wd X ca E) (g1 (b1A .list))) := by
  intro pins s σ H xs us Q I r hq
  obtain ⟨ro, μ, h, v, x, rfl, R, d, p⟩ := g1_of hq
  have key : ∀ {ys : List AV} {ws : List V}, ys.length ≤ sizeLine → DenL X.K μ H ys ws → postG (dV (wd X ca E)) (wd X ca E) ro μ H (alloc h (.lst ys)) Q → ∀ p', H p' = none → Q (.ref p') (upd H p' (.lst ws)) := fun {ys ws} hz dw pa p' hp' => by
    obtain ⟨_, q⟩ := postG.alloc R pa
    exact q p' _ hp' ⟨hz, ws, upd_same, R.denL (Step.laid hp') dw⟩
  cases d with
  | @tup a vs ys sq dl =>
    obtain ⟨its, rv, _, hz⟩ := I.tuple sq
    exact call_list_of pins s σ H _ us Q I r ⟨a, vs, rfl, .inr sq, key (by rw [dl.length]; exact hz) dl p⟩
  | @obj n a hn =>
    obtain ⟨o, ho, r1⟩ := R.there hn
    unfold b1A at p
    dsimp only at p
    rw [ho] at p
    cases o with
    | lst ys =>
      obtain ⟨hz, vs, hv, dl⟩ := r1
      exact call_list_of pins s σ H _ us Q I r ⟨a, vs, rfl, .inl (SqL.of hv), key hz dl p⟩
    | fz ns =>
      obtain ⟨ob, hv⟩ := r1
      have sl : SqL X.K H a (ns.map V.int) := .inl (.inr ⟨ob, hv⟩)
      obtain ⟨its, rv, _, hz⟩ := I.list sl
      exact call_list_of pins s σ H _ us Q I r ⟨a, ns.map V.int, rfl, .inl sl, key (by rw [List.length_map] at hz ⊢; exact hz) (den_ints ns) p⟩
    | dct kvs =>
      dsimp only at p
      obtain ⟨hS, hz, ys, hv, pk⟩ := r1
      obtain ⟨u, rfl, ru⟩ := r.one
      cases ru
      have dm := dict_is I hv pk
      obtain ⟨es, ep, hr, hs, he⟩ := dm.raw
      have hl : kvs.length = ys.length := Paired.length pk
      refine PySem.W.kdl_call (raw_src (X := X) hS) (I.ok.hd hc) hr (by rw [hs, ← hl]; exact hz) fun h' tk acc c hk hg hacc => ?_
      have av := acc_vals hs (fun i hi => let ⟨y, a1, a2, a3, _⟩ := he i hi; ⟨y, a1, a2, a3, trivial⟩) hacc
      have dk : DenL X.K μ H (kvs.map (·.1)) (ys.map fun x => V.ref x.2.1) := keys_vals (P := X.prog) (w := X.w) pk
      have hf : H s.heap.objs.size = none := I.hok.fresh (Nat.le_refl _)
      refine ⟨.ref s.heap.objs.size, _, ls_new (s := s) (t' := tk) (c := c) I hk (Nat.le_refl _) (by rw [Array.toArray_toList]; exact hg) av (by rw [List.length_map, ← hl]; exact hz), rfl, key (by rw [List.length_map]; exact hz) dk p _ hf⟩
    | _ => exact False.elim p
  | _ => exact False.elim p
end
end Ev
set_option Elab.async false
set_option linter.all false
set_option maxRecDepth 100000
set_option maxHeartbeats 4000000
/-! isinstance, methods of lists, slices -/
namespace Ev
open PySem PySem.Spec PyProof.Rows L2
section
variable {X : Cx} {ca : Ca} {E : XK} {a b : Expr} {es : List Expr} {ma mb : Loc' → AH → R AV} {ms : Loc' → AH → R (List AV)} {pos p apos p2 : Pos} {x : Str}
/-- a value of ours has its type -/
theorem kit_den {ro : Nat} {μ : Mu} {h : AH} {H : Hp} {pins : List (Addr × Obj)} {σ : L2.St} {s : Shared} {v : AV} {y : V} {u : Value} {T : Ty} (R : RelH (wd X ca E) ro μ h H) (I : Inv X pins σ H s) (d : Den X.K μ H v y) (r : RelV y u) (e : tyIs v h = some T) :
    ∃ P : Heap → Prop, PySem.W.KitX X.K u (.type T.name) P ∧ P s.heap ∧ u ≠ .builtin "__main__.__loader__#opaque" := by
  cases d with
  | non => cases e; exact kit_of I r (.base .non)
  | bl b => cases e; exact kit_of I r (.base (.bl b))
  | int b => cases e; exact kit_of I r (.base (.int b))
  | str b => cases e; exact kit_of I r (.base (.str b))
  | @tup a vs xs sq dl =>
    cases e
    cases r
    obtain ⟨its, rv, ⟨o, h1, h2, _⟩, _⟩ := I.tuple sq
    exact ⟨_, PySem.W.kitx_tuple, ⟨o, h1, h2⟩, fun z => nomatch z⟩
  | @obj n a hn =>
    obtain ⟨o, ho, r1⟩ := R.there hn
    unfold tyIs at e
    dsimp only at e
    rw [ho] at e
    cases o with
    | lst ys => cases e; obtain ⟨_, vs, hv, _⟩ := r1; exact kit_of I r (.base (.lst hv))
    | fz ns => cases e; obtain ⟨ob, hv⟩ := r1; exact kit_of I r (.base (.frz hv))
    | dct kvs =>
      cases e
      cases r
      obtain ⟨hS, hz, ys, hv, pk⟩ := r1
      obtain ⟨o, _, _, g1, g2, _⟩ := dict_is I hv pk
      exact ⟨_, PySem.W.kitx_dict, ⟨o, g1, g2.1⟩, fun z => nomatch z⟩
    | ins c fs => cases e
def kitT : Ty → Ty → Bool := fun t n => decide (kitB t.name n.name = some (Ty.sub t n))
theorem kitT_ok : ∀ t n : Ty, n ≠ .nt → kitB t.name n.name = some (Ty.sub t n) := by
  intro t n h
  cases t <;> cases n <;> first | exact absurd rfl h | decide +kernel
def isi1 (n : Ty) : List AV → AH → R AV := fun vs h => match vs with
  | [v] => rOpt ((isiA v (.ty n) h).map .bl) h
  | _ => .bad
/-- isinstance(a, T) -/
theorem sim_isi {n : Ty} {y : Str} (hg : Gl X "isinstance") (hm : X.mg "isinstance" = none) (ha : SimE X (wd X ca E) a ma) (hs : notStar a = true) (hn : n ≠ .nt) (hy : Gl X y) (hym : X.mg y = none) (hyv : bootBuiltins y = some (.type n.name)) (hy1 : y ≠ "__name__") (hy2 : (y == ("__debug__" : Str)) = false) :
    SimE X (wd X ca E) (.Call (.Name "isinstance" p) [a, .Name y p2] [] pos) (fun l h => (ma l h).bind fun v h1 => rOpt ((isiA v (.ty n) h1).map .bl) h1) := by
  have hc : CallR X (.builtin "isinstance") (fun xs H Q => ∃ ro μ h v w, xs = [w, .ty n.name] ∧ RelH (wd X ca E) ro μ h H ∧ Den X.K μ H v w ∧ postG (dV (wd X ca E)) (wd X ca E) ro μ H (rOpt ((isiA v (.ty n) h).map .bl) h) Q) := by
    intro pins s σ H xs us Q I r ⟨ro, μ, h, v, w, ex, R, d, q⟩
    subst ex
    obtain ⟨u1, u2, rfl, r1, r2⟩ := r.two
    cases (show u2 = Value.type n.name from r2)
    obtain ⟨z, e, q⟩ := postG.opt q
    unfold isiA at e
    cases e2 : tyIs v h with
    | none => rw [e2] at e; cases e
    | some t =>
      rw [e2] at e
      cases e
      obtain ⟨P, Z, p', hx⟩ := kit_den R I d r1 e2
      exact PySem.W.kia_one Z I.kIn p' (kit_ty (kitT_ok t n hn)) hx fun tk => ⟨.bl _, H, I.tok tk, rfl, q.val R (.bl _)⟩
  have hn1 : notStar (Expr.Name y p2) = true := rfl
  refine PE.weaken (pe_callB hc hg hm (by decide +kernel) (pa_cons ha (pa_cons (pe_bltn hy hym hyv (v := .ty n.name) rfl hy1 hy2) pa_nil (star_one hn1)) (star_one hs)) (by decide) (by decide) (star_one hs) rfl) fun σ H Q ⟨ro, μ, l, h, A, q⟩ => ?_
  exact ⟨ro, μ, l, h, A, (bindP (dV _) A q).imp fun w H1 ⟨μ1, v, h1, A1, d1, st1, q1⟩ => ⟨ro, μ1, h1, v, w, rfl, A1.R, d1, q1⟩⟩
/-- isinstance(a, (T, U)) -/
theorem sim_isi2 {n m : Ty} {y z : Str} {k : Nat} {p3 p4 : Pos} (hg : Gl X "isinstance") (hm : X.mg "isinstance" = none) (ha : SimE X (wd X ca E) a ma) (hs : notStar a = true) (hn : n ≠ .nt) (hn' : m ≠ .nt) (hy : Gl X y) (hym : X.mg y = none) (hyv : bootBuiltins y = some (.type n.name)) (hy1 : y ≠ "__name__") (hy2 : (y == ("__debug__" : Str)) = false)
    (hz : Gl X z) (hzm : X.mg z = none) (hzv : bootBuiltins z = some (.type m.name)) (hz1 : z ≠ "__name__") (hz2 : (z == ("__debug__" : Str)) = false) :
    SimE X (wd X ca E) (.Call (.Name "isinstance" p) [a, .Tuple [.Name y p2, .Name z p3] k p4] [] pos) (fun l h => (ma l h).bind fun v h1 => rOpt ((isiA v (.tys n m) h1).map .bl) h1) := by
  have hc : CallR X (.builtin "isinstance") (fun xs H Q => ∃ ro μ h v w tp, xs = [w, .ref tp] ∧ H tp = some (.tup [.ty n.name, .ty m.name]) ∧ RelH (wd X ca E) ro μ h H ∧ Den X.K μ H v w ∧ postG (dV (wd X ca E)) (wd X ca E) ro μ H (rOpt ((isiA v (.tys n m) h).map .bl) h) Q) := by
    intro pins s σ H xs us Q I r ⟨ro, μ, h, v, w, tp, ex, hT, R, d, q⟩
    subst ex
    obtain ⟨u1, u2, rfl, r1, r2⟩ := r.two
    cases (show u2 = Value.ref tp from r2)
    obtain ⟨z, e, q⟩ := postG.opt q
    unfold isiA at e
    cases e2 : tyIs v h with
    | none => rw [e2] at e; cases e
    | some t =>
      rw [e2] at e
      cases e
      obtain ⟨P, Z, p', hx⟩ := kit_den R I d r1 e2
      obtain ⟨_, its, rv, o, h1, h2, nn, h3⟩ := (show ObjOk X.prog X.w H s.heap tp (.tup [.ty n.name, .ty m.name]) from I.hok tp _ hT)
      obtain ⟨i1, i2, rfl, ri1, ri2⟩ := rv.two
      cases (show i1 = Value.type n.name from ri1)
      cases (show i2 = Value.type m.name from ri2)
      obtain ⟨oc, od, dt, sl⟩ := o
      simp only at h2 h3
      subst h2 h3
      refine PySem.W.kia_tup (b := Ty.sub t n || Ty.sub t m) Z I.kIn p' h1 ?_ hx fun tk => ⟨.bl _, H, I.tok tk, rfl, q.val R (.bl _)⟩
      refine kitAny_cons (kit_ty (kitT_ok t n hn)) (fun e => ?_) fun e => by rw [e]; rfl
      rw [e, Bool.false_or]
      exact kitAny_cons (kit_ty (kitT_ok t m hn')) (fun e => by rw [e]; rfl) fun e => e
  have hn1 : ∀ (y : Str) (p2 : Pos), notStar (Expr.Name y p2) = true := fun _ _ => rfl
  refine PE.weaken (pe_callB hc hg hm (by decide +kernel) (pa_cons ha (pa_cons (pe_tup (pa_cons (pe_bltn hy hym hyv (v := .ty n.name) rfl hy1 hy2) (pa_cons (pe_bltn hz hzm hzv (v := .ty m.name) rfl hz1 hz2) pa_nil (star_one (hn1 _ _))) (star_one (hn1 _ _)))) pa_nil rfl) (star_one hs)) (by decide) (by decide) (star_one hs) rfl) fun σ H Q ⟨ro, μ, l, h, A, q⟩ => ?_
  exact ⟨ro, μ, l, h, A, (bindP (dV _) A q).imp fun w H1 ⟨μ1, v, h1, A1, d1, st1, q1⟩ => ⟨by show 2 ≤ sizeLine; decide, fun c hc => ⟨ro, μ1, h1, v, w, c, rfl, upd_same, A1.R.laid hc, A1.R.den (Step.laid hc) d1, q1.later (Step.laid hc)⟩⟩⟩
/-- what isinstance asks of an own class -/
structure OwnK (X : Cx) (ca : Ca) (c : Nat) (cs : List Nat) : Prop where
  ty : ∀ t : Ty, PySem.W.kitOne X.K (.type t.name) (.ref (ca c)) = some false
  cl : ∀ c' ∈ cs, SlX.SCls X.K (ca c') ∧ SlX.SIsi X.K (ca c') ∧ PySem.W.kitOne X.K (.ref (ca c')) (.ref (ca c)) = some (Nat.beq c' c)
theorem sim_isiO {c : Nat} {cs : List Nat} {y : Str} (hg : Gl X "isinstance") (hm : X.mg "isinstance" = none) (ha : SimE X (wd X ca E) a ma) (hs : notStar a = true) (K : OwnK X ca c cs) (hy : Gl X y) (hym : X.mg y = some (.ref (ca c))) (hy2 : (y == ("__debug__" : Str)) = false) :
    SimE X (wd X ca E) (.Call (.Name "isinstance" p) [a, .Name y p2] [] pos) (fun l h => (ma l h).bind fun v h1 => rOpt ((isiA v (.own c cs) h1).map .bl) h1) := by
  have hc : CallR X (.builtin "isinstance") (fun xs H Q => ∃ ro μ h v w, xs = [w, .ref (ca c)] ∧ RelH (wd X ca E) ro μ h H ∧ Den X.K μ H v w ∧ postG (dV (wd X ca E)) (wd X ca E) ro μ H (rOpt ((isiA v (.own c cs) h).map .bl) h) Q) := by
    intro pins s σ H xs us Q I r ⟨ro, μ, h, v, w, ex, R, d, q⟩
    subst ex
    obtain ⟨u1, u2, rfl, r1, r2⟩ := r.two
    cases (show u2 = Value.ref (ca c) from r2)
    obtain ⟨z, e, q⟩ := postG.opt q
    have low : ∀ t, tyIs v h = some t → z = .bl false → wpAny (model X.prog X.w) X.A (call (.builtin "isinstance") [u1, .ref (ca c)]) (EP X pins σ Q) X.xe s := fun t e2 ez => by
      obtain ⟨P, Z, p', hx⟩ := kit_den R I d r1 e2
      subst ez
      exact PySem.W.kia_one Z I.kIn p' (K.ty t) hx fun tk => ⟨.bl _, H, I.tok tk, rfl, q.val R (.bl _)⟩
    unfold isiA at e
    cases d with
    | @obj n o hn =>
      obtain ⟨ob, ho, r3⟩ := R.there hn
      dsimp only at e
      rw [ho] at e
      cases ob with
      | ins c' fs =>
        dsimp only at e
        cases e3 : cs.any (Nat.beq c') with
        | false => rw [e3] at e; cases e
        | true =>
          rw [e3] at e
          cases e
          obtain ⟨c'', hm', hb⟩ := List.any_eq_true.mp e3
          have := Nat.eq_of_beq_eq_true hb
          subst this
          obtain ⟨k1, k2, k3⟩ := K.cl _ hm'
          obtain ⟨dx, vs, h1, h2, _⟩ := r3
          cases (show u1 = Value.ref o from r1)
          exact SlX.call_isiSl (.ref (ca c)) pins s σ H _ _ Q I r ⟨o, ca c', dx, vs, .ref (ca c), _, rfl, rfl, fun w rw => rw, .inr ⟨h1, h2⟩, k1, k2, k3, q.val R (.bl _)⟩
      | lst ys => exact low .list (by unfold tyIs; dsimp only; rw [ho]) (by unfold tyIs at e; dsimp only at e; rw [ho] at e; cases e; rfl)
      | fz ys => exact low .list (by unfold tyIs; dsimp only; rw [ho]) (by unfold tyIs at e; dsimp only at e; rw [ho] at e; cases e; rfl)
      | dct ys => exact low .dict (by unfold tyIs; dsimp only; rw [ho]) (by unfold tyIs at e; dsimp only at e; rw [ho] at e; cases e; rfl)
    | non => exact low .nt rfl (by cases e; rfl)
    | bl _ => exact low .bool rfl (by cases e; rfl)
    | int _ => exact low .int rfl (by cases e; rfl)
    | str _ => exact low .str rfl (by cases e; rfl)
    | tup _ _ => exact low .tuple rfl (by cases e; rfl)
  have hn1 : notStar (Expr.Name y p2) = true := rfl
  refine PE.weaken (pe_callB hc hg hm (by decide +kernel) (pa_cons ha (pa_cons (pe_glob hy hym (v := .ref (ca c)) rfl hy2) pa_nil (star_one hn1)) (star_one hs)) (by decide) (by decide) (star_one hs) rfl) fun σ H Q ⟨ro, μ, l, h, A, q⟩ => ?_
  exact ⟨ro, μ, l, h, A, (bindP (dV _) A q).imp fun w H1 ⟨μ1, v, h1, A1, d1, st1, q1⟩ => ⟨ro, μ1, h1, v, w, rfl, A1.R, d1, q1⟩⟩
/-! ### methods of lists -/
def trM (W : Wd) (m : Bm) : V → List V → Hp → VK → Prop := fun x xs H Q => ∃ ro μ h ax args, RelH W ro μ h H ∧ Den W.K μ H ax x ∧ DenL W.K μ H args xs ∧ postG (dV W) W ro μ H (bmA m ax args h) Q
theorem isLst_at {ro : Nat} {μ : Mu} {h : AH} {H : Hp} {v : AV} {u : V} (R : RelH (wd X ca E) ro μ h H) (d : Den X.K μ H v u) (e : isLst v h = true) : ∃ n b ys vs, v = .obj n ∧ u = .ref b ∧ μ n = some b ∧ h.get n = some (.lst ys) ∧ H b = some (.lst vs) ∧ DenL X.K μ H ys vs := by
  unfold isLst at e
  cases d with
  | @obj n b hn =>
    obtain ⟨o, ho, r⟩ := R.there hn
    dsimp only at e
    rw [ho] at e
    cases o with
    | lst ys => obtain ⟨_, vs, h1, h2⟩ := r; exact ⟨n, b, ys, vs, rfl, rfl, hn, ho, h1, h2⟩
    | _ => cases e
  | _ => cases e
theorem bmA_at {ro : Nat} {μ : Mu} {h : AH} {H : Hp} {m : Bm} {v : AV} {u : V} {args : List AV} {Q : VK} (R : RelH (wd X ca E) ro μ h H) (d : Den X.K μ H v u) (p : postG (dV (wd X ca E)) (wd X ca E) ro μ H (bmA m v args h) Q) :
    ∃ n b ys vs, v = .obj n ∧ u = .ref b ∧ μ n = some b ∧ h.get n = some (.lst ys) ∧ H b = some (.lst vs) ∧ DenL X.K μ H ys vs ∧ ys.length ≤ sizeLine ∧ ro ≤ n := by
  unfold bmA at p
  cases d with
  | @obj n b hn =>
    obtain ⟨o, ho, r⟩ := R.there hn
    dsimp only at p
    rw [ho] at p
    cases o with
    | lst ys =>
      dsimp only at p
      cases e : Nat.ble h.ro n with
      | false => rw [e] at p; exact False.elim p
      | true =>
        obtain ⟨hz, vs, h1, h2⟩ := r
        refine ⟨n, b, ys, vs, rfl, rfl, hn, ho, h1, h2, hz, ?_⟩
        have := Nat.le_of_ble_eq_true e
        rw [R.roe] at this
        exact this
    | _ => exact False.elim p
  | _ => exact False.elim p
/-- the list at n is rewritten -/
theorem lst_put {ro : Nat} {μ : Mu} {h : AH} {H : Hp} {n : Nat} {b : Addr} {ys zs : List AV} {vs ws : List V} {x : AV} {u : V} {Q : VK} (R : RelH (wd X ca E) ro μ h H) (hn : μ n = some b) (ho : h.get n = some (.lst ys)) (hb : H b = some (.lst vs)) (hr : ro ≤ n) (hz : zs.length ≤ sizeLine) (dw : DenL X.K μ H zs ws) (dx : Den X.K μ H x u)
    (p : postG (dV (wd X ca E)) (wd X ca E) ro μ H (.ok x (h.set n (.lst zs))) Q) : Q u (upd H b (.lst ws)) := by
  have st : Step ro μ H μ (upd H b (.lst ws)) := Step.write hn hr
  exact p μ u _ st (R.write hn hr ho (by rw [hb]; intro z; cases z) ⟨hz, ws, upd_same, R.denL st dw⟩) (R.den st dx)
theorem mt_appA : MtR X "list.append" (trM (wd X ca E) .append) := by
  intro pins s σ H x xs v us Q I rx rs ⟨ro, μ, h, ax, args, R, dx, da, p⟩
  obtain ⟨n, b, ys, vs, rfl, rfl, hn, ho, hb, dl, hz, hr⟩ := bmA_at R dx p
  unfold bmA at p
  dsimp only at p
  rw [ho] at p
  dsimp only at p
  rw [Nat.ble_eq_true_of_le (by rw [R.roe]; exact hr)] at p
  cases da with
  | nil => exact False.elim p
  | @cons y w _ _ d1 d2 =>
    cases d2 with
    | cons _ _ => exact False.elim p
    | nil =>
      dsimp only at p
      cases e : Nat.blt ys.length 16777216 with
      | false => rw [e] at p; exact False.elim p
      | true =>
        rw [e] at p
        have hlt := blt_tt.mp e
        refine mt_append pins s σ H _ _ v us Q I rx rs ⟨b, vs, w, rfl, rfl, hb, by rw [← dl.length, sizeLine_eq]; exact hlt, lst_put R hn ho hb hr (by rw [List.length_append, List.length_singleton, sizeLine_eq]; omega) (dl.append (.cons d1 .nil)) .non p⟩
theorem mt_popA : MtR X "list.pop" (trM (wd X ca E) .pop) := by
  intro pins s σ H x xs v us Q I rx rs ⟨ro, μ, h, ax, args, R, dx, da, p⟩
  obtain ⟨n, b, ys, vs, rfl, rfl, hn, ho, hb, dl, hz, hr⟩ := bmA_at R dx p
  unfold bmA at p
  dsimp only at p
  rw [ho] at p
  dsimp only at p
  rw [Nat.ble_eq_true_of_le (by rw [R.roe]; exact hr)] at p
  cases da with
  | cons _ _ => exact False.elim p
  | nil =>
    dsimp only at p
    cases e : ys.getLast? with
    | none => rw [e] at p; exact False.elim p
    | some y =>
      rw [e] at p
      rw [List.getLast?_eq_getElem?] at e
      obtain ⟨w, hw, dw⟩ := dl.get e
      have hd : DenL X.K μ H ys.dropLast vs.dropLast := by
        rw [List.dropLast_eq_take, List.dropLast_eq_take, ← dl.length]
        exact dl.take _
      exact mt_pop pins s σ H _ _ v us Q I rx rs ⟨b, vs, w, rfl, rfl, hb, by rw [← dl.length]; exact hw, lst_put R hn ho hb hr (by rw [List.length_dropLast]; omega) hd dw p⟩
theorem mt_pop0A : MtR X "list.pop" (trM (wd X ca E) .pop0) := by
  intro pins s σ H x xs v us Q I rx rs ⟨ro, μ, h, ax, args, R, dx, da, p⟩
  obtain ⟨n, b, ys, vs, rfl, rfl, hn, ho, hb, dl, hz, hr⟩ := bmA_at R dx p
  unfold bmA at p
  dsimp only at p
  rw [ho] at p
  dsimp only at p
  rw [Nat.ble_eq_true_of_le (by rw [R.roe]; exact hr)] at p
  cases da with
  | nil => exact False.elim p
  | @cons y w _ _ d1 d2 =>
    cases d1 with
    | int i =>
      cases d2 with
      | cons _ _ => cases i with
        | ofNat k => cases k <;> exact False.elim p
        | negSucc k => exact False.elim p
      | nil =>
        cases i with
        | negSucc k => exact False.elim p
        | ofNat k =>
          cases k with
          | succ k => exact False.elim p
          | zero =>
            cases ys with
            | nil => exact False.elim p
            | cons y ys =>
              cases dl with
              | @cons _ w _ ws dw dr =>
                refine mt_popAt pins s σ H _ _ v us Q I rx rs ⟨b, _, 0, 0, w, rfl, rfl, hb, by decide, by decide, by unfold seqIndex?; simp, rfl, ?_⟩
                exact lst_put R hn ho hb hr (by rw [List.length_cons] at hz; omega) dr dw p
    | _ => cases d2 <;> exact False.elim p
theorem mt_extA : MtR X "list.extend" (trM (wd X ca E) .extend) := by
  intro pins s σ H x xs v us Q I rx rs ⟨ro, μ, h, ax, args, R, dx, da, p⟩
  obtain ⟨n, b, ys, vs, rfl, rfl, hn, ho, hb, dl, hz, hr⟩ := bmA_at R dx p
  unfold bmA at p
  dsimp only at p
  rw [ho] at p
  dsimp only at p
  rw [Nat.ble_eq_true_of_le (by rw [R.roe]; exact hr)] at p
  cases da with
  | nil => exact False.elim p
  | @cons y w _ _ d1 d2 =>
    cases d1 with
    | @obj m c hm =>
      cases d2 with
      | cons _ _ => exact False.elim p
      | nil =>
        dsimp only at p
        cases e : Nat.beq n m with
        | true => rw [e] at p; exact False.elim p
        | false =>
          rw [e] at p
          obtain ⟨o2, ho2, r2⟩ := R.there hm
          dsimp only at p
          rw [ho2] at p
          cases o2 with
          | lst zs =>
            dsimp only at p
            cases e2 : lim (ys.length + zs.length) with
            | false => rw [e2] at p; exact False.elim p
            | true =>
              rw [e2] at p
              have hl := lim_le e2
              obtain ⟨_, ws, hc, dw⟩ := r2
              exact mt_extend pins s σ H _ _ v us Q I rx rs ⟨b, c, vs, ws, rfl, rfl, hb, hc, by rw [← dl.length, ← dw.length]; exact hl, lst_put R hn ho hb hr (by rw [List.length_append]; exact hl) (dl.append dw) .non p⟩
          | _ => exact False.elim p
    | _ => cases d2 <;> exact False.elim p
theorem few_ok {cpos : Pos} {env : Env} {e : Expr} (hs : (e :: es).all notStar = true) (hn : (e :: es).length < 20) : ((backTo cpos (starEach (e :: es) env)).all (fun x => !x.1) && (backToKw cpos (keywordEach [] env)).all (fun x => x.1.isSome)
      && decide ((e :: es).length + ([] : List Keyword).length + (if ([] : List Keyword).isEmpty then 0 else 1) < 30)) = true := by
  rw [star_all hs]
  show (true && true && decide ((e :: es).length + 0 + 0 < 30)) = true
  rw [decide_eq_true (by omega)]
  rfl
theorem sim_bm {e : Expr} {m : Bm} {name : Str} {id : String} (slot : Slot "list" name id) (hty : typeOf (.builtin id) = pure (.type "method_descriptor")) (hm : MtR X id (trM (wd X ca E) m)) (ho : SimE X (wd X ca E) a ma) (ha : SimA X (wd X ca E) (e :: es) ms) (hb : baseOk a = true) (hs : (e :: es).all notStar = true) (hn : (e :: es).length < 20) (hl : (apos.endLine == pos.line) = true) :
    SimE X (wd X ca E) (.Call (.Attribute a name apos) (e :: es) [] pos) (fun l h => (ma l h).bind fun x h1 => match isLst x h1 with
      | true => (ms l h1).bind fun vs h2 => bmA m x vs h2
      | false => .bad) := by
  have hs' := hs
  rw [List.all_cons, Bool.and_eq_true] at hs'
  refine PE.weaken (pe_bm PySem.F.plainAttrs_list slot hty hm ho ha (base_ok hb) (few_ok hs hn) hl (star_one hs'.1) (star_any hs'.2)) fun σ H Q ⟨ro, μ, l, h, A, q⟩ => ?_
  refine ⟨ro, μ, l, h, A, (bindP (dV _) A q).imp fun w H1 ⟨μ1, v, h1, A1, d1, st1, q1⟩ => ?_⟩
  cases e1 : isLst v h1 with
  | false => rw [e1] at q1; exact False.elim q1
  | true =>
    rw [e1] at q1
    obtain ⟨n, c, ys, vs, rfl, rfl, hn, hg, hH, dl⟩ := isLst_at A1.R d1 e1
    exact ⟨.inl ⟨rfl, _, SqL.of hH⟩, ro, μ1, l, h1, A1, (bindP (dL _) A1 q1).imp fun xs H2 ⟨μ2, as, h2, A2, d2, st2, q2⟩ => ⟨ro, μ2, h2, .obj n, as, A2.R, A1.R.den st2 d1, d2, q2⟩⟩
theorem sim_bm0 {m : Bm} {name : Str} {id : String} (slot : Slot "list" name id) (hty : typeOf (.builtin id) = pure (.type "method_descriptor")) (hm : MtR X id (trM (wd X ca E) m)) (ho : SimE X (wd X ca E) a ma) (hb : baseOk a = true) (hl : (apos.endLine == pos.line) = true) :
    SimE X (wd X ca E) (.Call (.Attribute a name apos) [] [] pos) (fun l h => (ma l h).bind fun x h1 => match isLst x h1 with
      | true => bmA m x [] h1
      | false => .bad) := by
  refine PE.weaken (pe_bm0 PySem.F.plainAttrs_list slot hty hm ho (base_ok hb) hl) fun σ H Q ⟨ro, μ, l, h, A, q⟩ => ?_
  refine ⟨ro, μ, l, h, A, (bindP (dV _) A q).imp fun w H1 ⟨μ1, v, h1, A1, d1, st1, q1⟩ => ?_⟩
  cases e1 : isLst v h1 with
  | false => rw [e1] at q1; exact False.elim q1
  | true =>
    rw [e1] at q1
    obtain ⟨n, c, ys, vs, rfl, rfl, hn, hg, hH, dl⟩ := isLst_at A1.R d1 e1
    exact ⟨.inl ⟨rfl, _, SqL.of hH⟩, ro, μ1, h1, .obj n, [], A1.R, d1, .nil, q1⟩
/-! ### slices -/
def dO : Mu → Hp → Option Int → Option Int → Prop := fun _ _ v w => v = w
abbrev SimO (X : Cx) (W : Wd) (o : Option Expr) (m : Loc' → AH → R (Option Int)) : Prop := PO X o (fun σ H Q => ∃ ro μ l h, At W ro μ l h σ H ∧ postG dO W ro μ H (m l h) Q)
theorem PO.weaken {X : Cx} {e : Option Expr} {t t' : TO} (p : PO X e t) (h : ∀ σ H Q, t' σ H Q → t σ H Q) : PO X e t' := ⟨fun pins s σ H Q I q => p.run pins s σ H Q I (h σ H Q q)⟩
theorem simo_none : SimO X (wd X ca E) none (fun _ h => .ok none h) := PO.weaken po_none fun σ H Q ⟨ro, μ, l, h, A, q⟩ => postG.val A.R q rfl
theorem simo_some (ha : SimE X (wd X ca E) a ma) : SimO X (wd X ca E) (some a) (fun l h => (ma l h).bind fun x h1 => match x with | .int i => .ok (some i) h1 | _ => .bad) :=
  PO.weaken (po_some ha) fun σ H Q ⟨ro, μ, l, h, A, q⟩ => ⟨ro, μ, l, h, A, by
    refine (bindP (dV _) A q).imp fun w H1 ⟨μ1, v, h1, A1, d1, st1, q1⟩ => ?_
    cases v with
    | int i => cases d1; exact ⟨i, rfl, q1.val A1.R rfl⟩
    | _ => exact False.elim q1⟩
theorem den_cut {K : PySem.W.Frag} {μ : Mu} {H : Hp} {xs : List AV} {vs : List V} (d : DenL K μ H xs vs) (lo hi : Option Int) : DenL K μ H (cutA xs lo hi) (cutV vs lo hi) := by
  unfold cutA cutV
  rw [d.length]
  exact (d.drop _).take _
theorem cut_len {α : Type} (xs : List α) (lo hi : Option Int) : (cutA xs lo hi).length ≤ xs.length := by
  unfold cutA
  rw [List.length_take, List.length_drop]
  omega
theorem cut_whole {α : Type} {xs : List α} {lo hi : Option Int} (h : HT.sIx xs.length 0 lo = 0 ∧ HT.sIx xs.length xs.length hi = xs.length) : cutA xs lo hi = xs := by
  unfold cutA
  rw [h.1, h.2]
  simp
theorem cut_map {α β : Type} (f : α → β) (xs : List α) (lo hi : Option Int) : cutA (xs.map f) lo hi = (cutA xs lo hi).map f := by
  unfold cutA
  rw [List.length_map, List.map_take, List.map_drop]
theorem sl_ok : SlR X (fun x lo hi H Q => ∃ ro μ h v, RelH (wd X ca E) ro μ h H ∧ Den X.K μ H v x ∧ postG (dV (wd X ca E)) (wd X ca E) ro μ H (slA v lo hi h) Q) := by
  intro pins s σ H x v vl vu lo hi sl Q I rx hs pl pu ⟨ro, μ, h, ax, R, d, p⟩
  cases d with
  | @tup a vs ys sq dl =>
    have p' : postG (dV (wd X ca E)) (wd X ca E) ro μ H (.ok (.tup (cutA ys lo hi)) h) Q := p
    refine sl_tupA pins s σ H _ v vl vu lo hi sl Q I rx hs pl pu ⟨a, vs, rfl, sq, fun z => ?_, fun z c hc => ?_⟩
    · rw [← dl.length] at z
      rw [cut_whole z] at p'
      exact p'.val R (.tup sq dl)
    · exact p' μ _ _ (Step.laid hc) (R.laid hc) (.tup (SqT.of upd_same) (R.denL (Step.laid hc) (den_cut dl lo hi)))
  | @obj n a hn =>
    obtain ⟨o, ho, r1⟩ := R.there hn
    unfold slA at p
    dsimp only at p
    rw [ho] at p
    cases o with
    | lst ys =>
      obtain ⟨hz, vs, hv, dl⟩ := r1
      obtain ⟨_, q⟩ := postG.alloc R p
      exact sl_list pins s σ H _ v vl vu lo hi sl Q I rx hs pl pu ⟨a, vs, rfl, SqL.of hv, fun c hc => q c _ hc ⟨Nat.le_trans (cut_len _ _ _) hz, _, upd_same, R.denL (Step.laid hc) (den_cut dl lo hi)⟩⟩
    | fz ns =>
      obtain ⟨ob, hv⟩ := r1
      obtain ⟨_, q⟩ := postG.alloc R p
      have sq : SqL X.K H a (ns.map V.int) := .inl (.inr ⟨ob, hv⟩)
      obtain ⟨_, _, _, hz⟩ := I.list sq
      rw [List.length_map] at hz
      refine sl_list pins s σ H _ v vl vu lo hi sl Q I rx hs pl pu ⟨a, _, rfl, sq, fun c hc => q c _ hc ⟨by rw [List.length_map]; exact Nat.le_trans (cut_len _ _ _) hz, _, upd_same, R.denL (Step.laid hc) ?_⟩⟩
      have := den_cut (den_ints (K := X.K) (μ := μ) (H := H) ns) lo hi
      rw [cut_map] at this
      exact this
    | _ => exact False.elim p
  | _ => exact False.elim p
theorem sim_sl {lo hi : Option Expr} {ml mh : Loc' → AH → R (Option Int)} (ha : SimE X (wd X ca E) a ma) (hl : SimO X (wd X ca E) lo ml) (hh : SimO X (wd X ca E) hi mh) : SimE X (wd X ca E) (.Subscript a (.Slice lo hi none p2) pos) (fun l h => (ma l h).bind fun x h1 => (ml l h1).bind fun v h2 => (mh l h2).bind fun w h3 => slA x v w h3) :=
  PE.weaken (pe_slice sl_ok ha hl hh) fun σ H Q ⟨ro, μ, l, h, A, q⟩ => ⟨ro, μ, l, h, A, (bindP (dV _) A q).imp fun w H1 ⟨μ1, v, h1, A1, d1, st1, q1⟩ => ⟨ro, μ1, l, h1, A1, (bindP dO A1 q1).imp fun i H2 ⟨μ2, i', h2, A2, d2, st2, q2⟩ => ⟨ro, μ2, l, h2, A2, (bindP dO A2 q2).imp fun j H3 ⟨μ3, j', h3, A3, d3, st3, q3⟩ => by
    cases d2
    cases d3
    exact ⟨ro, μ3, h3, v, A3.R, A1.R.den (st2.trans st3) d1, q3⟩⟩⟩⟩
end
end Ev
set_option Elab.async false
set_option linter.all false
set_option maxRecDepth 100000
set_option maxHeartbeats 4000000
/-! what is walked: enumerate of a tuple, the keys of a locked dict -/
namespace Ev
open PySem PySem.Spec PyProof.Rows L2
open AutoSeq1 (wpAny_loadPart')
theorem enumT_new {v : Value} {o : Obj} {G : Heap → Prop} (B : Begins v o G) :
    Meets (Builtin.«enumerate.__new__» ⟨[.type "enumerate", v], []⟩) (fun _ R s => G s.heap ∧
      R (.ok (.ret (.ref (s.heap.push o).objs.size))) { s with heap := (s.heap.push o).push { cls := .type "enumerate", data := .fields #[.none, .bool false, .ref s.heap.objs.size, rawInt 0, .none, .none] } }) :=
  .of_wp fun prog w A R s h => by
    obtain ⟨hp, g, d, tk, os⟩ := s
    obtain ⟨h1, h⟩ := h
    have hsub := sub_enumerate
    have q1 : ∀ {A' : Around} {E : Value → Shared → Prop} {Q : Value → Shared → Prop}, Q (.ref hp.objs.size) ⟨hp.push o, g, d, tk, os⟩ → wpAny (model prog w) A' (pyIter v) Q E ⟨hp, g, d, tk, os⟩ :=
      fun q => B.iter prog w _ _ ⟨hp, g, d, tk, os⟩ _ h1 q
    wp_walk using q1
    refine wpAny_stack_any fun st => wpAny_pure ?_
    split
    · rename_i c _ _ _ _ _
      cases (c == Value.type "enumerate") <;> (wp_walk using q1; exact ⟨_, rfl, h⟩)
    · wp_walk using q1
      exact ⟨_, rfl, h⟩
section
variable {prog : Program} {w : World} {A : Around} {E : Value → Shared → Prop} {s : Shared}
theorem enumT_call {l : Addr} {items : Array Value} {Q : Value → Shared → Prop} (hL : s.heap.IsTuple l items)
    (h : ∀ h', IsEnum h' (s.heap.objs.size + 1) s.heap.objs.size 0 .none → h'.IsTupleIter s.heap.objs.size l 0 → (∀ b o, s.heap.get? b = some o → h'.get? b = some o) → Q (.ref (s.heap.objs.size + 1)) { s with heap := h' }) :
    wpAny (model prog w) A (call (.type "enumerate") [.ref l]) Q E s := by
  refine callType_new F.called_enumerate (by decide) (F.typeCall_enumerate_1 _) (F.newCall_enumerate_1 _) (fun obj => F.args_object_init_2 obj _) F.entry_enumerate_new (enumT_new (begins_tuple l items)) ⟨hL, ?_⟩
  generalize ho : ({ cls := .type "tuple_iterator", data := .fields #[.ref l, .int 0 0] } : Obj) = o
  have hz : (s.heap.push o).objs.size = s.heap.objs.size + 1 := Heap.size_push ..
  show _ ∧ _
  rw [hz]
  have he : IsEnum ((s.heap.push o).push { cls := .type "enumerate", data := .fields #[.none, .bool false, .ref s.heap.objs.size, rawInt 0, .none, .none] }) (s.heap.objs.size + 1) s.heap.objs.size 0 .none := by
    have z := Heap.get?_push_size (s.heap.push o) (o := { cls := .type "enumerate", data := .fields #[.none, .bool false, .ref s.heap.objs.size, rawInt 0, .none, .none] }) rfl
    rw [hz] at z
    exact z
  refine ⟨⟨_, he, rfl⟩, h _ he ⟨o, Heap.get?_push_of_some _ (Heap.get?_push_size _ (by rw [← ho]; rfl)), by rw [← ho], by rw [← ho]; rfl⟩ fun b ob x => Heap.get?_push_of_some _ (Heap.get?_push_of_some _ x)⟩
theorem enT_end {e it l : Addr} {i : Nat} {c : Int} {items : Array Value} {old : Value} {Q : Option Value → Shared → Prop} (hh : A.handled = none) (he : IsEnum s.heap e it c old) (hit : s.heap.IsTupleIter it l i) (ht : s.heap.IsTuple l items) (hx : items[i]? = none)
    (hQ : ∀ h', Heap.ExtBut it s.heap h' → Q none { s with heap := h' }) : wpAny (model prog w) A (pyNext (.ref e)) Q E s := by
  have hT : s.TypeIs (.ref e) "enumerate" := ⟨_, he, rfl⟩
  unfold pyNext
  refine wpAny_bind (wpAny_attempt (wpAny_callSpecial?_slot (name := Str.ofString "__next__") hT F.slot_enumerate_next
    (wpAny_call_entry F.slot_enumerate_next hT F.entry_enumerate_next ?_ (F.args_enumerate_next_1 _))))
  show wpAny _ _ (field (.ref e) 2 >>= _) _ _ _
  refine wpAny_bind (wpAny_field he rfl (x := .ref it) rfl (wpAny_bind (wpAny_nextOf_tuple_end (A := A.in1) hh hit ht hx fun h' x he' hx' => ?_)))
  obtain ⟨o, ho, hc⟩ := hx'
  exact wpAny_bind (wpAny_isInstance (T := "StopIteration") (b := true) ⟨o, ho, hc⟩ isSubtype_stop (wpAny_pure (hQ _ he')))
end
/-- the tuple at a, each item with its number in a new pair -/
def Iet (K : PySem.W.Frag) (a : Addr) : L2.It :=
  ⟨fun i H => ∃ (xs : List V) (x : V), SqT K H a xs ∧ xs[i]? = some x, fun i H v H' => ∃ T x, v = .ref T ∧ H T = none ∧ H' = upd H T (.tup [.int (i : Nat), x]) ∧ ∀ xs, SqT K H a xs → xs[i]? = some x, fun i H => ∃ xs : List V, SqT K H a xs ∧ xs.length ≤ i⟩
theorem turn_enT {P : Program} {w : World} {K : PySem.W.Frag} {elts : List Expr} {kk : Nat} {tpos : Pos} (a e it : Addr) :
    Turn P w K (.Tuple elts kk tpos) (Iet K a) [e, it] e (fun i h => (∃ old, IsEnum h e it ((i : Nat) : Int) old) ∧ h.IsTupleIter it a i ∧ e ≠ it ∧ a ≠ it ∧ e ≠ a) where
  mem := by simp
  obj := fun i h st b hb => by
    obtain ⟨⟨old, he⟩, ⟨o, ho, hc, hd⟩, _⟩ := st
    rcases (by simpa using hb : b = e ∨ b = it) with z | z
    · rw [z]; exact ⟨_, he, fun v q => nomatch q⟩
    · rw [z]; exact ⟨o, ho, fun v q => by rw [hd] at q; cases q⟩
  keep := fun i h h' st k => let ⟨⟨old, he⟩, hi, hne⟩ := st; ⟨⟨old, k e (by simp) _ he⟩, hi.at fun o q => k it (by simp) o q, hne⟩
  item := by
    intro X hP hw hK hc i pins s σ H E I hf st hg
    subst hP hw hK
    obtain ⟨⟨old, he⟩, hit, hne, hai, hea⟩ := st
    obtain ⟨xs, x, hq, hx⟩ := hg
    obtain ⟨its, rv, p, hz⟩ := I.tuple hq
    obtain ⟨u, hu, ru⟩ := rv.get hx
    have hel : e < s.heap.objs.size := Heap.lt_size he
    have hil : it < s.heap.objs.size := by obtain ⟨_, q, _⟩ := hit; exact Heap.lt_size q
    have hlt : i < its.toArray.size := by rw [List.size_toArray]; exact (List.getElem?_eq_some_iff.mp hu).1
    refine wpAny_pyNext_enum_itemC (Draws.tuple (A := X.A.in1) (I.ok.hd hc) it a hai its.toArray) he ⟨hit, p⟩ hlt hne (by simp; exact ⟨hne, hea⟩) fun y h' tk hy ho hst hT hsz hk => ?_
    have hy' : y = u := by rw [← Array.getElem?_toList, List.toList_toArray, hu] at hy; exact (Option.some.inj hy).symm
    subst hy'
    refine ⟨_, rfl, wpAny_letOwnedTupleGo_enum (s := { s with heap := h', toks := tk + 1 }) ho fun h'' he' sb => ?_⟩
    have hT2 : h''.get? s.heap.objs.size = some { cls := .type "tuple", data := .seq #[.int i tk, y] } := (sb.2 _ (Nat.ne_of_gt hel)).trans hT
    have new : ObjOk X.prog X.w (upd H s.heap.objs.size (.tup [.int (i : Nat), x])) h'' s.heap.objs.size (.tup [.int (i : Nat), x]) :=
      ⟨by show 2 ≤ sizeLine; decide, [.int i tk, y], .cons ⟨_, rfl⟩ (.cons ru .nil), ⟨_, hT2, rfl, _, rfl⟩⟩
    have I1 : Inv X pins σ (upd H s.heap.objs.size (.tup [.int (i : Nat), x])) { s with heap := h'', toks := tk + 1 } :=
      I.turnedNew (ch := [e, it]) (fun b ob hb q => (sb.2 b (fun z => hb (by simp [z]))).trans (hk b ob (fun z => hb (by simp [z])) (fun z => hb (by simp [z])) q)) hf (Nat.le_refl _) new
    refine ⟨.ref s.heap.objs.size, _, I1, rfl, ⟨_, x, rfl, I.hok.fresh (Nat.le_refl _), rfl, fun ys hy => by rw [I.tuple_inj hy hq]; exact hx⟩, ⟨⟨y, ?_⟩, hst.1.at fun o q => (sb.2 it (Ne.symm hne)).trans q, hne, hai, hea⟩, fun b hb => ?_⟩
    · have e1 : ((i + 1 : Nat) : Int) = (i : Int) + 1 := by omega
      rw [e1]; exact he'
    · have hb' : b < s.heap.objs.size := by
        rcases (by simpa using hb : b = e ∨ b = it) with z | z
        · rw [z]; exact hel
        · rw [z]; exact hil
      rw [upd_ne (Nat.ne_of_lt hb')]
      exact (hf b hb).1
  done := by
    intro X hP hw hK hc i pins s σ H E I hf st hg
    subst hP hw hK
    obtain ⟨⟨old, he⟩, hit, hne, hai, hea⟩ := st
    obtain ⟨xs, hq, hx⟩ := hg
    obtain ⟨its, rv, p, hz⟩ := I.tuple hq
    obtain ⟨f0, f1, f2, f3, f4, f5⟩ := hf it (by simp)
    have hl := rv.length
    refine enT_end (I.ok.hd hc) he hit p (by simp; omega) fun h' eb => ⟨rfl, I.turned (t' := s.toks) (fun b o hb q => eb b o hb q) f0 f1 f3 f4 f5⟩
  self := fun A i s Q E st h => let ⟨⟨_, he⟩, _⟩ := st; wpAny_pyIter_enum he h
theorem pi_enT {X : Cx} {e : Expr} {ta : TA} {p pos tpos : Pos} {elts : List Expr} {kk : Nat} (hg : Gl X "enumerate") (hm : X.mg "enumerate" = none) (ha : PA X [e] ta) (hs : starEach [e] X.env = [(false, eval e X.env)]) :
    PI X (.Tuple elts kk tpos) (.Call (.Name "enumerate" p) [e] [] pos) (fun σ H R => ta σ H fun vs H1 => ∃ a xs, vs = [.ref a] ∧ ((SqL X.K H1 a xs ∧ R (Ite X.K a) H1) ∨ (SqT X.K H1 a xs ∧ R (Iet X.K a) H1))) := by
  refine ⟨fun pins s σ H R I h => ?_⟩
  refine Call_ (ld_blt I hg hm boot_enumerate (PyProof.Rows.callWith_type1 (thn (ha.run pos pins s σ H _ I h) fun us s1 ⟨vs, H1, I1, r1, q1⟩ => ?_) hs rfl))
  obtain ⟨a, xs, ex, q1⟩ := q1
  subst ex
  obtain ⟨u, rfl, ru⟩ := r1.one
  cases ru
  have fp : ∀ b ∈ [s1.heap.objs.size + 1, s1.heap.objs.size], FpOk X pins H1 b := fun b hb => by
    have hle : s1.heap.objs.size ≤ b := by
      rcases (by simpa using hb : b = s1.heap.objs.size + 1 ∨ b = s1.heap.objs.size) with z | z
      · rw [z]; exact Nat.le_add_right _ _
      · rw [z]; exact Nat.le_refl _
    exact I1.fpOk hle (I1.hok.fresh hle)
  rcases q1 with ⟨hq, q⟩ | ⟨hq, q⟩
  · obtain ⟨its, rv, p', hz⟩ := I1.list hq
    refine call_enumerate_list p'.isList fun h' he hit hsz hk => wpAny_pyIter_enum he ?_
    exact ⟨s1.heap.objs.size + 1, [s1.heap.objs.size + 1, s1.heap.objs.size], _, _, H1, rfl, I1.kept (t' := s1.toks) hk, turn_enum a (s1.heap.objs.size + 1) s1.heap.objs.size, ⟨⟨.none, he⟩, hit, Nat.succ_ne_self _⟩, fp, q⟩
  · obtain ⟨its, rv, p', hz⟩ := I1.tuple hq
    have hal : a < s1.heap.objs.size := p'.lt
    refine enumT_call (show s1.heap.IsTuple a its.toArray from p') fun h' he hit hk => wpAny_pyIter_enum he ?_
    exact ⟨s1.heap.objs.size + 1, [s1.heap.objs.size + 1, s1.heap.objs.size], _, _, H1, rfl, I1.kept (t' := s1.toks) hk, turn_enT a (s1.heap.objs.size + 1) s1.heap.objs.size, ⟨⟨.none, he⟩, hit, Nat.succ_ne_self _, Nat.ne_of_lt hal, Nat.ne_of_gt (Nat.lt_succ_of_lt hal)⟩, fp, q⟩
/-! ### the keys of a locked dict -/
def Idk (P : Program) (w : World) (d : Addr) (o : Obj) (xs : List (NestedKey × Addr × Value)) : L2.It :=
  ⟨fun i H => H d = some (.frz o (DO P w d xs)) ∧ i < xs.length, fun i H v H' => H' = H ∧ ∃ y, xs[i]? = some y ∧ v = .ref y.2.1, fun i H => H d = some (.frz o (DO P w d xs)) ∧ xs.length ≤ i⟩
theorem frz_raw {X : Cx} {pins : List (Addr × Obj)} {σ : L2.St} {H : Hp} {s : Shared} {d : Addr} {o : Obj} {xs : List (NestedKey × Addr × Value)} (I : Inv X pins σ H s) (h : H d = some (.frz o (DO X.prog X.w d xs))) :
    s.heap.get? d = some o ∧ o.ExactDict ∧ ∃ es ep, o.data = .dict es ep ∧ es.size = xs.length ∧ ∀ i : Nat, es[i]? = (xs[i]?).map (entryOfKey (nestedKind X.prog X.w)) := by
  obtain ⟨h1, ⟨o', es, ep, h2, h3, h4, h5, _⟩, _⟩ := I.hok d _ h
  rw [h1] at h2
  cases h2
  refine ⟨h1, h3, es, ep, h4, ?_, fun i => ?_⟩
  · have := congrArg List.length h5
    rw [Array.length_toList, List.length_map] at this
    exact this
  · rw [← Array.getElem?_toList, h5, List.getElem?_map]
theorem turn_dk {P : Program} {w : World} {K : PySem.W.Frag} {tg : Expr} {n ep : Nat} {es : Array DictEntry} {o : Obj} {xs : List (NestedKey × Addr × Value)} (d it : Addr) (hd : o.data = .dict es ep) (hn : es.size = n) : Turn P w K tg (Idk P w d o xs) [it] it (fun i h => h.IsKeyIter it d i n ep) where
  mem := by simp
  obj := fun i h st b hb => by
    have e : b = it := by simpa using hb
    subst e
    obtain ⟨o, e, c, d⟩ := st
    exact ⟨o, e, fun v z => by rw [d] at z; cases z⟩
  keep := fun i h h' st k => by
    obtain ⟨o, e, c⟩ := st
    exact ⟨o, k it (by simp) o e, c⟩
  item := by
    intro X hP hw hK hc i pins s σ H E I hf st hg
    subst hP hw hK
    obtain ⟨h1, h2⟩ := hg
    obtain ⟨f0, f1, f2, f3, f4, f5⟩ := hf it (by simp)
    obtain ⟨g1, g2, es', ep', g3, g4, g5⟩ := frz_raw I h1
    rw [hd] at g3
    cases g3
    obtain ⟨y, hy⟩ : ∃ y, xs[i]? = some y := ⟨xs[i], by simp [h2]⟩
    have g6 := g5 i
    rw [hy] at g6
    refine next_key_item st g1 hd hn g6 fun h' st' sb => ?_
    have I1 : Inv X pins σ H { s with heap := h' } := I.turned (t' := s.toks) (fun b o hb e => (sb.2 b hb).trans e) f0 f1 f3 f4 f5
    obtain ⟨oi, e, c, dd⟩ := id st'
    exact ⟨_, rfl, go_of (s := { s with heap := h' }) e c dd (by decide) ⟨.ref y.2.1, H, I1, rfl, ⟨rfl, y, hy, rfl⟩, st', fun b hb => (hf b hb).1⟩⟩
  done := by
    intro X hP hw hK hc i pins s σ H E I hf st hg
    subst hP hw hK
    obtain ⟨h1, h2⟩ := hg
    obtain ⟨f0, f1, f2, f3, f4, f5⟩ := hf it (by simp)
    obtain ⟨g1, g2, es', ep', g3, g4, g5⟩ := frz_raw I h1
    rw [hd] at g3
    cases g3
    exact next_key_end (I.ok.hd hc) st g1 hd hn (by rw [← hn, g4]; exact h2) fun h' eb => ⟨rfl, I.turned (t' := s.toks) (fun b o hb e => eb b o hb e) f0 f1 f3 f4 f5⟩
  self := fun _ _ _ _ _ st h => wpAny_pyIter_keyiter st h
theorem pi_dk {X : Cx} {tg e : Expr} {td : TE} (he : PE X e td) : PI X tg e (fun σ H R => td σ H fun v H1 => ∃ d o xs, v = .ref d ∧ (d == sysModules) = false ∧ H1 d = some (.frz o (DO X.prog X.w d xs)) ∧ R (Idk X.prog X.w d o xs) H1) := by
  refine ⟨fun pins s σ H R I h => thn (he.run pins s σ H _ I h) fun u s1 ⟨v, H1, I1, r1, d, o, xs, ev, hS, hd, q⟩ => ?_⟩
  subst ev
  cases r1
  obtain ⟨g1, g2, es, ep, g3, g4, g5⟩ := frz_raw I1 hd
  refine wpAny_pyIter_dict_raw hS ⟨o, g1, g2, g3⟩ ?_
  have hle : s1.heap.objs.size ≤ s1.heap.objs.size := Nat.le_refl _
  exact ⟨s1.heap.objs.size, [s1.heap.objs.size], _, _, H1, rfl, I1.kept (t' := s1.toks) fun b o z => Heap.get?_push_of_some _ z, turn_dk d s1.heap.objs.size g3 rfl, ⟨_, Heap.get?_push_size _ rfl, rfl, rfl⟩, fun b hb => by
    have e : b = s1.heap.objs.size := by simpa using hb
    subst e
    exact I1.fpOk hle (I1.hok.fresh hle), q⟩
end Ev
set_option Elab.async false
set_option linter.all false
set_option maxRecDepth 100000
set_option maxHeartbeats 4000000
/-! dicts with tuple keys: stored, displayed, comprehended -/
namespace Ev
open PySem PySem.Spec PyProof.Rows L2
theorem do_ok {P : Program} {w : World} {H : Hp} {h : Heap} {a : Addr} {ys : List (NestedKey × Addr × Value)} (d : h.DictOfH (nestedKind P w) a ys) : ObjOk P w H h a (DO P w a ys) := by
  obtain ⟨o, es, ep, h1, h2, h3, h4, _, h5⟩ := d
  exact ⟨⟨o, es, ep, h1, h2, h3, h4, h5⟩, ⟨o, h1⟩, fun g1 g2 ⟨o, es, ep, q1, q2⟩ k => ⟨o, es, ep, k o q1, q2⟩⟩
theorem put_none {k : NestedKey} {v : Value} : ∀ {xs : List (NestedKey × Addr × Value)}, k ∉ xs.map (·.1) → xs.map (putAt k v) = xs
  | [], _ => rfl
  | x :: xs, h => by
    rw [List.map_cons, List.mem_cons, not_or] at h
    rw [List.map_cons, put_none h.2]
    have : x.1 ≠ k := fun e => h.1 e.symm
    simp [putAt, this]
theorem stored_cons {k : NestedKey} {b : Addr} {v : Value} {x : NestedKey × Addr × Value} {xs : List (NestedKey × Addr × Value)} (hn : ((x :: xs).map (·.1)).Nodup) : storedH (x :: xs) k b v = if x.1 = k then (x.1, x.2.1, v) :: xs else x :: storedH xs k b v := by
  rw [List.map_cons, List.nodup_cons] at hn
  by_cases e : x.1 = k
  · rw [if_pos e]
    have h1 : (atKey (x :: xs) k).isSome = true := by simp [atKey, e]
    unfold storedH
    rw [if_pos h1, List.map_cons, put_none (by rw [← e]; exact hn.1)]
    simp [putAt, e]
  · rw [if_neg e]
    have h1 : atKey (x :: xs) k = atKey xs k := by simp [atKey, e]
    unfold storedH
    rw [h1]
    have h2 : putAt k v x = x := by simp [putAt, e]
    split
    · rw [List.map_cons, h2]
    · rfl
theorem dput_rel {K : PySem.W.Frag} {μ : Mu} {H : Hp} {k : NestedKey} {ky z : AV} {b : Addr} {y : V} {v : Value} (hk : AV.tkey ky = some k) (dk : Den K μ H ky (.ref b)) (dz : Den K μ H z y) (rv : RelV y v) : ∀ {kvs : List (AV × AV)} {xs : List (NestedKey × Addr × Value)}, Paired (RelKv K μ H) kvs xs → (xs.map (·.1)).Nodup → Paired (RelKv K μ H) (dput k ky z kvs) (storedH xs k b v)
  | _, _, .nil, _ => .cons ⟨hk, dk, y, rv, dz⟩ .nil
  | _, _, @Paired.cons _ _ _ p x kvs xs r t, hn => by
    obtain ⟨a, av⟩ := p
    obtain ⟨q1, q2, q3⟩ := r
    rw [stored_cons hn]
    show Paired (RelKv K μ H) (match AV.tkey a with | some k' => (match decide (k' = k) with | true => (a, z) :: kvs | false => (a, av) :: dput k ky z kvs) | none => (a, av) :: kvs) _
    dsimp only at q1
    rw [q1]
    dsimp only
    by_cases e : x.1 = k
    · rw [decide_eq_true e, if_pos e]
      exact .cons ⟨q1, q2, y, rv, dz⟩ t
    · rw [decide_eq_false e, if_neg e]
      rw [List.map_cons, List.nodup_cons] at hn
      exact .cons ⟨q1, q2, q3⟩ (dput_rel hk dk dz rv t hn.2)
theorem dput_len {k : NestedKey} {ky z : AV} : ∀ kvs : List (AV × AV), (dput k ky z kvs).length ≤ kvs.length + 1
  | [] => Nat.le_refl _
  | (a, u) :: r => by
    show (match AV.tkey a with | some k' => (match decide (k' = k) with | true => (a, z) :: r | false => (a, u) :: dput k ky z r) | none => (a, u) :: r).length ≤ _
    cases AV.tkey a with
    | none => simp
    | some k' =>
      dsimp only
      cases decide (k' = k) with
      | true => simp
      | false => simp only [List.length_cons]; have := dput_len (k := k) (ky := ky) (z := z) r; omega
section
variable {X : Cx} {ca : Ca} {E : XK}
theorem do_nodup {pins : List (Addr × Obj)} {σ : L2.St} {H : Hp} {s : Shared} {a : Addr} {xs : List (NestedKey × Addr × Value)} (I : Inv X pins σ H s) (h : H a = some (DO X.prog X.w a xs)) : (xs.map (·.1)).Nodup := by
  obtain ⟨⟨_, _, _, _, _, _, _, h5⟩, _⟩ := I.hok a _ h
  exact h5
/-- a store into the dict at D -/
theorem do_set {A : Around} {pins : List (Addr × Obj)} {σ : L2.St} {H : Hp} {s : Shared} {D : Addr} {μ : Mu} {kvs : List (AV × AV)} {xs : List (NestedKey × Addr × Value)} {k : NestedKey} {ky : AV} {y : V} {u r : Value} {Q : Unit → Shared → Prop} {EE : Value → Shared → Prop} (hu : A.units + 9 < cLine) (I : Inv X pins σ H s) (hD : H D = some (DO X.prog X.w D xs)) (pk : Paired (RelKv X.K μ H) kvs xs) (hz : kvs.length ≤ sizeLine)
    (hk : AV.tkey ky = some k) (dk : Den X.K μ H ky y) (ry : RelV y u) (q : ∀ b s', y = .ref b → Inv X pins σ (upd H D (DO X.prog X.w D (storedH xs k b r))) s' → Q () s') : wpAny (model X.prog X.w) A (dictSet D u r) Q EE s := by
  obtain ⟨b, eb, kb⟩ := tkey_is I dk hk ry
  subst eb
  have ey : y = .ref b := by
    cases y <;> first | (cases (show _ = _ from ry); rfl) | (obtain ⟨t, e⟩ := ry; cases e) | cases ry
  have dm := dict_is (rw := true) I (.inl hD) pk
  refine wpAny_dictSet_heap (hsz := by have : kvs.length = xs.length := Paired.length pk; omega) (show (nestedKind X.prog X.w).room A by show A.units + 8 < cLine; omega) kb dm fun h' dm' hs => q b _ ey ?_
  have he : ∃ q, h'.get? D = some q := let ⟨q, _, _, hq, _⟩ := dm'; ⟨q, hq⟩
  exact d_write I (by rw [hD]; exact True.intro) hs he (do_ok dm')
theorem do_item {A : Around} {pins : List (Addr × Obj)} {σ : L2.St} {H : Hp} {s : Shared} {D : Addr} {μ : Mu} {kvs : List (AV × AV)} {xs : List (NestedKey × Addr × Value)} {k : NestedKey} {ky : AV} {y : V} {u r : Value} {Q : Unit → Shared → Prop} {EE : Value → Shared → Prop} (hu : A.units + 10 < cLine) (I : Inv X pins σ H s) (hD : H D = some (DO X.prog X.w D xs)) (pk : Paired (RelKv X.K μ H) kvs xs) (hz : kvs.length ≤ sizeLine)
    (hk : AV.tkey ky = some k) (dk : Den X.K μ H ky y) (ry : RelV y u) (q : ∀ b s', y = .ref b → Inv X pins σ (upd H D (DO X.prog X.w D (storedH xs k b r))) s' → Q () s') : wpAny (model X.prog X.w) A (setItem (.ref D) u r) Q EE s := by
  obtain ⟨b, eb, kb⟩ := tkey_is I dk hk ry
  subst eb
  have ey : y = .ref b := by
    cases y <;> first | (cases (show _ = _ from ry); rfl) | (obtain ⟨t, e⟩ := ry; cases e) | cases ry
  have dm := dict_is (rw := true) I (.inl hD) pk
  refine wpAny_setItem_heap (hsz := by have : kvs.length = xs.length := Paired.length pk; omega) (show (nestedKind X.prog X.w).room A.in1 by show A.units + 1 + 8 < cLine; omega) kb dm fun h' dm' hs => q b _ ey ?_
  have he : ∃ q, h'.get? D = some q := let ⟨q, _, _, hq, _⟩ := dm'; ⟨q, hq⟩
  exact d_write I (by rw [hD]; exact True.intro) hs he (do_ok dm')
/-- the machine's dict is rewritten -/
theorem dct_put {ro : Nat} {μ : Mu} {h : AH} {H : Hp} {n : Nat} {D b : Addr} {kvs : List (AV × AV)} {xs : List (NestedKey × Addr × Value)} {k : NestedKey} {ky z : AV} {y : V} {v : Value} {W : Wd} (R : RelH W ro μ h H) (hn : μ n = some D) (ho : h.get n = some (.dct kvs)) (hS : (D == sysModules) = false) (hb : H D = some (DO W.P W.w D xs)) (pk : Paired (RelKv W.K μ H) kvs xs) (nd : (xs.map (·.1)).Nodup) (hr : ro ≤ n) (hz : kvs.length < sizeLine)
    (hk : AV.tkey ky = some k) (dk : Den W.K μ H ky (.ref b)) (dz : Den W.K μ H z y) (rv : RelV y v) :
    Step ro μ H μ (upd H D (DO W.P W.w D (storedH xs k b v))) ∧ RelH W ro μ (h.set n (.dct (dput k ky z kvs))) (upd H D (DO W.P W.w D (storedH xs k b v))) := by
  have st : Step ro μ H μ (upd H D (DO W.P W.w D (storedH xs k b v))) := Step.write hn hr
  refine ⟨st, R.write hn hr ho (by rw [hb]; unfold DO; intro e; cases e) ⟨hS, ?_, _, .inl upd_same, ?_⟩⟩
  · have := dput_len (k := k) (ky := ky) (z := z) kvs; omega
  · exact Paired.mono' (dput_rel hk dk dz rv pk nd) fun p x ⟨q1, q2, u, q3, q4⟩ => ⟨q1, R.den st q2, u, q3, R.den st q4⟩
end
end Ev
set_option Elab.async false
set_option linter.all false
set_option maxRecDepth 100000
set_option maxHeartbeats 4000000
/-! walks and comprehensions -/
namespace Ev
open PySem PySem.Spec PyProof.Rows L2

/-- what is walked, as the layer walks it -/
inductive SrcR (W : Wd) (ro : Nat) (μ : Mu) (H : Hp) : Src → L2.It → Prop
  | tp {a : Addr} {vs : List V} {xs : List AV} : SqT W.K H a vs → DenL W.K μ H xs vs → SrcR W ro μ H (.tp xs) (Itt W.K a)
  | ob {n : Nat} {a : Addr} : μ n = some a → SrcR W ro μ H (.ob n) (Itl W.K a)
  | ent {a : Addr} {vs : List V} {xs : List AV} : SqT W.K H a vs → DenL W.K μ H xs vs → SrcR W ro μ H (.ent xs) (Iet W.K a)
  | enl {n : Nat} {a : Addr} : μ n = some a → SrcR W ro μ H (.enl n) (Ite W.K a)
  | zpt {a b : Addr} {vs us : List V} {xs ys : List AV} : SqT W.K H a vs → DenL W.K μ H xs vs → SqT W.K H b us → DenL W.K μ H ys us → SrcR W ro μ H (.zpt xs ys) (RZ.ItzT W.K a b)
  | zpl {n m : Nat} {a b : Addr} : μ n = some a → μ m = some b → SrcR W ro μ H (.zpl n m) (Itz W.K a b)
  | rg (n : Nat) : SrcR W ro μ H (.rg n) (Itr 0 n)
  | dk {n : Nat} {d : Addr} {o : Obj} {ks : List AV} {xs : List (NestedKey × Addr × Value)} : H d = some (.frz o (DO W.P W.w d xs)) → (∀ n, ro ≤ n → μ n ≠ some d) → DenL W.K μ H ks (xs.map fun x => V.ref x.2.1) → SrcR W ro μ H (.dk n ks) (Idk W.P W.w d o xs)
section
variable {W : Wd} {ro : Nat} {μ μ' : Mu} {h : AH} {H H' : Hp} {s : Src} {J : L2.It}
theorem SrcR.step (r : SrcR W ro μ H s J) (R : RelH W ro μ h H) (st : Step ro μ H μ' H') : SrcR W ro μ' H' s J := by
  cases r with
  | tp q d => exact .tp (R.sq st q) (R.denL st d)
  | ob q => exact .ob (st.ext _ _ q)
  | ent q d => exact .ent (R.sq st q) (R.denL st d)
  | enl q => exact .enl (st.ext _ _ q)
  | zpt q d q' d' => exact .zpt (R.sq st q) (R.denL st d) (R.sq st q') (R.denL st d')
  | zpl q q' => exact .zpl (st.ext _ _ q) (st.ext _ _ q')
  | rg n => exact .rg n
  | dk q f d => exact .dk (st.frm _ _ f (fun ps z => by cases z) q) (fun n hn e => by
      rcases st.new n _ e with z | z
      · exact f n hn z
      · rw [q] at z; cases z) (R.denL st d)
theorem SrcR.to (r : SrcR W ro μ H s J) (E : XK) : SrcR (W.to E) ro μ H s J := by
  cases r with
  | tp q d => exact .tp (W := W.to E) q d
  | ob q => exact .ob (W := W.to E) q
  | ent q d => exact .ent (W := W.to E) q d
  | enl q => exact .enl (W := W.to E) q
  | zpt q d q' d' => exact .zpt (W := W.to E) q d q' d'
  | zpl q q' => exact .zpl (W := W.to E) q q'
  | rg n => exact .rg (W := W.to E) n
  | dk q f d => exact .dk (W := W.to E) q f d
theorem RelH.lst (R : RelH W ro μ h H) {n : Nat} {a : Addr} {xs : List AV} (e : μ n = some a) (g : h.get n = some (.lst xs)) : ∃ vs, SqL W.K H a vs ∧ DenL W.K μ H xs vs := by
  obtain ⟨o, q, r⟩ := R.there e
  rw [g] at q; cases q
  obtain ⟨_, vs, hv, d⟩ := r
  exact ⟨vs, .inl (.inl hv), d⟩
theorem getE {xs : List AV} {vs : List V} {i : Nat} (d : DenL W.K μ H xs vs) (e : xs[i]? = none) : vs.length ≤ i := by
  rw [← d.length]; simpa using e
/-- a turn -/
theorem SrcR.go (r : SrcR W ro μ H s J) (R : RelH W ro μ h H) {i : Nat} {x : AV} (e : s.at h i = some (some x)) : J.go i H ∧ ∀ v H', J.yld i H v H' → Step ro μ H μ H' ∧ RelH W ro μ h H' ∧ Den W.K μ H' x v := by
  have same : ∀ {v : V}, Den W.K μ H x v → Step ro μ H μ H ∧ RelH W ro μ h H ∧ Den W.K μ H x v := fun d => ⟨Step.refl, R, d⟩
  have pair : ∀ {y z : AV} {u v : V} {T : Addr}, x = .tup [y, z] → Den W.K μ H y u → Den W.K μ H z v → H T = none → Step ro μ H μ (upd H T (.tup [u, v])) ∧ RelH W ro μ h (upd H T (.tup [u, v])) ∧ Den W.K μ (upd H T (.tup [u, v])) x (.ref T) := fun {y z u v T} ex d1 d2 hT => by
    subst ex
    exact ⟨Step.laid hT, R.laid hT, .tup (SqT.of upd_same) (.cons (R.den (Step.laid hT) d1) (.cons (R.den (Step.laid hT) d2) .nil))⟩
  cases r with
  | @tp a vs xs q d =>
    have e : xs[i]? = some x := Option.some.inj e
    obtain ⟨v, hv, dv⟩ := d.get e
    refine ⟨⟨vs, v, q, hv⟩, fun u H' ⟨eH, y⟩ => ?_⟩
    subst eH
    have := y vs q
    rw [hv] at this; cases this
    exact same dv
  | @ob n a q =>
    dsimp only [Src.at] at e
    cases g : h.get n with
    | none => rw [g] at e; cases e
    | some o =>
      rw [g] at e
      cases o with
      | lst xs =>
        have e : xs[i]? = some x := Option.some.inj e
        obtain ⟨vs, q1, d⟩ := R.lst q g
        obtain ⟨v, hv, dv⟩ := d.get e
        refine ⟨⟨vs, v, q1, hv⟩, fun u H' ⟨eH, y⟩ => ?_⟩
        subst eH
        have := y vs q1
        rw [hv] at this; cases this
        exact same dv
      | _ => cases e
  | @ent a vs xs q d =>
    dsimp only [Src.at] at e
    cases g : xs[i]? with
    | none => simp only [g] at e; cases e
    | some y =>
      simp only [g] at e
      obtain ⟨v, hv, dv⟩ := d.get g
      refine ⟨⟨vs, v, q, hv⟩, fun u H' ⟨T, z, eu, hT, eH, yy⟩ => ?_⟩
      subst eu eH
      have := yy vs q
      rw [hv] at this; cases this
      exact pair (Option.some.inj (Option.some.inj e)).symm (.int _) dv hT
  | @enl n a q =>
    dsimp only [Src.at] at e
    cases g : h.get n with
    | none => rw [g] at e; cases e
    | some o =>
      rw [g] at e
      cases o with
      | lst xs =>
        dsimp only at e
        obtain ⟨vs, q1, d⟩ := R.lst q g
        cases g2 : xs[i]? with
        | none => rw [g2] at e; cases e
        | some y =>
          rw [g2] at e
          obtain ⟨v, hv, dv⟩ := d.get g2
          refine ⟨⟨vs, v, q1, hv⟩, fun u H' ⟨T, z, eu, hT, eH, yy⟩ => ?_⟩
          subst eu eH
          have := yy vs q1
          rw [hv] at this; cases this
          exact pair (Option.some.inj (Option.some.inj e)).symm (.int _) dv hT
      | _ => cases e
  | @zpt a b vs us xs ys q d q' d' =>
    dsimp only [Src.at] at e
    cases g : xs[i]? with
    | none => simp only [g] at e; cases e
    | some y =>
      cases g2 : ys[i]? with
      | none => simp only [g, g2] at e; cases e
      | some z =>
        simp only [g, g2] at e
        obtain ⟨v, hv, dv⟩ := d.get g
        obtain ⟨u, hu, du⟩ := d'.get g2
        refine ⟨⟨vs, us, v, u, q, q', hv, hu⟩, fun w H' ⟨T, z, z', eu, hT, eH, y1, y2⟩ => ?_⟩
        subst eu eH
        have a1 := y1 vs q
        have a2 := y2 us q'
        rw [hv] at a1; cases a1
        rw [hu] at a2; cases a2
        exact pair (Option.some.inj (Option.some.inj e)).symm dv du hT
  | @zpl n m a b q q' =>
    dsimp only [Src.at] at e
    cases g : h.get n with
    | none => rw [g] at e; cases e
    | some o =>
      cases g' : h.get m with
      | none => rw [g, g'] at e; cases o <;> cases e
      | some o' =>
        rw [g, g'] at e
        cases o with
        | lst xs =>
          cases o' with
          | lst ys =>
            dsimp only at e
            obtain ⟨vs, q1, d⟩ := R.lst q g
            obtain ⟨us, q2, d'⟩ := R.lst q' g'
            cases g1 : xs[i]? with
            | none => rw [g1] at e; cases e
            | some y =>
              cases g2 : ys[i]? with
              | none => rw [g1, g2] at e; cases e
              | some z =>
                rw [g1, g2] at e
                obtain ⟨v, hv, dv⟩ := d.get g1
                obtain ⟨u, hu, du⟩ := d'.get g2
                refine ⟨⟨vs, us, v, u, q1, q2, hv, hu⟩, fun w H' ⟨T, z, z', eu, hT, eH, y1, y2⟩ => ?_⟩
                subst eu eH
                have a1 := y1 vs q1
                have a2 := y2 us q2
                rw [hv] at a1; cases a1
                rw [hu] at a2; cases a2
                exact pair (Option.some.inj (Option.some.inj e)).symm dv du hT
          | _ => cases e
        | _ => cases e
  | rg n =>
    dsimp only [Src.at] at e
    cases g : Nat.blt i n with
    | false => simp only [g] at e; cases e
    | true =>
      simp only [g] at e
      have hx := Option.some.inj (Option.some.inj e)
      refine ⟨blt_tt.mp g, fun v H' ⟨eH, ev⟩ => ?_⟩
      subst eH ev hx
      rw [Int.zero_add]
      exact same (.int _)
  | @dk n d o ks xs q f dd =>
    have e : ks[i]? = some x := Option.some.inj e
    obtain ⟨v, hv, dv⟩ := dd.get e
    rw [List.getElem?_map] at hv
    cases g : xs[i]? with
    | none => rw [g] at hv; cases hv
    | some y =>
      rw [g] at hv
      have hv' := Option.some.inj hv
      refine ⟨⟨q, (List.getElem?_eq_some_iff.mp g).1⟩, fun u H' ⟨eH, y', e1, e2⟩ => ?_⟩
      rw [g] at e1; cases e1
      subst eH e2
      rw [← hv'] at dv
      exact same dv
/-- the end -/
theorem SrcR.stop (r : SrcR W ro μ H s J) (R : RelH W ro μ h H) {i : Nat} (e : s.at h i = some none) : J.stop i H := by
  cases r with
  | @tp a vs xs q d => exact ⟨vs, q, getE d (Option.some.inj e)⟩
  | @ob n a q =>
    dsimp only [Src.at] at e
    cases g : h.get n with
    | none => rw [g] at e; cases e
    | some o =>
      rw [g] at e
      cases o with
      | lst xs =>
        obtain ⟨vs, q1, d⟩ := R.lst q g
        exact ⟨vs, q1, getE d (Option.some.inj e)⟩
      | _ => cases e
  | @ent a vs xs q d =>
    dsimp only [Src.at] at e
    cases g : xs[i]? with
    | none => exact ⟨vs, q, getE d g⟩
    | some y => simp only [g] at e; cases e
  | @enl n a q =>
    dsimp only [Src.at] at e
    cases g : h.get n with
    | none => rw [g] at e; cases e
    | some o =>
      rw [g] at e
      cases o with
      | lst xs =>
        dsimp only at e
        obtain ⟨vs, q1, d⟩ := R.lst q g
        cases g2 : xs[i]? with
        | none => exact ⟨vs, q1, getE d g2⟩
        | some y => rw [g2] at e; cases e
      | _ => cases e
  | @zpt a b vs us xs ys q d q' d' =>
    dsimp only [Src.at] at e
    cases g : xs[i]? with
    | none => exact ⟨vs, us, q, q', .inl (getE d g)⟩
    | some y =>
      cases g2 : ys[i]? with
      | none => exact ⟨vs, us, q, q', .inr (getE d' g2)⟩
      | some z => simp only [g, g2] at e; cases e
  | @zpl n m a b q q' =>
    dsimp only [Src.at] at e
    cases g : h.get n with
    | none => rw [g] at e; cases e
    | some o =>
      cases g' : h.get m with
      | none => rw [g, g'] at e; cases o <;> cases e
      | some o' =>
        rw [g, g'] at e
        cases o with
        | lst xs =>
          cases o' with
          | lst ys =>
            dsimp only at e
            obtain ⟨vs, q1, d⟩ := R.lst q g
            obtain ⟨us, q2, d'⟩ := R.lst q' g'
            cases g1 : xs[i]? with
            | none => exact ⟨vs, us, q1, q2, .inl (getE d g1)⟩
            | some y =>
              cases g2 : ys[i]? with
              | none => exact ⟨vs, us, q1, q2, .inr (getE d' g2)⟩
              | some z => rw [g1, g2] at e; cases e
          | _ => cases e
        | _ => cases e
  | rg n =>
    dsimp only [Src.at] at e
    cases g : Nat.blt i n with
    | true => simp only [g] at e; cases e
    | false =>
      have : ¬ i < n := fun z => by rw [blt_tt.mpr z] at g; cases g
      exact Nat.le_of_not_lt this
  | @dk n d o ks xs q f dd => exact ⟨q, by have := getE dd (Option.some.inj e); simpa using this⟩

/-! ### collecting -/
/-- something of the layer's alone is changed -/
theorem RelH.side (R : RelH W ro μ h H) {D : Addr} {u : HO} (hf : ∀ n, μ n ≠ some D) (n1 : ∀ ys, H D ≠ some (.tup ys)) (n2 : ∀ o ys, H D ≠ some (.frz o (.tup ys))) (n3 : H D ≠ some (.xd [])) (nc : NoCode H D) : RelH W ro μ h (upd H D u) where
  lim := R.lim
  rol := R.rol
  roe := R.roe
  inj := R.inj
  obj := fun n o e => by
    obtain ⟨a, e1, r⟩ := R.obj n o e
    have ha : a ≠ D := fun z => hf n (by rw [← z]; exact e1)
    refine ⟨a, e1, r.keep (fun x v d => d.mono (fun _ _ e => e) fun _ _ s => sq_upd n1 n2 s) (fun v q => by rw [upd_ne ha]; exact q) fun b q => ?_⟩
    rw [upd_ne (fun z => n3 (by rw [← z]; exact q))]; exact q
  back := R.back
  full := R.full
  tabs := tabs_upd R.tabs nc
theorem Step.side {μ1 : Mu} {H1 : Hp} (st : Step ro μ1 H1 μ H) {D : Addr} {u : HO} (hD : H1 D = none) : Step ro μ1 H1 μ (upd H D u) where
  ext := st.ext
  new := st.new
  frm := fun b o f nt e => by
    rw [upd_ne (fun z => by rw [z, hD] at e; cases e)]
    exact st.frm b o f nt e
  kep := fun b o e => by
    rw [upd_ne (fun z => by rw [z, hD] at e; cases e)]
    exact st.kep b o e
theorem Step.mine {μ1 : Mu} {H1 : Hp} (st : Step ro μ1 H1 μ H) {D : Addr} {n : Nat} (hD : H1 D = none) (hn : μ n = none) : Step ro μ1 H1 (muPut μ n D) H where
  ext := fun k a e => by
    have q := st.ext k a e
    unfold muPut
    rw [if_neg (fun z => by rw [z, hn] at q; cases q)]
    exact q
  new := fun k b e => by
    unfold muPut at e
    by_cases hk : k = n
    · rw [if_pos hk] at e; cases e; exact .inr hD
    · rw [if_neg hk] at e; exact st.new k b e
  frm := st.frm
  kep := st.kep
end
/-- a thing at D that grows: what it holds so far -/
structure Col (W : Wd) (ro : Nat) (μ1 : Mu) (H1 : Hp) (D : Addr) (B : Mu → Hp → List AV → HO → Prop) (μ : Mu) (acc : List AV) (h : AH) (H : Hp) : Prop where
  R : RelH W ro μ h H
  st : Step ro μ1 H1 μ H
  d : ∃ o, H D = some o ∧ B μ H acc o
  fr : ∀ n, μ n ≠ some D
section
variable {W : Wd} {ro : Nat} {μ μ' μ1 : Mu} {h h' : AH} {H H' H1 : Hp} {s : Src} {J : L2.It} {D : Addr} {B : Mu → Hp → List AV → HO → Prop} {acc : List AV}
theorem Col.on (c : Col W ro μ1 H1 D B μ acc h H) (hB : ∀ o, H D = some o → H' D = some o → B μ H acc o → B μ' H' acc o) (hT : ∀ o, B μ H acc o → ∀ ps, o ≠ .tbl ps) (st : Step ro μ H μ' H') (R : RelH W ro μ' h' H') : Col W ro μ1 H1 D B μ' acc h' H' := by
  obtain ⟨o, q1, q2⟩ := c.d
  have q3 := st.frm D o (fun n _ => c.fr n) (hT o q2) q1
  refine ⟨R, c.st.trans st, ⟨o, q3, hB o q1 q3 q2⟩, fun n e => ?_⟩
  rcases st.new n D e with z | z
  · exact c.fr n z
  · rw [q1] at z; cases z
def BL (K : PySem.W.Frag) : Mu → Hp → List AV → HO → Prop := fun μ H acc o => ∃ vs, o = .lst vs ∧ DenL K μ H acc vs
theorem Col.onL (c : Col W ro μ1 H1 D (BL W.K) μ acc h H) (st : Step ro μ H μ' H') (R : RelH W ro μ' h' H') : Col W ro μ1 H1 D (BL W.K) μ' acc h' H' :=
  c.on (fun o _ _ ⟨vs, e, d⟩ => ⟨vs, e, c.R.denL st d⟩) (fun o ⟨vs, e, _⟩ ps z => by rw [e] at z; cases z) st R
/-- a walk of the machine's is one of the layer's -/
theorem walk {Bd : V → Hp → (Hp → Prop) → Prop} {turn : AV → AH → R (List AV)} {Co : Mu → List AV → AH → Hp → Prop} {HF : AH} {Qd : Hp → Prop} {all : List AV}
    (hR : ∀ {μ acc h H}, Co μ acc h H → RelH W ro μ h H ∧ SrcR W ro μ H s J) (hC : ∀ {μ acc h H H'}, Co μ acc h H → Step ro μ H μ H' → RelH W ro μ h H' → Co μ acc h H')
    (hb : ∀ {x h ys h1 μ acc H v}, turn x h = .ok ys h1 → Co μ acc h H → Den W.K μ H x v → (∃ r, (acc ++ ys) ++ r = all) → ∀ Nx : Hp → Prop, (∀ μ' H', Co μ' (acc ++ ys) h1 H' → Nx H') → Bd v H Nx)
    {k : Nat} {h0 : AH} {H0 : Hp} {acc0 rest : List AV} {μ0 : Mu} (hall : acc0 ++ rest = all) (hl : compLoop s turn k 0 h0 = .ok rest HF) (c0 : Co μ0 acc0 h0 H0) (fin : ∀ μ H, Co μ (acc0 ++ rest) HF H → Qd H) :
    ∃ Wi : Nat → Nat → Hp → Prop, (∃ m, Wi 0 m H0) ∧ ∀ i m H, Wi i m H → (J.stop i H ∧ Qd H) ∨ (J.go i H ∧ ∃ Nx : Hp → Prop, (∀ H', Nx H' → ∃ m', m' < m ∧ Wi (i + 1) m' H') ∧ ∀ x H', J.yld i H x H' → Bd x H' Nx) := by
  refine ⟨fun i m H => ∃ μ h acc r, Co μ acc h H ∧ compLoop s turn m i h = .ok r HF ∧ acc ++ r = acc0 ++ rest, ⟨k, μ0, h0, acc0, rest, c0, hl, rfl⟩, ?_⟩
  rintro i m H ⟨μ, h, acc, r, c, e, er⟩
  cases m with
  | zero => cases e
  | succ m =>
    have e' : (match s.at h i with
      | some (some x) => (match turn x h with
        | .ok ys h1 => (match compLoop s turn m (i + 1) h1 with
          | .ok r h2 => .ok (ys ++ r) h2
          | _ => .bad)
        | _ => .bad)
      | some none => .ok [] h
      | none => .bad) = R.ok r HF := e
    obtain ⟨Rh, sr⟩ := hR c
    cases ea : s.at h i with
    | none => rw [ea] at e'; cases e'
    | some o =>
      cases o with
      | none =>
        rw [ea] at e'
        cases e'
        refine .inl ⟨sr.stop Rh ea, fin μ H ?_⟩
        rw [List.append_nil] at er
        rw [← er]; exact c
      | some x =>
        rw [ea] at e'
        dsimp only at e'
        cases et : turn x h with
        | ex _ _ => rw [et] at e'; cases e'
        | bad => rw [et] at e'; cases e'
        | ok ys h1 =>
          rw [et] at e'
          dsimp only at e'
          cases el : compLoop s turn m (i + 1) h1 with
          | ex _ _ => rw [el] at e'; cases e'
          | bad => rw [el] at e'; cases e'
          | ok r2 h2 =>
            rw [el] at e'
            cases e'
            obtain ⟨g, y⟩ := sr.go Rh ea
            refine .inr ⟨g, fun H' => ∃ μ', Co μ' (acc ++ ys) h1 H', fun H' ⟨μ', c'⟩ => ⟨m, Nat.lt_succ_self _, μ', h1, acc ++ ys, r2, c', el, by rw [List.append_assoc]; exact er⟩, fun v H' yv => ?_⟩
            obtain ⟨st, R', d⟩ := y v H' yv
            exact hb et (hC c st R') d ⟨r2, by rw [List.append_assoc, er, hall]⟩ _ fun μ' H'' c' => ⟨μ', c'⟩
theorem compLoop_nox {turn : AV → AH → R (List AV)} : ∀ {k i : Nat} {h : AH} {x : AX} {h' : AH}, compLoop s turn k i h ≠ .ex x h'
  | 0, _, _, _, _, e => by cases e
  | k + 1, i, h, x, h', e => by
    have e' : (match s.at h i with
      | some (some x) => (match turn x h with
        | .ok ys h1 => (match compLoop s turn k (i + 1) h1 with
          | .ok r h2 => .ok (ys ++ r) h2
          | _ => .bad)
        | _ => .bad)
      | some none => .ok [] h
      | none => .bad) = R.ex x h' := e
    split at e'
    · split at e'
      · split at e' <;> cases e'
      · cases e'
    · cases e'
    · cases e'
end

/-! ### targets -/
/-- a target of the machine's: it stores into slots -/
def tG (W : Wd) (vs : List Nat) (mt : AV → Loc' → Option Loc') : TG := fun v σ H Q => ∃ ro μ l h x l', At W ro μ l h σ H ∧ Den W.K μ H x v ∧ mt x l = some l' ∧ ∀ σ', RelL W.K μ H l' σ' → σ'.length = σ.length → (∀ i, i ∉ vs → σ'[i]? = σ[i]?) → Q σ' H
def tGs (W : Wd) (vs : List Nat) (mt : List AV → Loc' → Option Loc') : TGs := fun us σ H Q => ∃ ro μ l h xs l', At W ro μ l h σ H ∧ DenL W.K μ H xs us ∧ mt xs l = some l' ∧ ∀ σ', RelL W.K μ H l' σ' → σ'.length = σ.length → (∀ i, i ∉ vs → σ'[i]? = σ[i]?) → Q σ' H
abbrev SimG (X : Cx) (W : Wd) (e : Expr) (vs : List Nat) (mt : AV → Loc' → Option Loc') : Prop := PG X e (tG W vs mt)
abbrev SimGs (X : Cx) (W : Wd) (es : List Expr) (vs : List Nat) (mt : List AV → Loc' → Option Loc') : Prop := PGs X es (tGs W vs mt)
theorem PG.weaken {X : Cx} {e : Expr} {t t' : TG} (p : PG X e t) (h : ∀ v σ H Q, t' v σ H Q → t v σ H Q) : PG X e t' := ⟨fun pins s σ H v u Q I r q => p.run pins s σ H v u Q I r (h v σ H Q q)⟩
theorem PGs.weaken {X : Cx} {e : List Expr} {t t' : TGs} (p : PGs X e t) (h : ∀ v σ H Q, t' v σ H Q → t v σ H Q) : PGs X e t' := ⟨fun pins s σ H v u Q I r q => p.run pins s σ H v u Q I r (h v σ H Q q)⟩
theorem RelL.set {K : PySem.W.Frag} {μ : Mu} {H : Hp} {l : Loc'} {σ : L2.St} {i : Nat} {x : AV} {v : V} (r : RelL K μ H l σ) (d : Den K μ H x v) : RelL K μ H (l.set i (some x)) (σ.set i (some v)) := by
  refine ⟨by rw [List.length_set, List.length_set]; exact r.1, fun j y e => ?_⟩
  by_cases hj : i = j
  · subst hj
    have hlt : i < l.length := by
      have := (List.getElem?_eq_some_iff.mp e).1
      rwa [List.length_set] at this
    rw [List.getElem?_set_self hlt] at e
    cases e
    exact ⟨v, List.getElem?_set_self (by rw [← r.1]; exact hlt), d⟩
  · rw [List.getElem?_set_ne hj] at e
    obtain ⟨u, h1, h2⟩ := r.2 j y e
    exact ⟨u, by rw [List.getElem?_set_ne hj]; exact h1, h2⟩
def mtN (i : Nat) : AV → Loc' → Option Loc' := fun v l => some (l.set i (some v))
def mtT (mt : List AV → Loc' → Option Loc') : AV → Loc' → Option Loc' := fun v l => match v with
  | .tup xs => mt xs l
  | _ => none
def mt0 : List AV → Loc' → Option Loc' := fun xs l => match xs with
  | [] => some l
  | _ :: _ => none
def mtC (mt : AV → Loc' → Option Loc') (ms : List AV → Loc' → Option Loc') : List AV → Loc' → Option Loc' := fun xs l => match xs with
  | x :: r => (match mt x l with
    | some l1 => ms r l1
    | none => none)
  | [] => none
end Ev
set_option Elab.async false
set_option linter.all false
set_option maxRecDepth 100000
set_option maxHeartbeats 4000000
/-! targets, sources, list comprehensions -/
namespace Ev
open PySem PySem.Spec PyProof.Rows L2
section
variable {X : Cx} {ca : Ca} {E : XK} {tg a b e : Expr} {es : List Expr} {ma mb : Loc' → AH → R AV} {ms : Loc' → AH → R (List AV)} {pos p : Pos} {vs ws : List Nat}
theorem simg_nm {i : Nat} {x : Str} (hN : X.N.Nodup) (hi : X.N[i]? = some x) (hx : Loc X.env.scope x) (hf : X.fn x = true ∨ X.env.scope.names.lookup x = some .local) : SimG X (wd X ca E) (.Name x pos) [i] (mtN i) :=
  PG.weaken (pg_name hN hi hx hf) fun v σ H Q ⟨ro, μ, l, h, x, l', A, d, e, q⟩ => by
    cases e
    exact q _ (A.L.set d) (List.length_set ..) fun j hj => List.getElem?_set_ne (fun z => hj (by rw [z]; simp))
theorem simgs_nil : SimGs X (wd X ca E) [] [] mt0 :=
  PGs.weaken pgs_nil fun v σ H Q ⟨ro, μ, l, h, x, l', A, d, e, q⟩ => by
    cases d with
    | nil => cases e; exact ⟨rfl, q σ A.L rfl fun _ _ => rfl⟩
    | cons _ _ => cases e
theorem simgs_cons {mt : AV → Loc' → Option Loc'} {ms : List AV → Loc' → Option Loc'} (h1 : SimG X (wd X ca E) e vs mt) (h2 : SimGs X (wd X ca E) es ws ms) (hs : (assignEach (e :: es) X.env).map (·.2) = assign e X.env :: (assignEach es X.env).map (·.2)) : SimGs X (wd X ca E) (e :: es) (vs ++ ws) (mtC mt ms) :=
  PGs.weaken (pgs_cons h1 h2 hs) fun v σ H Q ⟨ro, μ, l, h, x, l', A, d, e, q⟩ => by
    cases d with
    | nil => cases e
    | @cons y u ys us d1 d2 =>
      have e' : (match mt y l with | some l1 => ms ys l1 | none => none) = some l' := e
      cases e1 : mt y l with
      | none => rw [e1] at e'; cases e'
      | some l1 =>
        rw [e1] at e'
        refine ⟨u, us, rfl, ro, μ, l, h, y, l1, A, d1, e1, fun σ1 L1 hl1 hd1 => ?_⟩
        refine ⟨ro, μ, l1, h, ys, l', ⟨L1, A.R⟩, d2, e', fun σ2 L2 hl2 hd2 => q σ2 L2 (hl2.trans hl1) fun i hi => ?_⟩
        rw [List.mem_append, not_or] at hi
        rw [hd2 i hi.2, hd1 i hi.1]
theorem simg_tp {k n : Nat} {ms : List AV → Loc' → Option Loc'} (hc : X.calm = true) (h : SimGs X (wd X ca E) es ws ms) (hn : (assignEach es X.env).length = n) (hst : (assignEach es X.env).findIdx? (·.1) = none) (hl : ∀ xs l l', ms xs l = some l' → xs.length = n) : SimG X (wd X ca E) (.Tuple es k pos) ws (mtT ms) :=
  PG.weaken (pg_tup hc h hn hst) fun v σ H Q ⟨ro, μ, l, h, x, l', A, d, e, q⟩ => by
    cases d with
    | @tup a vs xs sq dl => exact ⟨a, vs, rfl, sq, by rw [← dl.length]; exact hl _ _ _ e, ro, μ, l, h, xs, l', A, dl, e, q⟩
    | _ => cases e
theorem mt0_len (xs : List AV) (l l' : Loc') (e : mt0 xs l = some l') : xs.length = 0 := by
  cases xs with
  | nil => rfl
  | cons _ _ => cases e
theorem mtC_len {n : Nat} {mt : AV → Loc' → Option Loc'} {ms : List AV → Loc' → Option Loc'} (h : ∀ xs l l', ms xs l = some l' → xs.length = n) (xs : List AV) (l l' : Loc') (e : mtC mt ms xs l = some l') : xs.length = n + 1 := by
  cases xs with
  | nil => cases e
  | cons x r =>
    have e' : (match mt x l with | some l1 => ms r l1 | none => none) = some l' := e
    cases e1 : mt x l with
    | none => rw [e1] at e'; cases e'
    | some l1 => rw [e1] at e'; rw [List.length_cons, h _ _ _ e']

/-! ### sources -/
def tI (W : Wd) (mi : Loc' → AH → R Src) : TI := fun σ H Rr => ∃ ro μ l h, At W ro μ l h σ H ∧ postG (fun μ H => SrcR W ro μ H) W ro μ H (mi l h) Rr
abbrev SimI (X : Cx) (W : Wd) (tg e : Expr) (mi : Loc' → AH → R Src) : Prop := PI X tg e (tI W mi)
theorem PI.weaken {t t' : TI} (p : PI X tg e t) (h : ∀ σ H Q, t' σ H Q → t σ H Q) : PI X tg e t' := ⟨fun pins s σ H Q I q => p.run pins s σ H Q I (h σ H Q q)⟩
theorem PI.either {t u : TI} (p : PI X tg e t) (q : PI X tg e u) : PI X tg e (fun σ H Q => t σ H Q ∨ u σ H Q) := ⟨fun pins s σ H Q I w => w.elim (p.run pins s σ H Q I) (q.run pins s σ H Q I)⟩
def miOf (me : Loc' → AH → R AV) : Loc' → AH → R Src := fun l h => (me l h).bind fun x h1 => rOpt (srcOf x h1) h1
def miEn (me : Loc' → AH → R AV) : Loc' → AH → R Src := fun l h => (me l h).bind fun x h1 => rOpt (enOf x h1) h1
def miZp (ma mb : Loc' → AH → R AV) : Loc' → AH → R Src := fun l h => (ma l h).bind fun x h1 => (mb l h1).bind fun y h2 => rOpt (zpOf x y h2) h2
def miRg (ma : Loc' → AH → R AV) : Loc' → AH → R Src := fun l h => (ma l h).bind fun x h1 => match x with
  | .int i => (match decide (-(2 ^ 62) ≤ i ∧ i < 2 ^ 62) with
    | true => .ok (.rg i.toNat) h1
    | false => .bad)
  | _ => .bad
theorem postG.opt' {α β : Type} {D : Mu → Hp → α → β → Prop} {W : Wd} {ro : Nat} {μ : Mu} {H : Hp} {o : Option α} {h : AH} {Q : β → Hp → Prop} (p : postG D W ro μ H (rOpt o h) Q) : ∃ v, o = some v ∧ postG D W ro μ H (.ok v h) Q := by
  cases o with
  | none => exact False.elim p
  | some v => exact ⟨v, rfl, p⟩
theorem postG.val' {α β : Type} {D : Mu → Hp → α → β → Prop} {W : Wd} {ro : Nat} {μ : Mu} {H : Hp} {v : α} {h : AH} {Q : β → Hp → Prop} {u : β} (R : RelH W ro μ h H) (p : postG D W ro μ H (.ok v h) Q) (d : D μ H v u) : Q u H := p μ u H Step.refl R d
theorem simi_of (he : SimE X (wd X ca E) e ma) : SimI X (wd X ca E) tg e (miOf ma) :=
  PI.weaken (PI.either (pi_tup he) (pi_list he)) fun σ H Q ⟨ro, μ, l, h, A, p⟩ => by
    unfold miOf at p
    have key : ∀ {μ1 : Mu} {v : AV} {u : V} {h1 : AH} {H1 : Hp} {sr : Src}, RelH (wd X ca E) ro μ1 h1 H1 → Den X.K μ1 H1 v u → srcOf v h1 = some sr → postG (fun μ H => SrcR (wd X ca E) ro μ H) (wd X ca E) ro μ1 H1 (.ok sr h1) Q →
      ((∃ xs, v = .tup xs) → ∃ a, u = .ref a ∧ (∃ xs, SqT X.K H1 a xs) ∧ Q (Itt X.K a) H1) ∧ ((∀ xs, v ≠ .tup xs) → ∃ a, u = .ref a ∧ (∃ xs, SqL X.K H1 a xs) ∧ Q (Itl X.K a) H1) := fun {μ1 v u h1 H1 sr} R1 d es q => by
      cases d with
      | @tup a vs xs sq dl =>
        cases es
        exact ⟨fun _ => ⟨a, rfl, ⟨vs, sq⟩, q.val' R1 (SrcR.tp (W := wd X ca E) sq dl)⟩, fun z => absurd rfl (z _)⟩
      | @obj n a hn =>
        have es' : (match h1.get n with | some (.lst _) => some (Src.ob n) | _ => none) = some sr := es
        cases g : h1.get n with
        | none => rw [g] at es'; cases es'
        | some o =>
          rw [g] at es'
          cases o with
          | lst xs =>
            cases es'
            obtain ⟨vs, sq, _⟩ := R1.lst hn g
            exact ⟨fun ⟨_, z⟩ => (by cases z), fun _ => ⟨a, rfl, ⟨vs, sq⟩, q.val' R1 (SrcR.ob (W := wd X ca E) hn)⟩⟩
          | _ => cases es'
      | _ => cases es
    cases em : ma l h with
    | bad => rw [em] at p; exact False.elim p
    | ex x hx => rw [em] at p; exact .inl ⟨ro, μ, l, h, A, by rw [em]; exact p⟩
    | ok v h1 =>
      rw [em] at p
      by_cases hv : ∃ xs, v = .tup xs
      · refine .inl ⟨ro, μ, l, h, A, ?_⟩
        rw [em]
        intro μ1 u H1 st R1 d
        obtain ⟨sr, es, q⟩ := postG.opt' p
        exact (key R1 d es (q.later st)).1 hv
      · refine .inr ⟨ro, μ, l, h, A, ?_⟩
        rw [em]
        intro μ1 u H1 st R1 d
        obtain ⟨sr, es, q⟩ := postG.opt' p
        exact (key R1 d es (q.later st)).2 fun xs z => hv ⟨xs, z⟩
theorem one_of (he : SimE X (wd X ca E) e ma) (hs : notStar e = true) : PA X [e] (fun σ H Q => tE (wd X ca E) ma σ H fun u H1 => Q [u] H1) := PA.weaken (pa_cons he pa_nil (star_one hs)) fun σ H Q q => q
theorem simi_en {elts : List Expr} {kk : Nat} {tpos : Pos} (hg : Gl X "enumerate") (hm : X.mg "enumerate" = none) (he : SimE X (wd X ca E) e ma) (hs : notStar e = true) : SimI X (wd X ca E) (.Tuple elts kk tpos) (.Call (.Name "enumerate" p) [e] [] pos) (miEn ma) :=
  PI.weaken (pi_enT hg hm (one_of he hs) (star_one hs)) fun σ H Q ⟨ro, μ, l, h, A, p⟩ => ⟨ro, μ, l, h, A, (bindP (dV _) A p).imp fun u H1 ⟨μ1, v, h1, A1, d, st, q⟩ => by
    obtain ⟨sr, es, q⟩ := postG.opt' q
    cases d with
    | @tup a vs xs sq dl =>
      cases es
      exact ⟨a, vs, rfl, .inr ⟨sq, q.val' A1.R (SrcR.ent (W := wd X ca E) sq dl)⟩⟩
    | @obj n a hn =>
      have es' : (match h1.get n with | some (.lst _) => some (Src.enl n) | _ => none) = some sr := es
      cases g : h1.get n with
      | none => rw [g] at es'; cases es'
      | some o =>
        rw [g] at es'
        cases o with
        | lst xs =>
          cases es'
          obtain ⟨vs, sq, _⟩ := A1.R.lst hn g
          exact ⟨a, vs, rfl, .inl ⟨sq, q.val' A1.R (SrcR.enl (W := wd X ca E) hn)⟩⟩
        | _ => cases es'
    | _ => cases es⟩
theorem simi_zp {elts : List Expr} {kk : Nat} {tpos : Pos} (hg : Gl X "zip") (hm : X.mg "zip" = none) (ha : SimE X (wd X ca E) a ma) (hb : SimE X (wd X ca E) b mb) (hs : notStar a = true) (hs2 : notStar b = true) : SimI X (wd X ca E) (.Tuple elts kk tpos) (.Call (.Name "zip" p) [a, b] [] pos) (miZp ma mb) :=
  PI.weaken (RZ.pi_zipA hg hm (pa_cons ha (one_of hb hs2) (star_one hs)) (star_one hs) (by rw [star_one hs2]; rfl)) fun σ H Q ⟨ro, μ, l, h, A, p⟩ => ⟨ro, μ, l, h, A, (bindP (dV _) A p).imp fun u H1 ⟨μ1, v, h1, A1, d, st, q⟩ => ⟨ro, μ1, l, h1, A1, (bindP (dV _) A1 q).imp fun u2 H2 ⟨μ2, v2, h2, A2, d2, st2, q⟩ => by
    obtain ⟨sr, es, q⟩ := postG.opt' q
    have d := A1.R.den st2 d
    cases d with
    | @tup a vs xs sq dl =>
      cases d2 with
      | @tup b us ys sq2 dl2 =>
        cases es
        exact ⟨a, b, vs, us, rfl, .inr ⟨sq, sq2, q.val' A2.R (SrcR.zpt (W := wd X ca E) sq dl sq2 dl2)⟩⟩
      | _ => cases es
    | @obj n a hn =>
      cases d2 with
      | @obj m b hm =>
        have es' : (match h2.get n, h2.get m with | some (.lst _), some (.lst _) => some (Src.zpl n m) | _, _ => none) = some sr := es
        cases g : h2.get n with
        | none => rw [g] at es'; cases es'
        | some o =>
          cases g2 : h2.get m with
          | none => rw [g, g2] at es'; cases o <;> cases es'
          | some o2 =>
            rw [g, g2] at es'
            cases o with
            | lst xs =>
              cases o2 with
              | lst ys =>
                cases es'
                obtain ⟨vs, sq, _⟩ := A2.R.lst hn g
                obtain ⟨us, sq2, _⟩ := A2.R.lst hm g2
                exact ⟨a, b, vs, us, rfl, .inl ⟨sq, sq2, q.val' A2.R (SrcR.zpl (W := wd X ca E) hn hm)⟩⟩
              | _ => cases es'
            | _ => cases es'
      | _ => cases es
    | _ => cases es⟩⟩
theorem simi_rg (hg : Gl X "range") (hm : X.mg "range" = none) (ha : SimE X (wd X ca E) a ma) (hs : notStar a = true) : SimI X (wd X ca E) tg (.Call (.Name "range" p) [a] [] pos) (miRg ma) :=
  PI.weaken (pi_range1 hg hm (one_of ha hs) (star_one hs)) fun σ H Q ⟨ro, μ, l, h, A, p⟩ => ⟨ro, μ, l, h, A, (bindP (dV _) A p).imp fun u H1 ⟨μ1, v, h1, A1, d, st, q⟩ => by
    cases v with
    | int i =>
      dsimp only at q
      cases hd : decide (-(2 ^ 62) ≤ i ∧ i < 2 ^ 62) with
      | false => rw [hd] at q; exact False.elim q
      | true =>
        rw [hd] at q
        cases d
        have := of_decide_eq_true hd
        exact ⟨i, rfl, this.1, this.2, q.val' A1.R (SrcR.rg (W := wd X ca E) _)⟩
    | _ => exact False.elim q⟩

/-! ### list comprehensions -/
theorem RelL.wipe {K : PySem.W.Frag} {μ : Mu} {H : Hp} {l : Loc'} {σ : L2.St} (r : RelL K μ H l σ) : ∀ vs : List Nat, RelL K μ H (wipeL l vs) (L2.wipe σ vs)
  | [] => r
  | v :: vs => by
    have q := RelL.wipe r vs
    show RelL K μ H ((wipeL l vs).set v none) ((L2.wipe σ vs).set v none)
    refine ⟨by rw [List.length_set, List.length_set]; exact q.1, fun i x e => ?_⟩
    by_cases hi : v = i
    · subst hi
      have hlt : v < (wipeL l vs).length := by
        have := (List.getElem?_eq_some_iff.mp e).1
        rwa [List.length_set] at this
      rw [List.getElem?_set_self hlt] at e
      cases e
    · rw [List.getElem?_set_ne hi] at e
      obtain ⟨u, h1, h2⟩ := q.2 i x e
      exact ⟨u, by rw [List.getElem?_set_ne hi]; exact h1, h2⟩
theorem wipe_self {σ : L2.St} {i : Nat} : ∀ {vs : List Nat}, i ∈ vs → i < σ.length → (L2.wipe σ vs)[i]? = some none
  | [], h, _ => by cases h
  | v :: vs, h, hl => by
    show ((L2.wipe σ vs).set v none)[i]? = some none
    by_cases hv : v = i
    · subst hv
      rw [List.getElem?_set_self (by rw [wipe_length]; exact hl)]
    · rw [List.getElem?_set_ne hv]
      rcases List.mem_cons.mp h with z | z
      · exact absurd z.symm hv
      · exact wipe_self z hl
theorem wipe_eq {σ σ2 : L2.St} {vs : List Nat} (hl : σ2.length = σ.length) (h : ∀ i, i ∉ vs → σ2[i]? = σ[i]?) : L2.wipe σ2 vs = L2.wipe σ vs := by
  refine List.ext_getElem? fun i => ?_
  by_cases hi : i ∈ vs
  · by_cases hlt : i < σ.length
    · rw [wipe_self hi hlt, wipe_self hi (by rw [hl]; exact hlt)]
    · rw [List.getElem?_eq_none (by rw [wipe_length]; omega), List.getElem?_eq_none (by rw [wipe_length]; omega)]
  · rw [wipe_out hi, wipe_out hi, h i hi]
theorem wipe_wipe {σ : L2.St} {vs : List Nat} : L2.wipe (L2.wipe σ vs) vs = L2.wipe σ vs := wipe_eq (wipe_length ..) fun i hi => wipe_out hi
/-- a turn: store, test, element -/
def turnL (vs : List Nat) (mt : AV → Loc' → Option Loc') (mc me : Loc' → AH → R AV) (l : Loc') : AV → AH → R (List AV) := fun x h2 => match mt x (wipeL l vs) with
  | some l2 => (mc l2 h2).bind fun b h3 => (match b with
    | .bl true => (me l2 h3).bind fun v h4 => .ok [v] h4
    | .bl false => .ok [] h3
    | _ => .bad)
  | none => .bad
def mLc (vs : List Nat) (mt : AV → Loc' → Option Loc') (mi : Loc' → AH → R Src) (mc me : Loc' → AH → R AV) : Loc' → AH → R AV := fun l h => (mi l h).bind fun s h1 => (compLoop s (turnL vs mt mc me l) turns 0 h1).bind fun xs h5 => match lim xs.length with
  | true => alloc h5 (.lst xs)
  | false => .bad
def mYes : Loc' → AH → R AV := fun _ h => .ok (.bl true) h
abbrev SimTs (X : Cx) (W : Wd) (ifs : List Expr) (m : Loc' → AH → R AV) : Prop := PTs X ifs (tT W m)
theorem PTs.weaken {ifs : List Expr} {t t' : TT} (p : PTs X ifs t) (h : ∀ σ H Q, t' σ H Q → t σ H Q) : PTs X ifs t' := ⟨fun pins s σ H Q I q => p.run pins s σ H Q I (h σ H Q q)⟩
theorem simts_nil : SimTs X (wd X ca E) [] mYes := PTs.weaken pts_nil fun σ H Q ⟨ro, μ, l, h, A, p⟩ => postG.val' A.R (show postG dB _ ro μ H (.ok true h) Q from p) rfl
theorem simts_one (h : SimT X (wd X ca E) e ma) : SimTs X (wd X ca E) [e] ma := pts_one h
/-- the last turn is over: the list is the machine's -/
theorem col_end {W : Wd} {ro : Nat} {μ μ1 : Mu} {h : AH} {H H1 : Hp} {D : Addr} {XS : List AV} {Q : VK} (hD : H1 D = none) (c : Col W ro μ1 H1 D (BL W.K) μ XS h H)
    (p : postG (dV W) W ro μ1 H1 (match lim XS.length with | true => alloc h (.lst XS) | false => .bad) Q) : Q (.ref D) H := by
  cases e : lim XS.length with
  | false => rw [e] at p; exact False.elim p
  | true =>
    rw [e] at p
    obtain ⟨o, q1, vs, rfl, d⟩ := c.d
    dsimp only at p
    unfold alloc at p
    cases e2 : Nat.blt h.n top with
    | false => rw [e2] at p; exact False.elim p
    | true =>
      rw [e2] at p
      have hn := blt_tt.mp e2
      refine p (muPut μ h.n D) (.ref D) H (c.st.mine hD (c.R.dom (Nat.le_refl _))) (c.R.own hn c.fr ⟨lim_le e, vs, q1, d⟩) (.obj ?_)
      unfold muPut
      rw [if_pos rfl]
/-- one more -/
theorem Col.app {W : Wd} {ro : Nat} {μ μ1 : Mu} {h : AH} {H H1 : Hp} {D : Addr} {acc : List AV} {x : AV} {u : V} {vs : List V} (hD : H1 D = none) (c : Col W ro μ1 H1 D (BL W.K) μ acc h H) (d : Den W.K μ H x u) (hv : H D = some (.lst vs)) : Col W ro μ1 H1 D (BL W.K) μ (acc ++ [x]) h (upd H D (.lst (vs ++ [u]))) := by
  obtain ⟨o, q1, vs', rfl, dl⟩ := c.d
  rw [hv] at q1; cases q1
  have up : ∀ y v, Den W.K μ H y v → Den W.K μ (upd H D (.lst (vs ++ [u]))) y v := fun y v d => d.mono (fun _ _ e => e) fun _ _ s => sq_upd (by rw [hv]; intro ys z; cases z) (by rw [hv]; intro o ys z; cases z) s
  refine ⟨c.R.side c.fr (by rw [hv]; intro ys z; cases z) (by rw [hv]; intro o ys z; cases z) (by rw [hv]; intro z; cases z) (nocode_lst hv), c.st.side hD, ⟨_, upd_same, _, rfl, ?_⟩, c.fr⟩
  refine DenL.append (dl.mono (fun _ _ e => e) fun _ _ s => sq_upd (by rw [hv]; intro ys z; cases z) (by rw [hv]; intro o ys z; cases z) s) (.cons (up _ _ d) .nil)
/-- a turn's parts -/
theorem turnL_ok {vs : List Nat} {mt : AV → Loc' → Option Loc'} {mc me : Loc' → AH → R AV} {l : Loc'} {x : AV} {h h1 : AH} {ys : List AV} (e : turnL vs mt mc me l x h = .ok ys h1) :
    ∃ l2 b h3, mt x (wipeL l vs) = some l2 ∧ mc l2 h = .ok (.bl b) h3 ∧ ((b = true ∧ ∃ v, me l2 h3 = .ok v h1 ∧ ys = [v]) ∨ (b = false ∧ ys = [] ∧ h1 = h3)) := by
  unfold turnL at e
  cases e1 : mt x (wipeL l vs) with
  | none => rw [e1] at e; cases e
  | some l2 =>
    rw [e1] at e
    dsimp only at e
    cases e2 : mc l2 h with
    | ex _ _ => rw [e2] at e; cases e
    | bad => rw [e2] at e; cases e
    | ok b h3 =>
      rw [e2] at e
      cases b with
      | bl b =>
        cases b with
        | true =>
          dsimp only [R.bind] at e
          cases e3 : me l2 h3 with
          | ex _ _ => rw [e3] at e; cases e
          | bad => rw [e3] at e; cases e
          | ok v h4 =>
            rw [e3] at e
            cases e
            exact ⟨l2, true, h3, rfl, e2, .inl ⟨rfl, v, e3, rfl⟩⟩
        | false =>
          dsimp only [R.bind] at e
          cases e
          exact ⟨l2, false, _, rfl, e2, .inr ⟨rfl, rfl, rfl⟩⟩
      | _ => cases e
/-- what is meant stays meant -/
structure Kp (W : Wd) (ro : Nat) (μ : Mu) (H : Hp) (μ' : Mu) (H' : Hp) : Prop where
  ext : ∀ n a, μ n = some a → μ' n = some a
  sq : ∀ a xs, SqT W.K H a xs → SqT W.K H' a xs
  frz : ∀ d o u, H d = some (.frz o u) → (∀ n, ro ≤ n → μ n ≠ some d) → H' d = some (.frz o u) ∧ ∀ n, ro ≤ n → μ' n ≠ some d
theorem Kp.trans {W : Wd} {ro : Nat} {μ μ1 μ2 : Mu} {H H1 H2 : Hp} (a : Kp W ro μ H μ1 H1) (b : Kp W ro μ1 H1 μ2 H2) : Kp W ro μ H μ2 H2 :=
  ⟨fun n x e => b.ext n x (a.ext n x e), fun x xs q => b.sq x xs (a.sq x xs q), fun d o u e f => let ⟨e1, f1⟩ := a.frz d o u e f; b.frz d o u e1 f1⟩
theorem Kp.step {W : Wd} {ro : Nat} {μ μ1 : Mu} {h : AH} {H H1 : Hp} (R : RelH W ro μ h H) (st : Step ro μ H μ1 H1) : Kp W ro μ H μ1 H1 :=
  ⟨st.ext, fun _ _ => R.sq st, fun d o u e f => ⟨st.frm d _ f (fun ps z => by cases z) e, fun n hn z => by
    rcases st.new n d z with q | q
    · exact f n hn q
    · rw [e] at q; cases q⟩⟩
theorem Kp.side {W : Wd} {ro : Nat} {μ : Mu} {H : Hp} {D : Addr} {vs : List V} {u : HO} (hv : H D = some (.lst vs)) : Kp W ro μ H μ (upd H D u) :=
  ⟨fun _ _ e => e, fun _ _ s => sq_upd (by rw [hv]; intro ys z; cases z) (by rw [hv]; intro o ys z; cases z) s, fun d o u e f => ⟨by rw [upd_ne (fun z => by rw [z, hv] at e; cases e)]; exact e, f⟩⟩
theorem RelL.kp {W : Wd} {ro : Nat} {μ μ' : Mu} {H H' : Hp} {l : Loc'} {σ : L2.St} (r : RelL W.K μ H l σ) (k : Kp W ro μ H μ' H') : RelL W.K μ' H' l σ :=
  ⟨r.1, fun i v e => let ⟨u, h1, h2⟩ := r.2 i v e; ⟨u, h1, h2.mono k.ext k.sq⟩⟩
theorem SrcR.kp {W : Wd} {ro : Nat} {μ μ' : Mu} {H H' : Hp} {s : Src} {J : L2.It} (r : SrcR W ro μ H s J) (k : Kp W ro μ H μ' H') : SrcR W ro μ' H' s J := by
  cases r with
  | tp q d => exact .tp (k.sq _ _ q) (d.mono k.ext k.sq)
  | ob q => exact .ob (k.ext _ _ q)
  | ent q d => exact .ent (k.sq _ _ q) (d.mono k.ext k.sq)
  | enl q => exact .enl (k.ext _ _ q)
  | zpt q d q' d' => exact .zpt (k.sq _ _ q) (d.mono k.ext k.sq) (k.sq _ _ q') (d'.mono k.ext k.sq)
  | zpl q q' => exact .zpl (k.ext _ _ q) (k.ext _ _ q')
  | rg n => exact .rg n
  | dk q f d => exact .dk (k.frz _ _ _ q f).1 (k.frz _ _ _ q f).2 (d.mono k.ext k.sq)
/-- in a block nothing is raised -/
abbrev w0 (X : Cx) (ca : Ca) : Wd := wd X ca E0
/-- the body of a collecting turn -/
theorem turn_body {ro : Nat} {μ1 : Mu} {l : Loc'} {σ : L2.St} {H1 : Hp} {D : Addr} {vs : List Nat} {mt : AV → Loc' → Option Loc'} {mc me : Loc' → AH → R AV} (hD : H1 D = none) (hsl : ∀ i ∈ ws, i ∈ vs)
    {x : AV} {h h1 : AH} {ys : List AV} {μ : Mu} {acc : List AV} {H : Hp} {v : V}
    (e : turnL vs mt mc me l x h = .ok ys h1) (c : Col (w0 X ca) ro μ1 H1 D (BL X.K) μ acc h H) (L : RelL X.K μ H l σ) (d : Den X.K μ H x v) (hlen : acc.length + ys.length ≤ sizeLine) (Nx : Hp → Prop) (hx : ∀ μ' H', Col (w0 X ca) ro μ1 H1 D (BL X.K) μ' (acc ++ ys) h1 H' → Kp (w0 X ca) ro μ H μ' H' → Nx H') :
    tG (w0 X ca) ws mt v (L2.wipe σ vs) H fun σ2 H2 => L2.wipe σ2 vs = L2.wipe σ vs ∧ tT (w0 X ca) mc σ2 H2 fun b H3 =>
      if b = true then tE (w0 X ca) me σ2 H3 fun y H4 => ∃ acc, H4 D = some (.lst acc) ∧ acc.length < sizeLine ∧ Nx (upd H4 D (.lst (acc ++ [y]))) else Nx H3 := by
  obtain ⟨l2, b, h3, e1, e2, e3⟩ := turnL_ok e
  refine ⟨ro, μ, wipeL l vs, h, x, l2, ⟨L.wipe vs, c.R⟩, d, e1, fun σ2 L2' hl2 hd2 => ⟨?_, ro, μ, l2, h, ⟨L2', c.R⟩, ?_⟩⟩
  · rw [wipe_eq hl2 fun i hi => hd2 i fun z => hi (hsl i z), wipe_wipe]
  · have e2' : toB (mc l2 h) = .ok b h3 := by rw [e2]; rfl
    rw [e2']
    intro μ3 b' H3 st3 R3 eb
    cases eb
    have c3 := c.onL st3 R3
    rcases e3 with ⟨rfl, y, e4, rfl⟩ | ⟨rfl, rfl, rfl⟩
    · rw [if_pos rfl]
      refine ⟨ro, μ3, l2, h3, ⟨L2'.step c.R st3, R3⟩, ?_⟩
      rw [e4]
      intro μ4 u H4 st4 R4 d4
      have c4 := c3.onL st4 R4
      obtain ⟨o, q1, us, rfl, dl⟩ := c4.d
      refine ⟨us, q1, ?_, hx μ4 _ (c4.app hD d4 q1) (((Kp.step c.R st3).trans (Kp.step c3.R st4)).trans (Kp.side q1))⟩
      rw [← dl.length]
      simp only [List.length_cons, List.length_nil] at hlen
      omega
    · rw [if_neg Bool.false_ne_true]
      exact hx μ3 H3 (by rw [List.append_nil]; exact c3) (Kp.step c.R st3)
theorem lc_imp {own : List Nat} {mt : AV → Loc' → Option Loc'} {mi : Loc' → AH → R Src} {mc me : Loc' → AH → R AV} (hsl : ∀ i ∈ ws, i ∈ own) {σ : L2.St} {H : Hp} {Q : VK} (hq : tE (wd X ca E) (mLc own mt mi mc me) σ H Q) : tLc (tI (wd X ca E) mi) (tG (w0 X ca) ws mt) (tT (w0 X ca) mc) (tE (w0 X ca) me) own σ H Q := by
  obtain ⟨ro, μ, l, h, A, p⟩ := hq
  refine ⟨ro, μ, l, h, A, (bindP (fun μ H => SrcR (wd X ca E) ro μ H) A p).imp fun J H1 ⟨μ1, s, h1, A1, sr, st1, p1⟩ D hD => ?_⟩
  cases el : compLoop s (turnL own mt mc me l) turns 0 h1 with
  | bad => rw [el] at p1; exact False.elim p1
  | ex x hx => exact absurd el compLoop_nox
  | ok XS HF =>
    rw [el] at p1
    have hz : XS.length ≤ sizeLine := by
      have p2 : postG (dV (wd X ca E)) (wd X ca E) ro μ1 H1 (match lim XS.length with | true => alloc HF (.lst XS) | false => .bad) Q := p1
      cases e : lim XS.length with
      | false => rw [e] at p2; exact False.elim p2
      | true => exact lim_le e
    refine walk (W := w0 X ca) (ro := ro) (s := s) (J := J) (Co := fun μ acc h H => Col (w0 X ca) ro μ1 H1 D (BL X.K) μ acc h H ∧ SrcR (w0 X ca) ro μ H s J ∧ RelL X.K μ H l σ) (acc0 := [])
      (fun c => ⟨c.1.R, c.2.1⟩) (fun c st R => ⟨c.1.onL st R, c.2.1.step c.1.R st, c.2.2.step c.1.R st⟩) ?_ rfl el ⟨⟨(A1.R.to E0).laid hD, Step.laid hD, ⟨_, upd_same, _, rfl, .nil⟩, A1.R.fresh hD⟩, ?_, A1.L.step A1.R (Step.laid hD)⟩ fun μ2 H2 c => col_end (W := wd X ca E) hD ⟨c.1.R.to E, c.1.st, c.1.d, c.1.fr⟩ p1
    · exact fun et c d ⟨r, er⟩ Nx hx => turn_body hD hsl et c.1 c.2.2 d (by have := congrArg List.length er; simp only [List.length_append, List.length_nil] at this; omega) Nx fun μ' H' c' _ => hx μ' H' ⟨c', (sr.to E0).step (A1.R.to E0) c'.st, A1.L.step A1.R c'.st⟩
    · exact (sr.to E0).step (A1.R.to E0) (Step.laid hD)
/-- what holds in each block of a comprehension -/
abbrev InB (X : Cx) (scope : Scope) (F : Cx → Prop) : Prop := ∀ (s : Shared) (H : Hp) (C : Addr) (cl : List (Str × Addr)) (fp : List Addr), F (X.blk s H scope (compEnvC scope cl C X.env) fp)
theorem sim_lc {iter elt : Expr} {ifs : List Expr} {scope : Scope} {own : List (Str × Nat)} {mt : AV → Loc' → Option Loc'} {mi : Loc' → AH → R Src} {mc me : Loc' → AH → R AV} (hc : X.calm = true) (hN : X.N.Nodup) (hi : SimI X (wd X ca E) tg iter mi) (ok : BlkOk X.N X.env.scope scope own)
    (hg : InB X scope fun Y => SimG Y (w0 X ca) tg ws mt) (ht : InB X scope fun Y => SimTs Y (w0 X ca) ifs mc) (he : InB X scope fun Y => SimE Y (w0 X ca) elt me) (hsl : ∀ i ∈ ws, i ∈ own.map (·.2)) (hs : ∀ x, foldedSetIterable iter X.env x = pure x) :
    SimE X (wd X ca E) (.ListComp elt [⟨tg, iter, ifs, 0⟩] scope pos) (mLc (own.map (·.2)) mt mi mc me) :=
  PE.weaken (pe_lc hc hN hi ok hg ht he hs) fun σ H Q => lc_imp hsl
/-! two clauses -/
def turnL2 (vs vs1 : List Nat) (mt : AV → Loc' → Option Loc') (mi1 : Loc' → AH → R Src) (mt1 : AV → Loc' → Option Loc') (mc me : Loc' → AH → R AV) (l : Loc') : AV → AH → R (List AV) := fun x h2 => match mt x (wipeL l vs) with
  | some l2 => (mi1 l2 h2).bind fun s1 h3 => compLoop s1 (turnL vs1 mt1 mc me l2) turns 0 h3
  | none => .bad
def mLc2 (vs vs1 : List Nat) (mt : AV → Loc' → Option Loc') (mi mi1 : Loc' → AH → R Src) (mt1 : AV → Loc' → Option Loc') (mc me : Loc' → AH → R AV) : Loc' → AH → R AV := fun l h => (mi l h).bind fun s h1 => (compLoop s (turnL2 vs vs1 mt mi1 mt1 mc me l) turns 0 h1).bind fun xs h5 => match lim xs.length with
  | true => alloc h5 (.lst xs)
  | false => .bad
theorem lc2_imp {own vs1 ws1 : List Nat} {mt mt1 : AV → Loc' → Option Loc'} {mi mi1 : Loc' → AH → R Src} {mc me : Loc' → AH → R AV} (hsl : ∀ i ∈ ws, i ∈ own) (hsl1 : ∀ i ∈ ws1, i ∈ vs1) {σ : L2.St} {H : Hp} {Q : VK} (hq : tE (wd X ca E) (mLc2 own vs1 mt mi mi1 mt1 mc me) σ H Q) :
    tLc2 (tI (wd X ca E) mi) (tG (w0 X ca) ws mt) tYes (tI (w0 X ca) mi1) (tG (w0 X ca) ws1 mt1) (tT (w0 X ca) mc) (tE (w0 X ca) me) own vs1 σ H Q := by
  obtain ⟨ro, μ, l, h, A, p⟩ := hq
  refine ⟨ro, μ, l, h, A, (bindP (fun μ H => SrcR (wd X ca E) ro μ H) A p).imp fun J H1 ⟨μ1, s, h1, A1, sr, st1, p1⟩ D hD => ?_⟩
  cases el : compLoop s (turnL2 own vs1 mt mi1 mt1 mc me l) turns 0 h1 with
  | bad => rw [el] at p1; exact False.elim p1
  | ex x hx => exact absurd el compLoop_nox
  | ok XS HF =>
    rw [el] at p1
    have hz : XS.length ≤ sizeLine := by
      have p2 : postG (dV (wd X ca E)) (wd X ca E) ro μ1 H1 (match lim XS.length with | true => alloc HF (.lst XS) | false => .bad) Q := p1
      cases e : lim XS.length with
      | false => rw [e] at p2; exact False.elim p2
      | true => exact lim_le e
    refine walk (W := w0 X ca) (ro := ro) (s := s) (J := J) (Co := fun μ acc h H => Col (w0 X ca) ro μ1 H1 D (BL X.K) μ acc h H ∧ SrcR (w0 X ca) ro μ H s J ∧ RelL X.K μ H l σ) (acc0 := [])
      (fun c => ⟨c.1.R, c.2.1⟩) (fun c st R => ⟨c.1.onL st R, c.2.1.step c.1.R st, c.2.2.step c.1.R st⟩) ?_ rfl el ⟨⟨(A1.R.to E0).laid hD, Step.laid hD, ⟨_, upd_same, _, rfl, .nil⟩, A1.R.fresh hD⟩, ?_, A1.L.step A1.R (Step.laid hD)⟩ fun μ2 H2 c => col_end (W := wd X ca E) hD ⟨c.1.R.to E, c.1.st, c.1.d, c.1.fr⟩ p1
    · intro x h2 ys h3 μ2 acc H2 v et c d ⟨r, er⟩ Nx hx
      have hlen : acc.length + ys.length ≤ sizeLine := by have := congrArg List.length er; simp only [List.length_append, List.length_nil] at this; omega
      unfold turnL2 at et
      cases e1 : mt x (wipeL l own) with
      | none => rw [e1] at et; cases et
      | some l2 =>
        rw [e1] at et
        dsimp only at et
        cases e2 : mi1 l2 h2 with
        | ex _ _ => rw [e2] at et; cases et
        | bad => rw [e2] at et; cases et
        | ok s1 h4 =>
          rw [e2] at et
          have et : compLoop s1 (turnL vs1 mt1 mc me l2) turns 0 h4 = .ok ys h3 := et
          refine ⟨ro, μ2, wipeL l own, h2, x, l2, ⟨c.2.2.wipe own, c.1.R⟩, d, e1, fun σ2 L2' hl2 hd2 => ⟨?_, ?_⟩⟩
          · rw [wipe_eq hl2 fun i hi => hd2 i fun z => hi (hsl i z), wipe_wipe]
          · unfold tYes
            dsimp only
            rw [if_pos rfl]
            refine ⟨ro, μ2, l2, h2, ⟨L2', c.1.R⟩, ?_⟩
            rw [e2]
            intro μ4 J1 H4 st4 R4 sr1
            have c4 := c.1.onL st4 R4
            have L4 := L2'.step c.1.R st4
            refine walk (W := w0 X ca) (ro := ro) (s := s1) (J := J1) (Co := fun μ acc h H => Col (w0 X ca) ro μ1 H1 D (BL X.K) μ acc h H ∧ SrcR (w0 X ca) ro μ H s1 J1 ∧ RelL X.K μ H l2 σ2) (acc0 := acc)
              (fun c => ⟨c.1.R, c.2.1⟩) (fun c st R => ⟨c.1.onL st R, c.2.1.step c.1.R st, c.2.2.step c.1.R st⟩) ?_ rfl et ⟨c4, sr1, L4⟩ fun μ5 H5 c5 => hx μ5 H5 ⟨c5.1, (sr.to E0).step (A1.R.to E0) c5.1.st, A1.L.step A1.R c5.1.st⟩
            exact fun et c d ⟨r, er⟩ Nx hx => turn_body hD hsl1 et c.1 c.2.2 d (by have := congrArg List.length er; simp only [List.length_append] at this; omega) Nx fun μ' H' c' k => hx μ' H' ⟨c', c.2.1.kp k, c.2.2.kp k⟩
    · exact (sr.to E0).step (A1.R.to E0) (Step.laid hD)
theorem sim_lc2 {iter elt tg1 iter1 : Expr} {ifs1 : List Expr} {scope : Scope} {own : List (Str × Nat)} {vs1 ws1 : List Nat} {mt mt1 : AV → Loc' → Option Loc'} {mi mi1 : Loc' → AH → R Src} {mc me : Loc' → AH → R AV} (hc : X.calm = true) (hN : X.N.Nodup) (hi : SimI X (wd X ca E) tg iter mi) (ok : BlkOk X.N X.env.scope scope own) (hv : ∀ i ∈ vs1, i ∈ own.map (·.2))
    (hg : InB X scope fun Y => SimG Y (w0 X ca) tg ws mt) (hi1 : InB X scope fun Y => SimI Y (w0 X ca) tg1 iter1 mi1) (hg1 : InB X scope fun Y => SimG Y (w0 X ca) tg1 ws1 mt1) (ht : InB X scope fun Y => SimTs Y (w0 X ca) ifs1 mc) (he : InB X scope fun Y => SimE Y (w0 X ca) elt me) (hsl : ∀ i ∈ ws, i ∈ own.map (·.2)) (hsl1 : ∀ i ∈ ws1, i ∈ vs1) (hs : ∀ x, foldedSetIterable iter X.env x = pure x) (hs1 : ∀ env x, foldedSetIterable iter1 env x = pure x) :
    SimE X (wd X ca E) (.ListComp elt [⟨tg, iter, [], 0⟩, ⟨tg1, iter1, ifs1, 0⟩] scope pos) (mLc2 (own.map (·.2)) vs1 mt mi mi1 mt1 mc me) :=
  PE.weaken (pe_lc2 hc hN hi ok hv hg (fun _ _ _ _ _ => pts_nil) hi1 hg1 ht he hs hs1) fun σ H Q => lc2_imp hsl hsl1
end
end Ev
set_option Elab.async false
set_option linter.all false
set_option maxRecDepth 100000
set_option maxHeartbeats 4000000
/-! statements -/
namespace Ev
open PySem PySem.Spec PyProof.Rows L2
abbrev MS := Loc' → AH → RS
abbrev ME := Loc' → AH → R AV
def postS (W : Wd) (ro : Nat) (μ : Mu) (H : Hp) (r : RS) (D : Ends) : Prop := match r with
  | .nx l' h' => ∀ μ' σ' H', Step ro μ H μ' H' → At W ro μ' l' h' σ' H' → D.nx σ' H'
  | .rt v h' => ∀ μ' u H', Step ro μ H μ' H' → RelH W ro μ' h' H' → Den W.K μ' H' v u → D.rt u H'
  | .ex x h' => ∀ μ' H' cls d, Step ro μ H μ' H' → RelH W ro μ' h' H' → XRel W μ' H' x cls d → W.E cls d H'
  | .bad => False
theorem postS.later {W : Wd} {ro : Nat} {μ μ1 : Mu} {H H1 : Hp} {r : RS} {D : Ends} (p : postS W ro μ H r D) (st : Step ro μ H μ1 H1) : postS W ro μ1 H1 r D := by
  cases r with
  | nx l h => exact fun μ2 σ2 H2 st2 A => p μ2 σ2 H2 (st.trans st2) A
  | rt v h => exact fun μ2 u H2 st2 R d => p μ2 u H2 (st.trans st2) R d
  | ex x h => exact fun μ2 H2 c d st2 => p μ2 H2 c d (st.trans st2)
  | bad => exact p
def tS (W : Wd) (m : MS) : TS := fun D σ H => ∃ ro μ l h, At W ro μ l h σ H ∧ postS W ro μ H (m l h) D
abbrev SimS (X : Cx) (W : Wd) (st : Stmt) (m : MS) : Prop := PS X st (tS W m)
abbrev SimSs (X : Cx) (W : Wd) (sts : List Stmt) (m : MS) : Prop := PSs X sts (tS W m)
theorem PS.weaken {X : Cx} {st : Stmt} {t t' : TS} (p : PS X st t) (h : ∀ D σ H, t' D σ H → t D σ H) : PS X st t' := ⟨fun pins s σ H D I q => p.run pins s σ H D I (h D σ H q)⟩
theorem PSs.weaken {X : Cx} {st : List Stmt} {t t' : TS} (p : PSs X st t) (h : ∀ D σ H, t' D σ H → t D σ H) : PSs X st t' := ⟨fun pins s σ H D I q => p.run pins s σ H D I (h D σ H q)⟩
/-- an expression, then the rest -/
theorem toS_P {α β : Type} (Dn : Mu → Hp → α → β → Prop) {W : Wd} {ro : Nat} {μ : Mu} {l : Loc'} {h : AH} {σ : L2.St} {H : Hp} {r : R α} {k : α → AH → RS} {D : Ends} (A : At W ro μ l h σ H) (p : postS W ro μ H (r.toS k) D) :
    postG Dn W ro μ H r fun u H1 => ∃ μ1 v h1, At W ro μ1 l h1 σ H1 ∧ Dn μ1 H1 v u ∧ Step ro μ H μ1 H1 ∧ postS W ro μ1 H1 (k v h1) D := by
  cases r with
  | ok v h1 => exact fun μ1 u H1 st R d => ⟨μ1, v, h1, ⟨A.L.step A.R st, R⟩, d, st, postS.later (show postS W ro μ H (k v h1) D from p) st⟩
  | ex x h1 => exact p
  | bad => exact p
def mSeq (m1 m2 : MS) : MS := fun l h => (m1 l h).bind m2
def mNx : MS := fun l h => .nx l h
def mEx (me : ME) : MS := fun l h => (me l h).toS fun _ h1 => .nx l h1
def mAs (mt : AV → Loc' → Option Loc') (me : ME) : MS := fun l h => (me l h).toS fun v h1 => match mt v l with
  | some l1 => .nx l1 h1
  | none => .bad
def mSet (i : Nat) (me : ME) : MS := fun l h => (me l h).toS fun v h1 => .nx (l.set i (some v)) h1
def mPar (i j : Nat) (ma mb : ME) : MS := fun l h => (ma l h).toS fun v h1 => (mb l h1).toS fun u h2 => .nx ((l.set i (some v)).set j (some u)) h2
def mAtt (mo : ME) (alts : List (Nat × Nat)) (mv : ME) : MS := fun l h => (mv l h).toS fun v h1 => (mo l h1).toS fun x h2 => (setA x alts v h2).toS fun _ h3 => .nx l h3
def mAug (mo : ME) (alts : List (Nat × Nat)) (mv : ME) : MS := fun l h => (mo l h).toS fun x h1 => (attA x alts h1).toS fun y h2 => (mv l h2).toS fun z h3 => match y, z with
  | .int i, .int j => (setA x alts (.int (i + j)) h3).toS fun _ h4 => .nx l h4
  | _, _ => .bad
def mPut (md mk mv : ME) : MS := fun l h => (mv l h).toS fun v h1 => (md l h1).toS fun x h2 => (mk l h2).toS fun y h3 => (putD x y v h3).toS fun _ h4 => .nx l h4
def mIf (mc : ME) (ma mb : MS) : MS := fun l h => (mc l h).toS fun v h1 => match v with
  | .bl true => ma l h1
  | .bl false => mb l h1
  | _ => .bad
def mWhl (mc : ME) (mb : MS) : MS := fun l h => whileLoop mc mb turns l h
def mFor (mt : AV → Loc' → Option Loc') (mi : Loc' → AH → R Src) (mb : MS) : MS := fun l h => (mi l h).toS fun s h1 => forLoop s (fun x l h => match mt x l with
  | some l1 => mb l1 h
  | none => .bad) turns 0 l h1
def mRet (me : ME) : MS := fun l h => (me l h).toS fun v h1 => .rt v h1
def mNever : MS := fun _ _ => .bad
section
variable {X : Cx} {ca : Ca} {E : XK} {e o a b c : Expr} {st : Stmt} {rest : List Stmt} {ma mb mc me : ME} {m1 m2 : MS} {pos p p' : Pos} {ws : List Nat}
theorem sims_nil : SimSs X (wd X ca E) [] mNx := PSs.weaken pss_nil fun D σ H ⟨ro, μ, l, h, A, p⟩ => p μ σ H Step.refl A
theorem sims_cons (h1 : SimS X (wd X ca E) st m1) (h2 : SimSs X (wd X ca E) rest m2) : SimSs X (wd X ca E) (st :: rest) (mSeq m1 m2) :=
  PSs.weaken (pss_cons h1 h2) fun D σ H ⟨ro, μ, l, h, A, p⟩ => ⟨ro, μ, l, h, A, by
    have p : postS (wd X ca E) ro μ H ((m1 l h).bind m2) D := p
    cases e : m1 l h with
    | nx l1 h1 =>
      rw [e] at p
      exact fun μ1 σ1 H1 st A1 => ⟨ro, μ1, l1, h1, A1, postS.later (show postS (wd X ca E) ro μ H (m2 l1 h1) D from p) st⟩
    | rt v h1 => rw [e] at p; exact p
    | ex x h1 => rw [e] at p; exact p
    | bad => rw [e] at p; exact p⟩
theorem sims_one (h1 : SimS X (wd X ca E) st m1) : SimSs X (wd X ca E) [st] m1 := pss_one h1
theorem sims_pass : SimS X (wd X ca E) (.Pass pos) mNx := PS.weaken ps_pass fun D σ H ⟨ro, μ, l, h, A, p⟩ => p μ σ H Step.refl A
theorem sims_doc {x : Str} {j : Nat} : SimS X (wd X ca E) (.Expr (.Constant (.str x) j p) pos) mNx := PS.weaken ps_doc fun D σ H ⟨ro, μ, l, h, A, p⟩ => p μ σ H Step.refl A
theorem sims_never : SimS X (wd X ca E) st mNever := PS.weaken ps_never fun D σ H ⟨ro, μ, l, h, A, p⟩ => p
theorem simss_never : SimSs X (wd X ca E) rest mNever := PSs.weaken pss_never fun D σ H ⟨ro, μ, l, h, A, p⟩ => p
theorem sims_ex (he : SimE X (wd X ca E) e me) (hs : swapsWith e none pos.line X.env = pure false) : SimS X (wd X ca E) (.Expr e pos) (mEx me) :=
  PS.weaken (ps_expr he hs) fun D σ H ⟨ro, μ, l, h, A, p⟩ => ⟨ro, μ, l, h, A, (toS_P (dV _) A p).imp fun u H1 ⟨μ1, v, h1, A1, d, st, q⟩ => q μ1 σ H1 Step.refl A1⟩
theorem sims_ret (he : SimE X (wd X ca E) e me) : SimS X (wd X ca E) (.Return (some e) pos) (mRet me) :=
  PS.weaken (ps_ret he) fun D σ H ⟨ro, μ, l, h, A, p⟩ => ⟨ro, μ, l, h, A, (toS_P (dV _) A p).imp fun u H1 ⟨μ1, v, h1, A1, d, st, q⟩ => q μ1 u H1 Step.refl A1.R d⟩
theorem sims_as {tg : Expr} {mt : AV → Loc' → Option Loc'} (he : SimE X (wd X ca E) e me) (hg : SimG X (wd X ca E) tg ws mt) (hs : swapsWithSole [tg] e pos.line X.env = pure false) (hw : swappedStores [tg] e X.env = pure none)
    (h1 : (assignEach [tg] X.env).map (·.2) = [assign tg X.env]) : SimS X (wd X ca E) (.Assign [tg] e pos) (mAs mt me) :=
  PS.weaken (ps_asg he hg hs hw h1) fun D σ H ⟨ro, μ, l, h, A, p⟩ => ⟨ro, μ, l, h, A, (toS_P (dV _) A p).imp fun u H1 ⟨μ1, v, h1, A1, d, st, q⟩ => by
    cases e1 : mt v l with
    | none => rw [e1] at q; exact False.elim q
    | some l1 =>
      rw [e1] at q
      exact ⟨ro, μ1, l, h1, v, l1, A1, d, e1, fun σ' L _ _ => q μ1 σ' H1 Step.refl ⟨L, A1.R⟩⟩⟩
theorem sims_set {i : Nat} {x : Str} (hN : X.N.Nodup) (hi : X.N[i]? = some x) (hx : Loc X.env.scope x) (he : SimE X (wd X ca E) e me) (hs : swapsWith e (some (.Name x p)) pos.line X.env = pure false) (hf : X.fn x = true ∨ X.env.scope.names.lookup x = some .local) :
    SimS X (wd X ca E) (.Assign [.Name x p] e pos) (mSet i me) :=
  PS.weaken (ps_set hN hi hx he hs hf) fun D σ H ⟨ro, μ, l, h, A, p⟩ => ⟨ro, μ, l, h, A, (toS_P (dV _) A p).imp fun u H1 ⟨μ1, v, h1, A1, d, st, q⟩ => q μ1 _ H1 Step.refl ⟨A1.L.set d, A1.R⟩⟩
/-- name = [..] -/
theorem sims_lc {i : Nat} {y : Str} {py : Pos} {elt tg iter : Expr} {ifs : List Expr} {scope : Scope} {own : List (Str × Nat)} {mt : AV → Loc' → Option Loc'} {mi : Loc' → AH → R Src} (hc : X.calm = true) (hN : X.N.Nodup) (hy : X.N[i]? = some y) (hyl : X.env.scope.names.lookup y = some .local)
    (hsw : swapsWith (.ListComp elt [⟨tg, iter, ifs, 0⟩] scope p) (some (.Name y py)) pos.line X.env = pure true) (hi : SimI X (wd X ca E) tg iter mi) (ok : BlkOk X.N X.env.scope scope own)
    (hg : InB X scope fun Y => SimG Y (w0 X ca) tg ws mt) (ht : InB X scope fun Y => SimTs Y (w0 X ca) ifs mc) (he : InB X scope fun Y => SimE Y (w0 X ca) elt me) (hsl : ∀ i ∈ ws, i ∈ own.map (·.2)) (hs : ∀ x, foldedSetIterable iter X.env x = pure x) :
    SimS X (wd X ca E) (.Assign [.Name y py] (.ListComp elt [⟨tg, iter, ifs, 0⟩] scope p) pos) (mSet i (mLc (own.map (·.2)) mt mi mc me)) :=
  PS.weaken (ps_setLc hc hN hy hyl hsw hi ok hg ht he hs) fun D σ H ⟨ro, μ, l, h, A, p⟩ => lc_imp hsl ⟨ro, μ, l, h, A, (toS_P (dV _) A p).imp fun u H1 ⟨μ1, v, h1, A1, d, st, q⟩ => q μ1 _ H1 Step.refl ⟨A1.L.set d, A1.R⟩⟩
theorem sims_lc2 {i : Nat} {y : Str} {py : Pos} {iter elt tg tg1 iter1 : Expr} {ifs1 : List Expr} {scope : Scope} {own : List (Str × Nat)} {vs1 ws1 : List Nat} {mt mt1 : AV → Loc' → Option Loc'} {mi mi1 : Loc' → AH → R Src} (hc : X.calm = true) (hN : X.N.Nodup) (hy : X.N[i]? = some y) (hyl : X.env.scope.names.lookup y = some .local)
    (hsw : swapsWith (.ListComp elt [⟨tg, iter, [], 0⟩, ⟨tg1, iter1, ifs1, 0⟩] scope p) (some (.Name y py)) pos.line X.env = pure true) (hi : SimI X (wd X ca E) tg iter mi) (ok : BlkOk X.N X.env.scope scope own) (hv : ∀ i ∈ vs1, i ∈ own.map (·.2))
    (hg : InB X scope fun Y => SimG Y (w0 X ca) tg ws mt) (hi1 : InB X scope fun Y => SimI Y (w0 X ca) tg1 iter1 mi1) (hg1 : InB X scope fun Y => SimG Y (w0 X ca) tg1 ws1 mt1) (ht : InB X scope fun Y => SimTs Y (w0 X ca) ifs1 mc) (he : InB X scope fun Y => SimE Y (w0 X ca) elt me) (hsl : ∀ i ∈ ws, i ∈ own.map (·.2)) (hsl1 : ∀ i ∈ ws1, i ∈ vs1) (hs : ∀ x, foldedSetIterable iter X.env x = pure x) (hs1 : ∀ env x, foldedSetIterable iter1 env x = pure x) :
    SimS X (wd X ca E) (.Assign [.Name y py] (.ListComp elt [⟨tg, iter, [], 0⟩, ⟨tg1, iter1, ifs1, 0⟩] scope p) pos) (mSet i (mLc2 (own.map (·.2)) vs1 mt mi mi1 mt1 mc me)) :=
  PS.weaken (ps_setLc2 hc hN hy hyl hsw hi ok hv hg (fun _ _ _ _ _ => pts_nil) hi1 hg1 ht he hs hs1) fun D σ H ⟨ro, μ, l, h, A, p⟩ => lc2_imp hsl hsl1 ⟨ro, μ, l, h, A, (toS_P (dV _) A p).imp fun u H1 ⟨μ1, v, h1, A1, d, st, q⟩ => q μ1 _ H1 Step.refl ⟨A1.L.set d, A1.R⟩⟩
theorem sims_par {i j : Nat} {x y : Str} {px py pt pt2 : Pos} {kt k2 : Nat} (hc : X.calm = true) (hN : X.N.Nodup) (hi : X.N[i]? = some x) (hj : X.N[j]? = some y) (hij : i ≠ j) (hx : X.env.scope.names.lookup x = some .local) (hy : X.env.scope.names.lookup y = some .local) (ha : SimE X (wd X ca E) a ma) (hb : SimE X (wd X ca E) b mb)
    (hna : notStar a = true) (hnb : notStar b = true) (hw : swappedStores [.Tuple [.Name x px, .Name y py] kt pt] (.Tuple [a, b] k2 pt2) X.env = pure (some [x, y])) (hs : swapsWithSole [.Tuple [.Name x px, .Name y py] kt pt] (.Tuple [a, b] k2 pt2) pos.line X.env = pure false) :
    SimS X (wd X ca E) (.Assign [.Tuple [.Name x px, .Name y py] kt pt] (.Tuple [a, b] k2 pt2) pos) (mPar i j ma mb) :=
  PS.weaken (ps_par hc hN hi hj hij hx hy (pa_cons ha (one_of hb hnb) (star_one hna)) hw hs) fun D σ H ⟨ro, μ, l, h, A, p⟩ => ⟨ro, μ, l, h, A, (toS_P (dV _) A p).imp fun u H1 ⟨μ1, v, h1, A1, d, st, q⟩ => ⟨ro, μ1, l, h1, A1, (toS_P (dV _) A1 q).imp fun u2 H2 ⟨μ2, v2, h2, A2, d2, st2, q2⟩ =>
    ⟨u, u2, rfl, q2 μ2 _ H2 Step.refl ⟨(A2.L.set (A1.R.den st2 d)).set d2, A2.R⟩⟩⟩⟩
/-! slots -/
theorem slH_same {H : Hp} {a C dx : Addr} {vs : List (Option V)} (h : H dx = some (.xd [])) : SlX.slH H a C dx vs = upd H a (SlX.SlO a C dx vs) := by
  unfold SlX.slH
  have : upd H dx (.xd []) = H := by
    funext b
    by_cases e : b = dx
    · subst e; rw [upd_same, h]
    · rw [upd_ne e]
  rw [this]
theorem putS_rel {K : PySem.W.Frag} {μ : Mu} {H : Hp} {fs : List (Option AV)} {vs : List (Option V)} {i : Nat} {y : AV} {u : V} (hf : ∀ (i : Nat) v, fs[i]? = some (some v) → ∃ u, vs[i]? = some (some u) ∧ Den K μ H v u) (d : Den K μ H y u) :
    ∀ (j : Nat) v, (putS' i y fs)[j]? = some (some v) → ∃ u', (SlX.putS i u vs)[j]? = some (some u') ∧ Den K μ H v u' := fun j v e => by
  by_cases hj : j = i
  · subst hj
    refine ⟨u, SlX.putS_get .., ?_⟩
    unfold putS' at e
    rw [List.getElem?_set_self (by simp only [List.length_append, List.length_replicate]; omega)] at e
    cases e
    exact d
  · have e' : fs[j]? = some (some v) := by
      unfold putS' at e
      rw [List.getElem?_set_ne (Ne.symm hj)] at e
      rcases Nat.lt_or_ge j fs.length with h1 | h1
      · rwa [List.getElem?_append_left h1] at e
      · rw [List.getElem?_append_right h1, List.getElem?_replicate] at e
        split at e <;> cases e
    obtain ⟨u', h1, h2⟩ := hf j v e'
    exact ⟨u', (SlX.putS_ne hj).mpr h1, h2⟩
/-- a slot is set -/
theorem setA_of {ro : Nat} {μ : Mu} {h h' : AH} {H : Hp} {x y r : AV} {u w : V} {alts : List (Nat × Nat)} {f : Str} (R : RelH (wd X ca E) ro μ h H) (dx : Den X.K μ H x u) (dy : Den X.K μ H y w) (hk : ∀ q ∈ alts, SltK X ca f q) (e : setA x alts y h = .ok r h') :
    ∃ a C ddx pp vs i, u = .ref a ∧ SlX.Slt H a C ddx vs ∧ SlX.SCls X.K C ∧ SlX.Slot1 X.K C f pp i ∧ Step ro μ H μ (SlX.slH H a C ddx (SlX.putS i w vs)) ∧ RelH (wd X ca E) ro μ h' (SlX.slH H a C ddx (SlX.putS i w vs)) := by
  unfold setA at e
  cases dx with
  | @obj n b hn =>
    dsimp only at e
    cases g : h.get n with
    | none => rw [g] at e; cases e
    | some oo =>
      rw [g] at e
      cases oo with
      | ins c fs =>
        dsimp only at e
        cases e2 : altOf c alts with
        | none => rw [e2] at e; cases e
        | some i =>
          rw [e2] at e
          dsimp only at e
          cases e3 : Nat.ble h.ro n with
          | false => rw [e3] at e; cases e
          | true =>
            rw [e3] at e
            cases e
            have hr : ro ≤ n := by rw [← R.roe]; exact Nat.le_of_ble_eq_true e3
            obtain ⟨n', b', ddx, vs, ev, hn', eu, g', hs, h1, h2, hf⟩ := ins_slt R (Den.obj hn) (show insOf h (.obj n) = some (c, fs) by unfold insOf; dsimp only; rw [g])
            cases ev
            rw [hn] at hn'; cases hn'
            obtain ⟨k1, dd, k2⟩ := hk _ (alt_mem e2)
            refine ⟨b, ca c, ddx, dd, vs, i, rfl, hs, k1, k2, ?_⟩
            rw [slH_same h2]
            have st : Step ro μ H μ (upd H b (SlX.SlO b (ca c) ddx (SlX.putS i w vs))) := Step.write hn hr
            refine ⟨st, R.write hn hr g (by rw [h1]; unfold SlX.SlO; intro z; cases z) ⟨ddx, _, upd_same, ?_, ?_⟩⟩
            · rw [upd_ne (fun z => by rw [z, h1] at h2; unfold SlX.SlO at h2; cases h2)]; exact h2
            · exact putS_rel (fun j v e => let ⟨u, q1, q2⟩ := hf j v e; ⟨u, q1, R.den st q2⟩) (R.den st dy)
      | _ => cases e
  | _ => cases e
theorem setA_nox {x y : AV} {alts : List (Nat × Nat)} {h : AH} {z : AX} {h' : AH} : setA x alts y h ≠ .ex z h' := fun e => by
  unfold setA at e
  split at e
  · split at e
    · split at e
      · split at e <;> cases e
      · cases e
    · cases e
  · cases e
theorem sims_att {f : Str} {alts : List (Nat × Nat)} {mo mv : ME} (ho : SimE X (wd X ca E) o mo) (hv : SimE X (wd X ca E) e mv) (hk : ∀ q ∈ alts, SltK X ca f q) (hs : swapsWith e (some (.Attribute o f p')) pos.line X.env = pure false) :
    SimS X (wd X ca E) (.Assign [.Attribute o f p'] e pos) (mAtt mo alts mv) :=
  PS.weaken (SlX.ps_sl ho hv hs) fun D σ H ⟨ro, μ, l, h, A, p⟩ => ⟨ro, μ, l, h, A, (toS_P (dV _) A p).imp fun u H1 ⟨μ1, v, h1, A1, d, st, q⟩ => ⟨ro, μ1, l, h1, A1, (toS_P (dV _) A1 q).imp fun u2 H2 ⟨μ2, x, h2, A2, d2, st2, q2⟩ => by
    cases es : setA x alts v h2 with
    | bad => rw [es] at q2; exact False.elim q2
    | ex z hz => exact absurd es setA_nox
    | ok r h3 =>
      rw [es] at q2
      obtain ⟨a, C, ddx, pp, vs, i, eu, k1, k2, k3, k4, k5⟩ := setA_of A2.R d2 (A1.R.den st2 d) hk es
      exact ⟨a, C, ddx, pp, vs, i, eu, k1, k2, k3, q2 μ2 σ _ k4 ⟨A2.L.step A2.R k4, k5⟩⟩⟩⟩
/-! control -/
theorem sims_if {ms1 ms2 : MS} {ss1 ss2 : List Stmt} (hc : SimT X (wd X ca E) c mc) (ha : SimSs X (wd X ca E) ss1 ms1) (hb : SimSs X (wd X ca E) ss2 ms2) : SimS X (wd X ca E) (.If c ss1 ss2 pos) (mIf mc ms1 ms2) :=
  PS.weaken (ps_if hc ha hb) fun D σ H ⟨ro, μ, l, h, A, p⟩ => ⟨ro, μ, l, h, A, by
    have p : postS (wd X ca E) ro μ H ((mc l h).toS fun v h1 => match v with | .bl true => ms1 l h1 | .bl false => ms2 l h1 | _ => .bad) D := p
    cases e : mc l h with
    | bad => rw [e] at p; exact p
    | ex x h1 => rw [e] at p; exact p
    | ok v h1 =>
      rw [e] at p
      cases v with
      | bl k =>
        intro μ1 k' H1 st R1 ek
        cases ek
        cases k with
        | true => rw [if_pos rfl]; exact ⟨ro, μ1, l, h1, ⟨A.L.step A.R st, R1⟩, postS.later (show postS (wd X ca E) ro μ H (ms1 l h1) D from p) st⟩
        | false => rw [if_neg Bool.false_ne_true]; exact ⟨ro, μ1, l, h1, ⟨A.L.step A.R st, R1⟩, postS.later (show postS (wd X ca E) ro μ H (ms2 l h1) D from p) st⟩
      | _ => exact False.elim p⟩
theorem sims_whl {mb : MS} {body : List Stmt} (hp : PassesOwn (model X.prog X.w) X.A X.env X.xe) (hc : SimT X (wd X ca E) c mc) (hb : SimSs X (wd X ca E) body mb) : SimS X (wd X ca E) (.While c body [] pos) (mWhl mc mb) :=
  PS.weaken (ps_while hp hc hb) fun D σ H ⟨ro, μ, l, h, A, p⟩ => by
    refine ⟨fun m σ' H' => ∃ μ' l' h', Step ro μ H μ' H' ∧ At (wd X ca E) ro μ' l' h' σ' H' ∧ postS (wd X ca E) ro μ H (whileLoop mc mb m l' h') D, ⟨turns, μ, l, h, Step.refl, A, p⟩, ?_⟩
    rintro m σ1 H1 ⟨μ1, l1, h1, st1, A1, p1⟩
    cases m with
    | zero => exact False.elim p1
    | succ m =>
      have p1 : postS (wd X ca E) ro μ H ((mc l1 h1).toS fun v h2 => match v with | .bl true => (mb l1 h2).bind fun l2 h3 => whileLoop mc mb m l2 h3 | .bl false => .nx l1 h2 | _ => .bad) D := p1
      have p2 := p1.later st1
      refine ⟨ro, μ1, l1, h1, A1, ?_⟩
      cases e : mc l1 h1 with
      | bad => rw [e] at p2; exact p2
      | ex x hx => rw [e] at p2; exact p2
      | ok v h2 =>
        rw [e] at p2
        cases v with
        | bl k =>
          intro μ2 k' H2 st2 R2 ek
          cases ek
          have A2 : At (wd X ca E) ro μ2 l1 h2 σ1 H2 := ⟨A1.L.step A1.R st2, R2⟩
          have st12 := st1.trans st2
          cases k with
          | false =>
            rw [if_neg Bool.false_ne_true]
            exact p2 μ2 σ1 H2 st2 A2
          | true =>
            rw [if_pos rfl]
            have p3 : postS (wd X ca E) ro μ1 H1 ((mb l1 h2).bind fun l2 h3 => whileLoop mc mb m l2 h3) D := p2
            refine ⟨fun σ' H' => ∃ μ' l' h', Step ro μ H μ' H' ∧ At (wd X ca E) ro μ' l' h' σ' H' ∧ postS (wd X ca E) ro μ H (whileLoop mc mb m l' h') D, fun σ' H' q => ⟨m, Nat.lt_succ_self _, q⟩, ro, μ2, l1, h2, A2, ?_⟩
            rw [e] at p1
            have p4 : postS (wd X ca E) ro μ H ((mb l1 h2).bind fun l2 h3 => whileLoop mc mb m l2 h3) D := p1
            cases e3 : mb l1 h2 with
            | nx l3 h3 =>
              rw [e3] at p4
              exact fun μ3 σ3 H3 st3 A3 => ⟨μ3, l3, h3, st12.trans st3, A3, p4⟩
            | rt v h3 => rw [e3] at p4; exact fun μ3 u H3 st3 => p4 μ3 u H3 (st12.trans st3)
            | ex x h3 => rw [e3] at p4; exact fun μ3 H3 c d st3 => p4 μ3 H3 c d (st12.trans st3)
            | bad => rw [e3] at p4; exact p4
        | _ => exact False.elim p2
theorem sims_for {tg iter : Expr} {mt : AV → Loc' → Option Loc'} {mi : Loc' → AH → R Src} {mb : MS} {body : List Stmt} (hp : PassesOwn (model X.prog X.w) X.A X.env X.xe) (hc : X.calm = true) (hi : SimI X (wd X ca E) tg iter mi) (hg : SimG X (wd X ca E) tg ws mt) (hb : SimSs X (wd X ca E) body mb) (hs : ∀ x, foldedSetIterable iter X.env x = pure x) :
    SimS X (wd X ca E) (.For tg iter body [] pos) (mFor mt mi mb) :=
  PS.weaken (ps_for hp hc hi hg hb hs) fun D σ H ⟨ro, μ, l, h, A, p⟩ => ⟨ro, μ, l, h, A, (toS_P (fun μ H => SrcR (wd X ca E) ro μ H) A p).imp fun J H0 ⟨μ0, s, h0, A0, sr, st0, p0⟩ => by
    refine ⟨fun i m σ' H' => ∃ μ' l' h', Step ro μ0 H0 μ' H' ∧ At (wd X ca E) ro μ' l' h' σ' H' ∧ postS (wd X ca E) ro μ0 H0 (forLoop s (fun x l h => match mt x l with | some l1 => mb l1 h | none => .bad) m i l' h') D, ⟨turns, μ0, l, h0, Step.refl, A0, p0⟩, ?_⟩
    rintro i m σ1 H1 ⟨μ1, l1, h1, st1, A1, p1⟩
    cases m with
    | zero => exact False.elim p1
    | succ m =>
      have p1 : postS (wd X ca E) ro μ0 H0 (match s.at h1 i with
        | some (some x) => (match mt x l1 with | some l2 => mb l2 h1 | none => .bad).bind fun l2 h2 => forLoop s (fun x l h => match mt x l with | some l1 => mb l1 h | none => .bad) m (i + 1) l2 h2
        | some none => .nx l1 h1
        | none => .bad) D := p1
      have sr1 := sr.step A0.R st1
      cases ea : s.at h1 i with
      | none => rw [ea] at p1; exact False.elim p1
      | some oo =>
        rw [ea] at p1
        cases oo with
        | none => exact .inl ⟨sr1.stop A1.R ea, p1 μ1 σ1 H1 st1 A1⟩
        | some x =>
          obtain ⟨g, y⟩ := sr1.go A1.R ea
          refine .inr ⟨g, fun σ' H' => ∃ μ' l' h', Step ro μ0 H0 μ' H' ∧ At (wd X ca E) ro μ' l' h' σ' H' ∧ postS (wd X ca E) ro μ0 H0 (forLoop s (fun x l h => match mt x l with | some l1 => mb l1 h | none => .bad) m (i + 1) l' h') D, fun σ' H' q => ⟨m, Nat.lt_succ_self _, q⟩, fun v H' yv => ?_⟩
          obtain ⟨st2, R2, d⟩ := y v H' yv
          have A2 : At (wd X ca E) ro μ1 l1 h1 σ1 H' := ⟨A1.L.step A1.R st2, R2⟩
          dsimp only at p1
          cases e1 : mt x l1 with
          | none => rw [e1] at p1; exact False.elim p1
          | some l2 =>
            rw [e1] at p1
            dsimp only at p1
            refine ⟨ro, μ1, l1, h1, x, l2, A2, d, e1, fun σ2 L2' _ _ => ⟨ro, μ1, l2, h1, ⟨L2', A2.R⟩, ?_⟩⟩
            have st12 := st1.trans st2
            cases e3 : mb l2 h1 with
            | nx l3 h3 =>
              rw [e3] at p1
              exact fun μ3 σ3 H3 st3 A3 => ⟨μ3, l3, h3, st12.trans st3, A3, p1⟩
            | rt v h3 => rw [e3] at p1; exact fun μ3 u H3 st3 => p1 μ3 u H3 (st12.trans st3)
            | ex x h3 => rw [e3] at p1; exact fun μ3 H3 c d st3 => p1 μ3 H3 c d (st12.trans st3)
            | bad => rw [e3] at p1; exact p1⟩
end
end Ev
set_option Elab.async false
set_option linter.all false
set_option maxRecDepth 100000
set_option maxHeartbeats 4000000
/-! dicts: displays, comprehensions, stores -/
namespace Ev
open PySem PySem.Spec PyProof.Rows L2
def mD0 : ME := fun _ h => alloc h (.dct [])
def mD1 (mk mv : ME) : ME := fun l h => (mk l h).bind fun a h1 => (mv l h1).bind fun b h2 => match AV.tkey a with
  | some q => alloc h2 (.dct [(a, b)])
  | none => .bad
theorem do_new {P : Program} {w : World} {H : Hp} (h : Heap) : ObjOk P w H (h.push { cls := .type "dict", data := .dict #[] }) h.objs.size (DO P w h.objs.size []) := do_ok (Heap.DictOfH.new h)
theorem do_not {P : Program} {w : World} {a : Addr} {xs : List (NestedKey × Addr × Value)} : (∀ ys, DO P w a xs ≠ .tup ys) ∧ (∀ o ys, DO P w a xs ≠ .frz o (.tup ys)) ∧ DO P w a xs ≠ .xd [] := by
  unfold DO
  exact ⟨fun ys z => (by cases z), fun o ys z => (by cases z), fun z => (by cases z)⟩
/-- the dict at D that grows: by the pairs put so far -/
def BD (P : Program) (w : World) (K : PySem.W.Frag) (D : Addr) : Mu → Hp → List AV → HO → Prop := fun μ H acc o => ∃ kvs xs, dictOfL acc [] = some kvs ∧ o = DO P w D xs ∧ Paired (RelKv K μ H) kvs xs ∧ kvs.length ≤ acc.length
section
variable {X : Cx} {ca : Ca} {E : XK} {a b e o tg : Expr} {ma mb mc me mk mv : ME} {pos p p' : Pos} {ws : List Nat}
theorem sim_d0 : SimE X (wd X ca E) (.Dict [] [] pos) mD0 := by
  refine ⟨fun pins s σ H Q I ⟨ro, μ, l, h, A, p⟩ => wpAny_Dict_empty ?_⟩
  have hn := I.hok.fresh (Nat.le_refl s.heap.objs.size)
  have I1 := I.laid (a := s.heap.objs.size) (o := DO X.prog X.w s.heap.objs.size []) (h' := s.heap.push { cls := .type "dict", data := .dict #[] }) (t' := s.toks) (fun _ _ q => Heap.get?_push_of_some _ q) (Nat.le_refl _) (do_new s.heap)
  refine ⟨.ref s.heap.objs.size, _, I1, rfl, ?_⟩
  obtain ⟨_, q⟩ := postG.alloc A.R p
  exact q _ _ hn ⟨beq_eq_false_iff_ne.mpr (Ne.symm (Nat.ne_of_lt I.big)), Nat.zero_le _, [], .inl upd_same, .nil⟩
theorem rkOf {K : PySem.W.Frag} {μ μ' : Mu} {H H' : Hp} {kvs : List (AV × AV)} {xs : List (NestedKey × Addr × Value)} (p : Paired (RelKv K μ H) kvs xs) (d : ∀ x v, Den K μ H x v → Den K μ' H' x v) : Paired (RelKv K μ' H') kvs xs :=
  Paired.mono' p fun p x ⟨q1, q2, u, q3, q4⟩ => ⟨q1, d _ _ q2, u, q3, d _ _ q4⟩
theorem Col.onD {W : Wd} {ro : Nat} {μ μ' μ1 : Mu} {h h' : AH} {H H' H1 : Hp} {D : Addr} {acc : List AV} (c : Col W ro μ1 H1 D (BD W.P W.w W.K D) μ acc h H) (st : Step ro μ H μ' H') (R : RelH W ro μ' h' H') : Col W ro μ1 H1 D (BD W.P W.w W.K D) μ' acc h' H' :=
  c.on (fun o _ _ ⟨kvs, xs, e1, e2, p, hl⟩ => ⟨kvs, xs, e1, e2, rkOf p fun _ _ => c.R.den st, hl⟩) (fun o ⟨_, _, _, e, _⟩ ps z => by rw [e] at z; unfold DO at z; cases z) st R
/-- the dict at D becomes the machine's -/
theorem colD_end {W : Wd} {ro : Nat} {μ μ1 : Mu} {h : AH} {H H1 : Hp} {D : Addr} {PS : List AV} {kvs : List (AV × AV)} {Q : VK} (hD : H1 D = none) (hS : (D == sysModules) = false) (c : Col W ro μ1 H1 D (BD W.P W.w W.K D) μ PS h H) (hk : dictOfL PS [] = some kvs) (hz : PS.length ≤ sizeLine)
    (p : postG (dV W) W ro μ1 H1 (alloc h (.dct kvs)) Q) : Q (.ref D) H := by
  obtain ⟨o, q1, kvs', xs, e1, rfl, pr, hl⟩ := c.d
  rw [hk] at e1; cases e1
  unfold alloc at p
  cases e2 : Nat.blt h.n top with
  | false => rw [e2] at p; exact False.elim p
  | true =>
    rw [e2] at p
    have hn := blt_tt.mp e2
    refine p (muPut μ h.n D) (.ref D) H (c.st.mine hD (c.R.dom (Nat.le_refl _))) (c.R.own hn c.fr ⟨hS, Nat.le_trans hl hz, xs, .inl q1, pr⟩) (.obj ?_)
    unfold muPut
    rw [if_pos rfl]
theorem dictOf_app : ∀ {acc : List AV} {init kvs : List (AV × AV)} {k v : AV} {q : NestedKey}, dictOfL acc init = some kvs → AV.tkey k = some q → dictOfL (acc ++ [AV.tup [k, v]]) init = some (dput q k v kvs)
  | [], init, kvs, k, v, q, e, hk => by
    have ei : init = kvs := Option.some.inj e
    subst ei
    show (match AV.tkey k with | some q => dictOfL [] (dput q k v init) | none => none) = _
    rw [hk]
    rfl
  | x :: r, init, kvs, k, v, q, e, hk => by
    cases x with
    | tup xs =>
      match xs with
      | [k1, v1] =>
        have e' : (match AV.tkey k1 with | some q => dictOfL r (dput q k1 v1 init) | none => none) = some kvs := e
        show (match AV.tkey k1 with | some q => dictOfL (r ++ [AV.tup [k, v]]) (dput q k1 v1 init) | none => none) = _
        cases h1 : AV.tkey k1 with
        | none => rw [h1] at e'; cases e'
        | some q1 => rw [h1] at e'; exact dictOf_app e' hk
      | [] => cases e
      | [_] => cases e
      | _ :: _ :: _ :: _ => cases e
    | _ => cases e
/-- one more pair -/
theorem Col.put {pins : List (Addr × Obj)} {σ : L2.St} {s : Shared} {ro : Nat} {μ μ1 : Mu} {h : AH} {H H1 : Hp} {D : Addr} {acc : List AV} {k v : AV} {q : NestedKey} {y z : V} {u r : Value} {Q : Unit → Shared → Prop} {EE : Value → Shared → Prop} {A : Around} (hu : A.units + 9 < cLine) (I : Inv X pins σ H s) (hD : H1 D = none) (c : Col (wd X ca E) ro μ1 H1 D (BD X.prog X.w X.K D) μ acc h H) (hz : acc.length ≤ sizeLine)
    (hk : AV.tkey k = some q) (dk : Den X.K μ H k y) (ry : RelV y u) (dv : Den X.K μ H v z) (rz : RelV z r)
    (hq : ∀ H' s', Inv X pins σ H' s' → Col (wd X ca E) ro μ1 H1 D (BD X.prog X.w X.K D) μ (acc ++ [.tup [k, v]]) h H' → Kp (wd X ca E) ro μ H μ H' → Q () s') : wpAny (model X.prog X.w) A (dictSet D u r) Q EE s := by
  obtain ⟨o, q1, kvs, xs, e1, rfl, pr, hl⟩ := c.d
  refine do_set hu I q1 pr (Nat.le_trans hl hz) hk dk ry fun b s' ey I' => ?_
  subst ey
  obtain ⟨n1, n2, n3⟩ := do_not (P := X.prog) (w := X.w) (a := D) (xs := xs)
  have a1 : ∀ ys, H D ≠ some (.tup ys) := fun ys z => by rw [q1] at z; exact n1 ys (Option.some.inj z)
  have a2 : ∀ o ys, H D ≠ some (.frz o (.tup ys)) := fun o ys z => by rw [q1] at z; exact n2 o ys (Option.some.inj z)
  have a3 : H D ≠ some (.xd []) := fun z => by rw [q1] at z; exact n3 (Option.some.inj z)
  have up : ∀ x v, Den X.K μ H x v → Den X.K μ (upd H D (DO X.prog X.w D (storedH xs q b r))) x v := fun x v d => d.mono (fun _ _ e => e) fun _ _ s => sq_upd a1 a2 s
  refine hq _ s' I' ⟨c.R.side c.fr a1 a2 a3 (nocode_do q1), c.st.side hD, ⟨_, upd_same, dput q k v kvs, _, dictOf_app e1 hk, rfl, rkOf (dput_rel hk dk dv rz pr (do_nodup I q1)) up, ?_⟩, c.fr⟩ ?_
  · have := dput_len (k := q) (ky := k) (z := v) kvs
    rw [List.length_append]; simp only [List.length_cons, List.length_nil]; omega
  · exact ⟨fun _ _ e => e, fun _ _ s => sq_upd a1 a2 s, fun d o u e f => ⟨by rw [upd_ne (fun z => by rw [z, q1] at e; unfold DO at e; cases e)]; exact e, f⟩⟩
theorem sim_d1 (hu : X.A.units + 9 < cLine) (hk : SimE X (wd X ca E) a mk) (hv : SimE X (wd X ca E) b mv) : SimE X (wd X ca E) (.Dict [some a] [b] pos) (mD1 mk mv) := by
  refine ⟨fun pins s σ H Q I ⟨ro, μ, l, h, A, p⟩ => ?_⟩
  have hn := I.hok.fresh (Nat.le_refl s.heap.objs.size)
  have hS : (s.heap.objs.size == sysModules) = false := beq_eq_false_iff_ne.mpr (Ne.symm (Nat.ne_of_lt I.big))
  have I1 := I.laid (a := s.heap.objs.size) (o := DO X.prog X.w s.heap.objs.size []) (h' := s.heap.push { cls := .type "dict", data := .dict #[] }) (t' := s.toks) (fun _ _ q => Heap.get?_push_of_some _ q) (Nat.le_refl _) (do_new s.heap)
  generalize hDe : s.heap.objs.size = D at hn hS I1
  have e1 : eval (.Dict [some a] [b] pos) X.env = (do standAt pos; let d ← subDict [(eval a X.env, do let x ← eval b X.env; standAt pos; pure x)]; pure (.ref d)) := by
    rw [arm_eval_Dict, ← dictDisplay_pairs [(eval a X.env, do let x ← eval b X.env; standAt pos; pure x)] (by simp) (by show 1 < 17; decide)]
    rfl
  rw [e1]
  have st0 : Step ro μ H μ (upd H D (DO X.prog X.w D [])) := Step.laid hn
  have A1 : At (wd X ca E) ro μ l h σ (upd H D (DO X.prog X.w D [])) := ⟨A.L.step A.R st0, A.R.laid hn⟩
  refine wpAny_bind (wpAny_standAt (wpAny_bind (wpAny_subDictH (knd := nestedKind X.prog X.w) (show (nestedKind X.prog X.w).room X.A by show X.A.units + 8 < cLine; omega) (by show 1 ≤ 15; decide) ?_)))
  rw [hDe]
  have p0 : postG (dV (wd X ca E)) (wd X ca E) ro μ H ((mk l h).bind fun a h1 => (mv l h1).bind fun b h2 => match AV.tkey a with | some q => alloc h2 (.dct [(a, b)]) | none => .bad) Q := p
  have c0 : Col (wd X ca E) ro μ H D (BD X.prog X.w X.K D) μ [] h (upd H D (DO X.prog X.w D [])) := ⟨A1.R, st0, ⟨_, upd_same, [], [], rfl, rfl, .nil, Nat.le_refl _⟩, A.R.fresh hn⟩
  cases em : mk l h with
  | bad => rw [em] at p0; exact False.elim p0
  | ex x hx => rw [em] at p0; exact evalPairs_cons (thn (hk.run pins _ σ _ (fun _ _ => False) I1 ⟨ro, μ, l, h, A1, by rw [em]; exact fun μ2 H2 c d st => p0 μ2 H2 c d (st0.trans st)⟩) fun u s2 ⟨y, H2, I2, ry, z⟩ => z.elim)
  | ok kx h2 =>
    rw [em] at p0
    refine evalPairs_cons (thn (hk.run pins _ σ _ (fun u H2 => ∃ μ2, Step ro μ (upd H D (DO X.prog X.w D [])) μ2 H2 ∧ RelH (wd X ca E) ro μ2 h2 H2 ∧ Den X.K μ2 H2 kx u) I1 ⟨ro, μ, l, h, A1, by rw [em]; exact fun μ2 u H2 st R d => ⟨μ2, st, R, d⟩⟩) fun u s2 ⟨y, H2, I2, ry, μ2, st2, R2, dk⟩ => ?_)
    have A2 : At (wd X ca E) ro μ2 l h2 σ H2 := ⟨A1.L.step A1.R st2, R2⟩
    have c2 := c0.onD (W := wd X ca E) st2 R2
    have p1 : postG (dV (wd X ca E)) (wd X ca E) ro μ H ((mv l h2).bind fun b h2 => match AV.tkey kx with | some q => alloc h2 (.dct [(kx, b)]) | none => .bad) Q := p0
    cases ev : mv l h2 with
    | bad => rw [ev] at p1; exact False.elim p1
    | ex x hx => rw [ev] at p1; exact wpAny_bind (thn (hv.run pins s2 σ H2 (fun _ _ => False) I2 ⟨ro, μ2, l, h2, A2, by rw [ev]; exact fun μ3 H3 c d st => p1 μ3 H3 c d (c2.st.trans st)⟩) fun u s3 ⟨y, H3, I3, ry, z⟩ => z.elim)
    | ok vx h3 =>
      rw [ev] at p1
      refine wpAny_bind (thn (hv.run pins s2 σ H2 (fun u H3 => ∃ μ3, Step ro μ2 H2 μ3 H3 ∧ RelH (wd X ca E) ro μ3 h3 H3 ∧ Den X.K μ3 H3 vx u) I2 ⟨ro, μ2, l, h2, A2, by rw [ev]; exact fun μ3 u H3 st R d => ⟨μ3, st, R, d⟩⟩) fun r s3 ⟨z, H3, I3, rz, μ3, st3, R3, dv⟩ => wpAny_bind (wpAny_standAt (wpAny_pure (evalPairs_nil ?_))))
      have p3 : postG (dV (wd X ca E)) (wd X ca E) ro μ H (match AV.tkey kx with | some q => alloc h3 (.dct [(kx, vx)]) | none => .bad) Q := p1
      cases ek : AV.tkey kx with
      | none => rw [ek] at p3; exact False.elim p3
      | some q =>
        rw [ek] at p3
        have dk3 := R2.den st3 dk
        have c3 := c2.onD (W := wd X ca E) st3 R3
        obtain ⟨kb, ebk, kis⟩ := tkey_is I3 dk3 ek ry
        subst ebk
        have ey : y = .ref kb := by
          cases y <;> first | (cases (show _ = _ from ry); rfl) | (obtain ⟨t, e⟩ := ry; cases e) | cases ry
        subst ey
        obtain ⟨o, q1, kvs, xs, ed, rfl, pr, _⟩ := c3.d
        cases ed
        cases pr
        refine ⟨[(q, kb, r)], ⟨rfl, rfl, kis, trivial⟩, dict_is (rw := true) I3 (.inl q1) (kvs := []) (μ := μ3) .nil, fun h' tk dm hs => wpAny_pure ⟨.ref D, upd H3 D (DO X.prog X.w D [(q, kb, r)]), ?_, rfl, ?_⟩⟩
        · have he : ∃ q, h'.get? D = some q := let ⟨q, _, _, hq, _⟩ := dm; ⟨q, hq⟩
          exact d_write I3 (by rw [q1]; exact True.intro) hs he (do_ok dm)
        · obtain ⟨n1, n2, n3⟩ := do_not (P := X.prog) (w := X.w) (a := D) (xs := [])
          have a1 : ∀ ys, H3 D ≠ some (.tup ys) := fun ys z => by rw [q1] at z; exact n1 ys (Option.some.inj z)
          have a2 : ∀ o ys, H3 D ≠ some (.frz o (.tup ys)) := fun o ys z => by rw [q1] at z; exact n2 o ys (Option.some.inj z)
          have a3 : H3 D ≠ some (.xd []) := fun z => by rw [q1] at z; exact n3 (Option.some.inj z)
          have up : ∀ x v, Den X.K μ3 H3 x v → Den X.K μ3 (upd H3 D (DO X.prog X.w D [(q, kb, r)])) x v := fun x v d => d.mono (fun _ _ e => e) fun _ _ s => sq_upd a1 a2 s
          refine colD_end (W := wd X ca E) (PS := [.tup [kx, vx]]) hn hS ⟨R3.side c3.fr a1 a2 a3 (nocode_do q1), c3.st.side hn, ⟨_, upd_same, [(kx, vx)], [(q, kb, r)], ?_, rfl, .cons ⟨ek, up _ _ dk3, z, rz, up _ _ dv⟩ .nil, Nat.le_refl _⟩, c3.fr⟩ ?_ (by show 1 ≤ sizeLine; decide) p3
          · show (match AV.tkey kx with | some q => dictOfL [] (dput q kx vx []) | none => none) = _
            rw [ek]; rfl
          · show (match AV.tkey kx with | some q => dictOfL [] (dput q kx vx []) | none => none) = _
            rw [ek]; rfl
/-- d[k] = v -/
theorem putD_of {pins : List (Addr × Obj)} {σ : L2.St} {s : Shared} {ro : Nat} {μ : Mu} {h h' : AH} {H : Hp} {x k v r : AV} {xd yk zv : V} {dv kv vv : Value} (I : Inv X pins σ H s) (R : RelH (wd X ca E) ro μ h H) (dx : Den X.K μ H x xd) (dk : Den X.K μ H k yk) (dz : Den X.K μ H v zv) (rx : RelV xd dv) (rk : RelV yk kv) (rv : RelV zv vv) (hu : X.A.units + 10 < cLine)
    (e : putD x k v h = .ok r h') {Q : Unit → Shared → Prop} (hq : ∀ H' s', Inv X pins σ H' s' → Step ro μ H μ H' → RelH (wd X ca E) ro μ h' H' → Q () s') : wpAny (model X.prog X.w) X.A (setItem dv kv vv) Q X.xe s := by
  unfold putD at e
  cases dx with
  | @obj n D hn =>
    dsimp only at e
    cases g : h.get n with
    | none => rw [g] at e; cases e
    | some oo =>
      rw [g] at e
      cases oo with
      | dct kvs =>
        dsimp only at e
        cases ek : AV.tkey k with
        | none => rw [ek] at e; cases e
        | some q =>
          rw [ek] at e
          dsimp only at e
          cases e3 : Nat.ble h.ro n && Nat.blt kvs.length 16777216 with
          | false => rw [e3] at e; cases e
          | true =>
            rw [e3] at e
            cases e
            obtain ⟨e4, e5⟩ := Bool.and_eq_true_iff.mp e3
            have hr : ro ≤ n := by rw [← R.roe]; exact Nat.le_of_ble_eq_true e4
            have hz : kvs.length < sizeLine := by rw [sizeLine_eq]; exact blt_tt.mp e5
            obtain ⟨oo, g', ro'⟩ := R.there hn
            rw [g] at g'; cases g'
            obtain ⟨hS, hl, xs, hD, pr⟩ := ro'
            have hD : H D = some (DO X.prog X.w D xs) := by
              rcases hD with z | ⟨z, _⟩
              · exact z
              · rw [show rwOf ro n = true from Nat.ble_eq_true_of_le hr] at z; cases z
            obtain rfl : dv = .ref D := rx
            refine do_item hu I hD pr hl ek dk rk fun b s' ey I' => ?_
            subst ey
            obtain ⟨st, R'⟩ := dct_put (W := wd X ca E) R hn g hS hD pr (do_nodup I hD) hr hz ek dk dz rv
            exact hq _ s' I' st R'
      | _ => cases e
  | _ => cases e
theorem putD_nox {x k v : AV} {h : AH} {z : AX} {h' : AH} : putD x k v h ≠ .ex z h' := fun e => by
  unfold putD at e
  split at e
  · split at e
    · split at e
      · split at e <;> cases e
      · cases e
    · cases e
  · cases e
theorem sims_put {md : ME} (hu : X.A.units + 10 < cLine) (ho : SimE X (wd X ca E) o md) (hk : SimE X (wd X ca E) a mk) (hv : SimE X (wd X ca E) e mv) (hs : swapsWith e (some (.Subscript o a p')) pos.line X.env = pure false) :
    SimS X (wd X ca E) (.Assign [.Subscript o a p'] e pos) (mPut md mk mv) := by
  refine ⟨fun pins s σ H D I ⟨ro, μ, l, h, A, p⟩ => ?_⟩
  refine wpAny_Assign_Subscript (thn (hv.run pins s σ H _ I ⟨ro, μ, l, h, A, toS_P (dV _) A p⟩) fun r s1 ⟨v, H1, I1, rv, μ1, vx, h1, A1, d1, st1, p1⟩ => thn (ho.run pins s1 σ H1 _ I1 ⟨ro, μ1, l, h1, A1, toS_P (dV _) A1 p1⟩) fun u s2 ⟨x, H2, I2, rx, μ2, dx, h2, A2, d2, st2, p2⟩ =>
    thn (hk.run pins s2 σ H2 _ I2 ⟨ro, μ2, l, h2, A2, toS_P (dV _) A2 p2⟩) fun iv s3 ⟨y, H3, I3, ry, μ3, kx, h3, A3, d3, st3, p3⟩ => ?_) hs
  cases ep : putD dx kx vx h3 with
  | bad => rw [ep] at p3; exact False.elim p3
  | ex z hz => exact absurd ep putD_nox
  | ok rr h4 =>
    rw [ep] at p3
    exact putD_of I3 A3.R (A2.R.den st3 d2) d3 (A1.R.den (st2.trans st3) d1) rx ry rv hu ep fun H4 s4 I4 st4 R4 => ⟨σ, H4, I4, p3 μ3 σ H4 st4 ⟨A3.L.step A3.R st4, R4⟩⟩
end
end Ev
set_option Elab.async false
set_option linter.all false
set_option maxRecDepth 100000
set_option maxHeartbeats 4000000
/-! dict comprehensions with tuple keys -/
namespace Ev
open PySem PySem.Spec PyProof.Rows L2
section
variable {X : Cx}
/-- the turn's store -/
def PutN (P : Program) (w : World) (K : PySem.W.Frag) (D : Addr) (y z : V) (H : Hp) (Nx : Hp → Prop) : Prop :=
  ∃ μ kvs xs k ky, H D = some (DO P w D xs) ∧ Paired (RelKv K μ H) kvs xs ∧ kvs.length ≤ sizeLine ∧ AV.tkey ky = some k ∧ Den K μ H ky y ∧ ∀ b r, y = .ref b → RelV z r → (xs.map (·.1)).Nodup → Nx (upd H D (DO P w D (storedH xs k b r)))
def tDcN (P : Program) (w : World) (K : PySem.W.Frag) (wi : TI) (g : TG) (tk tv : TE) (vs : List Nat) : TE := fun σ H Q => wi σ H fun J H1 => ∀ D, H1 D = none → (D == sysModules) = false → ∃ Wi : Nat → Nat → Hp → Prop, (∃ m, Wi 0 m (upd H1 D (DO P w D []))) ∧ ∀ i m H, Wi i m H →
  (J.stop i H ∧ Q (.ref D) H) ∨ (J.go i H ∧ ∃ Nx : Hp → Prop, (∀ H', Nx H' → ∃ m', m' < m ∧ Wi (i + 1) m' H') ∧ ∀ x H', J.yld i H x H' → g x (L2.wipe σ vs) H' fun σ2 H2 => L2.wipe σ2 vs = L2.wipe σ vs ∧
    tk σ2 H2 fun y H4 => tv σ2 H4 fun z H5 => PutN P w K D y z H5 Nx)
/-- the walk in the block, from its first turn on -/
theorem dcN_loop {kx vx tg iter : Expr} {scope : Scope} {own : List (Str × Nat)} {pos : Pos} {g : TG} {tk tv : TE} {σ : L2.St} {D it : Addr} {fp : List Addr} {tn : Nat → Heap → Prop} {J : L2.It} {H3 : Hp} {s3 s4 : Shared} {ce : Env} {Rr : Result → Shared → Prop} {Qd : Hp → Prop} {Wi : Nat → Nat → Hp → Prop} {m0 : Nat}
    (hc : X.calm = true) (hu : X.A.units + 9 < cLine) (T : Turn X.prog X.w X.K tg J fp it tn) (pg : PG (X.blk s3 H3 scope ce fp) tg g) (pk : PE (X.blk s3 H3 scope ce fp) kx tk) (pv : PE (X.blk s3 H3 scope ce fp) vx tv)
    (I4 : Inv (X.blk s3 H3 scope ce fp) [] (L2.wipe σ (own.map (·.2))) H3 s4) (st4 : tn 0 s4.heap) (nfp : ∀ b ∈ fp, H3 b = none) (first : Wi 0 m0 H3)
    (turn : ∀ i m H, Wi i m H → (J.stop i H ∧ Qd H) ∨ (J.go i H ∧ ∃ Nx : Hp → Prop, (∀ H', Nx H' → ∃ m', m' < m ∧ Wi (i + 1) m' H') ∧ ∀ x H', J.yld i H x H' → g x (L2.wipe σ (own.map (·.2))) H' fun σ2 H2 => L2.wipe σ2 (own.map (·.2)) = L2.wipe σ (own.map (·.2)) ∧ tk σ2 H2 fun y H4 => tv σ2 H4 fun z H5 => PutN X.prog X.w X.K D y z H5 Nx))
    (fin : ∀ H' s', Inv (X.blk s3 H3 scope ce fp) [] (L2.wipe σ (own.map (·.2))) H' s' → Qd H' → Rr (.ok .next) s') :
    codeAny (model X.prog X.w) X.A (.compLoop (.DictComp kx vx [⟨tg, iter, [], 0⟩] scope pos) 0 (.ref it) (.ref D) ce) Rr s4 := by
  let Y := X.blk s3 H3 scope ce fp
  have still : ∀ {σ' : L2.St} {H' : Hp} {s' : Shared}, Inv Y [] σ' H' s' → (∀ b ∈ fp, H' b = none) → ∀ b ∈ fp, FpOk Y [] H' b := fun {σ' H' s'} I' hn b hb => by
    refine ⟨hn b hb, (I'.ok.exf b hb).1, I'.ok.exfs b hb, .inl hb, fun x c e => (I'.ok.exf b hb).2 x c e, fun q hq => ?_⟩
    have z : q ∈ ([] : List (Addr × Obj)) ++ [] := hq
    simp at z
  refine compLoop_anyD (fun n s' => ∃ i H', Inv Y [] (L2.wipe σ (own.map (·.2))) H' s' ∧ tn i s'.heap ∧ (∀ b ∈ fp, H' b = none) ∧ Wi i n H') ?_ m0 ⟨0, H3, I4, st4, nfp, first⟩
  rintro n s5 ⟨i, H5, I5, st5, n5, w5⟩
  rcases turn i n H5 w5 with ⟨stop, qd⟩ | ⟨go, Nx, hNx, body⟩
  · have td := T.done Y rfl rfl rfl hc i [] s5 _ H5 (fun _ _ => False) I5 (still I5 n5) st5 stop
    refine thnF td fun r s6 hr6 => ?_
    obtain ⟨er, I6⟩ := hr6
    subst er
    exact fin H5 s6 I6 qd
  · have ti := T.item Y rfl rfl rfl hc i [] s5 _ H5 (fun _ _ => False) I5 (still I5 n5) st5 go
    refine thnF ti fun r s6 h6 => ?_
    obtain ⟨u, er, h6⟩ := h6
    subst er
    refine thnF h6 fun _ s7 h7 => ?_
    obtain ⟨x, H7, I7, r7, y7, st7, n7⟩ := h7
    have J7 : Inv Y ([] ++ pinsAt fp s7.heap) (L2.wipe σ (own.map (·.2))) H7 s7 := I7.pinned (still I7 n7) (T.obj _ _ st7)
    refine thnF (pg.run _ s7 _ H7 x u _ J7 r7 (body x H7 y7)) fun _ s8 h8 => ?_
    obtain ⟨σ8, H8, I8, hw8, q8⟩ := h8
    refine wpAny_tests_nil ?_
    simp only [if_true]
    refine thnF (pk.run _ s8 σ8 H8 _ I8 q8) fun ku s9 h9 => ?_
    obtain ⟨yk, H9, I9, r9, q9⟩ := h9
    refine thnF (pv.run _ s9 σ8 H9 _ I9 q9) fun vu s10 h10 => ?_
    obtain ⟨zv, H10, I10, r10, μ, kvs, xs, k, ky, hD, pr, hz, ek, dk, nx⟩ := h10
    refine do_set (X := Y) hu I10 hD pr hz ek dk r9 fun b s11 ey I11 => ?_
    obtain ⟨m', hm, w'⟩ := hNx _ (nx b vu ey r10 (do_nodup I10 hD))
    have held : ∀ b ∈ fp, ∀ o, s7.heap.get? b = some o → s11.heap.get? b = some o ∧ upd H10 D (DO X.prog X.w D (storedH xs k _ vu)) b = none := fun b hb o e =>
      let z := I11.pin (b, o) (List.mem_append_right _ (List.mem_append_right _ (mem_pinsAt hb e)))
      ⟨z.1, z.2.1⟩
    have ll : (L2.wipe σ (own.map (·.2))).length = σ8.length := by rw [← hw8]; exact wipe_length ..
    refine ⟨m', hm, i + 1, _, (I11.unpinned (pins := [])).weak ll fun j v e => ?_, T.keep _ _ _ st7 fun b hb o e => (held b hb o e).1, fun b hb => ?_, w'⟩
    · rw [← hw8] at e
      exact (wipe_some e).1
    · obtain ⟨o, e, _⟩ := T.obj _ _ st7 b hb
      exact (held b hb o e).2
theorem dcN_core {pins : List (Addr × Obj)} {s : Shared} {σ : L2.St} {H : Hp} {Q : VK} {use : Option (Value → Sem Unit)} {Qf : Value → Shared → Prop} {kx vx tg iter : Expr} {scope : Scope} {own : List (Str × Nat)} {pos pos' : Pos} {wi : TI} {g : TG} {tk tv : TE} (I : Inv X pins σ H s) (hc : X.calm = true) (hu : X.A.units + 9 < cLine) (hN : X.N.Nodup) (hi : PI X tg iter wi) (ok : BlkOk X.N X.env.scope scope own)
    (hg : InB X scope fun Y => PG Y tg g) (hk : InB X scope fun Y => PE Y kx tk) (hv : InB X scope fun Y => PE Y vx tv) (hs : ∀ x, foldedSetIterable iter X.env x = pure x) (h : tDcN X.prog X.w X.K wi g tk tv (own.map (·.2)) σ H Q)
    (done : ∀ (D C : Addr) (s' : Shared) (m : Str → Option Value) (H' : Hp), Inv X pins σ H' s' → Q (.ref D) H' → s'.heap.Ns C m → FpOk X pins H' C → compPost (model X.prog X.w) X.A X.xe use Qf (.ref D) C (.ok .next) s') :
    wpAny (model X.prog X.w) X.A (comprehension (.DictComp kx vx [⟨tg, iter, [], 0⟩] scope pos) scope X.env pos' newDict false (eval iter X.env) use) Qf X.xe s := by
  have free : ∀ y ∈ scope.names, y.2 = .free → ∃ c, X.env.cells.lookup y.1 = some c := fun y hy e => (ok.free y hy e).elim (fun z => I.ok.has _ (.inl z)) fun z => I.ok.has _ (.inr z)
  refine wpAny_comprehension_free (use := use) rfl hs (closure_ok free) ok.kind (fun y hy e => (ok.uniq y hy).trans (by rw [e])) ?_
  refine thn (hi.run pins s σ H _ I h) fun xv s1 h1 => thn h1 fun iv s2 h2 => ?_
  obtain ⟨it, fp, tn, J, H2, ei, I2, T, st2, f2, q⟩ := h2
  subst ei
  refine wpAny_newObj_type (newEnv_comp ?_)
  have nD := I2.hok.fresh (Nat.le_refl s2.heap.objs.size)
  have hS : (s2.heap.objs.size == sysModules) = false := beq_eq_false_iff_ne.mpr (Ne.symm (Nat.ne_of_lt I2.big))
  obtain ⟨Wi, ⟨m0, first⟩, turn⟩ := q _ nD hS
  have I3 : Inv X pins σ (upd H2 s2.heap.objs.size (DO X.prog X.w s2.heap.objs.size [])) { s2 with heap := s2.heap.push { cls := .type "dict", data := .dict #[] } } :=
    I2.laid (t' := s2.toks) (fun _ _ e => Heap.get?_push_of_some _ e) (Nat.le_refl _) (do_new s2.heap)
  have fp3 : ∀ b ∈ fp, FpOk X pins (upd H2 s2.heap.objs.size (DO X.prog X.w s2.heap.objs.size [])) b ∧ b < (s2.heap.push { cls := .type "dict", data := .dict #[] }).objs.size := fun b hb => by
    obtain ⟨o, e, _⟩ := T.obj _ _ st2 b hb
    have lt := Heap.lt_size e
    refine ⟨⟨?_, (f2 b hb).2⟩, by rw [Heap.size_push]; exact Nat.lt_succ_of_lt lt⟩
    rw [upd_ne (Nat.ne_of_lt lt)]
    exact (f2 b hb).1
  generalize hD : s2.heap.objs.size = D at nD hS first turn I3 fp3
  generalize hs3 : ({ s2 with heap := s2.heap.push { cls := .type "dict", data := .dict #[] } } : Shared) = s3 at I3 ⊢
  have sz3 : ∀ b ∈ fp, FpOk X pins (upd H2 D (DO X.prog X.w D [])) b ∧ b < s3.heap.objs.size := fun b hb => by rw [← hs3]; exact fp3 b hb
  have I4 := block_start I3 ok hN sz3
  have st4 : tn 0 (pushCells (s3.heap.push { cls := .type "dict", data := .dict #[] }) scope.names) := T.keep _ _ _ st2 fun b _ o e => pushCells_keeps _ _ _ _ (Heap.get?_push_of_some _ (by rw [← hs3]; exact Heap.get?_push_of_some _ e))
  have fin : ∀ H' s', Inv (X.blk s3 (upd H2 D (DO X.prog X.w D [])) scope (compEnvC scope (cellsFrom (s3.heap.objs.size + 1) scope.names (cloFrom X.env.cells scope.names [])) s3.heap.objs.size X.env) fp) [] (L2.wipe σ (own.map (·.2))) H' s' → Q (.ref D) H' →
      compPost (model X.prog X.w) X.A X.xe use Qf (.ref D) s3.heap.objs.size (.ok .next) s' := fun H' s' I' qq => by
    have back : Inv X pins σ H' s' := I3.call' (ch := fp) I'.os I'.base I'.hok I'.bare fun b hb => let z := (sz3 b hb).1; ⟨z.2.2.2.1, z.2.1, z.2.2.2.2.1, z.2.2.2.2.2⟩
    obtain ⟨m, hn, _⟩ := I'.loc
    have nC : H' s3.heap.objs.size = none := I'.free
    exact done D s3.heap.objs.size s' m H' back qq hn (I3.fpOk (H' := H') (Nat.le_refl _) nC)
  have lo := dcN_loop (kx := kx) (vx := vx) (iter := iter) (pos := pos) (Qd := fun H' => Q (.ref D) H') hc hu T
    (hg s3 _ s3.heap.objs.size _ fp) (hk s3 _ s3.heap.objs.size _ fp) (hv s3 _ s3.heap.objs.size _ fp) I4 st4 (fun b hb => (sz3 b hb).1.1) first turn fin
  exact codeAny_compStart_dict lo (T.self X.A 0 _ _ _ st4 lo)
theorem pe_dcN {kx vx tg iter : Expr} {scope : Scope} {own : List (Str × Nat)} {pos : Pos} {wi : TI} {g : TG} {tk tv : TE} (hc : X.calm = true) (hu : X.A.units + 9 < cLine) (hN : X.N.Nodup) (hi : PI X tg iter wi) (ok : BlkOk X.N X.env.scope scope own)
    (hg : InB X scope fun Y => PG Y tg g) (hk : InB X scope fun Y => PE Y kx tk) (hv : InB X scope fun Y => PE Y vx tv) (hs : ∀ x, foldedSetIterable iter X.env x = pure x) :
    PE X (.DictComp kx vx [⟨tg, iter, [], 0⟩] scope pos) (tDcN X.prog X.w X.K wi g tk tv (own.map (·.2))) := by
  refine ⟨fun pins s σ H Q I h => ?_⟩
  rw [arm_eval_DictComp]
  refine dcN_core I hc hu hN hi ok hg hk hv hs h fun D C s' m H' back qq hn fo => ?_
  obtain ⟨g0, g1, _, g3, g4, g5⟩ := fo
  exact ⟨m, hn, fun h2 sb => ⟨.ref D, H', back.turned (t' := s'.toks) (fun b o hb e => (sb.2 b hb).trans e) g0 g1 g3 g4 g5, rfl, qq⟩⟩
/-- name = {..} on one line -/
theorem ps_dcN {i : Nat} {y : Str} {py spos : Pos} {kx vx tg iter : Expr} {scope : Scope} {own : List (Str × Nat)} {pos : Pos} {wi : TI} {g : TG} {tk tv : TE} (hc : X.calm = true) (hu : X.A.units + 9 < cLine) (hN : X.N.Nodup) (hy : X.N[i]? = some y) (hyl : X.env.scope.names.lookup y = some .local)
    (hsw : swapsWith (.DictComp kx vx [⟨tg, iter, [], 0⟩] scope pos) (some (.Name y py)) spos.line X.env = pure true) (hi : PI X tg iter wi) (ok : BlkOk X.N X.env.scope scope own)
    (hg : InB X scope fun Y => PG Y tg g) (hk : InB X scope fun Y => PE Y kx tk) (hv : InB X scope fun Y => PE Y vx tv) (hs : ∀ x, foldedSetIterable iter X.env x = pure x) :
    PS X (.Assign [.Name y py] (.DictComp kx vx [⟨tg, iter, [], 0⟩] scope pos) spos) (tAsg (tDcN X.prog X.w X.K wi g tk tv (own.map (·.2))) (gName i)) := by
  refine ⟨fun pins s σ H D I h => ?_⟩
  rw [exec_Assign_Name_used _ _ _ _ hsw]
  have core := dcN_core (pos := pos) (pos' := firstIterPos [⟨tg, iter, [], 0⟩] pos) (use := some (assign (.Name y py) X.env)) (Qf := fun _ s' => SP X pins D .next s') I hc hu hN hi ok hg hk hv hs (Q := fun x H1 => gName i x σ H1 D.nx) h fun L C s' m H' I' q hn fo => by
    obtain ⟨f0, f1, f2, f3, f4, f5⟩ := fo
    refine wpAny_assign_Name (store_ok2 (v := V.ref L) I' hN hy (.inl hyl) rfl (fun s2 I2 hx => ?_) (.inr hyl))
    obtain ⟨a, sb, ha⟩ := hx
    have ne : C ≠ a := ha.elim (fun z => by rw [z]; exact f1) fun z => fun e => f4 y a z e.symm
    exact ⟨m, hn.sameBut sb ne, fun h3 sb3 => ⟨_, H', I2.turned (t' := s2.toks) (fun b o hb e => (sb3.2 b hb).trans e) f0 f1 f3 f4 f5, q⟩⟩
  exact wpAny_bind (wpAny_standAt (wpAny_bind (wpAny_bind (thn core fun _ s' hq => wpAny_pure (wpAny_pure hq)))))
theorem sw_dc {kx vx : Expr} {gs : List Comprehension} {scope : Scope} {pos py : Pos} {y : Str} {l : Nat} {env : Env} (hk : env.scope.kind = .function) (hy : env.scope.names.lookup y = some .local) (hl : (py.line == pos.line) = true) (ha : (scope.names.any fun (n, k) => n == y && (k == .local || k == .cell)) = false) :
    swapsWith (.DictComp kx vx gs scope pos) (some (.Name y py)) l env = pure true := by
  have e1 : env.kindOf y = some .local := hy
  have e2 : env.blockKind = .function := by unfold Env.blockKind; rw [hk]; rfl
  unfold swapsWith
  simp only [e2, e1, ha, Expr.pos, hl]
  rfl
end
/-! ### the machine's -/
def turnD (vs : List Nat) (mt : AV → Loc' → Option Loc') (mk mv : ME) (l : Loc') : AV → AH → R (List AV) := fun x h2 => match mt x (wipeL l vs) with
  | some l2 => (mk l2 h2).bind fun a h3 => (mv l2 h3).bind fun b h4 => (match AV.tkey a with
    | some _ => .ok [.tup [a, b]] h4
    | none => .bad)
  | none => .bad
def mDc (vs : List Nat) (mt : AV → Loc' → Option Loc') (mi : Loc' → AH → R Src) (mk mv : ME) : ME := fun l h => (mi l h).bind fun s h1 => (compLoop s (turnD vs mt mk mv l) turns 0 (lockH s h1)).bind fun ps h5 => match dictOfL ps [], lim ps.length with
  | some d, true => alloc (freeH h1.ro h5) (.dct d)
  | _, _ => .bad
section
variable {X : Cx} {ca : Ca} {E : XK} {tg : Expr} {ws : List Nat}
theorem turnD_ok {vs : List Nat} {mt : AV → Loc' → Option Loc'} {mk mv : ME} {l : Loc'} {x : AV} {h h1 : AH} {ys : List AV} (e : turnD vs mt mk mv l x h = .ok ys h1) :
    ∃ l2 a h3 b q, mt x (wipeL l vs) = some l2 ∧ mk l2 h = .ok a h3 ∧ mv l2 h3 = .ok b h1 ∧ AV.tkey a = some q ∧ ys = [.tup [a, b]] := by
  unfold turnD at e
  cases e1 : mt x (wipeL l vs) with
  | none => rw [e1] at e; cases e
  | some l2 =>
    rw [e1] at e
    dsimp only at e
    cases e2 : mk l2 h with
    | ex _ _ => rw [e2] at e; cases e
    | bad => rw [e2] at e; cases e
    | ok a h3 =>
      rw [e2] at e
      dsimp only [R.bind] at e
      cases e3 : mv l2 h3 with
      | ex _ _ => rw [e3] at e; cases e
      | bad => rw [e3] at e; cases e
      | ok b h4 =>
        rw [e3] at e
        dsimp only at e
        cases e4 : AV.tkey a with
        | none => rw [e4] at e; cases e
        | some q => rw [e4] at e; cases e; exact ⟨l2, a, h3, b, q, rfl, e2, e3, e4, rfl⟩
/-- from a source that needs no lock -/
theorem dc_imp {own : List Nat} {mt : AV → Loc' → Option Loc'} {mk mv : ME} (hsl : ∀ i ∈ ws, i ∈ own) {σ : L2.St} {l : Loc'} {ro : Nat} {μ1 : Mu} {H1 : Hp} {h1 HF : AH} {s : Src} {J : L2.It} {PSs : List AV} {Q : VK} {D : Addr} (L1 : RelL X.K μ1 H1 l σ) (R1 : RelH (w0 X ca) ro μ1 h1 H1) (sr : SrcR (w0 X ca) ro μ1 H1 s J)
    (el : compLoop s (turnD own mt mk mv l) turns 0 h1 = .ok PSs HF) (hz : PSs.length ≤ sizeLine) (hD : H1 D = none) (fin : ∀ μ H, Col (w0 X ca) ro μ1 H1 D (BD X.prog X.w X.K D) μ PSs HF H → Q (.ref D) H) :
    ∃ Wi : Nat → Nat → Hp → Prop, (∃ m, Wi 0 m (upd H1 D (DO X.prog X.w D []))) ∧ ∀ i m H, Wi i m H → (J.stop i H ∧ Q (.ref D) H) ∨ (J.go i H ∧ ∃ Nx : Hp → Prop, (∀ H', Nx H' → ∃ m', m' < m ∧ Wi (i + 1) m' H') ∧ ∀ x H', J.yld i H x H' → tG (w0 X ca) ws mt x (L2.wipe σ own) H' fun σ2 H2 => L2.wipe σ2 own = L2.wipe σ own ∧
      tE (w0 X ca) mk σ2 H2 fun y H4 => tE (w0 X ca) mv σ2 H4 fun z H5 => PutN X.prog X.w X.K D y z H5 Nx) := by
  refine walk (W := w0 X ca) (ro := ro) (s := s) (J := J) (all := PSs) (Co := fun μ acc h H => Col (w0 X ca) ro μ1 H1 D (BD X.prog X.w X.K D) μ acc h H ∧ SrcR (w0 X ca) ro μ H s J ∧ RelL X.K μ H l σ) (acc0 := [])
    (fun c => ⟨c.1.R, c.2.1⟩) (fun c st R => ⟨c.1.onD (W := w0 X ca) st R, c.2.1.step c.1.R st, c.2.2.step (W := w0 X ca) c.1.R st⟩) ?_ rfl el ⟨⟨R1.laid hD, Step.laid hD, ⟨_, upd_same, [], [], rfl, rfl, .nil, Nat.le_refl _⟩, R1.fresh hD⟩, sr.step R1 (Step.laid hD), L1.step R1 (Step.laid hD)⟩ fun μ2 H2 c => fin μ2 H2 c.1
  intro x h ys h' μ acc H v et c d ⟨r, er⟩ Nx hx
  obtain ⟨l2, a, h3, b, q, e1, e2, e3, ek, rfl⟩ := turnD_ok et
  refine ⟨ro, μ, wipeL l own, h, x, l2, ⟨c.2.2.wipe own, c.1.R⟩, d, e1, fun σ2 L2' hl2 hd2 => ⟨?_, ro, μ, l2, h, ⟨L2', c.1.R⟩, ?_⟩⟩
  · rw [wipe_eq hl2 fun i hi => hd2 i fun z => hi (hsl i z), wipe_wipe]
  · rw [e2]
    intro μ3 u H3 st3 R3 d3
    have c3 := c.1.onD (W := w0 X ca) st3 R3
    refine ⟨ro, μ3, l2, h3, ⟨L2'.step c.1.R st3, R3⟩, ?_⟩
    rw [e3]
    intro μ4 z H4 st4 R4 d4
    have c4 := c3.onD (W := w0 X ca) st4 R4
    obtain ⟨o, q1, kvs, xs, ed, rfl, pr, hl⟩ := c4.d
    have la : acc.length ≤ sizeLine := by have := congrArg List.length er; simp only [List.length_append] at this; omega
    have dk := R3.den st4 d3
    refine ⟨μ4, kvs, xs, q, a, q1, pr, Nat.le_trans hl la, ek, dk, fun kb r ey rz nd => ?_⟩
    subst ey
    obtain ⟨n1, n2, n3⟩ := do_not (P := X.prog) (w := X.w) (a := D) (xs := xs)
    have a1 : ∀ ys, H4 D ≠ some (.tup ys) := fun ys z => by rw [q1] at z; exact n1 ys (Option.some.inj z)
    have a2 : ∀ o ys, H4 D ≠ some (.frz o (.tup ys)) := fun o ys z => by rw [q1] at z; exact n2 o ys (Option.some.inj z)
    have a3 : H4 D ≠ some (.xd []) := fun z => by rw [q1] at z; exact n3 (Option.some.inj z)
    have up : ∀ x v, Den X.K μ4 H4 x v → Den X.K μ4 (upd H4 D (DO X.prog X.w D (storedH xs q kb r))) x v := fun x v d => d.mono (fun _ _ e => e) fun _ _ s => sq_upd a1 a2 s
    have st5 : Step ro μ1 H1 μ4 (upd H4 D (DO X.prog X.w D (storedH xs q kb r))) := c4.st.side hD
    refine hx μ4 _ ⟨⟨c4.R.side c4.fr a1 a2 a3 (nocode_do q1), st5, ⟨_, upd_same, dput q a b kvs, _, dictOf_app ed ek, rfl, rkOf (dput_rel ek dk d4 rz pr nd) up, ?_⟩, c4.fr⟩, sr.step R1 st5, L1.step R1 st5⟩
    have := dput_len (k := q) (ky := a) (z := b) kvs
    rw [List.length_append]; simp only [List.length_cons, List.length_nil]; omega
theorem freeH_same {ro : Nat} {μ : Mu} {h : AH} {H : Hp} {W : Wd} (R : RelH W ro μ h H) : freeH ro h = h := by
  obtain ⟨t, n, r⟩ := h
  have e : r = ro := R.roe
  subst e
  rfl
theorem w0_up {ro : Nat} {μ μ1 : Mu} {h : AH} {H H1 : Hp} {D : Addr} {B : Mu → Hp → List AV → HO → Prop} {acc : List AV} (c : Col (w0 X ca) ro μ1 H1 D B μ acc h H) : Col (wd X ca E) ro μ1 H1 D B μ acc h H := ⟨c.R.to E, c.st, c.d, c.fr⟩
/-- what is behind a comprehension's loop -/
theorem dc_end {ro : Nat} {μ1 μ : Mu} {H1 H : Hp} {HF : AH} {PSs : List AV} {D : Addr} {Q : VK} (hD : H1 D = none) (hS : (D == sysModules) = false) (c : Col (wd X ca E) ro μ1 H1 D (BD X.prog X.w X.K D) μ PSs (freeH ro HF) H)
    (p : postG (dV (wd X ca E)) (wd X ca E) ro μ1 H1 (match dictOfL PSs [], lim PSs.length with | some d, true => alloc (freeH ro HF) (.dct d) | _, _ => .bad) Q) : Q (.ref D) H := by
  cases e1 : dictOfL PSs [] with
  | none => rw [e1] at p; exact False.elim p
  | some kvs =>
    cases e2 : lim PSs.length with
    | false => rw [e1, e2] at p; exact False.elim p
    | true =>
      rw [e1, e2] at p
      exact colD_end (W := wd X ca E) hD hS c e1 (lim_le e2) p
def noDk : Src → Bool
  | .dk _ _ => false
  | _ => true
theorem lock_no {s : Src} {h : AH} (e : noDk s = true) : lockH s h = h := by
  cases s <;> first | rfl | cases e
/-- {k: v for target in iter}, no dict walked -/
theorem dc_imp1 {own : List Nat} {mt : AV → Loc' → Option Loc'} {mi : Loc' → AH → R Src} {mk mv : ME} (hsl : ∀ i ∈ ws, i ∈ own) (hd : ∀ l h s h1, mi l h = .ok s h1 → noDk s = true) {σ : L2.St} {H : Hp} {Q : VK} (hq : tE (wd X ca E) (mDc own mt mi mk mv) σ H Q) : tDcN X.prog X.w X.K (tI (wd X ca E) mi) (tG (w0 X ca) ws mt) (tE (w0 X ca) mk) (tE (w0 X ca) mv) own σ H Q := by
  obtain ⟨ro, μ, l, h, A, p⟩ := hq
  refine ⟨ro, μ, l, h, A, (postG.bind (D := fun μ H => SrcR (wd X ca E) ro μ H) p).imp fun J H1 ⟨μ1, s, h1, st1, R1, sr, ei, p1⟩ D hD hS => ?_⟩
  rw [lock_no (hd _ _ _ _ ei)] at p1
  have L1 := A.L.step A.R st1
  cases el : compLoop s (turnD own mt mk mv l) turns 0 h1 with
  | bad => rw [el] at p1; exact False.elim p1
  | ex x hx => exact absurd el compLoop_nox
  | ok PSs HF =>
    rw [el] at p1
    have p2 : postG (dV (wd X ca E)) (wd X ca E) ro μ1 H1 (match dictOfL PSs [], lim PSs.length with | some d, true => alloc (freeH ro HF) (.dct d) | _, _ => .bad) Q := by
      have e := R1.roe
      rw [e] at p1
      exact p1
    have hz : PSs.length ≤ sizeLine := by
      cases e2 : lim PSs.length with
      | false => rw [e2] at p2; cases e1 : dictOfL PSs [] <;> (rw [e1] at p2; exact False.elim p2)
      | true => exact lim_le e2
    exact dc_imp (X := X) (ca := ca) hsl L1 (R1.to E0) (sr.to E0) el hz hD fun μ2 H2 c => dc_end (E := E) hD hS (by rw [freeH_same c.R]; exact w0_up c) p2
theorem miOf_nd {ma : ME} (l : Loc') (h : AH) (s : Src) (h1 : AH) (e : miOf ma l h = .ok s h1) : noDk s = true := by
  unfold miOf at e
  cases em : ma l h with
  | bad => rw [em] at e; cases e
  | ex _ _ => rw [em] at e; cases e
  | ok v h2 =>
    rw [em] at e
    dsimp only [R.bind] at e
    unfold srcOf at e
    split at e
    · cases e; rfl
    · split at e
      · cases e; rfl
      · cases e
    · cases e
theorem sim_dc {iter kx vx : Expr} {scope : Scope} {own : List (Str × Nat)} {mt : AV → Loc' → Option Loc'} {ma mk mv : ME} {pos : Pos} (hc : X.calm = true) (hu : X.A.units + 9 < cLine) (hN : X.N.Nodup) (hi : SimE X (wd X ca E) iter ma) (ok : BlkOk X.N X.env.scope scope own)
    (hg : InB X scope fun Y => SimG Y (w0 X ca) tg ws mt) (hk : InB X scope fun Y => SimE Y (w0 X ca) kx mk) (hv : InB X scope fun Y => SimE Y (w0 X ca) vx mv) (hsl : ∀ i ∈ ws, i ∈ own.map (·.2)) (hs : ∀ x, foldedSetIterable iter X.env x = pure x) :
    SimE X (wd X ca E) (.DictComp kx vx [⟨tg, iter, [], 0⟩] scope pos) (mDc (own.map (·.2)) mt (miOf ma) mk mv) :=
  PE.weaken (pe_dcN hc hu hN (simi_of hi) ok hg hk hv hs) fun σ H Q => dc_imp1 hsl miOf_nd
end
end Ev
set_option Elab.async false
set_option linter.all false
set_option maxRecDepth 100000
set_option maxHeartbeats 4000000
/-! dict comprehensions over what may be a dict -/
namespace Ev
open PySem PySem.Spec PyProof.Rows L2
section
variable {W : Wd} {ro : Nat} {μ μ' : Mu} {h h' : AH} {H H' : Hp}
theorem RelO.weak {P : Program} {w : World} {K : PySem.W.Frag} {ca : Ca} {rw : Bool} {a : Addr} {o : AO} (r : RelO P w K ca rw μ H a o) : RelO P w K ca false μ H a o := by
  cases o with
  | dct kvs =>
    obtain ⟨s, z, xs, e, q⟩ := r
    exact ⟨s, z, xs, e.imp id fun ⟨_, o, e⟩ => ⟨rfl, o, e⟩, q⟩
  | lst xs => exact r
  | fz ns => exact r
  | ins c fs => exact r
/-- a dict that may be written -/
theorem RelH.dctW (R : RelH W ro μ h H) {n : Nat} {d : Addr} {kvs : List (AV × AV)} (e : μ n = some d) (g : h.get n = some (.dct kvs)) (hr : ro ≤ n) : (d == sysModules) = false ∧ ∃ xs, H d = some (DO W.P W.w d xs) ∧ Paired (RelKv W.K μ H) kvs xs := by
  obtain ⟨o, q, r⟩ := R.there e
  rw [g] at q; cases q
  obtain ⟨hS, _, xs, hv, pr⟩ := r
  rcases hv with z | ⟨z, _⟩
  · exact ⟨hS, xs, z, pr⟩
  · rw [show rwOf ro n = true from Nat.ble_eq_true_of_le hr] at z; cases z
theorem den_lock {K : PySem.W.Frag} {d : Addr} {u v : HO} (hd : H d = some u) (n1 : ∀ ys, u ≠ .tup ys) (n2 : ∀ o ys, u ≠ .frz o (.tup ys)) (x : AV) (y : V) (q : Den K μ H x y) : Den K μ (upd H d v) x y :=
  q.mono (fun _ _ e => e) fun _ _ s => sq_upd (fun ys z => by rw [hd] at z; exact n1 ys (Option.some.inj z)) (fun o ys z => by rw [hd] at z; exact n2 o ys (Option.some.inj z)) s
theorem RelH.locked (R : RelH W ro μ h H) {n : Nat} {d : Addr} {kvs : List (AV × AV)} {xs : List (NestedKey × Addr × Value)} {od : Obj} (e : μ n = some d) (g : h.get n = some (.dct kvs)) (hS : (d == sysModules) = false) (hd : H d = some (DO W.P W.w d xs)) (pr : Paired (RelKv W.K μ H) kvs xs) :
    RelH W h.n μ ⟨h.t, h.n, h.n⟩ (upd H d (.frz od (DO W.P W.w d xs))) where
  lim := R.lim
  rol := Nat.le_refl _
  roe := rfl
  inj := R.inj
  obj := fun k o q => by
    have q : h.get k = some o := q
    have hk := AH.get_lt q
    have rf : rwOf h.n k = false := by
      unfold rwOf
      cases z : Nat.ble h.n k with
      | false => rfl
      | true => exact absurd (Nat.le_of_ble_eq_true z) (by omega)
    rw [rf]
    obtain ⟨n1, n2, n3⟩ := do_not (P := W.P) (w := W.w) (a := d) (xs := xs)
    have up := den_lock (K := W.K) (μ := μ) (v := .frz od (DO W.P W.w d xs)) hd n1 n2
    by_cases hkn : k = n
    · subst hkn
      rw [g] at q; cases q
      obtain ⟨oo, q2, r2⟩ := R.there e
      rw [g] at q2; cases q2
      exact ⟨d, e, hS, r2.2.1, xs, .inr ⟨rfl, od, upd_same⟩, rkOf pr up⟩
    · obtain ⟨a, e1, r⟩ := R.obj k o q
      have hb : a ≠ d := fun z => hkn (R.inj k n a e1 (by rw [z]; exact e))
      refine ⟨a, e1, r.weak.keep up (fun v q => by rw [upd_ne hb]; exact q) fun b q => ?_⟩
      rw [upd_ne (fun z => n3 (Option.some.inj (by rw [← hd, ← z]; exact q)))]
      exact q
  back := R.back
  full := R.full
  tabs := tabs_upd R.tabs (nocode_do hd)
theorem Step.unlocked (R : RelH W ro μ h H) {n : Nat} {d : Addr} {u : HO} {od : Obj} (e : μ n = some d) (hr : ro ≤ n) (hd : H d = some u) (st : Step h.n μ (upd H d (.frz od u)) μ' H') : Step ro μ H μ' (upd H' d u) where
  ext := st.ext
  new := fun k b q => by
    rcases st.new k b q with z | z
    · exact .inl z
    · right
      by_cases hb : b = d
      · rw [hb, upd_same] at z; cases z
      · rw [upd_ne hb] at z; exact z
  frm := fun b o f nt q => by
    have hb : b ≠ d := fun z => f n hr (by rw [z]; exact e)
    rw [upd_ne hb]
    refine st.frm b o (fun k hk z => ?_) nt (by rw [upd_ne hb]; exact q)
    rw [R.dom hk] at z; cases z
  kep := fun b o q => by
    by_cases hb : b = d
    · exact ⟨u, by rw [hb, upd_same]⟩
    · rw [upd_ne hb]
      exact st.kep b o (by rw [upd_ne hb]; exact q)
theorem RelH.unlocked (R : RelH W ro μ h H) {n : Nat} {d : Addr} {xs : List (NestedKey × Addr × Value)} {od : Obj} (e : μ n = some d) (hr : ro ≤ n) (hd : H d = some (DO W.P W.w d xs)) (st : Step h.n μ (upd H d (.frz od (DO W.P W.w d xs))) μ' H') (R' : RelH W h.n μ' h' H') :
    H' d = some (.frz od (DO W.P W.w d xs)) ∧ RelH W ro μ' (freeH ro h') (upd H' d (DO W.P W.w d xs)) := by
  have hd' : H' d = some (.frz od (DO W.P W.w d xs)) := st.frm d _ (fun k hk z => by rw [R.dom hk] at z; cases z) (fun ps z => by cases z) upd_same
  have hle : ro ≤ h'.n := Nat.le_trans R.rol R'.rol
  have n1 : ∀ ys, HO.frz od (DO W.P W.w d xs) ≠ .tup ys := fun ys z => by cases z
  have n2 : ∀ o ys, HO.frz od (DO W.P W.w d xs) ≠ .frz o (.tup ys) := fun o ys z => by unfold DO at z; cases z
  have up := den_lock (K := W.K) (μ := μ') (v := DO W.P W.w d xs) hd' n1 n2
  refine ⟨hd', R'.lim, hle, rfl, R'.inj, fun k o q => ?_, R'.back, R'.full, tabs_upd R'.tabs (nocode_frz hd')⟩
  have q : h'.get k = some o := q
  obtain ⟨a, e1, r⟩ := R'.obj k o q
  by_cases ha : a = d
  · subst ha
    cases o with
    | lst ys => obtain ⟨_, vs, z, _⟩ := r; rw [hd'] at z; cases z
    | fz ns => obtain ⟨q, z⟩ := r; rw [hd'] at z; unfold DO at z; cases z
    | ins c fs => obtain ⟨dx, vs, z, _⟩ := r; rw [hd'] at z; unfold SlX.SlO at z; cases z
    | dct kvs =>
      obtain ⟨hS, z, ys, hv, pr⟩ := r
      refine ⟨a, e1, hS, z, ys, .inl ?_, rkOf pr up⟩
      rw [upd_same]
      rcases hv with hv | ⟨_, o', hv⟩
      · rw [hd'] at hv; unfold DO at hv; cases hv
      · rw [hd'] at hv
        have := Option.some.inj hv
        injection this with _ e2
        rw [e2]
  · have key : RelO W.P W.w W.K W.ca (rwOf ro k) μ' H' a o := by
      cases hk : rwOf ro k with
      | false => exact r.weak
      | true =>
        cases hk2 : rwOf h.n k with
        | true => rw [hk2] at r; exact r
        | false =>
          rw [hk2] at r
          cases o with
          | lst ys => exact r
          | fz ns => exact r
          | ins c fs => exact r
          | dct kvs =>
            obtain ⟨hS, z, ys, hv, pr⟩ := r
            refine ⟨hS, z, ys, .inl ?_, pr⟩
            rcases hv with hv | ⟨_, o', hv⟩
            · exact hv
            · -- it stood before, as no frozen one
              exfalso
              have hlt : k < h.n := by
                unfold rwOf at hk2
                rcases Nat.lt_or_ge k h.n with z | z
                · exact z
                · rw [Nat.ble_eq_true_of_le z] at hk2; cases hk2
              have hro : ro ≤ k := by unfold rwOf at hk; exact Nat.le_of_ble_eq_true hk
              rcases st.new k a e1 with z | z
              · obtain ⟨oo, _, r0⟩ := R.there z
                have hH : ∀ u, H a = some u → H' a = some u := fun u q => st.frm a u (fun j hj w => by rw [R.dom hj] at w; cases w) (r0.nocode u q).1 (by rw [upd_ne ha]; exact q)
                cases oo with
                | lst ys => obtain ⟨_, vs, z2, _⟩ := r0; have := hH _ z2; rw [hv] at this; cases this
                | fz ns => obtain ⟨q, z2⟩ := r0; have := hH _ z2; rw [hv] at this; unfold DO at this; cases this
                | ins c fs => obtain ⟨dx, vs, z2, _⟩ := r0; have := hH _ z2; rw [hv] at this; unfold SlX.SlO at this; cases this
                | dct kvs0 =>
                  obtain ⟨_, _, ys0, hv0, _⟩ := r0
                  rcases hv0 with z2 | ⟨z2, _⟩
                  · have := hH _ z2; rw [hv] at this; unfold DO at this; cases this
                  · rw [show rwOf ro k = true from hk] at z2; cases z2
              · obtain ⟨o2, g2⟩ := R.full k hlt
                obtain ⟨b, e2, r2⟩ := R.obj k o2 g2
                have e3 := st.ext k b e2
                rw [e1] at e3; cases e3
                obtain ⟨u2, hu2, _⟩ := r2.is
                rw [upd_ne ha, hu2] at z; cases z
    refine ⟨a, e1, key.keep up (fun v q => by rw [upd_ne ha]; exact q) fun b q => ?_⟩
    rw [upd_ne (fun z => by rw [z, hd'] at q; cases q)]
    exact q
end
/-- what may be a dict: its keys, while nothing that stood is written -/
def srcW (v : AV) (h : AH) : Option Src := match v with
  | .obj n => (match h.get n with
    | some (.dct kvs) => (match Nat.ble h.ro n with
      | true => some (.dk n (kvs.map (·.1)))
      | false => none)
    | _ => srcOf v h)
  | v => srcOf v h
def miK (i : Nat) : Loc' → AH → R Src := fun l h => (rOpt (l[i]?.join) h).bind fun x h1 => rOpt (srcW x h1) h1
theorem keysL {K : PySem.W.Frag} {μ : Mu} {H : Hp} : ∀ {kvs : List (AV × AV)} {xs : List (NestedKey × Addr × Value)}, Paired (RelKv K μ H) kvs xs → DenL K μ H (kvs.map (·.1)) (xs.map fun x => V.ref x.2.1)
  | _, _, .nil => .nil
  | _, _, .cons r t => .cons r.2.1 (keysL t)
section
variable {X : Cx} {ca : Ca} {E : XK} {tg : Expr} {ws : List Nat}
theorem unlock_col {ro : Nat} {μ1 μ : Mu} {h1 HF : AH} {H1 H : Hp} {n : Nat} {d D : Addr} {xs : List (NestedKey × Addr × Value)} {od : Obj} {acc : List AV} (R1 : RelH (wd X ca E) ro μ1 h1 H1) (e : μ1 n = some d) (hr : ro ≤ n) (hd : H1 d = some (DO X.prog X.w d xs)) (hD : H1 D = none)
    (c : Col (wd X ca E) h1.n μ1 (upd H1 d (.frz od (DO X.prog X.w d xs))) D (BD X.prog X.w X.K D) μ acc HF H) : H d = some (.frz od (DO X.prog X.w d xs)) ∧ Col (wd X ca E) ro μ1 H1 D (BD X.prog X.w X.K D) μ acc (freeH ro HF) (upd H d (DO X.prog X.w d xs)) := by
  obtain ⟨hd', R2⟩ := R1.unlocked (W := wd X ca E) e hr hd c.st c.R
  have hne : D ≠ d := fun z => by rw [z, hd] at hD; cases hD
  obtain ⟨o, q1, ks, ys, e1, e2, pr, hl⟩ := c.d
  refine ⟨hd', R2, c.st.unlocked R1 e hr hd, ⟨o, by rw [upd_ne hne]; exact q1, ks, ys, e1, e2, rkOf pr ?_, hl⟩, c.fr⟩
  exact den_lock hd' (fun ys z => by cases z) (fun o ys z => by unfold DO at z; cases z)
/-- whatever is walked -/
def tDcK (X : Cx) (ca : Ca) (E : XK) (i : Nat) (ws own : List Nat) (mt : AV → Loc' → Option Loc') (mk mv : ME) : TE := fun σ H Q =>
  tDcN X.prog X.w X.K (tI (wd X ca E) (miOf fun l h => rOpt (l[i]?.join) h)) (tG (w0 X ca) ws mt) (tE (w0 X ca) mk) (tE (w0 X ca) mv) own σ H Q ∨
  tLockE (tDcN X.prog X.w X.K (fun σ H R => tVar i σ H fun v H1 => ∃ d o xs, v = .ref d ∧ (d == sysModules) = false ∧ H1 d = some (.frz o (DO X.prog X.w d xs)) ∧ R (Idk X.prog X.w d o xs) H1) (tG (w0 X ca) ws mt) (tE (w0 X ca) mk) (tE (w0 X ca) mv) own) σ H Q
theorem dcK_imp {i : Nat} {own : List (Str × Nat)} {mt : AV → Loc' → Option Loc'} {mk mv : ME} (hsl : ∀ i ∈ ws, i ∈ own.map (·.2)) {σ : L2.St} {H : Hp} {Q : VK} (hq : tE (wd X ca E) (mDc (own.map (·.2)) mt (miK i) mk mv) σ H Q) : tDcK X ca E i ws (own.map (·.2)) mt mk mv σ H Q := by
  obtain ⟨ro, μ, l, h, A, p⟩ := hq
  unfold mDc miK at p
  cases ex : l[i]?.join with
  | none => rw [ex] at p; exact False.elim p
  | some v =>
    rw [ex] at p
    have p : postG (dV (wd X ca E)) (wd X ca E) ro μ H ((rOpt (srcW v h) h).bind fun s h1 => (compLoop s (turnD (own.map (·.2)) mt mk mv l) turns 0 (lockH s h1)).bind fun ps h5 => match dictOfL ps [], lim ps.length with | some d, true => alloc (freeH h1.ro h5) (.dct d) | _, _ => .bad) Q := p
    have plain : srcW v h = srcOf v h → tE (wd X ca E) (mDc (own.map (·.2)) mt (miOf fun l h => rOpt (l[i]?.join) h) mk mv) σ H Q := fun e => by
      refine ⟨ro, μ, l, h, A, ?_⟩
      unfold mDc miOf
      dsimp only
      rw [ex]
      rw [e] at p
      exact p
    cases v with
    | obj n =>
      cases g : h.get n with
      | none => exact .inl (dc_imp1 hsl miOf_nd (plain (by unfold srcW; dsimp only; rw [g])))
      | some oo =>
        cases oo with
        | lst ys => exact .inl (dc_imp1 hsl miOf_nd (plain (by unfold srcW; dsimp only; rw [g])))
        | fz ns => exact .inl (dc_imp1 hsl miOf_nd (plain (by unfold srcW; dsimp only; rw [g])))
        | ins c fs => exact .inl (dc_imp1 hsl miOf_nd (plain (by unfold srcW; dsimp only; rw [g])))
        | dct kvs =>
          right
          have es : srcW (.obj n) h = (match Nat.ble h.ro n with | true => some (.dk n (kvs.map (·.1))) | false => none) := by unfold srcW; dsimp only; rw [g]
          rw [es] at p
          cases eb : Nat.ble h.ro n with
          | false => rw [eb] at p; exact False.elim p
          | true =>
            rw [eb] at p
            have hr : ro ≤ n := by rw [← A.R.roe]; exact Nat.le_of_ble_eq_true eb
            have hli : l[i]? = some (some (.obj n)) := by
              cases q : l[i]? with
              | none => rw [q] at ex; cases ex
              | some o => rw [q] at ex; exact congrArg some ex
            obtain ⟨u, hsi, du⟩ := A.L.2 i _ hli
            cases du with
            | @obj _ d hn =>
              obtain ⟨hS, xs, hd, pr⟩ := A.R.dctW hn g hr
              refine ⟨d, _, hd, trivial, fun od => ?_⟩
              refine ⟨.ref d, hsi, d, od, xs, rfl, hS, upd_same, fun D hD0 hSD => ?_⟩
              have hne : D ≠ d := fun z => by rw [z, upd_same] at hD0; cases hD0
              have hD : H D = none := by rw [upd_ne hne] at hD0; exact hD0
              have RL := A.R.locked (od := od) hn g hS hd pr
              have p1 : postG (dV (wd X ca E)) (wd X ca E) ro μ H ((compLoop (.dk n (kvs.map (·.1))) (turnD (own.map (·.2)) mt mk mv l) turns 0 ⟨h.t, h.n, h.n⟩).bind fun ps h5 => match dictOfL ps [], lim ps.length with | some d, true => alloc (freeH h.ro h5) (.dct d) | _, _ => .bad) Q := p
              have upl := den_lock (K := X.K) (μ := μ) (v := .frz od (DO X.prog X.w d xs)) hd do_not.1 do_not.2.1
              have L1 : RelL X.K μ (upd H d (.frz od (DO X.prog X.w d xs))) l σ := ⟨A.L.1, fun j y e => let ⟨u, h1, h2⟩ := A.L.2 j y e; ⟨u, h1, upl _ _ h2⟩⟩
              cases el : compLoop (.dk n (kvs.map (·.1))) (turnD (own.map (·.2)) mt mk mv l) turns 0 ⟨h.t, h.n, h.n⟩ with
              | bad => rw [el] at p1; exact False.elim p1
              | ex z hz => exact absurd el compLoop_nox
              | ok PSs HF =>
                rw [el, A.R.roe] at p1
                have p2 : postG (dV (wd X ca E)) (wd X ca E) ro μ H (match dictOfL PSs [], lim PSs.length with | some d, true => alloc (freeH ro HF) (.dct d) | _, _ => .bad) Q := p1
                have hz : PSs.length ≤ sizeLine := by
                  cases e2 : lim PSs.length with
                  | false => rw [e2] at p2; cases e1 : dictOfL PSs [] <;> (rw [e1] at p2; exact False.elim p2)
                  | true => exact lim_le e2
                refine dc_imp (X := X) (ca := ca) (Q := fun v H' => H' d = some (.frz od (DO X.prog X.w d xs)) ∧ Q v (upd H' d (DO X.prog X.w d xs))) hsl L1 (RL.to E0) (.dk upd_same (fun k hk z => by rw [A.R.dom hk] at z; cases z) ?_) el hz hD0 fun μ2 H2 c => ?_
                · exact (keysL pr).mono (fun _ _ e => e) fun _ _ s => sq_upd (fun ys z => by rw [hd] at z; exact do_not.1 ys (Option.some.inj z)) (fun o ys z => by rw [hd] at z; exact do_not.2.1 o ys (Option.some.inj z)) s
                · obtain ⟨k1, k2⟩ := unlock_col A.R hn hr hd hD (w0_up c)
                  exact ⟨k1, dc_end (E := E) hD hSD k2 p2⟩
    | _ => exact .inl (dc_imp1 hsl miOf_nd (plain rfl))
theorem sim_dcK {kx vx : Expr} {x : Str} {i : Nat} {scope : Scope} {own : List (Str × Nat)} {mt : AV → Loc' → Option Loc'} {mk mv : ME} {p pos : Pos} (hc : X.calm = true) (hu : X.A.units + 9 < cLine) (hN : X.N.Nodup) (hv' : SimE X (wd X ca E) (.Name x p) (fun l h => rOpt (l[i]?.join) h)) (hv0 : PE X (.Name x p) (tVar i)) (ok : BlkOk X.N X.env.scope scope own)
    (hg : InB X scope fun Y => SimG Y (w0 X ca) tg ws mt) (hk : InB X scope fun Y => SimE Y (w0 X ca) kx mk) (hv : InB X scope fun Y => SimE Y (w0 X ca) vx mv) (hsl : ∀ i ∈ ws, i ∈ own.map (·.2)) (hs : ∀ y, foldedSetIterable (.Name x p) X.env y = pure y) :
    SimE X (wd X ca E) (.DictComp kx vx [⟨tg, .Name x p, [], 0⟩] scope pos) (mDc (own.map (·.2)) mt (miK i) mk mv) :=
  PE.weaken (PE.either (pe_dcN hc hu hN (simi_of hv') ok hg hk hv hs) (pe_lock (pe_dcN hc hu hN (pi_dk hv0) ok hg hk hv hs))) fun σ H Q hq => dcK_imp hsl hq
theorem PS.either {st : Stmt} {t u : TS} (p : PS X st t) (q : PS X st u) : PS X st (fun D σ H => t D σ H ∨ u D σ H) := ⟨fun pins s σ H D I w => w.elim (p.run pins s σ H D I) (q.run pins s σ H D I)⟩
theorem sims_dcK {kx vx : Expr} {x y : Str} {i j : Nat} {py spos : Pos} {scope : Scope} {own : List (Str × Nat)} {mt : AV → Loc' → Option Loc'} {mk mv : ME} {p pos : Pos} (hc : X.calm = true) (hu : X.A.units + 9 < cLine) (hN : X.N.Nodup) (hy : X.N[j]? = some y) (hyl : X.env.scope.names.lookup y = some .local)
    (hsw : swapsWith (.DictComp kx vx [⟨tg, .Name x p, [], 0⟩] scope pos) (some (.Name y py)) spos.line X.env = pure true) (hv' : SimE X (wd X ca E) (.Name x p) (fun l h => rOpt (l[i]?.join) h)) (hv0 : PE X (.Name x p) (tVar i)) (ok : BlkOk X.N X.env.scope scope own)
    (hg : InB X scope fun Y => SimG Y (w0 X ca) tg ws mt) (hk : InB X scope fun Y => SimE Y (w0 X ca) kx mk) (hv : InB X scope fun Y => SimE Y (w0 X ca) vx mv) (hsl : ∀ i ∈ ws, i ∈ own.map (·.2)) (hs : ∀ y, foldedSetIterable (.Name x p) X.env y = pure y) :
    SimS X (wd X ca E) (.Assign [.Name y py] (.DictComp kx vx [⟨tg, .Name x p, [], 0⟩] scope pos) spos) (mSet j (mDc (own.map (·.2)) mt (miK i) mk mv)) :=
  PS.weaken (PS.either (ps_dcN hc hu hN hy hyl hsw (simi_of hv') ok hg hk hv hs) (ps_lock (ps_dcN hc hu hN hy hyl hsw (pi_dk hv0) ok hg hk hv hs))) fun D σ H hq => by
    obtain ⟨ro, μ, l, h, A, p⟩ := hq
    have k := dcK_imp (X := X) (ca := ca) (E := E) (i := i) (own := own) (mt := mt) (mk := mk) (mv := mv) (Q := fun v H1 => D.nx (σ.set j (some v)) H1) hsl ⟨ro, μ, l, h, A, (toS_P (dV _) A p).imp fun u H1 ⟨μ1, v, h1, A1, d, st, q⟩ => q μ1 _ H1 Step.refl ⟨A1.L.set d, A1.R⟩⟩
    rcases k with k | ⟨d, u, h1, h2, k⟩
    · exact .inl k
    · exact .inr ⟨d, u, h1, h2, fun od => k od⟩
end
end Ev
set_option Elab.async false
set_option linter.all false
set_option maxRecDepth 100000
set_option maxHeartbeats 4000000
/-! defs -/
namespace Ev
open PySem PySem.Spec PyProof.Rows L2
def endF (r : RS) : R AV := match r with
  | .nx _ h1 => .ok .non h1
  | .rt v h1 => .ok v h1
  | .ex x h1 => .ex x h1
  | .bad => .bad
/-- a def of np parameters, n names -/
def fnM (np n : Nat) (m : MS) : Fn := fun args h => match Nat.beq args.length np with
  | true => endF (m (args.map some ++ List.replicate (n - args.length) none) h)
  | false => .bad
def FnW (P : Program) (w : World) (K : PySem.W.Frag) (mg : Str → Option Value) (base : Heap) (ca : Ca) (lv : Nat) (F : Fn) (f : Addr) : Prop := FnR P w K mg base (L2.CX P w) lv f (spF ⟨P, w, K, ca, E0⟩ F)
theorem FnW.s {X : Cx} {ca : Ca} {lv : Nat} {F : Fn} {f : Addr} (h : FnW X.prog X.w X.K X.mg X.base ca lv F f) : FnS X ca lv F f := h
theorem start_rel {K : PySem.W.Frag} {μ : Mu} {H : Hp} {args : List AV} {vs : List V} {N : List Str} (d : DenL K μ H args vs) : RelL K μ H (args.map some ++ List.replicate (N.length - args.length) none) (start N vs) := by
  unfold L2.start
  refine ⟨by simp [d.length], fun i v e => ?_⟩
  rcases Nat.lt_or_ge i args.length with hi | hi
  · rw [List.getElem?_append_left (by simpa using hi), List.getElem?_map] at e
    cases q : args[i]? with
    | none => rw [q] at e; cases e
    | some x =>
      rw [q] at e
      cases e
      obtain ⟨u, h1, h2⟩ := d.get q
      exact ⟨u, by rw [List.getElem?_append_left (by simpa [← d.length] using hi), List.getElem?_map, h1]; rfl, h2⟩
  · rw [List.getElem?_append_right (by simpa using hi), List.getElem?_replicate] at e
    split at e <;> cases e
section
variable {P : Program} {w : World} {K : PySem.W.Frag} {mg : Str → Option Value} {base : Heap} {ca : Ca} {x qual : Str} {params : Arguments} {body : List Stmt} {scope : Scope} {f : Addr} {fd : FuncData} {N ps : List Str} {k : Nat} {m : MS}
theorem fn_okS (F : FunD K x qual params body scope [] [] f fd) (S : FnScope N ps scope)
    (hbody : ∀ (cdv : Value) (A : Around) (outer : List Env) (s : Shared) (H : Hp) (E : XK), Room k (A.deeper (envOfC qual scope s.heap.objs.size f cdv)) → SimSs (cxOf (L2.CX P w) P w K mg base N qual scope f cdv A outer s H E) ⟨P, w, K, ca, E⟩ body m) :
    FnOk P w K mg base (L2.CX P w) (k + 1) f fd ps (spF ⟨P, w, K, ca, E0⟩ (fnM ps.length N.length m)) := by
  refine F.ok S (fun vs H Q E ⟨ro, μ, h, args, R, d, p⟩ => ?_) (fun cdv A outer s H vs Q E hr ⟨ro, μ, h, args, R, d, p⟩ => ⟨_, hbody cdv A outer s H E hr, ro, μ, args.map some ++ List.replicate (N.length - args.length) none, h, ⟨start_rel d, R.to E⟩, ?_⟩)
  · unfold fnM at p
    cases e : Nat.beq args.length ps.length with
    | false => rw [e] at p; exact False.elim p
    | true => rw [← d.length]; exact Nat.eq_of_beq_eq_true e
  · unfold fnM at p
    cases e : Nat.beq args.length ps.length with
    | false => rw [e] at p; exact False.elim p
    | true =>
      rw [e] at p
      dsimp only at p
      cases e2 : m (args.map some ++ List.replicate (N.length - args.length) none) h with
      | nx l h1 => rw [e2] at p; exact fun μ1 σ1 H1 st A1 => p μ1 .non H1 st A1.R .non
      | rt v h1 => rw [e2] at p; exact p
      | ex z h1 => rw [e2] at p; exact p
      | bad => rw [e2] at p; exact p
theorem fn_sim (F : FunD K x qual params body scope [] [] f fd) (S : FnScope N ps scope) (hb : Binds K fd ps [])
    (hbody : ∀ (cdv : Value) (A : Around) (outer : List Env) (s : Shared) (H : Hp) (E : XK), Room k (A.deeper (envOfC qual scope s.heap.objs.size f cdv)) → SimSs (cxOf (L2.CX P w) P w K mg base N qual scope f cdv A outer s H E) ⟨P, w, K, ca, E⟩ body m) :
    FnW P w K mg base ca (k + 1) (fnM ps.length N.length m) f := by
  have q := (fn_okS (ca := ca) (mg := mg) (base := base) F S hbody).raw hb .nil
  exact q.imp fun vs H Q E h => by rw [List.append_nil]; exact h
end
end Ev
set_option Elab.async false
set_option linter.all false
set_option maxRecDepth 100000
set_option maxHeartbeats 4000000
/-! the rules in short, for printed terms -/
namespace Ev
open PySem PySem.Spec PyProof.Rows L2
/-- a context of a body: room lv -/
structure CF (X : Cx) (E : XK) (lv : Nat) : Prop where
  calm : X.calm = true
  room : Room lv X.A
  tk : Takes X (WE0 E)
  nd : X.N.Nodup
theorem CF.hu {X : Cx} {E : XK} {lv : Nat} (c : CF X E lv) : X.A.units + 65 < cLine := by have := c.room.un; omega
theorem CF.to {X : Cx} {E : XK} {lv : Nat} (c : CF X E lv) (k : Nat) (h : k ≤ lv) : Room k X.A := c.room.mono h
theorem takesN {X : Cx} : Takes X (WE0 E0) := takes0
theorem CF.blk {X : Cx} {E : XK} {lv : Nat} (c : CF X E lv) (s : Shared) (H : Hp) (scope : Scope) (ce : Env) (fp : List Addr) : CF (X.blk s H scope ce fp) E0 lv := ⟨c.calm, c.room, takesN, c.nd⟩
/-! the machine's words -/
def mV (i : Nat) : ME := fun l h => rOpt (l[i]?.join) h
def mC (x : AV) : ME := fun _ h => .ok x h
def mTup (ms : Loc' → AH → R (List AV)) : ME := fun l h => (ms l h).bind fun vs h1 => match lim vs.length with | true => .ok (.tup vs) h1 | false => .bad
def mLst (ms : Loc' → AH → R (List AV)) : ME := fun l h => (ms l h).bind fun vs h1 => match lim vs.length with | true => alloc h1 (.lst vs) | false => .bad
def a0 : Loc' → AH → R (List AV) := fun _ h => .ok [] h
def aC (ma : ME) (ms : Loc' → AH → R (List AV)) : Loc' → AH → R (List AV) := fun l h => (ma l h).bind fun x h1 => (ms l h1).bind fun xs h2 => .ok (x :: xs) h2
def mBin (op : Operator) (ma mb : ME) : ME := fun l h => (ma l h).bind fun x h1 => (mb l h1).bind fun y h2 => binA op x y h2
def mNeg (ma : ME) : ME := fun l h => (ma l h).bind fun x h1 => match x with | .int i => .ok (.int (-i)) h1 | _ => .bad
def mCmp (op : CmpOp) (ma mb : ME) : ME := fun l h => (ma l h).bind fun x h1 => (mb l h1).bind fun y h2 => cmpA op x y h2
def mChn (op op' : CmpOp) (ma mb mc : ME) : ME := fun l h => (ma l h).bind fun x h1 => (mb l h1).bind fun y h2 => asB (cmpA op x y h2) fun r h3 => match r with | true => (mc l h3).bind fun z h4 => cmpA op' y z h4 | false => .ok (.bl false) h3
def mNot (ma : ME) : ME := fun l h => asB (ma l h) fun r h1 => .ok (.bl (!r)) h1
def mIte (mc ma mb : ME) : ME := fun l h => asB (mc l h) fun r h1 => match r with | true => ma l h1 | false => mb l h1
def mSub (ma mb : ME) : ME := fun l h => (ma l h).bind fun x h1 => (mb l h1).bind fun y h2 => subA x y h2
def mCall (F : Fn) (ms : Loc' → AH → R (List AV)) : ME := fun l h => (ms l h).bind fun vs h1 => F vs h1
def mCall0 (F : Fn) : ME := fun _ h => F [] h
def mAttr (ma : ME) (alts : List (Nat × Nat)) : ME := fun l h => (ma l h).bind fun x h1 => attA x alts h1
def tab1 (F : Fn) : Tab := ⟨fun _ => F, fun _ => .non⟩
def mMet (τ : Tab) (ma : ME) (alts : List (Nat × Nat)) (ms : Loc' → AH → R (List AV)) : ME := fun l h => (ma l h).bind fun x h1 => match insOf h1 x with
  | some (c, _) => (match altOf c alts with
    | some k => (ms l h1).bind fun vs h2 => τ.fn k (x :: vs) h2
    | none => .bad)
  | none => .bad
def mMet0 (τ : Tab) (ma : ME) (alts : List (Nat × Nat)) : ME := fun l h => (ma l h).bind fun x h1 => match insOf h1 x with
  | some (c, _) => (match altOf c alts with
    | some k => τ.fn k [x] h1
    | none => .bad)
  | none => .bad
def mPrp (τ : Tab) (ma : ME) (alts : List (Nat × Nat)) : ME := fun l h => (ma l h).bind fun x h1 => match insOf h1 x with
  | some (c, _) => (match altOf c alts with
    | some k => (τ.fn k [x] h1).nox
    | none => .bad)
  | none => .bad
def mLenO (τ : Tab) (ma : ME) (alts : List (Nat × Nat)) : ME := fun l h => (ma l h).bind (lenK τ alts)
def mIsi (ma : ME) (c : Cl) : ME := fun l h => (ma l h).bind fun v h1 => rOpt ((isiA v c h1).map .bl) h1
def mB1 (g : List AV → AH → R AV) (ma : ME) : ME := fun l h => (ma l h).bind fun v h1 => g [v] h1
def mBs (g : List AV → AH → R AV) (ms : Loc' → AH → R (List AV)) : ME := fun l h => (ms l h).bind g
def mBm (m : Bm) (ma : ME) (ms : Loc' → AH → R (List AV)) : ME := fun l h => (ma l h).bind fun x h1 => match isLst x h1 with
  | true => (ms l h1).bind fun vs h2 => bmA m x vs h2
  | false => .bad
def mBm0 (m : Bm) (ma : ME) : ME := fun l h => (ma l h).bind fun x h1 => match isLst x h1 with
  | true => bmA m x [] h1
  | false => .bad
section
variable {X : Cx} {ca : Ca} {E : XK} {lv : Nat} {a b d e o : Expr} {es rest : List Expr} {ma mb mc : ME} {ms : Loc' → AH → R (List AV)} {pos p p2 apos : Pos} {x y : Str} {F : Fn} {f : Addr}
theorem gV (i : Nat) (hN : X.N[i]? = some x := by rfl) (hv : Vis X.env.scope x := by first | exact Or.inl rfl | exact Or.inr (Or.inl rfl) | exact Or.inr (Or.inr rfl)) (hd : (x == ("__debug__" : Str)) = false := by decide) (hc : (x == ("__classdict__" : Str)) = false := by decide) : SimE X (wd X ca E) (.Name x pos) (mV i) := sim_var hN hv hd hc
theorem gI {i : Int} {j : Nat} : SimE X (wd X ca E) (.Constant (.int i) j pos) (mC (.int i)) := sim_c pe_int fun _ _ => .int _
theorem gS {z : Str} {j : Nat} : SimE X (wd X ca E) (.Constant (.str z) j pos) (mC (.str z)) := sim_c pe_str fun _ _ => .str _
theorem gB {z : Bool} {j : Nat} : SimE X (wd X ca E) (.Constant (.bool z) j pos) (mC (.bl z)) := sim_c pe_bl fun _ _ => .bl _
theorem gN {j : Nat} : SimE X (wd X ca E) (.Constant .none j pos) (mC .non) := sim_c pe_non fun _ _ => .non
/-- a constant of the module -/
def GlK (K : PySem.W.Frag) (mg : Str → Option Value) (x : Str) (v : AV) : Prop := ∃ u w, mg x = some u ∧ RelV w u ∧ ∀ μ H, Den K μ H v w
theorem gG {v : AV} (k : GlK X.K X.mg x v) (hg : Gl X x := by rfl) (hd : (x == ("__debug__" : Str)) = false := by decide) : SimE X (wd X ca E) (.Name x pos) (mC v) := by
  obtain ⟨u, w, h1, h2, h3⟩ := k
  exact sim_c (pe_glob hg h1 h2 hd) h3
theorem g0 : SimA X (wd X ca E) [] a0 := sim_nil
theorem gA (ha : SimE X (wd X ca E) a ma) (hr : SimA X (wd X ca E) es ms) (hs : notStar a = true := by rfl) : SimA X (wd X ca E) (a :: es) (aC ma ms) := sim_cons ha hr (star_one hs)
theorem gTup {k : Nat} (ha : SimA X (wd X ca E) es ms) : SimE X (wd X ca E) (.Tuple es k pos) (mTup ms) := sim_tup ha
theorem gLst (ha : SimA X (wd X ca E) es ms) : SimE X (wd X ca E) (.List es pos) (mLst ms) := sim_mk ha
theorem gBin {op : Operator} (ha : SimE X (wd X ca E) a ma) (hb : SimE X (wd X ca E) b mb) : SimE X (wd X ca E) (.BinOp a op b pos) (mBin op ma mb) := sim_bin ha hb
theorem gNeg (ha : SimE X (wd X ca E) a ma) : SimE X (wd X ca E) (.UnaryOp .USub a pos) (mNeg ma) := sim_neg ha
theorem gCmp (c : CF X E lv) {op : CmpOp} (ha : SimE X (wd X ca E) a ma) (hb : SimE X (wd X ca E) b mb) (hm : behindInMarks op b = false := by rfl) : SimE X (wd X ca E) (.Compare a [op] [b] pos) (mCmp op ma mb) := sim_cmp c.hu ha hb hm
theorem tCmp (c : CF X E lv) {op : CmpOp} (ha : SimE X (wd X ca E) a ma) (hb : SimE X (wd X ca E) b mb) (hm : behindInMarks op b = false := by rfl) : SimT X (wd X ca E) (.Compare a [op] [b] pos) (mCmp op ma mb) := simt_cmp c.hu ha hb hm
theorem gChn (c : CF X E lv) {op op' : CmpOp} (ha : SimE X (wd X ca E) a ma) (hb : SimE X (wd X ca E) b mb) (hd : SimE X (wd X ca E) d mc) (hm : lastMarks [op, op'] [b, d] = false := by rfl) : SimE X (wd X ca E) (.Compare a [op, op'] [b, d] pos) (mChn op op' ma mb mc) := sim_chain c.hu ha hb hd hm
theorem tChn (c : CF X E lv) {op op' : CmpOp} (ha : SimE X (wd X ca E) a ma) (hb : SimE X (wd X ca E) b mb) (hd : SimE X (wd X ca E) d mc) (hm : lastMarks [op, op'] [b, d] = false := by rfl) : SimT X (wd X ca E) (.Compare a [op, op'] [b, d] pos) (mChn op op' ma mb mc) := simt_chain c.hu ha hb hd hm
theorem gNot (ha : SimE X (wd X ca E) a ma) : SimE X (wd X ca E) (.UnaryOp .Not a pos) (mNot ma) := sim_not ha
theorem tNot (ha : SimT X (wd X ca E) a ma) : SimT X (wd X ca E) (.UnaryOp .Not a pos) (mNot ma) := simt_not ha
theorem gIte (hc : SimT X (wd X ca E) d mc) (ha : SimE X (wd X ca E) a ma) (hb : SimE X (wd X ca E) b mb) : SimE X (wd X ca E) (.IfExp d a b pos) (mIte mc ma mb) := sim_ite hc ha hb
theorem gSub (c : CF X E lv) (ha : SimE X (wd X ca E) a ma) (hb : SimE X (wd X ca E) b mb) (hs : PlainIx b := by exact fun _ _ => rfl) : SimE X (wd X ca E) (.Subscript a b pos) (mSub ma mb) := sim_sub c.hu ha hb hs
/-- a test by its value -/
theorem tV (ha : SimE X (wd X ca E) a ma) (he : ∀ whole, isTrue a X.env whole = (do let v ← whole; standAt a.pos; holding [v] (truthy v)) := by intro _; rfl) : SimT X (wd X ca E) a ma := sim_pt ha he
theorem gCall (c : CF X E lv) {k : Nat} (hm : X.mg x = some (.ref f)) (hk : PySem.W.keepIn X.K (.ref f) = true) (hf : FnW X.prog X.w X.K X.mg X.base ca k F f) (ha : SimA X (wd X ca E) (e :: es) ms) (hl : k ≤ lv := by decide) (hg : Gl X x := by rfl) (hs : (e :: es).all notStar = true := by rfl) (hd : (x == ("__debug__" : Str)) = false := by decide) :
    SimE X (wd X ca E) (.Call (.Name x p) (e :: es) [] pos) (mCall F ms) := sim_call (c.to k hl) c.tk hg hm hk hf.s ha hs hd
theorem gCall0 (c : CF X E lv) {k : Nat} (hm : X.mg x = some (.ref f)) (hk : PySem.W.keepIn X.K (.ref f) = true) (hf : FnW X.prog X.w X.K X.mg X.base ca k F f) (hl : k ≤ lv := by decide) (hg : Gl X x := by rfl) (hd : (x == ("__debug__" : Str)) = false := by decide) :
    SimE X (wd X ca E) (.Call (.Name x p) [] [] pos) (mCall0 F) := sim_call0 (c.to k hl) c.tk hg hm hk hf.s hd
theorem gIsi (n : Ty) (hm : X.mg "isinstance" = none) (hym : X.mg y = none) (ha : SimE X (wd X ca E) a ma) (hyv : bootBuiltins y = some (.type n.name) := by rfl) (hn : n ≠ .nt := by decide) (hg : Gl X "isinstance" := by rfl) (hs : notStar a = true := by rfl) (hy : Gl X y := by rfl) (hy1 : y ≠ "__name__" := by decide) (hy2 : (y == ("__debug__" : Str)) = false := by decide) :
    SimE X (wd X ca E) (.Call (.Name "isinstance" p) [a, .Name y p2] [] pos) (mIsi ma (.ty n)) := sim_isi hg hm ha hs hn hy hym hyv hy1 hy2
end
end Ev
set_option Elab.async false
set_option linter.all false
set_option maxRecDepth 100000
set_option maxHeartbeats 4000000
/-! what the head tells: defs by a path, facts by a test -/
namespace Ev
open PySem PySem.Spec PyProof.Rows L2
abbrev Path := PySem.W.Frag → Addr
/-- a global's object -/
def pG (x : Str) : Path := fun K => He.ga K x
/-- a class's attribute -/
def pM (x m : Str) : Path := fun K => He.ma K (He.ga K x) m
/-- the getter of a property -/
def pP (x m : Str) : Path := fun K => match PySem.W.recIn K (He.ma K (He.ga K x) m) "property" with
  | some (.ref g :: _) => g
  | _ => 0
structure DefP where
  at_ : Path
  name : Str
  qual : Str
  params : Arguments
  body : List Stmt
  scope : Scope
abbrev ObF : Type := Option (Str × Str × Arguments × FuncBody × Scope × Addr × List (Str × Addr) × Addr)
def obF (K : PySem.W.Frag) (a : Addr) : ObF := match K.lookup a with
  | some ⟨_, _, .func fd, _⟩ => some (fd.name, fd.qualname, fd.params, fd.body, fd.scope, fd.globals, fd.closure, fd.builtins)
  | _ => none
def DefP.val (d : DefP) : ObF := some (d.name, d.qual, d.params, .stmts d.body, d.scope, mainGlobals, [], builtinsNs)
def DefP.ok (K : PySem.W.Frag) (d : DefP) : Bool := PySem.W.keepIn K (.ref (d.at_ K)) && (match K.lookup (d.at_ K) with
  | some ⟨_, _, .func fd, _⟩ => PySem.W.codeIn K fd.code d.qual && (match fd.defaults with
    | .none => true
    | _ => false)
  | _ => false)
theorem DefP.fun_ {K : PySem.W.Frag} {d : DefP} (e : obF K (d.at_ K) = d.val) (c : d.ok K = true) : ∃ fd, FunD K d.name d.qual d.params d.body d.scope [] [] (d.at_ K) fd := by
  obtain ⟨kp, c2⟩ := Bool.and_eq_true_iff.mp c
  unfold obF at e
  cases q : K.lookup (d.at_ K) with
  | none => rw [q] at c2; cases c2
  | some o =>
    obtain ⟨oc, od, dt, osl⟩ := o
    rw [q] at c2 e
    cases dt with
    | func fd =>
      dsimp only at c2 e
      obtain ⟨k1, k2⟩ := Bool.and_eq_true_iff.mp c2
      obtain ⟨f1, f2, f3, f4, f5, f6, f7, f8, f9, f10, f11, f12, f13, f14, f15⟩ := fd
      have e2 : (some (f1, f2, f3, f4, f5, f6, f7, f15) : ObF) = some (d.name, d.qual, d.params, .stmts d.body, d.scope, mainGlobals, [], builtinsNs) := e
      simp only [Option.some.injEq, Prod.mk.injEq] at e2
      obtain ⟨g1, g2, g3, g4, g5, g6, g7, g8⟩ := e2
      subst g1 g2 g3 g4 g5 g6 g7 g8
      have hf8 : f8 = .none := by cases f8 <;> first | rfl | cases k2
      subst hf8
      exact ⟨_, ⟨oc, od, .none, f9, f10, f11, f12, f13, f14, osl, rfl, q, k1, .inl ⟨rfl, rfl⟩, .inl rfl⟩, kp⟩
    | _ => cases c2
abbrev AlP : Type := Bool × List ObF
def obP (ex : PySem.W.Frag → Bool) (fn : List DefP) (K : PySem.W.Frag) : AlP := (ex K && fn.all fun d => d.ok K, fn.map fun d => obF K (d.at_ K))
def vaP (fn : List DefP) : AlP := (true, fn.map DefP.val)
def SaysP (ex : PySem.W.Frag → Bool) (fn : List DefP) (K : PySem.W.Frag) : Prop := obP ex fn K = vaP fn
def obG (n : Nat) (ex : PySem.W.Frag → Bool) (fn : List DefP) (g : Addr → Option Obj) : AlP := obP ex fn (He.frG g (He.asD g n))
def hookP (n : Nat) (ex : PySem.W.Frag → Bool) (fn : List DefP) : PySem.W.Hook where
  α := AlP
  obs := fun s => obG n ex fn s.heap.get?
  val := fun _ => vaP fn
  says := fun _ h => ∃ K : PySem.W.Frag, K.In h ∧ SaysP ex fn K
  of := fun _ _ e => ⟨_, He.frG_in, e⟩
  keeps := fun _ _ _ ⟨K, hK, c⟩ k => ⟨K, PySem.W.Frag.In.keeps hK k, c⟩
theorem obG_eq {n : Nat} {ex : PySem.W.Frag → Bool} {fn : List DefP} {g : Addr → Option Obj} {s : Shared} (h : ∀ a, g a = s.heap.get? a) : obG n ex fn g = (hookP n ex fn).obs s := by
  have e : g = s.heap.get? := funext h
  rw [e]
  rfl
section
variable {ex : PySem.W.Frag → Bool} {fn : List DefP} {K : PySem.W.Frag}
theorem SaysP.two (c : SaysP ex fn K) : ex K = true ∧ (fn.all fun d => d.ok K) = true := Bool.and_eq_true_iff.mp (congrArg (fun z : AlP => z.1) c)
theorem SaysP.def_ (c : SaysP ex fn K) (i : Nat) {d : DefP} (h : fn[i]? = some d) : ∃ fd, FunD K d.name d.qual d.params d.body d.scope [] [] (d.at_ K) fd := by
  have e : fn.map (fun d => obF K (d.at_ K)) = fn.map DefP.val := congrArg (fun z : AlP => z.2) c
  have e2 : (fn.map fun d => obF K (d.at_ K))[i]? = (fn.map DefP.val)[i]? := by rw [e]
  rw [List.getElem?_map, List.getElem?_map, h] at e2
  exact DefP.fun_ (Option.some.inj e2) (List.all_eq_true.mp c.two.2 d (List.mem_of_getElem? h))
end
/-! facts, as tests -/
inductive Fc where
  | glo (x : Str)
  | free (x : Str)
  | int (x : Str) (i : Int)
  | str (x z : Str)
  | tup (x : Str) (v : AV)
  | slt (x f : Str) (i : Nat)
  | scl (x : Str)
  | meth (x m : Str)
  | mk (x : Str)
  | prp (x m : Str)
  | eqo (x : Str)
  | isi (x y : Str) (b : Bool)
  | isit (y : Str)
  | keep (x : Str)
def eqD {α : Type} [DecidableEq α] (a b : α) : Bool := decide (a = b)
mutual
/-- a value of the module's, read off the written part -/
def isAV (K : PySem.W.Frag) : AV → Value → Bool
  | .non, v => (match v with | .none => true | _ => false)
  | .bl b, v => (match v with | .bool c => b == c | _ => false)
  | .int i, v => (match v with | .int j _ => decide (i = j) | _ => false)
  | .str x, v => (match v with | .str y _ => decide (x = y) | _ => false)
  | .tup xs, v => (match v with
    | .ref a => (match K.lookup a with
      | some ⟨.type c, _, .seq its _, _⟩ => decide (c = "tuple") && (decide (its.size ≤ sizeLine) && isAVs K xs its.toList)
      | _ => false)
    | _ => false)
  | .obj _, _ => false
def isAVs (K : PySem.W.Frag) : List AV → List Value → Bool
  | [], us => (match us with | [] => true | _ => false)
  | x :: xs, us => (match us with
    | u :: us => isAV K x u && isAVs K xs us
    | [] => false)
end
mutual
theorem isAV_ok {K : PySem.W.Frag} : ∀ {x : AV} {u : Value}, isAV K x u = true → ∃ v, RelV v u ∧ ∀ μ H, Den K μ H x v
  | .non, u, h => by
    cases u <;> first | exact ⟨.non, rfl, fun _ _ => .non⟩ | (unfold isAV at h; cases h)
  | .bl b, u, h => by
    unfold isAV at h
    cases u with
    | bool c => have : b = c := eq_of_beq h; subst this; exact ⟨.bl b, rfl, fun _ _ => .bl _⟩
    | _ => cases h
  | .int i, u, h => by
    unfold isAV at h
    cases u with
    | int j t => have : i = j := of_decide_eq_true h; subst this; exact ⟨.int i, ⟨t, rfl⟩, fun _ _ => .int _⟩
    | _ => cases h
  | .str x, u, h => by
    unfold isAV at h
    cases u with
    | str j t => have : x = j := of_decide_eq_true h; subst this; exact ⟨.str x, ⟨t, rfl⟩, fun _ _ => .str _⟩
    | _ => cases h
  | .obj _, u, h => by unfold isAV at h; cases h
  | .tup xs, u, h => by
    unfold isAV at h
    cases u with
    | ref a =>
      dsimp only at h
      cases q : K.lookup a with
      | none => rw [q] at h; cases h
      | some o =>
        obtain ⟨oc, od, dt, osl⟩ := o
        rw [q] at h
        cases oc with
        | type c =>
          cases dt with
          | seq its n =>
            dsimp only at h
            obtain ⟨h1, h2⟩ := Bool.and_eq_true_iff.mp h
            obtain ⟨h3, h4⟩ := Bool.and_eq_true_iff.mp h2
            obtain ⟨vs, r, d⟩ := isAVs_ok h4
            refine ⟨.ref a, rfl, fun μ H => .tup (.inr ⟨_, its, n, q, congrArg Value.type (of_decide_eq_true h1), rfl, of_decide_eq_true h3, r⟩) (d μ H)⟩
          | _ => cases h
        | _ => cases dt <;> cases h
    | _ => cases h
theorem isAVs_ok {K : PySem.W.Frag} : ∀ {xs : List AV} {us : List Value}, isAVs K xs us = true → ∃ vs, Vals vs us ∧ ∀ μ H, DenL K μ H xs vs
  | [], us, h => by
    cases us with
    | nil => exact ⟨[], .nil, fun _ _ => .nil⟩
    | cons _ _ => unfold isAVs at h; cases h
  | x :: xs, us, h => by
    cases us with
    | nil => unfold isAVs at h; cases h
    | cons u us =>
      unfold isAVs at h
      obtain ⟨h1, h2⟩ := Bool.and_eq_true_iff.mp h
      obtain ⟨v, r, d⟩ := isAV_ok h1
      obtain ⟨vs, r2, d2⟩ := isAVs_ok h2
      exact ⟨v :: vs, .cons r r2, fun μ H => .cons (d μ H) (d2 μ H)⟩
end
def tyAll : List Ty := [.nt, .bool, .int, .str, .tuple, .list, .dict]
def Fc.ok (K : PySem.W.Frag) : Fc → Bool
  | .glo x => eqD (PySem.W.nsIn K mainGlobals x) (some (some (.ref (He.ga K x))))
  | .free x => eqD (PySem.W.nsIn K mainGlobals x) (some none)
  | .int x i => (match PySem.W.nsIn K mainGlobals x with
    | some (some v) => isAV K (.int i) v
    | _ => false)
  | .str x z => (match PySem.W.nsIn K mainGlobals x with
    | some (some v) => isAV K (.str z) v
    | _ => false)
  | .tup x a => (match PySem.W.nsIn K mainGlobals x with
    | some (some v) => isAV K a v
    | _ => false)
  | .scl x => PySem.W.plainGet K (He.ga K x) Str.empty && (PySem.W.isClsIn K (He.ga K x) && (PySem.W.plainOver K (He.ga K x) && eqD (PySem.W.findIn K (.ref (He.ga K x)) "__setattr__") (some (some (.builtin "object.__setattr__")))))
  | .slt x f i => eqD (PySem.W.findIn K (.ref (He.ga K x)) f) (some (some (.ref (pM x f K)))) && (eqD (PySem.W.specialIn K (.ref (pM x f K)) "__get__") (some (some (.builtin "member_descriptor.__get__"))) && (eqD (PySem.W.takesIn K (.ref (pM x f K))) (some true) &&
    (eqD (PySem.W.typeIn K (.ref (pM x f K))) (some (.type "member_descriptor")) && (eqD (PySem.W.slotIn K (pM x f K) (He.ga K x)) (some i) && decide (i < 1000)))))
  | .meth x m => eqD (PySem.W.findIn K (.ref (He.ga K x)) m) (some (some (.ref (pM x m K)))) && (PySem.W.isFn K (.ref (pM x m K)) && PySem.W.keepIn K (.ref (pM x m K)))
  | .mk x => PySem.W.makesIn K (He.ga K x) && (eqD (PySem.W.findIn K (.ref (He.ga K x)) "__init__") (some (some (.ref (pM x "__init__" K)))) && (PySem.W.isFn K (.ref (pM x "__init__" K)) && PySem.W.keepIn K (.ref (He.ga K x))))
  | .prp x m => eqD (PySem.W.findIn K (.ref (He.ga K x)) m) (some (some (.ref (pM x m K)))) && (eqD (PySem.W.specialIn K (.ref (pM x m K)) "__get__") (some (some (.builtin "property.__get__"))) && (eqD (PySem.W.takesIn K (.ref (pM x m K))) (some true) &&
    (match PySem.W.recIn K (pM x m K) "property" with
      | some (.ref g :: _) => true
      | _ => false)))
  | .eqo x => eqD (PySem.W.subIn K (.ref (He.ga K x)) (.type "object")) (some true) && (eqD (PySem.W.findIn K (.ref (He.ga K x)) "__ne__") (some (some (.builtin "object.__ne__"))) && (eqD (PySem.W.findIn K (.ref (He.ga K x)) "__eq__") (some (some (.ref (pM x "__eq__" K)))) && PySem.W.isFn K (.ref (pM x "__eq__" K))))
  | .isit y => tyAll.all fun t => eqD (PySem.W.kitOne K (.type t.name) (.ref (He.ga K y))) (some false)
  | .isi x y b => eqD (PySem.W.findIn K (.ref (He.ga K x)) "__class__") (some (some (.builtin "object.__class__"))) && (eqD (PySem.W.specialIn K (.builtin "object.__class__") "__get__") (some (some (.builtin "getset_descriptor.__get__"))) && (eqD (PySem.W.takesIn K (.builtin "object.__class__")) (some true) &&
    (eqD (PySem.W.mroIn K (He.ga K x) (.type "object")) (some true) && eqD (PySem.W.kitOne K (.ref (He.ga K x)) (.ref (He.ga K y))) (some b))))
  | .keep x => PySem.W.keepIn K (.ref (He.ga K x))
def factsB (fs : List Fc) (K : PySem.W.Frag) : Bool := fs.all fun f => f.ok K
section
variable {K : PySem.W.Frag} {h : Heap} {mg : Str → Option Value} {x y f m : Str}
theorem eqD_ok {α : Type} [DecidableEq α] {a b : α} (h : eqD a b = true) : a = b := of_decide_eq_true h
theorem fc_glo (X : K.In h) (G : h.Ns mainGlobals mg) (c : (Fc.glo x).ok K = true) : mg x = some (.ref (He.ga K x)) := PySem.W.mg_of X G (eqD_ok c)
theorem fc_free (X : K.In h) (G : h.Ns mainGlobals mg) (c : (Fc.free x).ok K = true) : mg x = none := PySem.W.mg_none_of X G (eqD_ok c)
theorem fc_val (X : K.In h) (G : h.Ns mainGlobals mg) {v : AV} (c : (match PySem.W.nsIn K mainGlobals x with | some (some u) => isAV K v u | _ => false) = true) : GlK K mg x v := by
  cases e : PySem.W.nsIn K mainGlobals x with
  | none => rw [e] at c; cases c
  | some o =>
    rw [e] at c
    cases o with
    | none => cases c
    | some u =>
      obtain ⟨w, r, d⟩ := isAV_ok (show isAV K v u = true from c)
      exact ⟨u, w, PySem.W.mg_of X G e, r, d⟩
theorem fc_scl (c : (Fc.scl x).ok K = true) : SlX.SCls K (He.ga K x) := by
  obtain ⟨c1, c⟩ := Bool.and_eq_true_iff.mp c
  obtain ⟨c2, c⟩ := Bool.and_eq_true_iff.mp c
  obtain ⟨c3, c4⟩ := Bool.and_eq_true_iff.mp c
  exact ⟨c1, c2, c3, eqD_ok c4⟩
theorem fc_slt {i : Nat} (c : (Fc.slt x f i).ok K = true) : SlX.Slot1 K (He.ga K x) f (pM x f K) i := by
  obtain ⟨c1, c⟩ := Bool.and_eq_true_iff.mp c
  obtain ⟨c2, c⟩ := Bool.and_eq_true_iff.mp c
  obtain ⟨c3, c⟩ := Bool.and_eq_true_iff.mp c
  obtain ⟨c4, c⟩ := Bool.and_eq_true_iff.mp c
  obtain ⟨c5, c6⟩ := Bool.and_eq_true_iff.mp c
  exact ⟨eqD_ok c1, eqD_ok c2, eqD_ok c3, eqD_ok c4, eqD_ok c5, of_decide_eq_true c6⟩
theorem fc_meth (c : (Fc.meth x m).ok K = true) : Meth K (He.ga K x) m (pM x m K) := by
  obtain ⟨c1, c⟩ := Bool.and_eq_true_iff.mp c
  obtain ⟨c2, c3⟩ := Bool.and_eq_true_iff.mp c
  exact ⟨eqD_ok c1, c2, c3⟩
theorem fc_mk (c : (Fc.mk x).ok K = true) : Mk K (He.ga K x) (pM x "__init__" K) := by
  obtain ⟨c1, c⟩ := Bool.and_eq_true_iff.mp c
  obtain ⟨c2, c⟩ := Bool.and_eq_true_iff.mp c
  obtain ⟨c3, c4⟩ := Bool.and_eq_true_iff.mp c
  exact ⟨c1, eqD_ok c2, c3, c4⟩
theorem fc_prp (c : (Fc.prp x m).ok K = true) : PySem.W.findIn K (.ref (He.ga K x)) m = some (some (.ref (pM x m K))) ∧ PySem.W.specialIn K (.ref (pM x m K)) "__get__" = some (some (.builtin "property.__get__")) ∧ PySem.W.takesIn K (.ref (pM x m K)) = some true ∧ ∃ rest, PySem.W.recIn K (pM x m K) "property" = some (.ref (pP x m K) :: rest) := by
  obtain ⟨c1, c⟩ := Bool.and_eq_true_iff.mp c
  obtain ⟨c2, c⟩ := Bool.and_eq_true_iff.mp c
  obtain ⟨c3, c4⟩ := Bool.and_eq_true_iff.mp c
  refine ⟨eqD_ok c1, eqD_ok c2, eqD_ok c3, ?_⟩
  unfold pP
  have e0 : He.ma K (He.ga K x) m = pM x m K := rfl
  rw [e0]
  cases e : PySem.W.recIn K (pM x m K) "property" with
  | none => rw [e] at c4; cases c4
  | some l =>
    rw [e] at c4
    cases l with
    | nil => cases c4
    | cons v r =>
      cases v with
      | ref g => exact ⟨r, rfl⟩
      | _ => cases c4
theorem fc_eqo (c : (Fc.eqo x).ok K = true) : PySem.W.subIn K (.ref (He.ga K x)) (.type "object") = some true ∧ PySem.W.findIn K (.ref (He.ga K x)) "__ne__" = some (some (.builtin "object.__ne__")) ∧ PySem.W.findIn K (.ref (He.ga K x)) "__eq__" = some (some (.ref (pM x "__eq__" K))) ∧ PySem.W.isFn K (.ref (pM x "__eq__" K)) = true := by
  obtain ⟨c1, c⟩ := Bool.and_eq_true_iff.mp c
  obtain ⟨c2, c⟩ := Bool.and_eq_true_iff.mp c
  obtain ⟨c3, c4⟩ := Bool.and_eq_true_iff.mp c
  exact ⟨eqD_ok c1, eqD_ok c2, eqD_ok c3, c4⟩
theorem fc_isit (c : (Fc.isit y).ok K = true) (t : Ty) : PySem.W.kitOne K (.type t.name) (.ref (He.ga K y)) = some false := by
  have h := List.all_eq_true.mp (show (tyAll.all fun t => eqD (PySem.W.kitOne K (.type t.name) (.ref (He.ga K y))) (some false)) = true from c) t (by cases t <;> decide)
  exact eqD_ok h
theorem fc_isi {b : Bool} (c : (Fc.isi x y b).ok K = true) : SlX.SIsi K (He.ga K x) ∧ PySem.W.kitOne K (.ref (He.ga K x)) (.ref (He.ga K y)) = some b := by
  obtain ⟨c1, c⟩ := Bool.and_eq_true_iff.mp c
  obtain ⟨c2, c⟩ := Bool.and_eq_true_iff.mp c
  obtain ⟨c3, c⟩ := Bool.and_eq_true_iff.mp c
  obtain ⟨c4, c5⟩ := Bool.and_eq_true_iff.mp c
  exact ⟨⟨eqD_ok c1, eqD_ok c2, eqD_ok c3, eqD_ok c4⟩, eqD_ok c5⟩
theorem facts_at {fs : List Fc} (c : factsB fs K = true) (i : Nat) {f : Fc} (h : fs[i]? = some f) : f.ok K = true := List.all_eq_true.mp (show (fs.all fun f => f.ok K) = true from c) f (List.mem_of_getElem? h)
end
end Ev
set_option Elab.async false
set_option linter.all false
set_option maxRecDepth 100000
set_option maxHeartbeats 4000000
/-! the rules in short: instances, built-ins, comprehensions, statements -/
namespace Ev
open PySem PySem.Spec PyProof.Rows L2
/-! the names of built-ins -/
theorem bt_isinstance : bootBuiltins "isinstance" = some (.builtin "isinstance") := by kernel_rfl
theorem bt_len : bootBuiltins "len" = some (.builtin "len") := by kernel_rfl
theorem bt_abs : bootBuiltins "abs" = some (.builtin "abs") := by kernel_rfl
theorem bt_max : bootBuiltins "max" = some (.builtin "max") := by kernel_rfl
theorem bt_min : bootBuiltins "min" = some (.builtin "min") := by kernel_rfl
theorem bt_all : bootBuiltins "all" = some (.builtin "all") := by kernel_rfl
theorem bt_any : bootBuiltins "any" = some (.builtin "any") := by kernel_rfl
theorem bt_sum : bootBuiltins "sum" = some (.builtin "sum") := by kernel_rfl
theorem bt_sorted : bootBuiltins "sorted" = some (.builtin "sorted") := by kernel_rfl
theorem bt_int : bootBuiltins "int" = some (.type "int") := by kernel_rfl
theorem bt_bool : bootBuiltins "bool" = some (.type "bool") := by kernel_rfl
theorem bt_str : bootBuiltins "str" = some (.type "str") := by kernel_rfl
theorem bt_tuple : bootBuiltins "tuple" = some (.type "tuple") := by kernel_rfl
theorem bt_list : bootBuiltins "list" = some (.type "list") := by kernel_rfl
theorem bt_dict : bootBuiltins "dict" = some (.type "dict") := by kernel_rfl
section
variable {X : Cx} {ca : Ca} {E : XK} {lv : Nat} {a b d e o tg iter : Expr} {es rest : List Expr} {ma mb mc : ME} {ms : Loc' → AH → R (List AV)} {pos p p2 p3 p4 apos : Pos} {x y : Str} {F : Fn} {f : Addr} {ws : List Nat}
theorem gIsi1 (n : Ty) (hm : X.mg "isinstance" = none) (hym : X.mg y = none) (hyv : bootBuiltins y = some (.type n.name)) (ha : SimE X (wd X ca E) a ma) (hn : n ≠ .nt := by decide) (hg : Gl X "isinstance" := by rfl) (hs : notStar a = true := by rfl) (hy : Gl X y := by rfl) (hy1 : y ≠ "__name__" := by decide) (hy2 : (y == ("__debug__" : Str)) = false := by decide) :
    SimE X (wd X ca E) (.Call (.Name "isinstance" p) [a, .Name y p2] [] pos) (mIsi ma (.ty n)) := sim_isi hg hm ha hs hn hy hym hyv hy1 hy2
theorem gIsiO {c : Nat} {cs : List Nat} (hm : X.mg "isinstance" = none) (K : OwnK X ca c cs) (hym : X.mg y = some (.ref (ca c))) (ha : SimE X (wd X ca E) a ma) (hg : Gl X "isinstance" := by rfl) (hs : notStar a = true := by rfl) (hy : Gl X y := by rfl) (hy2 : (y == ("__debug__" : Str)) = false := by decide) :
    SimE X (wd X ca E) (.Call (.Name "isinstance" p) [a, .Name y p2] [] pos) (mIsi ma (.own c cs)) := sim_isiO hg hm ha hs K hy hym hy2
theorem gLen (hm : X.mg "len" = none) (ha : SimE X (wd X ca E) a ma) (hg : Gl X "len" := by rfl) (hs : notStar a = true := by rfl) : SimE X (wd X ca E) (.Call (.Name "len" p) [a] [] pos) (mB1 (g1 lenA) ma) := sim_B1 call_lenA hg hm bt_len ha hs (by decide) (by decide)
theorem gAbs (hm : X.mg "abs" = none) (ha : SimE X (wd X ca E) a ma) (hg : Gl X "abs" := by rfl) (hs : notStar a = true := by rfl) : SimE X (wd X ca E) (.Call (.Name "abs" p) [a] [] pos) (mB1 (biA .abs) ma) := sim_B1 call_absA hg hm bt_abs ha hs (by decide) (by decide)
theorem gInt (hm : X.mg "int" = none) (ha : SimE X (wd X ca E) a ma) (hg : Gl X "int" := by rfl) (hs : notStar a = true := by rfl) : SimE X (wd X ca E) (.Call (.Name "int" p) [a] [] pos) (mB1 (biA .int) ma) := sim_Ty1 call_intA hg hm bt_int ha hs (by decide) (by decide)
theorem gAll (c : CF X E lv) (hm : X.mg "all" = none) (ha : SimE X (wd X ca E) a ma) (hg : Gl X "all" := by rfl) (hs : notStar a = true := by rfl) : SimE X (wd X ca E) (.Call (.Name "all" p) [a] [] pos) (mB1 (g1 (b1A .all)) ma) := sim_B1 (call_allA c.calm) hg hm bt_all ha hs (by decide) (by decide)
theorem gAny (c : CF X E lv) (hm : X.mg "any" = none) (ha : SimE X (wd X ca E) a ma) (hg : Gl X "any" := by rfl) (hs : notStar a = true := by rfl) : SimE X (wd X ca E) (.Call (.Name "any" p) [a] [] pos) (mB1 (g1 (b1A .any)) ma) := sim_B1 (call_anyA c.calm) hg hm bt_any ha hs (by decide) (by decide)
theorem gSum (c : CF X E lv) (hm : X.mg "sum" = none) (ha : SimE X (wd X ca E) a ma) (hg : Gl X "sum" := by rfl) (hs : notStar a = true := by rfl) : SimE X (wd X ca E) (.Call (.Name "sum" p) [a] [] pos) (mB1 (g1 (b1A .sum)) ma) := sim_B1 (call_sumA c.calm) hg hm bt_sum ha hs (by decide) (by decide)
theorem gSorted (c : CF X E lv) (hm : X.mg "sorted" = none) (ha : SimE X (wd X ca E) a ma) (hg : Gl X "sorted" := by rfl) (hs : notStar a = true := by rfl) : SimE X (wd X ca E) (.Call (.Name "sorted" p) [a] [] pos) (mB1 (g1 (b1A .sorted)) ma) := sim_B1 (call_sortedA c.calm (by have := c.room.un; omega)) hg hm bt_sorted ha hs (by decide) (by decide)
theorem gTuple (hm : X.mg "tuple" = none) (ha : SimE X (wd X ca E) a ma) (hg : Gl X "tuple" := by rfl) (hs : notStar a = true := by rfl) : SimE X (wd X ca E) (.Call (.Name "tuple" p) [a] [] pos) (mB1 (g1 (b1A .tuple)) ma) := sim_Ty1 call_tupleA hg hm bt_tuple ha hs (by decide) (by decide)
theorem gList (c : CF X E lv) (hm : X.mg "list" = none) (ha : SimE X (wd X ca E) a ma) (hg : Gl X "list" := by rfl) (hs : notStar a = true := by rfl) : SimE X (wd X ca E) (.Call (.Name "list" p) [a] [] pos) (mB1 (g1 (b1A .list)) ma) := sim_Ty1 (call_listA c.calm) hg hm bt_list ha hs (by decide) (by decide)
theorem gApp (ho : SimE X (wd X ca E) o ma) (ha : SimE X (wd X ca E) e mb) (hb : baseOk o = true := by rfl) (hs : notStar e = true := by rfl) (hl : (apos.endLine == pos.line) = true := by rfl) : SimE X (wd X ca E) (.Call (.Attribute o "append" apos) [e] [] pos) (mBm .append ma (aC mb a0)) :=
  sim_bm PySem.F.slot_list_append PySem.F.type_list_append mt_appA ho (gA ha g0 hs) hb (by simp [hs]) (by simp) hl
theorem gExt (ho : SimE X (wd X ca E) o ma) (ha : SimE X (wd X ca E) e mb) (hb : baseOk o = true := by rfl) (hs : notStar e = true := by rfl) (hl : (apos.endLine == pos.line) = true := by rfl) : SimE X (wd X ca E) (.Call (.Attribute o "extend" apos) [e] [] pos) (mBm .extend ma (aC mb a0)) :=
  sim_bm PySem.F.slot_list_extend PySem.F.type_list_extend mt_extA ho (gA ha g0 hs) hb (by simp [hs]) (by simp) hl
theorem gPop0 (ho : SimE X (wd X ca E) o ma) (ha : SimE X (wd X ca E) e mb) (hb : baseOk o = true := by rfl) (hs : notStar e = true := by rfl) (hl : (apos.endLine == pos.line) = true := by rfl) : SimE X (wd X ca E) (.Call (.Attribute o "pop" apos) [e] [] pos) (mBm .pop0 ma (aC mb a0)) :=
  sim_bm PySem.F.slot_list_pop PySem.F.type_list_pop mt_pop0A ho (gA ha g0 hs) hb (by simp [hs]) (by simp) hl
theorem gPop (ho : SimE X (wd X ca E) o ma) (hb : baseOk o = true := by rfl) (hl : (apos.endLine == pos.line) = true := by rfl) : SimE X (wd X ca E) (.Call (.Attribute o "pop" apos) [] [] pos) (mBm0 .pop ma) :=
  sim_bm0 PySem.F.slot_list_pop PySem.F.type_list_pop mt_popA ho hb hl
def mSl (ma : ME) (ml mh : Loc' → AH → R (Option Int)) : ME := fun l h => (ma l h).bind fun x h1 => (ml l h1).bind fun v h2 => (mh l h2).bind fun w h3 => slA x v w h3
def oN : Loc' → AH → R (Option Int) := fun _ h => .ok none h
def oS (ma : ME) : Loc' → AH → R (Option Int) := fun l h => (ma l h).bind fun x h1 => match x with | .int i => .ok (some i) h1 | _ => .bad
theorem gSl {lo hi : Option Expr} {ml mh : Loc' → AH → R (Option Int)} (ha : SimE X (wd X ca E) a ma) (hl : SimO X (wd X ca E) lo ml) (hh : SimO X (wd X ca E) hi mh) : SimE X (wd X ca E) (.Subscript a (.Slice lo hi none p2) pos) (mSl ma ml mh) := sim_sl ha hl hh
theorem goN : SimO X (wd X ca E) none oN := simo_none
theorem goS (ha : SimE X (wd X ca E) a ma) : SimO X (wd X ca E) (some a) (oS ma) := simo_some ha
theorem ixC {k : Const} {j : Nat} : PlainIx (.Constant k j pos) := fun _ _ => rfl
theorem gAtt {g : Str} {k i : Nat} (h1 : SlX.SCls X.K (ca k)) {q : Addr} (h2 : SlX.Slot1 X.K (ca k) g q i) (ha : SimE X (wd X ca E) a ma) (hb : baseOk a = true := by rfl) : SimE X (wd X ca E) (.Attribute a g pos) (mAttr ma [(k, i)]) :=
  sim_att ha (fun z hz => by rw [List.mem_singleton.mp hz]; exact ⟨h1, _, h2⟩) hb
theorem gPrp (c : CF X E lv) {m : Str} {n k : Nat} {q g : Addr} (h1 : SlX.SCls X.K (ca k)) (h2 : PySem.W.findIn X.K (.ref (ca k)) m = some (some (.ref q)) ∧ PySem.W.specialIn X.K (.ref q) "__get__" = some (some (.builtin "property.__get__")) ∧ PySem.W.takesIn X.K (.ref q) = some true ∧ ∃ rest, PySem.W.recIn X.K q "property" = some (.ref g :: rest))
    (hf : FnW X.prog X.w X.K X.mg X.base ca n F g) (ha : SimE X (wd X ca E) a ma) (hl : n + 1 ≤ lv := by decide) (hb : baseOk a = true := by rfl) : SimE X (wd X ca E) (.Attribute a m pos) (mPrp (tab1 F) ma [(k, 0)]) :=
  sim_prop (τ := tab1 F) (c.to (n + 1) hl) ha (fun z hz => by rw [List.mem_singleton.mp hz]; exact ⟨h1, q, g, h2.1, h2.2.1, h2.2.2.1, h2.2.2.2, hf⟩) hb
theorem gLenO (c : CF X E lv) {n k : Nat} {g : Addr} (hm : X.mg "len" = none) (h1 : SlX.SCls X.K (ca k)) (h2 : Meth X.K (ca k) "__len__" g) (hf : FnW X.prog X.w X.K X.mg X.base ca n F g) (ha : SimE X (wd X ca E) a ma) (hl : n + 1 ≤ lv := by decide) (hg : Gl X "len" := by rfl) (hs : notStar a = true := by rfl) :
    SimE X (wd X ca E) (.Call (.Name "len" p) [a] [] pos) (mLenO (tab1 F) ma [(k, 0)]) := sim_lenO (τ := tab1 F) (c.to (n + 1) hl) c.tk hg hm ha (fun z hz => by rw [List.mem_singleton.mp hz]; exact ⟨h1, g, h2, hf⟩) hs
def mOeq (τ : Tab) (ng : Bool) (alts : List (Nat × Nat)) (ma mb : ME) : ME := fun l h => (ma l h).bind fun x h1 => (mb l h1).bind fun y h2 => eqK τ ng alts x y h2
theorem gOeq (c : CF X E lv) (ng : Bool) {n k : Nat} {g : Addr} (h1 : SlX.SCls X.K (ca k)) (h2 : PySem.W.subIn X.K (.ref (ca k)) (.type "object") = some true ∧ PySem.W.findIn X.K (.ref (ca k)) "__ne__" = some (some (.builtin "object.__ne__")) ∧ PySem.W.findIn X.K (.ref (ca k)) "__eq__" = some (some (.ref g)) ∧ PySem.W.isFn X.K (.ref g) = true)
    (hf : FnW X.prog X.w X.K X.mg X.base ca n F g) (ha : SimE X (wd X ca E) a ma) (hb : SimE X (wd X ca E) b mb) (hl : n + 1 ≤ lv := by decide) (hm : behindInMarks (if ng then .NotEq else .Eq) b = false := by rfl) :
    SimE X (wd X ca E) (.Compare a [if ng then .NotEq else .Eq] [b] pos) (mOeq (tab1 F) ng [(k, 0)] ma mb) := sim_oeq (τ := tab1 F) (c.to (n + 1) hl) c.tk (fun z hz => by rw [List.mem_singleton.mp hz]; exact ⟨h1, h2.1, h2.2.1, g, h2.2.2.1, h2.2.2.2, hf⟩) ha hb hm
theorem tOeq (c : CF X E lv) (ng : Bool) {n k : Nat} {g : Addr} (h1 : SlX.SCls X.K (ca k)) (h2 : PySem.W.subIn X.K (.ref (ca k)) (.type "object") = some true ∧ PySem.W.findIn X.K (.ref (ca k)) "__ne__" = some (some (.builtin "object.__ne__")) ∧ PySem.W.findIn X.K (.ref (ca k)) "__eq__" = some (some (.ref g)) ∧ PySem.W.isFn X.K (.ref g) = true)
    (hf : FnW X.prog X.w X.K X.mg X.base ca n F g) (ha : SimE X (wd X ca E) a ma) (hb : SimE X (wd X ca E) b mb) (hl : n + 1 ≤ lv := by decide) (hm : behindInMarks (if ng then .NotEq else .Eq) b = false := by rfl) :
    SimT X (wd X ca E) (.Compare a [if ng then .NotEq else .Eq] [b] pos) (mOeq (tab1 F) ng [(k, 0)] ma mb) := simt_oeq (τ := tab1 F) (c.to (n + 1) hl) c.tk (fun z hz => by rw [List.mem_singleton.mp hz]; exact ⟨h1, h2.1, h2.2.1, g, h2.2.2.1, h2.2.2.2, hf⟩) ha hb hm
theorem gNew (c : CF X E lv) {n k : Nat} {g : Addr} (hm : X.mg x = some (.ref (ca k))) (M : Mk X.K (ca k) g) (hf : FnW X.prog X.w X.K X.mg X.base ca n F g) (ha : SimA X (wd X ca E) (e :: es) ms) (hl : n + 1 ≤ lv := by decide) (hg : Gl X x := by rfl) (hs : (e :: es).all notStar = true := by rfl) (hd : (x == ("__debug__" : Str)) = false := by decide) :
    SimE X (wd X ca E) (.Call (.Name x p) (e :: es) [] pos) (newM k F ms) := sim_new M (c.to (n + 1) hl) c.tk hg hm hf.s ha hs hd
theorem gMet (c : CF X E lv) {m : Str} {n k : Nat} {g : Addr} (h1 : SlX.SCls X.K (ca k)) (h2 : Meth X.K (ca k) m g) (hf : FnW X.prog X.w X.K X.mg X.base ca n F g) (ho : SimE X (wd X ca E) o ma) (ha : SimA X (wd X ca E) (e :: es) ms) (hl : n ≤ lv := by decide) (hb : baseOk o = true := by rfl) (hs : (e :: es).all notStar = true := by rfl) (hn : (e :: es).length < 20 := by decide) (hp : (apos.endLine == pos.line) = true := by rfl) :
    SimE X (wd X ca E) (.Call (.Attribute o m apos) (e :: es) [] pos) (mMet (tab1 F) ma [(k, 0)] ms) := sim_meth (τ := tab1 F) (c.to n hl) c.tk ho (fun z hz => by rw [List.mem_singleton.mp hz]; exact ⟨h1, g, h2, hf⟩) ha hb hs hn hp
theorem gMet0 (c : CF X E lv) {m : Str} {n k : Nat} {g : Addr} (h1 : SlX.SCls X.K (ca k)) (h2 : Meth X.K (ca k) m g) (hf : FnW X.prog X.w X.K X.mg X.base ca n F g) (ho : SimE X (wd X ca E) o ma) (hl : n ≤ lv := by decide) (hb : baseOk o = true := by rfl) (hp : (apos.endLine == pos.line) = true := by rfl) :
    SimE X (wd X ca E) (.Call (.Attribute o m apos) [] [] pos) (mMet0 (tab1 F) ma [(k, 0)]) := sim_meth0 (τ := tab1 F) (c.to n hl) c.tk ho (fun z hz => by rw [List.mem_singleton.mp hz]; exact ⟨h1, g, h2, hf⟩) hb hp
/-! and, or: tests -/
theorem tAnd {d : Expr} {rest : List Expr} (ha : SimT X (wd X ca E) a ma) (hb : SimW X (wd X ca E) (.BoolOp .And (d :: rest) pos) mb) : SimT X (wd X ca E) (.BoolOp .And (a :: d :: rest) pos) (andM ma mb) := (simw_and ha hb).pt
theorem tOr {d : Expr} {rest : List Expr} (ha : SimT X (wd X ca E) a ma) (hb : SimW X (wd X ca E) (.BoolOp .Or (d :: rest) pos) mb) : SimT X (wd X ca E) (.BoolOp .Or (a :: d :: rest) pos) (orM ma mb) := (simw_or ha hb).pt
/-! sources, targets -/
theorem iEn {elts : List Expr} {kk : Nat} {tpos : Pos} (hm : X.mg "enumerate" = none) (he : SimE X (wd X ca E) e ma) (hg : Gl X "enumerate" := by rfl) (hs : notStar e = true := by rfl) : SimI X (wd X ca E) (.Tuple elts kk tpos) (.Call (.Name "enumerate" p) [e] [] pos) (miEn ma) := simi_en hg hm he hs
theorem iZp {elts : List Expr} {kk : Nat} {tpos : Pos} (hm : X.mg "zip" = none) (ha : SimE X (wd X ca E) a ma) (hb : SimE X (wd X ca E) b mb) (hg : Gl X "zip" := by rfl) (hs : notStar a = true := by rfl) (hs2 : notStar b = true := by rfl) : SimI X (wd X ca E) (.Tuple elts kk tpos) (.Call (.Name "zip" p) [a, b] [] pos) (miZp ma mb) := simi_zp hg hm ha hb hs hs2
theorem iRg (hm : X.mg "range" = none) (ha : SimE X (wd X ca E) a ma) (hg : Gl X "range" := by rfl) (hs : notStar a = true := by rfl) : SimI X (wd X ca E) tg (.Call (.Name "range" p) [a] [] pos) (miRg ma) := simi_rg hg hm ha hs
theorem uN (c : CF X E lv) (i : Nat) {E' : XK} (hi : X.N[i]? = some x := by rfl) (hx : Loc X.env.scope x := by first | exact Or.inl rfl | exact Or.inr rfl) (hf : X.fn x = true ∨ X.env.scope.names.lookup x = some .local := by first | exact Or.inl rfl | exact Or.inr rfl) : SimG X (wd X ca E') (.Name x pos) [i] (mtN i) := simg_nm c.nd hi hx hf
theorem u0 : SimGs X (wd X ca E) [] [] mt0 := simgs_nil
theorem uC {vs ws : List Nat} {mt : AV → Loc' → Option Loc'} {ms : List AV → Loc' → Option Loc'} (h1 : SimG X (wd X ca E) e vs mt) (h2 : SimGs X (wd X ca E) es ws ms) (hs : (assignEach (e :: es) X.env).map (·.2) = assign e X.env :: (assignEach es X.env).map (·.2) := by rfl) : SimGs X (wd X ca E) (e :: es) (vs ++ ws) (mtC mt ms) := simgs_cons h1 h2 hs
theorem uT (c : CF X E lv) {E' : XK} {k n : Nat} {ms : List AV → Loc' → Option Loc'} (h : SimGs X (wd X ca E') es ws ms) (hl : ∀ xs l l', ms xs l = some l' → xs.length = n) (hn : (assignEach es X.env).length = n := by rfl) (hst : (assignEach es X.env).findIdx? (·.1) = none := by rfl) : SimG X (wd X ca E') (.Tuple es k pos) ws (mtT ms) := simg_tp c.calm h hn hst hl
/-! comprehensions -/
theorem gLc (c : CF X E lv) (own : List (Str × Nat)) {elt : Expr} {ifs : List Expr} {scope : Scope} {mt : AV → Loc' → Option Loc'} {mi : Loc' → AH → R Src} {mc me : ME} (hi : SimI X (wd X ca E) tg iter mi) (hg : InB X scope fun Y => SimG Y (w0 X ca) tg ws mt) (ht : InB X scope fun Y => SimTs Y (w0 X ca) ifs mc) (he : InB X scope fun Y => SimE Y (w0 X ca) elt me)
    (ok : blkC X.N X.env.scope scope own = true := by kernel_rfl) (hsl : ∀ i ∈ ws, i ∈ own.map (·.2) := by decide) (hs : ∀ x, foldedSetIterable iter X.env x = pure x := by intro _; rfl) :
    SimE X (wd X ca E) (.ListComp elt [⟨tg, iter, ifs, 0⟩] scope pos) (mLc (own.map (·.2)) mt mi mc me) := sim_lc c.calm c.nd hi (blkOk_by ok) hg ht he hsl hs
theorem gLc2 (c : CF X E lv) (own : List (Str × Nat)) (vs1 : List Nat) {elt tg1 iter1 : Expr} {ifs1 : List Expr} {scope : Scope} {ws1 : List Nat} {mt mt1 : AV → Loc' → Option Loc'} {mi mi1 : Loc' → AH → R Src} {mc me : ME} (hi : SimI X (wd X ca E) tg iter mi) (hg : InB X scope fun Y => SimG Y (w0 X ca) tg ws mt) (hi1 : InB X scope fun Y => SimI Y (w0 X ca) tg1 iter1 mi1) (hg1 : InB X scope fun Y => SimG Y (w0 X ca) tg1 ws1 mt1) (ht : InB X scope fun Y => SimTs Y (w0 X ca) ifs1 mc) (he : InB X scope fun Y => SimE Y (w0 X ca) elt me)
    (ok : blkC X.N X.env.scope scope own = true := by kernel_rfl) (hv : ∀ i ∈ vs1, i ∈ own.map (·.2) := by decide) (hsl : ∀ i ∈ ws, i ∈ own.map (·.2) := by decide) (hsl1 : ∀ i ∈ ws1, i ∈ vs1 := by decide) (hs : ∀ x, foldedSetIterable iter X.env x = pure x := by intro _; rfl) (hs1 : ∀ env x, foldedSetIterable iter1 env x = pure x := by intro _ _; rfl) :
    SimE X (wd X ca E) (.ListComp elt [⟨tg, iter, [], 0⟩, ⟨tg1, iter1, ifs1, 0⟩] scope pos) (mLc2 (own.map (·.2)) vs1 mt mi mi1 mt1 mc me) := sim_lc2 c.calm c.nd hi (blkOk_by ok) hv hg hi1 hg1 ht he hsl hsl1 hs hs1
theorem gDc (c : CF X E lv) (own : List (Str × Nat)) {kx vx : Expr} {scope : Scope} {mt : AV → Loc' → Option Loc'} {mk mv : ME} (hi : SimE X (wd X ca E) iter ma) (hg : InB X scope fun Y => SimG Y (w0 X ca) tg ws mt) (hk : InB X scope fun Y => SimE Y (w0 X ca) kx mk) (hv : InB X scope fun Y => SimE Y (w0 X ca) vx mv)
    (ok : blkC X.N X.env.scope scope own = true := by kernel_rfl) (hsl : ∀ i ∈ ws, i ∈ own.map (·.2) := by decide) (hs : ∀ x, foldedSetIterable iter X.env x = pure x := by intro _; rfl) :
    SimE X (wd X ca E) (.DictComp kx vx [⟨tg, iter, [], 0⟩] scope pos) (mDc (own.map (·.2)) mt (miOf ma) mk mv) := sim_dc c.calm (by have := c.room.un; omega) c.nd hi (blkOk_by ok) hg hk hv hsl hs
theorem gDcK (c : CF X E lv) (own : List (Str × Nat)) (i : Nat) {kx vx : Expr} {scope : Scope} {mt : AV → Loc' → Option Loc'} {mk mv : ME} (hg : InB X scope fun Y => SimG Y (w0 X ca) tg ws mt) (hk : InB X scope fun Y => SimE Y (w0 X ca) kx mk) (hv : InB X scope fun Y => SimE Y (w0 X ca) vx mv)
    (ok : blkC X.N X.env.scope scope own = true := by kernel_rfl) (hsl : ∀ i ∈ ws, i ∈ own.map (·.2) := by decide) (hs : ∀ y, foldedSetIterable (.Name x p) X.env y = pure y := by intro _; rfl) (hN : X.N[i]? = some x := by rfl) (hvis : Vis X.env.scope x := by first | exact Or.inl rfl | exact Or.inr (Or.inl rfl) | exact Or.inr (Or.inr rfl)) (hd : (x == ("__debug__" : Str)) = false := by decide) (hc : (x == ("__classdict__" : Str)) = false := by decide) :
    SimE X (wd X ca E) (.DictComp kx vx [⟨tg, .Name x p, [], 0⟩] scope pos) (mDc (own.map (·.2)) mt (miK i) mk mv) := sim_dcK c.calm (by have := c.room.un; omega) c.nd (sim_var hN hvis hd hc) (pe_var hN hvis hd hc) (blkOk_by ok) hg hk hv hsl hs
theorem gD1 (c : CF X E lv) {mk mv : ME} (hk : SimE X (wd X ca E) a mk) (hv : SimE X (wd X ca E) b mv) : SimE X (wd X ca E) (.Dict [some a] [b] pos) (mD1 mk mv) := sim_d1 (by have := c.room.un; omega) hk hv
/-! statements -/
theorem xSet (c : CF X E lv) (i : Nat) (he : SimE X (wd X ca E) e ma) (hi : X.N[i]? = some x := by rfl) (hx : Loc X.env.scope x := by first | exact Or.inl rfl | exact Or.inr rfl) (hs : swapsWith e (some (.Name x p)) pos.line X.env = pure false := by rfl) (hf : X.fn x = true ∨ X.env.scope.names.lookup x = some .local := by exact Or.inl rfl) : SimS X (wd X ca E) (.Assign [.Name x p] e pos) (mSet i ma) := sims_set c.nd hi hx he hs hf
theorem xAs {mt : AV → Loc' → Option Loc'} (he : SimE X (wd X ca E) e ma) (hg : SimG X (wd X ca E) tg ws mt) (hs : swapsWithSole [tg] e pos.line X.env = pure false := by rfl) (hw : swappedStores [tg] e X.env = pure none := by rfl) (h1 : (assignEach [tg] X.env).map (·.2) = [assign tg X.env] := by rfl) : SimS X (wd X ca E) (.Assign [tg] e pos) (mAs mt ma) := sims_as he hg hs hw h1
theorem xPar (c : CF X E lv) (i j : Nat) {px py pt pt2 : Pos} {kt k2 : Nat} (ha : SimE X (wd X ca E) a ma) (hb : SimE X (wd X ca E) b mb) (hij : i ≠ j := by decide) (hi : X.N[i]? = some x := by rfl) (hj : X.N[j]? = some y := by rfl) (hx : X.env.scope.names.lookup x = some .local := by rfl) (hy : X.env.scope.names.lookup y = some .local := by rfl) (hna : notStar a = true := by rfl) (hnb : notStar b = true := by rfl)
    (hw : swappedStores [.Tuple [.Name x px, .Name y py] kt pt] (.Tuple [a, b] k2 pt2) X.env = pure (some [x, y]) := by rfl) (hs : swapsWithSole [.Tuple [.Name x px, .Name y py] kt pt] (.Tuple [a, b] k2 pt2) pos.line X.env = pure false := by rfl) :
    SimS X (wd X ca E) (.Assign [.Tuple [.Name x px, .Name y py] kt pt] (.Tuple [a, b] k2 pt2) pos) (mPar i j ma mb) := sims_par c.calm c.nd hi hj hij hx hy ha hb hna hnb hw hs
theorem xAtt {g : Str} {k i : Nat} {mo mv : ME} {q : Addr} (h1 : SlX.SCls X.K (ca k)) (h2 : SlX.Slot1 X.K (ca k) g q i) (ho : SimE X (wd X ca E) o mo) (hv : SimE X (wd X ca E) e mv) (hs : swapsWith e (some (.Attribute o g p)) pos.line X.env = pure false := by rfl) : SimS X (wd X ca E) (.Assign [.Attribute o g p] e pos) (mAtt mo [(k, i)] mv) :=
  sims_att ho hv (fun z hz => by rw [List.mem_singleton.mp hz]; exact ⟨h1, _, h2⟩) hs
theorem xPut (c : CF X E lv) {md mk mv : ME} (ho : SimE X (wd X ca E) o md) (hk : SimE X (wd X ca E) a mk) (hv : SimE X (wd X ca E) e mv) (hs : swapsWith e (some (.Subscript o a p)) pos.line X.env = pure false := by rfl) : SimS X (wd X ca E) (.Assign [.Subscript o a p] e pos) (mPut md mk mv) := sims_put (by have := c.room.un; omega) ho hk hv hs
theorem xEx (he : SimE X (wd X ca E) e ma) (hs : swapsWith e none pos.line X.env = pure false := by rfl) : SimS X (wd X ca E) (.Expr e pos) (mEx ma) := sims_ex he hs
theorem xFor (c : CF X E lv) (po : PassesOwn (model X.prog X.w) X.A X.env X.xe) {mt : AV → Loc' → Option Loc'} {mi : Loc' → AH → R Src} {mb : MS} {body : List Stmt} (hi : SimI X (wd X ca E) tg iter mi) (hg : SimG X (wd X ca E) tg ws mt) (hb : SimSs X (wd X ca E) body mb) (hs : ∀ x, foldedSetIterable iter X.env x = pure x := by intro _; rfl) : SimS X (wd X ca E) (.For tg iter body [] pos) (mFor mt mi mb) := sims_for po c.calm hi hg hb hs
theorem xLc (c : CF X E lv) (i : Nat) (own : List (Str × Nat)) {py : Pos} {elt : Expr} {ifs : List Expr} {scope : Scope} {mt : AV → Loc' → Option Loc'} {mi : Loc' → AH → R Src} {mc me : ME} (hi : SimI X (wd X ca E) tg iter mi) (hg : InB X scope fun Y => SimG Y (w0 X ca) tg ws mt) (ht : InB X scope fun Y => SimTs Y (w0 X ca) ifs mc) (he : InB X scope fun Y => SimE Y (w0 X ca) elt me)
    (hk : X.env.scope.kind = .function := by rfl) (hl : (py.line == p.line) = true := by rfl) (hq : (scope.names.any fun (n, k) => n == y && (k == .local || k == .cell)) = false := by decide +kernel)
    (hy : X.N[i]? = some y := by rfl) (hyl : X.env.scope.names.lookup y = some .local := by rfl) (ok : blkC X.N X.env.scope scope own = true := by kernel_rfl) (hsl : ∀ i ∈ ws, i ∈ own.map (·.2) := by decide) (hs : ∀ x, foldedSetIterable iter X.env x = pure x := by intro _; rfl) :
    SimS X (wd X ca E) (.Assign [.Name y py] (.ListComp elt [⟨tg, iter, ifs, 0⟩] scope p) pos) (mSet i (mLc (own.map (·.2)) mt mi mc me)) := sims_lc c.calm c.nd hy hyl (sw_true hk hyl hl hq) hi (blkOk_by ok) hg ht he hsl hs
theorem xDcK (c : CF X E lv) (j : Nat) (own : List (Str × Nat)) (i : Nat) {py : Pos} {kx vx : Expr} {scope : Scope} {mt : AV → Loc' → Option Loc'} {mk mv : ME} (hg : InB X scope fun Y => SimG Y (w0 X ca) tg ws mt) (hk : InB X scope fun Y => SimE Y (w0 X ca) kx mk) (hv : InB X scope fun Y => SimE Y (w0 X ca) vx mv)
    (hkd : X.env.scope.kind = .function := by rfl) (hl : (py.line == p2.line) = true := by rfl) (hq : (scope.names.any fun (n, k) => n == y && (k == .local || k == .cell)) = false := by decide +kernel) (hy : X.N[j]? = some y := by rfl) (hyl : X.env.scope.names.lookup y = some .local := by rfl)
    (ok : blkC X.N X.env.scope scope own = true := by kernel_rfl) (hsl : ∀ i ∈ ws, i ∈ own.map (·.2) := by decide) (hs : ∀ y, foldedSetIterable (.Name x p) X.env y = pure y := by intro _; rfl) (hN : X.N[i]? = some x := by rfl) (hvis : Vis X.env.scope x := by first | exact Or.inl rfl | exact Or.inr (Or.inl rfl) | exact Or.inr (Or.inr rfl)) (hd : (x == ("__debug__" : Str)) = false := by decide) (hc : (x == ("__classdict__" : Str)) = false := by decide) :
    SimS X (wd X ca E) (.Assign [.Name y py] (.DictComp kx vx [⟨tg, .Name x p, [], 0⟩] scope p2) pos) (mSet j (mDc (own.map (·.2)) mt (miK i) mk mv)) := sims_dcK c.calm (by have := c.room.un; omega) c.nd hy hyl (sw_dc hkd hyl hl hq) (sim_var hN hvis hd hc) (pe_var hN hvis hd hc) (blkOk_by ok) hg hk hv hsl hs
end
end Ev
set_option Elab.async false
set_option linter.all false
set_option maxRecDepth 100000
set_option maxHeartbeats 4000000
/-! sets of tuples of texts -/
namespace Ev
open PySem PySem.Spec PyProof.Rows L2
abbrev hT (P : Program) (w : World) (k : List Str) : Int := tupleKeyHash (strKind P w) k
/-- the tuple of texts k stands at b -/
abbrev TupS (P : Program) (w : World) (h : Heap) (k : List Str) (b : Addr) : Prop := IsTupleKey (strKind P w) h k b
section
variable {P : Program} {w : World} {A : Around} {E : Value → Shared → Prop} {s : Shared}
theorem TupS.keep {h h' : Heap} {k : List Str} {b : Addr} (q : TupS P w h k b) (kp : ∀ o, h.get? b = some o → h'.get? b = some o) : TupS P w h' k b :=
  let ⟨o, its, n, e, r⟩ := q; ⟨o, its, n, kp o e, r⟩
theorem texts_of {k : List Str} {vs : List Value} (q : ItemsAre (strKind P w) k vs) : ∀ v ∈ vs, ∃ z t, v = Value.str z t := by
  induction q with
  | nil => intro v hv; cases hv
  | @cons z u zs us h1 _ ih =>
    intro v hv
    rcases List.mem_cons.mp hv with e | e
    · obtain ⟨t, e2⟩ := Value.isStrOf_shape h1
      exact ⟨z, t, by rw [e, e2]⟩
    · exact ih v e
theorem cls_text (n : Nat) (z : Str) (t : Tok) : ofAClassStatement n (.str z t) = pure false := by cases n <;> rfl
theorem byv_text (n : Nat) (z : Str) (t : Tok) : hashByValue n (.str z t) = pure false := by cases n <;> rfl
/-- a tuple of texts is of no class statement -/
theorem cls_tupS {k : List Str} {b : Addr} {Q : Bool → Shared → Prop} (q : TupS P w s.heap k b) (fin : Q false s) : wpAny (model P w) A (ofAClassStatement 8 (.ref b)) Q E s := by
  have ty := q.typeIs
  obtain ⟨o, its, n, g, _, dt, it⟩ := q
  unfold ofAClassStatement
  refine wpAny_bind (wpAny_typeOf ty ?_)
  dsimp only
  simp only [show (("tuple" : String) == "tuple") = true from by decide, if_true, Bool.not_true, Bool.false_eq_true, if_false]
  try refine wpAny_bind (wpAny_pure ?_)
  try simp only [Bool.not_true, Bool.false_eq_true, if_false]
  refine wpAny_bind (wpAny_seqItems g dt ?_)
  dsimp only
  refine wpAny_bind ?_
  rw [← Array.forIn_toList]
  refine wpAny_forIn_list _ (fun more r u => r.1 = none ∧ u = s ∧ ∀ v ∈ more, ∃ z t, v = Value.str z t) _ ?_ ?_ _ _ ⟨rfl, rfl, texts_of it⟩
  · rintro v more r u ⟨_, rfl, all⟩
    obtain ⟨z, t, rfl⟩ := all v List.mem_cons_self
    rw [cls_text]
    refine wpAny_bind (wpAny_pure ?_)
    simp only [Bool.false_eq_true, if_false]
    exact wpAny_pure ⟨rfl, rfl, fun y hy => all y (List.mem_cons_of_mem _ hy)⟩
  · rintro ⟨r1, r2⟩ u ⟨hr, rfl, _⟩
    simp only at hr
    subst hr
    exact wpAny_pure fin
/-- .. and its hash is told of -/
theorem byv_tupS {k : List Str} {b : Addr} {Q : Bool → Shared → Prop} (q : TupS P w s.heap k b) (fin : ∀ r, Q r s) : wpAny (model P w) A (hashByValue 8 (.ref b)) Q E s := by
  have ty := q.typeIs
  obtain ⟨o, its, n, g, _, dt, it⟩ := q
  unfold hashByValue
  refine wpAny_bind (wpAny_specialOf ty F.slot_tuple_hash.lookup ?_)
  show wpAny _ _ (seqItems? (.ref b) >>= _) _ _ s
  refine wpAny_bind (wpAny_seqItems g dt (wpAny_bind ?_))
  show wpAny _ _ (forIn its _ _) _ _ s
  rw [← Array.forIn_toList]
  have al := texts_of it
  generalize its.toList = l at al
  cases l with
  | nil => rw [List.forIn_nil]; exact wpAny_pure (wpAny_pure (fin _))
  | cons v l =>
    obtain ⟨z, t, rfl⟩ := al _ List.mem_cons_self
    rw [List.forIn_cons, byv_text]
    refine wpAny_bind (wpAny_bind (wpAny_pure ?_))
    simp only [Bool.not_false, if_true]
    exact wpAny_pure (wpAny_pure (wpAny_pure (fin _)))
theorem unseen {k : List Str} {b : Addr} {Q : Bool → Shared → Prop} (q : TupS P w s.heap k b) {ys : List Value} (all : ∀ y ∈ ys, ∃ k' c, y = Value.ref c ∧ TupS P w s.heap k' c) (fin : Q false s) : wpAny (model P w) A (searchCouldBeSeen (.ref b) ys) Q E s := by
  unfold searchCouldBeSeen
  refine wpAny_bind (wpAny_forIn_list _ (fun more r u => r.1 = none ∧ u = s ∧ ∀ y ∈ more, ∃ k' c, y = Value.ref c ∧ TupS P w s.heap k' c) _ ?_ ?_ _ _ ⟨rfl, rfl, all⟩)
  · rintro v more r u ⟨_, rfl, al⟩
    obtain ⟨k', c, rfl, qc⟩ := al v List.mem_cons_self
    have al' : ∀ y ∈ more, ∃ k' c, y = Value.ref c ∧ TupS P w u.heap k' c := fun y hy => al y (List.mem_cons_of_mem _ hy)
    dsimp only
    by_cases same : (b == c || (carriedByValue (.ref b) && carriedByValue (.ref c))) = true
    · exact wp_if_pos same (wpAny_pure ⟨rfl, rfl, al'⟩)
    · refine wp_if_neg same (wpAny_bind (wpAny_eqIsQuiet_tuple q ?_))
      simp only [Bool.not_true, Bool.false_eq_true, if_false]
      refine wpAny_bind (wpAny_eqIsQuiet_tuple qc ?_)
      simp only [Bool.not_true, Bool.false_eq_true, if_false]
      refine wpAny_bind (cls_tupS q ?_)
      simp only [Bool.false_eq_true, if_false]
      refine wpAny_bind (cls_tupS qc ?_)
      simp only [Bool.false_eq_true, if_false]
      exact wpAny_pure ⟨rfl, rfl, al'⟩
  · rintro ⟨r1, r2⟩ u ⟨hr, rfl, _⟩
    simp only at hr
    subst hr
    exact wpAny_pure fin

/-! ### the set -/
def rowsS (P : Program) (w : World) (L : List (Addr × List Str)) : List (Int × Value) := L.map fun p => (hT P w p.2, Value.ref p.1)
structure SetS (P : Program) (w : World) (h : Heap) (a : Addr) (L : List (Addr × List Str)) (es : Array (Int × Value)) (ep : Nat) (t : SetTable) : Prop where
  at_ : ∃ o, h.get? a = some o ∧ o.ExactSet ∧ o.data = .set es ep t
  rows : es.toList = rowsS P w L
  tab : TabOk t (L.map fun p => hT P w p.2)
  nd : (L.map (·.2)).Nodup
  tups : ∀ p ∈ L, TupS P w h p.2 p.1
  led : w.params.followText "set-order" = true ∨ t.led = true
  room : L.length * 5 < t.mask * 3
  few : L.length < 64
variable {a : Addr} {L : List (Addr × List Str)} {es : Array (Int × Value)} {ep : Nat} {t : SetTable}
theorem rows_len (e : es.toList = rowsS P w L) : es.size = L.length := by
  have q := congrArg List.length e
  rwa [Array.length_toList, rowsS, List.length_map] at q
theorem SetS.fits {h : Heap} (R : SetS P w h a L es ep t) : t.fits es.size = true := by
  have z1 : t.place.size = L.length := by rw [R.tab.sz, List.length_map]
  have z2 := rows_len R.rows
  have z3 := R.room
  unfold SetTable.fits SetTable.fill
  rw [R.tab.dm, Bool.and_eq_true, beq_iff_eq, decide_eq_true_eq]
  exact ⟨by omega, by show t.place.size + 0 ≤ t.mask; omega⟩
theorem row_at (e : es.toList = rowsS P w L) {i : Nat} {p : Addr × List Str} (q : L[i]? = some p) : es[i]? = some (hT P w p.2, Value.ref p.1) := by
  rw [← Array.getElem?_toList, e, rowsS, List.getElem?_map, q]
  rfl
theorem nth_nodummy (m : Nat) : ∀ (n : Nat) (p : SetTable.Probe), p.dummy = none → (nth m p n).dummy = none
  | 0, _, e => e
  | n + 1, p, e => nth_nodummy m n (adv m p) (by unfold adv; split <;> exact e)
/-- the probe's road of a hash -/
abbrev road (m : Nat) (h : Int) : SetTable.Probe := runAt m (SetTable.bits h % (m + 1)) (SetTable.bits h)
theorem seek (R : SetS P w s.heap a L es ep t) {x : Addr} {k : List Str} (qx : TupS P w s.heap k x) (hu : A.units < cLine) {N : Nat} (hN : N < 10 * SetTable.turns t.mask) (out_ : way t.mask (hT P w k) N ∉ t.place.toList) (in_ : ∀ c, c < N → way t.mask (hT P w k) c ∈ t.place.toList) {Q : SetFound → Shared → Prop}
    (yes : k ∈ L.map (·.2) → Q (.there none) s) (no : k ∉ L.map (·.2) → Q (.free (way t.mask (hT P w k) N) false) s) :
    ∀ (f c : Nat) (at_ : Option SetTable.Probe), at_.getD (t.probeStart (hT P w k)) = nth t.mask (road t.mask (hT P w k)) c → c ≤ N → N - c < f → (∀ (i : Nat) p, L[i]? = some p → p.2 = k → ∃ c', c ≤ c' ∧ c' < N ∧ t.place.toList[i]? = some (way t.mask (hT P w k) c')) →
      wpAny (model P w) A (setSearchFrom a (.ref x) (hT P w k) true f at_) Q E s := by
  intro f
  induction f with
  | zero => intro c _ _ _ z; omega
  | succ f ih =>
    intro c at_ hat hc hf left
    obtain ⟨o, ho, hex, hd⟩ := R.at_
    have gw : ¬ t.gaveWay = true := by unfold SetTable.gaveWay; rw [mask_odd R.tab.mok]; decide
    have step : ∀ q, nth t.mask (nth t.mask (road t.mask (hT P w k)) c) q = nth t.mask (road t.mask (hT P w k)) (c + q) := fun q => (nth_add t.mask c _ q).symm
    have stepj : ∀ q, (nth t.mask (nth t.mask (road t.mask (hT P w k)) c) q).j = way t.mask (hT P w k) (c + q) := fun q => congrArg SetTable.Probe.j (step q)
    have spec := go_spec t R.tab.ris R.tab.dm (fun i => (es[i]?.map (·.1)).getD 0) (hT P w k) (10 * SetTable.turns t.mask) (N - c) (nth t.mask (road t.mask (hT P w k)) c) (nth_nodummy _ c _ rfl) (by omega)
      (fun q hq => by rw [stepj]; exact in_ (c + q) (by omega)) (by rw [stepj, show c + (N - c) = N by omega]; exact out_)
    have hashOf : ∀ (i : Nat) p, L[i]? = some p → (es[i]?.map (·.1)).getD 0 = hT P w p.2 := fun i p e => by rw [row_at R.rows e]; rfl
    rw [setSearchFrom_succ]
    refine wpAny_bind (wpAny_setState_of ho hd R.fits (wp_if_neg gw ?_))
    try refine wpAny_bind (wpAny_pure ?_)
    rcases spec with ⟨q, i, hq, hi, hh, none_, hpr⟩ | ⟨none_, hpr⟩
    · have e0 : t.probe (fun i => (es[i]?.map (·.1)).getD 0) (hT P w k) (at_.getD (t.probeStart (hT P w k))) = some (.candidate (way t.mask (hT P w k) (c + q)) i (nth t.mask (road t.mask (hT P w k)) (c + (q + 1)))) := by
        rw [hat, ← stepj, ← step]; exact hpr
      rw [e0]
      rw [stepj] at hi
      have hiL : i < L.length := by
        have z1 := (List.getElem?_eq_some_iff.mp hi).1
        have z2 := R.tab.sz
        rw [List.length_map] at z2
        rw [Array.length_toList] at z1
        omega
      obtain ⟨p, hp⟩ : ∃ p, L[i]? = some p := ⟨_, List.getElem?_eq_getElem hiL⟩
      have pin := List.mem_of_getElem? hp
      have live : t.slot (way t.mask (hT P w k) (c + q)) = .live i := slot_live R.tab.ris hi
      have tail : wpAny (model P w) A (searchRest a (.ref x) (hT P w k) true f es t (way t.mask (hT P w k) (c + q)) i (nth t.mask (road t.mask (hT P w k)) (c + (q + 1)))) Q E s := by
        unfold searchRest
        rw [row_at R.rows hp]
        dsimp only
        refine wpAny_bind (wpAny_holding (wpAny_eqBool_tuple hu (R.tups p pin) qx (wpAny_bind (wpAny_setState_of ho hd R.fits ?_))))
        dsimp only
        by_cases ek : p.2 = k
        · exact wp_if_pos (by simp [ek]) (wpAny_pure (yes (List.mem_map.mpr ⟨p, pin, ek⟩)))
        · refine wp_if_neg (by simp [ek]) ?_
          try refine wpAny_bind (wpAny_pure ?_)
          rw [sameMem]
          simp only [if_true, live, row_at R.rows hp]
          refine wpAny_bind (wpAny_isSame_ref_self (wpAny_bind (wpAny_pure ?_)))
          simp only [if_true]
          refine wp_if_neg (by simp [ek]) (ih (c + (q + 1)) _ rfl (by omega) (by omega) fun i0 p0 h0 k0 => ?_)
          obtain ⟨c', b1, b2, b3⟩ := left i0 p0 h0 k0
          refine ⟨c', ?_, b2, b3⟩
          have far : ¬ c' < c + q := fun z => none_ (c' - c) i0 (by omega) (by rw [stepj, show c + (c' - c) = c' by omega]; exact b3) ((hashOf i0 p0 h0).trans (congrArg (hT P w) k0))
          have ne : c' ≠ c + q := fun z => by
            rw [z] at b3
            have z2 := (slot_live R.tab.ris b3).symm.trans live
            injection z2 with z2
            subst z2
            rw [hp] at h0
            exact ek ((congrArg Prod.snd (Option.some.inj h0)).trans k0)
          omega
      dsimp only
      by_cases hl : t.led = true
      · refine wp_if_neg (by simp [hl]) ?_
        try refine wpAny_bind (wpAny_pure ?_)
        exact tail
      · refine wp_if_pos (by simp [hl]) (wpAny_bind (unseen qx (fun y hy => ?_) (wp_if_neg (by decide) ?_)))
        · obtain ⟨e, he, ee⟩ := List.mem_map.mp hy
          have hm : e ∈ es.toList := by
            have z : e ∈ es ∧ e.1 = hT P w k := by simpa using he
            simpa using z.1
          rw [R.rows] at hm
          obtain ⟨p2, hp2, e2⟩ := List.mem_map.mp hm
          exact ⟨p2.2, p2.1, by rw [← ee, ← e2], R.tups p2 hp2⟩
        · try refine wpAny_bind (wpAny_pure ?_)
          exact tail
    · have e0 : t.probe (fun i => (es[i]?.map (·.1)).getD 0) (hT P w k) (at_.getD (t.probeStart (hT P w k))) = some (.empty (way t.mask (hT P w k) N) none) := by
        have z : way t.mask (hT P w k) N = (nth t.mask (nth t.mask (road t.mask (hT P w k)) c) (N - c)).j := by rw [stepj, show c + (N - c) = N by omega]
        rw [hat, z]; exact hpr
      rw [e0]
      refine wpAny_pure (no fun hm => ?_)
      obtain ⟨p0, h0, k0⟩ := List.mem_map.mp hm
      obtain ⟨i0, hi0⟩ := List.getElem?_of_mem h0
      obtain ⟨c', b1, b2, b3⟩ := left i0 p0 hi0 k0
      exact none_ (c' - c) i0 (by omega) (by rw [stepj, show c + (c' - c) = c' by omega]; exact b3) ((hashOf i0 p0 hi0).trans (congrArg (hT P w) k0))
/-- a search that adding asks for -/
theorem seek_add (R : SetS P w s.heap a L es ep t) {x : Addr} {k : List Str} (qx : TupS P w s.heap k x) (hu : A.units < cLine) {Q : SetFound → Shared → Prop} (yes : k ∈ L.map (·.2) → Q (.there none) s)
    (no : ∀ N, k ∉ L.map (·.2) → way t.mask (hT P w k) N ∉ t.place.toList → (∀ c, c < N → way t.mask (hT P w k) c ∈ t.place.toList) → Q (.free (way t.mask (hT P w k) N) false) s) : wpAny (model P w) A (setSearch a (.ref x) (hT P w k) true) Q E s := by
  have rm := R.room
  obtain ⟨N, hN, out_, in_⟩ := R.tab.first (by rw [List.length_map]; omega) (hT P w k)
  have big : N < 100000 := by
    have z : SetTable.turns t.mask ≤ 142 := by
      unfold SetTable.turns
      rcases R.tab.mok with e | e | e <;> omega
    omega
  unfold setSearch
  refine seek R qx hu hN out_ in_ yes (fun z => no N z out_ in_) 100000 0 none rfl (Nat.zero_le _) (by omega) fun i p hp hk => ?_
  have hi : (L.map fun p => hT P w p.2)[i]? = some (hT P w k) := by rw [List.getElem?_map, hp, ← hk]; rfl
  have lt : i < t.place.toList.length := by
    have z1 := (List.getElem?_eq_some_iff.mp hp).1
    have z2 := R.tab.sz
    rw [List.length_map] at z2
    rw [Array.length_toList]; omega
  obtain ⟨c, hc, e⟩ := R.tab.before out_ hi (List.getElem?_eq_getElem lt)
  exact ⟨c, Nat.zero_le _, hc, by rw [List.getElem?_eq_getElem lt, e]⟩
end
end Ev
set_option Elab.async false
set_option linter.all false
set_option maxRecDepth 100000
set_option maxHeartbeats 4000000
/-! sets of tuples of texts: adding -/
namespace Ev
open PySem PySem.Spec PyProof.Rows L2
section
variable {P : Program} {w : World} {A : Around} {E : Value → Shared → Prop} {s : Shared} {a : Addr} {L : List (Addr × List Str)} {es : Array (Int × Value)} {ep : Nat} {t : SetTable}
theorem TupS.beside {h h' : Heap} {k : List Str} {b : Addr} {o : Obj} (q : TupS P w h k b) (ho : h.get? a = some o) (hd : o.data = .set es ep t) (sb : Heap.SameBut a h h') : TupS P w h' k b := by
  obtain ⟨u, its, n, e, c, d, r⟩ := q
  have ne : b ≠ a := fun z => by
    rw [z, ho] at e
    cases e
    rw [hd] at d
    cases d
  exact ⟨u, its, n, (sb.2 b ne).trans e, c, d, r⟩
theorem picks (hr : es.toList = rowsS P w L) : ∀ l : List Nat, (∀ i ∈ l, i < L.length) → l.filterMap (fun i => es[i]?) = rowsS P w (l.filterMap fun i => L[i]?) ∧ (l.filterMap fun i => L[i]?).map (fun p => hT P w p.2) = l.map fun i => (es.map (·.1)).getD i 0
  | [], _ => ⟨rfl, rfl⟩
  | i :: l, hl => by
    obtain ⟨e1, e2⟩ := picks hr l fun j hj => hl j (List.mem_cons_of_mem _ hj)
    have hi := List.getElem?_eq_getElem (hl i List.mem_cons_self)
    have ei := row_at hr hi
    refine ⟨?_, ?_⟩
    · rw [List.filterMap_cons_some ei, List.filterMap_cons_some hi, e1]
      rfl
    · rw [List.filterMap_cons_some hi, List.map_cons, List.map_cons, e2]
      have z : (es.map (·.1))[i]? = some (hT P w (L[i]'(hl i List.mem_cons_self)).2) := by rw [Array.getElem?_map, ei]; rfl
      simp [Array.getD_eq_getD_getElem?, z]
theorem all_picks {α : Type} (L : List α) : (List.range L.length).filterMap (fun i => L[i]?) = L := by
  refine List.ext_getElem? fun j => ?_
  have key : ∀ n, n ≤ L.length → (List.range n).filterMap (fun i => L[i]?) = L.take n := fun n => by
    induction n with
    | zero => intro _; rfl
    | succ n ih =>
      intro hn
      have e : L[n]? = some L[n] := List.getElem?_eq_getElem hn
      rw [List.range_succ, List.filterMap_append, ih (Nat.le_of_lt hn), List.take_succ, e, List.filterMap_cons_some e]
      rfl
  rw [key _ (Nat.le_refl _), List.take_length]
/-- the table laid anew -/
theorem relay {o : Obj} (ho : s.heap.get? a = some o) (hex : o.ExactSet) (hd : o.data = .set es ep t) (hr : es.toList = rowsS P w L) (sz : t.place.size = es.size) (dm : t.dummies = #[]) (fl : es.size ≤ t.mask) (nd : (L.map (·.2)).Nodup) (tu : ∀ p ∈ L, TupS P w s.heap p.2 p.1)
    (ld : w.params.followText "set-order" = true ∨ t.led = true) (few : L.length < 64) {want M : Nat} (hw : SetTable.sizeAbove want - 1 = M) (hM : MaskOk M) (hw2 : SetTable.sizeAbove want ≤ 128) (hn : L.length * 5 < M * 3) {Q : Unit → Shared → Prop}
    (fin : ∀ h' L' es' ep' t', Heap.SameBut a s.heap h' → SetS P w h' a L' es' ep' t' → L'.Perm L → Q () { s with heap := h' }) : wpAny (model P w) A (setRelay a want) Q E s := by
  have sl := rows_len hr
  have fits : t.fits es.size = true := by
    unfold SetTable.fits SetTable.fill
    rw [dm, Bool.and_eq_true, beq_iff_eq, decide_eq_true_eq]
    exact ⟨sz, by show t.place.size + 0 ≤ t.mask; omega⟩
  obtain ⟨t', ord, e, hp, T, em, el, _, ed⟩ := relaid_ok t (hs := es.map (·.1)) (wanted := want) hw hM (by rw [Array.size_map, sl]; omega)
  rw [Array.size_map, sl] at hp
  obtain ⟨r1, r3⟩ := picks hr ord.toList fun i hi => List.mem_range.mp (hp.mem_iff.mp hi)
  have r2 : (ord.toList.filterMap fun i => L[i]?).Perm L := by
    have z := hp.filterMap fun i => L[i]?
    rwa [all_picks] at z
  generalize (ord.toList.filterMap fun i => L[i]?) = L2 at r1 r2 r3
  rw [← r3] at T
  have r1' : (ord.filterMap (es[·]?)).toList = rowsS P w L2 := by rw [Array.toList_filterMap]; exact r1
  have z2 : (ord.filterMap (es[·]?)).size = es.size := by rw [rows_len r1', r2.length_eq, sl]
  rw [setRelay_eq]
  refine wpAny_bind (wpAny_setState_of ho hd fits (wp_if_neg (by rw [sizeLine_eq]; omega) ?_))
  try refine wpAny_bind (wpAny_pure ?_)
  rw [e]
  refine wpAny_bind (wp_if_neg (by rw [z2]; simp) ?_)
  try refine wpAny_bind (wpAny_pure ?_)
  refine wpAny_pure (wpAny_storeSet_of ho hd ?_ (by rw [z2, sl, sizeLine_eq]; omega))
  have sb : Heap.SameBut a s.heap (s.heap.update a (Obj.putSet (ord.filterMap (es[·]?)) t')) := Heap.SameBut.update ..
  refine fin _ L2 _ (ep + 1) t' sb ⟨⟨_, store_at ho hd, ⟨hex.1, hex.2.1, hex.2.2⟩, rfl⟩, r1', T, (r2.map (·.2)).nodup_iff.mpr nd, fun p q => (tu p (r2.mem_iff.mp q)).beside ho hd sb, by rw [el]; exact ld, by rw [r2.length_eq, em]; exact hn, by rw [r2.length_eq]; exact few⟩ r2
theorem ins_perm {α : Type} (L : List α) (p : Nat) (x : α) : (L.take p ++ x :: L.drop p).Perm (x :: L) := by
  have z : (L.take p ++ x :: L.drop p).Perm (x :: (L.take p ++ L.drop p)) := List.perm_middle
  rwa [List.take_append_drop] at z
theorem TabOk.same {t u : SetTable} {hs : List Int} (T : TabOk t hs) (e1 : u.place = t.place) (e2 : u.dummies = t.dummies) (e3 : u.mask = t.mask) : TabOk u hs := by
  obtain ⟨a, b, c, d, e, f⟩ := T
  exact ⟨by rw [e1]; exact a, by rw [e2]; exact b, by rw [e1]; exact c, by rw [e3]; exact d, by rw [e1, e3]; exact e, by rw [e1, e3]; exact f⟩
theorem any_byv {x : Addr} {k : List Str} {b : Bool} {f : Bool → Sem Bool} {Q : Bool → Shared → Prop} (qx : TupS P w s.heap k x) (all : ∀ r, wpAny (model P w) A (f r) Q E s) : wpAny (model P w) A (if b = true then (do let r ← hashByValue 8 (.ref x); f r) else (do let r ← pure true; f r)) Q E s := by
  by_cases h : b = true
  · exact wp_if_pos h (wpAny_bind (byv_tupS qx all))
  · exact wp_if_neg h (wpAny_bind (wpAny_pure (all true)))
/-- one more -/
theorem add1 (R : SetS P w s.heap a L es ep t) {x : Addr} {k : List Str} (qx : TupS P w s.heap k x) (hu : A.units < cLine) (few : L.length + 1 < 64) {Q : Bool → Shared → Prop}
    (fin : ∀ b h' L' es' ep' t', Heap.SameBut a s.heap h' → SetS P w h' a L' es' ep' t' → (k ∈ L.map (·.2) → L' = L) → (k ∉ L.map (·.2) → L'.Perm ((x, k) :: L)) → Q b { s with heap := h' }) : wpAny (model P w) A (setAddHashed a (.ref x) (hT P w k)) Q E s := by
  obtain ⟨o, ho, hex, hd⟩ := R.at_
  have sl := rows_len R.rows
  have rm := R.room
  unfold setAddHashed
  refine wpAny_holding ?_
  rw [show (100000 : Nat) = 99999 + 1 from rfl, setAddHashedIn_succ]
  refine wpAny_bind (wpAny_setState_of ho hd R.fits (wp_if_neg (by simp [byScan, Value.scannable]) ?_))
  try refine wpAny_bind (wpAny_pure ?_)
  refine wpAny_bind (seek_add R qx hu (fun hm => wpAny_pure (fin false s.heap L es ep t (Heap.SameBut.refl a s.heap) R (fun _ => rfl) fun z => absurd hm z)) fun N hm out_ in_ => ?_)
  refine wpAny_bind (wpAny_setState_of ho hd R.fits ?_)
  dsimp only
  obtain ⟨q1, q2, q3, q4, q5, q6, q7, q8, q9⟩ := R.tab.put out_ in_
  generalize hpt : t.put (way t.mask (hT P w k) N) = pt at q1 q3 q4 q5 q6 q7 q8 q9 ⊢
  obtain ⟨t0, p⟩ := pt
  dsimp only at q1 q3 q4 q5 q6 q7 q8 q9 ⊢
  subst q1
  refine any_byv qx fun r => ?_
  have f1 : (if r = true then t0 else { t0 with plain := false }).place = t0.place := by split <;> rfl
  have f2 : (if r = true then t0 else { t0 with plain := false }).dummies = t0.dummies := by split <;> rfl
  have f3 : (if r = true then t0 else { t0 with plain := false }).mask = t0.mask := by split <;> rfl
  have f4 : (if r = true then t0 else { t0 with plain := false }).led = t0.led := by split <;> rfl
  generalize (if r = true then t0 else { t0 with plain := false }) = t1 at f1 f2 f3 f4 ⊢
  have f5 : t1.fill = t0.fill := by unfold SetTable.fill; rw [f1, f2]
  generalize hpp : SetTable.below t.place (way t.mask (hT P w k) N) = p at q2 q3 ⊢
  have pm := ins_perm L p (x, k)
  have lenL : (L.take p ++ (x, k) :: L.drop p).length = L.length + 1 := pm.length_eq
  have hin : (SetTable.insertAt es p (hT P w k, Value.ref x)).toList = rowsS P w (L.take p ++ (x, k) :: L.drop p) := by
    rw [SetTable.toList_insertAt, R.rows, rowsS, rowsS, List.map_append, List.map_cons, List.map_take, List.map_drop]
  have hhs : (L.take p ++ (x, k) :: L.drop p).map (fun p => hT P w p.2) = (L.map fun p => hT P w p.2).take p ++ hT P w k :: (L.map fun p => hT P w p.2).drop p := by rw [List.map_append, List.map_cons, List.map_take, List.map_drop]
  rw [← hhs] at q3
  have q3 := TabOk.same q3 f1 f2 f3
  have nd1 : ((L.take p ++ (x, k) :: L.drop p).map (·.2)).Nodup := (pm.map (·.2)).nodup_iff.mpr (by rw [List.map_cons]; exact List.nodup_cons.mpr ⟨hm, R.nd⟩)
  have len1 := (rows_len hin).trans lenL
  generalize SetTable.insertAt es p (hT P w k, Value.ref x) = es1 at hin len1 ⊢
  generalize L.take p ++ (x, k) :: L.drop p = L1 at pm lenL q3 nd1 hin
  refine wpAny_bind (wpAny_storeSet_of ho hd ?_ (by rw [len1, sizeLine_eq]; omega))
  have sb : Heap.SameBut a s.heap (s.heap.update a (Obj.putSet es1 t1)) := Heap.SameBut.update ..
  have ho1 := store_at (es' := es1) (t' := t1) ho hd
  generalize s.heap.update a (Obj.putSet es1 t1) = h1 at sb ho1 ⊢
  have tu1 : ∀ p ∈ L1, TupS P w h1 p.2 p.1 := fun p hp => by
    rcases List.mem_cons.mp (pm.mem_iff.mp hp) with e | z
    · rw [e]; exact qx.beside ho hd sb
    · exact (R.tups p z).beside ho hd sb
  have ld1 : w.params.followText "set-order" = true ∨ t1.led = true := by rw [f4, q5]; exact R.led
  have msk : t1.mask = t.mask := f3.trans q4
  have fil : t1.fill = L.length + 1 := by rw [f5, q9, List.length_map]
  have sz1 : t1.place.size = es1.size := by rw [q3.sz, List.length_map, lenL, len1]
  by_cases full : t1.tooFull = true
  · have full' : (L.length + 1) * 5 ≥ t.mask * 3 := by
      have z := full
      unfold SetTable.tooFull at z
      rwa [decide_eq_true_eq, fil, msk] at z
    have two : (t.mask = 7 ∧ L.length = 4) ∨ (t.mask = 31 ∧ L.length = 18) := by
      rcases R.tab.mok with e | e | e <;> rw [e] at full' rm
      · exact .inl ⟨e, by omega⟩
      · exact .inr ⟨e, by omega⟩
      · omega
    have again : ∀ M, SetTable.sizeAbove (SetTable.grown (L.length + 1)) - 1 = M → MaskOk M → SetTable.sizeAbove (SetTable.grown (L.length + 1)) ≤ 128 → (L.length + 1) * 5 < M * 3 →
        wpAny (model P w) A (setRelay a (SetTable.grown (es.size + 1))) (fun _ u => wpAny (model P w) A (pure true) Q E u) E { s with heap := h1 } := fun M g1 g2 g3 g4 => by
      rw [sl]
      refine relay (s := { s with heap := h1 }) ho1 ⟨hex.1, hex.2.1, hex.2.2⟩ rfl hin sz1 q3.dm (by rw [len1, msk]; rcases two with ⟨e, z⟩ | ⟨e, z⟩ <;> omega) nd1 tu1 ld1 (by rw [lenL]; exact few) g1 g2 g3 (by rw [lenL]; exact g4) fun h2 L2 es2 ep2 t2 sb2 R2 pm2 => ?_
      exact wpAny_pure (fin true h2 L2 es2 ep2 t2 (sb.trans sb2) R2 (fun z => absurd z hm) fun _ => pm2.trans pm)
    first
      | refine wpAny_bind (wp_if_pos (by simp [full]) ?_)
      | refine wp_if_pos (by simp [full]) (wpAny_bind ?_)
    rcases two with ⟨_, z⟩ | ⟨_, z⟩
    · exact again 31 (by rw [z, size_20]) (.inr (.inl rfl)) (by rw [z, size_20]; decide) (by omega)
    · exact again 127 (by rw [z, size_76]) (.inr (.inr rfl)) (by rw [z, size_76]; decide) (by omega)
  · have nf : (L.length + 1) * 5 < t1.mask * 3 := by
      have z := full
      unfold SetTable.tooFull at z
      rw [decide_eq_true_eq, fil] at z
      omega
    have R1 : SetS P w h1 a L1 es1 (ep + 1) t1 := ⟨⟨_, ho1, ⟨hex.1, hex.2.1, hex.2.2⟩, rfl⟩, hin, q3, nd1, tu1, ld1, by rw [lenL]; exact nf, by rw [lenL]; exact few⟩
    first
      | refine wp_if_neg (by simp [full]) ?_
      | refine wpAny_bind (wp_if_neg (by simp [full]) (wpAny_pure ?_))
    exact wpAny_pure (fin true h1 L1 es1 (ep + 1) t1 sb R1 (fun z => absurd z hm) fun _ => pm)
end
end Ev
set_option Elab.async false
set_option linter.all false
set_option maxRecDepth 100000
set_option maxHeartbeats 4000000
/-! sets of tuples of texts: set(list), sorted(set) -/
namespace Ev
open PySem PySem.Spec PyProof.Rows L2
/-- what a set has of the first i items -/
structure Has {κ : Type} (ks : List (Addr × κ)) (i : Nat) (L : List (Addr × κ)) : Prop where
  of : ∀ p ∈ L, p ∈ ks.take i
  all : ∀ p ∈ ks.take i, p.2 ∈ L.map (·.2)
  len : L.length ≤ i
section
variable {κ : Type} {ks L L' : List (Addr × κ)} {i : Nat} {x : Addr × κ}
theorem has0 : Has ks 0 [] := ⟨fun p h => (by cases h), fun p h => (by simp at h), Nat.le_refl _⟩
theorem take1 {α : Type} {l : List α} {i : Nat} {x : α} (h : l[i]? = some x) : l.take (i + 1) = l.take i ++ [x] := by rw [List.take_succ, h]; rfl
theorem Has.old (g : Has ks i L) (h : ks[i]? = some x) (hm : x.2 ∈ L.map (·.2)) : Has ks (i + 1) L := by
  refine ⟨fun p hp => by rw [take1 h]; exact List.mem_append_left _ (g.of p hp), fun p hp => ?_, Nat.le_succ_of_le g.len⟩
  rw [take1 h] at hp
  rcases List.mem_append.mp hp with z | z
  · exact g.all p z
  · have e := List.mem_singleton.mp z
    subst e; exact hm
theorem Has.new (g : Has ks i L) (h : ks[i]? = some x) (pm : L'.Perm (x :: L)) : Has ks (i + 1) L' := by
  refine ⟨fun p hp => ?_, fun p hp => ?_, by have := g.len; rw [pm.length_eq, List.length_cons]; omega⟩
  · rw [take1 h]
    rcases List.mem_cons.mp (pm.mem_iff.mp hp) with e | z
    · subst e; exact List.mem_append_right _ (List.mem_singleton.mpr rfl)
    · exact List.mem_append_left _ (g.of p z)
  · rw [(pm.map (·.2)).mem_iff, List.map_cons]
    rw [take1 h] at hp
    rcases List.mem_append.mp hp with z | z
    · exact List.mem_cons_of_mem _ (g.all p z)
    · have e := List.mem_singleton.mp z
      subst e; exact List.mem_cons_self
end
section
variable {P : Program} {w : World} {A : Around} {E : Value → Shared → Prop} {s : Shared}
theorem SetS.keep {h h' : Heap} {a : Addr} {L : List (Addr × List Str)} {es : Array (Int × Value)} {ep : Nat} {t : SetTable} (R : SetS P w h a L es ep t) (ka : ∀ o, h.get? a = some o → h'.get? a = some o) (tu : ∀ p ∈ L, TupS P w h' p.2 p.1) : SetS P w h' a L es ep t :=
  let ⟨o, ho, r⟩ := R.at_
  ⟨⟨o, ka o ho, r⟩, R.rows, R.tab, R.nd, tu, R.led, R.room, R.few⟩
theorem setS_new {h : Heap} {a : Addr} (ho : h.get? a = some { cls := .type "set", dict := none, data := .set #[] 0 (.fresh 0 0 (!w.params.followText "set-order")) }) : SetS P w h a [] #[] 0 (.fresh 0 0 (!w.params.followText "set-order")) := by
  refine ⟨⟨_, ho, ⟨rfl, rfl, rfl⟩, rfl⟩, rfl, ⟨List.Pairwise.nil, rfl, rfl, .inl rfl, fun x hx => (by cases hx), fun i h j hi => (by simp at hi)⟩, List.nodup_nil, fun p hp => (by cases hp), ?_, (by show 0 * 5 < 7 * 3; decide), (by show 0 < 64; decide)⟩
  show _ ∨ (!w.params.followText "set-order") = true
  cases w.params.followText "set-order"
  · exact .inr rfl
  · exact .inl rfl
/-- the loop of set.update -/
theorem up_loop {I : Addr} {fp wr : List Addr} {G : Array GenState → Array GenState → Prop} {n : Nat} {Pv : Nat → Value → Prop} {St : Nat → Shared → Prop} {R : Result → Shared → Prop} (W : WalksS P w A.in1 I fp wr G n Pv St) (S : Addr) (nS : S ∉ fp) (ks : List (Addr × List Str)) (hn : n = ks.length) (few : ks.length < 64)
    (val : ∀ i v, Pv i v → ∃ p, ks[i]? = some p ∧ v = .ref p.1) (h0 : Heap) (tu : ∀ p ∈ ks, TupS P w h0 p.2 p.1) (nS0 : h0.get? S = none) (nW0 : ∀ b ∈ wr, h0.get? b = none) (hu : A.in1.units < cLine) :
    ∀ (k i : Nat) (s : Shared), n - i = k → i ≤ n → St i s → (∀ b o, h0.get? b = some o → s.heap.get? b = some o) → (∃ L es ep t, SetS P w s.heap S L es ep t ∧ Has ks i L) →
      (∀ s' L es ep t, Moved (S :: wr) G s s' → SetS P w s'.heap S L es ep t → Has ks n L → (∀ b o, h0.get? b = some o → s'.heap.get? b = some o) → R (.ok (.ret .none)) s') →
      codeAny (model P w) A (.builtin "set.update.loop" ⟨[.ref S, .ref I], []⟩) R s := by
  have nSw : S ∉ wr := fun z => nS (W.sub _ z)
  have more : ∀ b ∈ wr, b ∈ S :: wr := fun b z => List.mem_cons_of_mem _ z
  have kp : ∀ {u u' : Shared}, Moved wr G u u' → (∀ b o, h0.get? b = some o → u.heap.get? b = some o) → ∀ b o, h0.get? b = some o → u'.heap.get? b = some o := fun mv q b o e => mv.heap b o (fun z => by rw [nW0 b z] at e; cases e) (q b o e)
  intro k
  induction k with
  | zero =>
    rintro i s ek hi st old ⟨L, es, ep, t, hS, g⟩ done
    obtain rfl : i = n := by omega
    refine codeAny_builtin F.entry_set_update_loop ?_
    rw [Around.under_plainId F.plain_set_update_loop _]
    refine wpAny_bind (W.done s _ _ st fun s' mv => ?_)
    have old' := kp mv old
    exact wpAny_pure (done s' L es ep t (mv.mono more) (hS.keep (fun o e => mv.heap S o nSw e) fun p hp => (tu p (List.mem_of_mem_take (g.of p hp))).keep (old' _)) g old')
  | succ k ih =>
    rintro i s ek hi st old ⟨L, es, ep, t, hS, g⟩ done
    have lt : i < n := by omega
    refine codeAny_builtin F.entry_set_update_loop ?_
    rw [Around.under_plainId F.plain_set_update_loop _]
    refine wpAny_bind (W.item i s _ _ lt st fun v s' hv st' mv => ?_)
    obtain ⟨p, hp, rfl⟩ := val i v hv
    have old' := kp mv old
    have hS' : SetS P w s'.heap S L es ep t := hS.keep (fun o e => mv.heap S o nSw e) fun q hq => (tu q (List.mem_of_mem_take (g.of q hq))).keep (old' _)
    have qx : TupS P w s'.heap p.2 p.1 := (tu p (List.mem_of_getElem? hp)).keep (old' _)
    show wpAny _ A.in1 (holding [Value.ref p.1] (setAdd S (.ref p.1)) >>= _) _ _ s'
    refine wpAny_bind (wpAny_holding ?_)
    unfold setAdd
    refine wpAny_holding (wpAny_bind (wpAny_pyHash_tuple hu qx ?_))
    refine add1 (s := { s' with toks := s'.toks + (p.2.length + 1) }) hS' qx hu (by have := g.len; omega) fun b h' L' es' ep' t' sb hS2 c1 c2 => ?_
    have g' : Has ks (i + 1) L' := by
      rcases Classical.em (p.2 ∈ L.map (·.2)) with c | c
      · rw [c1 c]; exact g.old hp c
      · exact g.new hp (c2 c)
    have old2 : ∀ b o, h0.get? b = some o → h'.get? b = some o := fun b o e => (sb.2 b (fun z => by rw [z, nS0] at e; cases e)).trans (old' b o e)
    refine wpAny_pure ⟨plainId_quiet F.plain_set_update_loop _, ih (i + 1) _ (by omega) lt (W.frame _ s' _ _ st' (Nat.le_add_right _ _) fun b hb o e => ?_) old2 ⟨L', es', ep', t', hS2, g'⟩ fun s2 L2 es2 ep2 t2 mv2 hS3 g2 old3 => ?_⟩
    · rw [sb.2 b (fun z => nS (by rw [← z]; exact hb))]; exact e
    · refine done s2 L2 es2 ep2 t2 (Moved.trans W.gtrans ((mv.mono more).then_heap (Nat.le_add_right _ _) fun b o hb e => ?_) mv2) hS3 g2 old3
      rw [sb.2 b (fun z => hb (by rw [z]; exact List.mem_cons_self))]; exact e
end
end Ev
set_option Elab.async false
set_option linter.all false
set_option maxRecDepth 100000
set_option maxHeartbeats 4000000
/-! sets of tuples of texts: the calls -/
namespace Ev
open PySem PySem.Spec PyProof.Rows L2
section
variable {P : Program} {w : World} {A : Around} {E : Value → Shared → Prop} {s : Shared}
/-- a new set's object -/
abbrev setO (w : World) : Obj := { cls := .type "set", dict := none, data := .set #[] 0 (.fresh 0 0 (!w.params.followText "set-order")) }
theorem call_setS {l : Addr} {its : Array Value} (ks : List (Addr × List Str)) {Q : Value → Shared → Prop} (hh : A.handled = none) (hl : s.heap.IsList l its) (hit : its.toList = ks.map fun p => Value.ref p.1) (tu : ∀ p ∈ ks, TupS P w s.heap p.2 p.1) (few : ks.length < 64) (hu : A.units + 3 < cLine)
    (fin : ∀ (h' : Heap) (tk : Nat) L es ep t, SetS P w h' s.heap.objs.size L es ep t → Has ks ks.length L → (∀ b o, s.heap.get? b = some o → h'.get? b = some o) → Q (.ref s.heap.objs.size) { s with heap := h', toks := tk }) :
    wpAny (model P w) A (call (.type "set") [.ref l]) Q E s := by
  have isz : its.size = ks.length := by
    have q := congrArg List.length hit
    rwa [Array.length_toList, List.length_map] at q
  have hmade := F.called_set.made
  have hsub := F.called_set.sub
  have n1 := F.called_set.notType
  have n2 := F.called_set.canCreate
  have n3 := F.typeCall_set_1 (.ref l)
  obtain ⟨c, tl, hmro⟩ := F.called_set.mro
  refine wpAny_call (codeAny_of_tree ?_)
  show wpAny _ _ (callAny (.type "set") _) _ _ s
  refine wpAny_pure ⟨Code.quiet_builtin _ (by decide +kernel), codeAny_builtin F.entry_type_call ?_⟩
  rw [Around.under_plain (weight_type_call_type "set" [.ref l] []) rfl]
  all_goals repeat (any_goals (first | wp_step | assumption))
  refine codeAny_mono (code_set_led1 (.ref l) (E := E) (Q₁ := fun ob u => ob = .ref s.heap.objs.size ∧ u = { s with heap := s.heap.push (setO w) }) ⟨rfl, rfl⟩) fun r s1 hr => ?_
  cases r with
  | error e => exact hr
  | ok fl =>
    cases fl with
    | ret ob =>
      obtain ⟨rfl, rfl⟩ := hr
      have gS : (s.heap.push (setO w)).get? s.heap.objs.size = some (setO w) := Heap.get?_push_size _ rfl
      have tyS : Shared.TypeIs { s with heap := s.heap.push (setO w) } (.ref s.heap.objs.size) "set" := ⟨_, gS, rfl⟩
      have i1 := F.called_set.init.lookup
      have i2 := F.called_set.init.bind (.ref s.heap.objs.size)
      all_goals repeat (any_goals (first | wp_step | assumption))
      refine codeAny_mono (codeAny_call_builtin (R := wants (fun r u => r = .none ∧ ∃ h' tk L es ep t, u = { s with heap := h', toks := tk } ∧ SetS P w h' s.heap.objs.size L es ep t ∧ Has ks ks.length L ∧ ∀ b o, s.heap.get? b = some o → h'.get? b = some o) E) F.called_set.init.plain F.entry_set_init (check_set_init_1 tyS ?_)) fun r2 s2 hr2 => ?_
      · obtain ⟨ol, gl, cl, nl, dl⟩ := hl
        obtain ⟨o1, o2, o3, o4⟩ := ol
        simp only at cl dl
        subst cl dl
        have gl' : (s.heap.push (setO w)).get? l = some { cls := .type "list", dict := o2, data := .seq its nl, slots := o4 } := Heap.get?_push_of_some _ gl
        have j1 := F.sub_list_set
        have j2 := F.sub_list_frozenset
        have j3 : (Value.type "list" == Value.type "dict") = false := by decide
        have l1 : (s.heap.push (setO w)).IsList l its := ⟨_, gl', rfl, nl, rfl⟩
        unfold Builtin.«set.__init__» noKeywords Builtin.Frozenset.updateFrom
        generalize hPI : pyIter = PI
        wp_walk
        subst hPI
        refine wpAny_pyIter_list l1 (wpAny_bind (wpAny_runValue ?_))
        have lt := Heap.lt_size gl
        have h3 : A.in1.in1.in1.handled = none := by simp [hh]
        have neI : l ≠ (s.heap.push (setO w)).objs.size := by rw [Heap.size_push]; exact Nat.ne_of_lt (Nat.lt_succ_of_lt lt)
        have nS : s.heap.objs.size ∉ [(s.heap.push (setO w)).objs.size, l] := by
          rw [Heap.size_push]
          intro z
          rcases List.mem_cons.mp z with z | z
          · exact absurd z (Nat.ne_of_lt (Nat.lt_succ_self _))
          · exact absurd (List.mem_singleton.mp z) (Nat.ne_of_gt lt)
        have val : ∀ (i : Nat) (v : Value), its[i]? = some v → ∃ p, ks[i]? = some p ∧ v = .ref p.1 := fun i v e => by
          rw [← Array.getElem?_toList, hit, List.getElem?_map] at e
          cases q : ks[i]? with
          | none => rw [q] at e; cases e
          | some p => rw [q] at e; exact ⟨p, rfl, (Option.some.inj e).symm⟩
        have far : ∀ b, s.heap.objs.size ≤ b → s.heap.get? b = none := fun b hb => by
          cases q : s.heap.get? b with
          | none => rfl
          | some o => exact absurd (Heap.lt_size q) (Nat.not_lt.mpr hb)
        refine up_loop ((Walks.list h3 _ l neI its).toS) s.heap.objs.size nS ks isz few val s.heap tu (far _ (Nat.le_refl _)) (fun b hb => far b (by rw [List.mem_singleton.mp hb, Heap.size_push]; exact Nat.le_succ _)) hu (its.size - 0) 0 _ (by omega) (Nat.zero_le _)
          ⟨⟨_, Heap.get?_push_size _ rfl, rfl, rfl⟩, l1.push _⟩ (fun b o e => Heap.get?_push_of_some _ (Heap.get?_push_of_some _ e)) ⟨[], #[], 0, _, setS_new (Heap.get?_push_of_some _ gS), has0⟩ fun s' L es ep t mv hS' g' old => ?_
        obtain ⟨h', g2, d', tk', os'⟩ := s'
        obtain rfl : g2 = s.gens := mv.gens
        obtain rfl : d' = s.drawn := mv.drawn
        obtain rfl : os' = s.os := mv.os
        rw [isz] at g'
        refine wpAny_pure ?_
        show wpAny _ _ (ret Value.none) _ _ _
        exact wpAny_pure ⟨rfl, h', tk', L, es, ep, t, rfl, hS', g', old⟩
      · cases r2 with
        | error e => exact hr2
        | ok f2 =>
          cases f2 with
          | ret r =>
            obtain ⟨rfl, h', tk, L, es, ep, t, rfl, hS', g', old⟩ := hr2
            all_goals repeat (any_goals (first | wp_step | assumption))
            exact fin _ _ _ _ _ _ hS' g' old
          | _ => exact hr2.elim
    | _ => exact hr.elim
end
end Ev
set_option Elab.async false
set_option linter.all false
set_option maxRecDepth 100000
set_option maxHeartbeats 4000000
/-! sets of tuples of texts: the calls -/
namespace Ev
open PySem PySem.Spec PyProof.Rows L2
section
variable {P : Program} {w : World} {A : Around} {E : Value → Shared → Prop} {s : Shared}
abbrev setO' (w : World) : Obj := { cls := .type "set", dict := none, data := .set #[] 0 (.fresh 0 0 (!w.params.followText "set-order")) }
theorem call_setST {l : Addr} {its : Array Value} (ks : List (Addr × List Str)) {Q : Value → Shared → Prop} (hh : A.handled = none) (hl : s.heap.IsTuple l its) (hit : its.toList = ks.map fun p => Value.ref p.1) (tu : ∀ p ∈ ks, TupS P w s.heap p.2 p.1) (few : ks.length < 64) (hu : A.units + 3 < cLine)
    (fin : ∀ (h' : Heap) (tk : Nat) L es ep t, SetS P w h' s.heap.objs.size L es ep t → Has ks ks.length L → (∀ b o, s.heap.get? b = some o → h'.get? b = some o) → Q (.ref s.heap.objs.size) { s with heap := h', toks := tk }) :
    wpAny (model P w) A (call (.type "set") [.ref l]) Q E s := by
  have isz : its.size = ks.length := by
    have q := congrArg List.length hit
    rwa [Array.length_toList, List.length_map] at q
  have hmade := F.called_set.made
  have hsub := F.called_set.sub
  have n1 := F.called_set.notType
  have n2 := F.called_set.canCreate
  have n3 := F.typeCall_set_1 (.ref l)
  obtain ⟨c, tl, hmro⟩ := F.called_set.mro
  refine wpAny_call (codeAny_of_tree ?_)
  show wpAny _ _ (callAny (.type "set") _) _ _ s
  refine wpAny_pure ⟨Code.quiet_builtin _ (by decide +kernel), codeAny_builtin F.entry_type_call ?_⟩
  rw [Around.under_plain (weight_type_call_type "set" [.ref l] []) rfl]
  all_goals repeat (any_goals (first | wp_step | assumption))
  refine codeAny_mono (code_set_led1 (.ref l) (E := E) (Q₁ := fun ob u => ob = .ref s.heap.objs.size ∧ u = { s with heap := s.heap.push (setO w) }) ⟨rfl, rfl⟩) fun r s1 hr => ?_
  cases r with
  | error e => exact hr
  | ok fl =>
    cases fl with
    | ret ob =>
      obtain ⟨rfl, rfl⟩ := hr
      have gS : (s.heap.push (setO w)).get? s.heap.objs.size = some (setO w) := Heap.get?_push_size _ rfl
      have tyS : Shared.TypeIs { s with heap := s.heap.push (setO w) } (.ref s.heap.objs.size) "set" := ⟨_, gS, rfl⟩
      have i1 := F.called_set.init.lookup
      have i2 := F.called_set.init.bind (.ref s.heap.objs.size)
      all_goals repeat (any_goals (first | wp_step | assumption))
      refine codeAny_mono (codeAny_call_builtin (R := wants (fun r u => r = .none ∧ ∃ h' tk L es ep t, u = { s with heap := h', toks := tk } ∧ SetS P w h' s.heap.objs.size L es ep t ∧ Has ks ks.length L ∧ ∀ b o, s.heap.get? b = some o → h'.get? b = some o) E) F.called_set.init.plain F.entry_set_init (check_set_init_1 tyS ?_)) fun r2 s2 hr2 => ?_
      · obtain ⟨ol, gl, cl, nl, dl⟩ := hl
        obtain ⟨o1, o2, o3, o4⟩ := ol
        simp only at cl dl
        subst cl dl
        have gl' : (s.heap.push (setO w)).get? l = some { cls := .type "tuple", dict := o2, data := .seq its nl, slots := o4 } := Heap.get?_push_of_some _ gl
        have j1 := F.sub_tuple_set
        have j2 := F.sub_tuple_frozenset
        have j3 : (Value.type "tuple" == Value.type "dict") = false := by decide
        have l1 : (s.heap.push (setO w)).IsTuple l its := ⟨_, gl', rfl, nl, rfl⟩
        unfold Builtin.«set.__init__» noKeywords Builtin.Frozenset.updateFrom
        generalize hPI : pyIter = PI
        wp_walk
        subst hPI
        refine wpAny_pyIter_tuple l1 (wpAny_bind (wpAny_runValue ?_))
        have lt := Heap.lt_size gl
        have h3 : A.in1.in1.in1.handled = none := by simp [hh]
        have neI : l ≠ (s.heap.push (setO w)).objs.size := by rw [Heap.size_push]; exact Nat.ne_of_lt (Nat.lt_succ_of_lt lt)
        have nS : s.heap.objs.size ∉ [(s.heap.push (setO w)).objs.size, l] := by
          rw [Heap.size_push]
          intro z
          rcases List.mem_cons.mp z with z | z
          · exact absurd z (Nat.ne_of_lt (Nat.lt_succ_self _))
          · exact absurd (List.mem_singleton.mp z) (Nat.ne_of_gt lt)
        have val : ∀ (i : Nat) (v : Value), its[i]? = some v → ∃ p, ks[i]? = some p ∧ v = .ref p.1 := fun i v e => by
          rw [← Array.getElem?_toList, hit, List.getElem?_map] at e
          cases q : ks[i]? with
          | none => rw [q] at e; cases e
          | some p => rw [q] at e; exact ⟨p, rfl, (Option.some.inj e).symm⟩
        have far : ∀ b, s.heap.objs.size ≤ b → s.heap.get? b = none := fun b hb => by
          cases q : s.heap.get? b with
          | none => rfl
          | some o => exact absurd (Heap.lt_size q) (Nat.not_lt.mpr hb)
        refine up_loop ((Walks.tuple h3 _ l neI its).toS) s.heap.objs.size nS ks isz few val s.heap tu (far _ (Nat.le_refl _)) (fun b hb => far b (by rw [List.mem_singleton.mp hb, Heap.size_push]; exact Nat.le_succ _)) hu (its.size - 0) 0 _ (by omega) (Nat.zero_le _)
          ⟨⟨_, Heap.get?_push_size _ rfl, rfl, rfl⟩, l1.push _⟩ (fun b o e => Heap.get?_push_of_some _ (Heap.get?_push_of_some _ e)) ⟨[], #[], 0, _, setS_new (Heap.get?_push_of_some _ gS), has0⟩ fun s' L es ep t mv hS' g' old => ?_
        obtain ⟨h', g2, d', tk', os'⟩ := s'
        obtain rfl : g2 = s.gens := mv.gens
        obtain rfl : d' = s.drawn := mv.drawn
        obtain rfl : os' = s.os := mv.os
        rw [isz] at g'
        refine wpAny_pure ?_
        show wpAny _ _ (ret Value.none) _ _ _
        exact wpAny_pure ⟨rfl, h', tk', L, es, ep, t, rfl, hS', g', old⟩
      · cases r2 with
        | error e => exact hr2
        | ok f2 =>
          cases f2 with
          | ret r =>
            obtain ⟨rfl, h', tk, L, es, ep, t, rfl, hS', g', old⟩ := hr2
            all_goals repeat (any_goals (first | wp_step | assumption))
            exact fin _ _ _ _ _ _ hS' g' old
          | _ => exact hr2.elim
    | _ => exact hr.elim
end
end Ev
set_option Elab.async false
set_option linter.all false
set_option maxRecDepth 100000
set_option maxHeartbeats 4000000
/-! sorted(set(list)) of tuples of texts -/
namespace Ev
open PySem PySem.Spec PyProof.Rows L2
theorem fnScopeBy {N P : List Str} {sc : Scope} (h : (decide (sc.kind = .function) && !sc.isCoroutine && !sc.isGenerator && decide N.Nodup && decide (N.take P.length = P) && P.all (fun x => decide (sc.names.lookup x = some .local) || decide (sc.names.lookup x = some .cell)) && sc.names.all (fun y => !decide (y.2 = .free))) = true) : FnScope N P sc := by
  simp only [Bool.and_eq_true, Bool.not_eq_true', decide_eq_true_eq, List.all_eq_true, Bool.or_eq_true, decide_eq_false_iff_not] at h
  obtain ⟨⟨⟨⟨⟨⟨h1, h2⟩, h3⟩, h4⟩, h5⟩, h6⟩, h7⟩ := h
  exact ⟨h1, h2, h3, h4, h5, h6, h7⟩
def avS (k : List Str) : AV := .tup (k.map .str)
def daS (k : List Str) : PyData := .tuple (k.map .str)
def prS (k : List Str) : AV × PyData := (avS k, daS k)
def strsOf : List AV → Option (List Str)
  | [] => some []
  | .str x :: r => (strsOf r).map (x :: ·)
  | _ :: _ => none
def keyS : AV → Option (List Str)
  | .tup xs => strsOf xs
  | _ => none
def keysS : List AV → Option (List (List Str))
  | [] => some []
  | x :: r => match keyS x with
    | some k => (keysS r).map (k :: ·)
    | none => none
def dedupS (seen : List (List Str)) : List (List Str) → List (List Str)
  | [] => []
  | k :: r => match seen.any fun z => decide (z = k) with
    | true => dedupS seen r
    | false => k :: dedupS (k :: seen) r
/-- all in order, none like another -/
def strictP : List (AV × PyData) → Bool
  | [] => true
  | x :: r => (r.all fun y => PySem.W.dataLt x.2 y.2) && strictP r
def okS (D : List (List Str)) : Bool := (D.all fun k => (D.all fun z => PySem.W.alike (daS k) (daS z)) && !k.isEmpty && Nat.ble (daS k).depth 50) && strictP (sortP (D.map prS))
def ssetL (xs : List AV) (h : AH) : R AV := match keysS xs with
  | some ks => (match Nat.blt ks.length 64 && okS (dedupS [] ks) with
    | true => alloc h (.lst ((sortP ((dedupS [] ks).map prS)).map (·.1)))
    | false => .bad)
  | none => .bad
def ssetA (a : AV) (h : AH) : R AV := match a with
  | .obj n => (match h.get n with
    | some (.lst xs) => ssetL xs h
    | _ => .bad)
  | .tup xs => ssetL xs h
  | _ => .bad
/-! ### plain facts -/
theorem strsOf_is : ∀ {xs : List AV} {k : List Str}, strsOf xs = some k → xs = k.map .str
  | [], k, e => by cases e; rfl
  | x :: r, k, e => by
    cases x with
    | str z =>
      have e' : (strsOf r).map (z :: ·) = some k := e
      cases q : strsOf r with
      | none => rw [q] at e'; cases e'
      | some k2 => rw [q] at e'; cases e'; rw [strsOf_is q]; rfl
    | _ => cases e
theorem keyS_is {x : AV} {k : List Str} (e : keyS x = some k) : x = avS k := by
  cases x with
  | tup xs => unfold avS; rw [strsOf_is (show strsOf xs = some k from e)]
  | _ => cases e
theorem dedup_mem : ∀ {l seen : List (List Str)} {k : List Str}, k ∈ dedupS seen l ↔ k ∈ l ∧ k ∉ seen
  | [], seen, k => by simp [dedupS]
  | z :: r, seen, k => by
    have e0 : dedupS seen (z :: r) = (match seen.any fun y => decide (y = z) with | true => dedupS seen r | false => z :: dedupS (z :: seen) r) := rfl
    rw [e0]
    cases h : seen.any fun y => decide (y = z) with
    | true =>
      have hz : z ∈ seen := by
        obtain ⟨y, hy, e⟩ := List.any_eq_true.mp h
        have := of_decide_eq_true e
        rw [← this]; exact hy
      show k ∈ dedupS seen r ↔ _
      rw [dedup_mem]
      constructor
      · rintro ⟨a, b⟩; exact ⟨List.mem_cons_of_mem _ a, b⟩
      · rintro ⟨a, b⟩
        rcases List.mem_cons.mp a with e | e
        · subst e; exact absurd hz b
        · exact ⟨e, b⟩
    | false =>
      have hz : z ∉ seen := fun m => by
        have : (seen.any fun y => decide (y = z)) = true := List.any_eq_true.mpr ⟨z, m, decide_eq_true rfl⟩
        rw [h] at this; cases this
      show k ∈ z :: dedupS (z :: seen) r ↔ _
      rw [List.mem_cons, dedup_mem, List.mem_cons, List.mem_cons, not_or]
      constructor
      · rintro (e | ⟨a, b, c⟩)
        · subst e; exact ⟨.inl rfl, hz⟩
        · exact ⟨.inr a, c⟩
      · rintro ⟨a, b⟩
        by_cases e : k = z
        · exact .inl e
        · exact .inr ⟨a.resolve_left e, e, b⟩
theorem dedup_nodup : ∀ {l seen : List (List Str)}, (dedupS seen l).Nodup
  | [], seen => List.nodup_nil
  | z :: r, seen => by
    have e0 : dedupS seen (z :: r) = (match seen.any fun y => decide (y = z) with | true => dedupS seen r | false => z :: dedupS (z :: seen) r) := rfl
    rw [e0]
    cases seen.any fun y => decide (y = z) with
    | true => exact dedup_nodup
    | false => exact List.nodup_cons.mpr ⟨fun m => (dedup_mem.mp m).2 List.mem_cons_self, dedup_nodup⟩
theorem same_of {α : Type} {r : α → α → Prop} : ∀ {l m : List α}, l.Perm m → l.Pairwise r → m.Pairwise r → (∀ a b, a ∈ l → b ∈ l → r a b → r b a → a = b) → l = m
  | [], m, p, _, _, _ => p.nil_eq
  | a :: t, m, p, h1, h2, an => by
    cases m with
    | nil => exact absurd p.symm.nil_eq (by simp)
    | cons b u =>
      have hb : b ∈ a :: t := p.mem_iff.mpr List.mem_cons_self
      have ha : a ∈ b :: u := p.mem_iff.mp List.mem_cons_self
      have e : a = b := by
        rcases List.mem_cons.mp hb with z | z
        · exact z.symm
        · rcases List.mem_cons.mp ha with y | y
          · exact y
          · exact an a b List.mem_cons_self hb ((List.pairwise_cons.mp h1).1 b z) ((List.pairwise_cons.mp h2).1 a y)
      subst e
      rw [same_of (p.cons_inv) (List.pairwise_cons.mp h1).2 (List.pairwise_cons.mp h2).2 fun x y hx hy => an x y (List.mem_cons_of_mem _ hx) (List.mem_cons_of_mem _ hy)]
theorem strict_anti : ∀ {l : List (AV × PyData)}, strictP l = true → ∀ a b, a ∈ l → b ∈ l → leP a b = true → leP b a = true → a = b
  | [], _, a, _, h, _, _, _ => by cases h
  | x :: r, s, a, b, ha, hb, l1, l2 => by
    obtain ⟨s1, s2⟩ := Bool.and_eq_true_iff.mp (show ((r.all fun y => PySem.W.dataLt x.2 y.2) && strictP r) = true from s)
    have s1 := List.all_eq_true.mp s1
    rw [leP_eq] at l1 l2
    rcases List.mem_cons.mp ha with e | e
    · rcases List.mem_cons.mp hb with f | f
      · rw [e, f]
      · subst e
        have := s1 b f
        rw [this] at l2; cases l2
    · rcases List.mem_cons.mp hb with f | f
      · subst f
        have := s1 a e
        rw [this] at l1; cases l1
      · exact strict_anti s2 a b e f (by rw [leP_eq]; exact l1) (by rw [leP_eq]; exact l2)
theorem sortP_same {l m : List (AV × PyData)} (p : l.Perm m) (s : strictP (sortP m) = true) : sortP l = sortP m := by
  have a1 : (sortP l).Perm l := by rw [sortP_eq]; exact List.mergeSort_perm ..
  have a2 : (sortP m).Perm m := by rw [sortP_eq]; exact List.mergeSort_perm ..
  have b1 : (sortP l).Pairwise (fun a b => leP a b = true) := by rw [sortP_eq]; exact PySem.W.sort_pairwise leP_total l
  have b2 : (sortP m).Pairwise (fun a b => leP a b = true) := by rw [sortP_eq]; exact PySem.W.sort_pairwise leP_total m
  exact (same_of ((a2.trans p.symm).trans a1.symm) b2 b1 (strict_anti s)).symm
theorem dats_S : ∀ l : List (List Str), AV.dats (l.map avS) = some (l.map daS) := by
  have one : ∀ k : List Str, AV.dats (k.map .str) = some (k.map .str) := fun k => by
    induction k with
    | nil => rfl
    | cons x k ih => show AV.dats (AV.str x :: k.map .str) = _; unfold AV.dats; rw [ih]; rfl
  intro l
  induction l with
  | nil => rfl
  | cons k l ih =>
    show AV.dats (avS k :: l.map avS) = _
    unfold AV.dats
    rw [ih]
    have e : AV.dat (avS k) = some (daS k) := by unfold avS AV.dat; rw [one k]; rfl
    rw [e]
    rfl
theorem zip_S : ∀ l : List (List Str), (l.map avS).zip (l.map daS) = l.map prS
  | [] => rfl
  | k :: l => by show (avS k, daS k) :: (l.map avS).zip (l.map daS) = _; rw [zip_S l]; rfl
theorem alike_S : ∀ {l : List PyData}, (∀ d ∈ l, ∀ e ∈ l, PySem.W.alike d e = true) → allAlike l = true
  | [], _ => rfl
  | d :: r, h => by
    show ((r.all fun e => PySem.W.alike d e && PySem.W.alike e d) && allAlike r) = true
    rw [Bool.and_eq_true]
    exact ⟨List.all_eq_true.mpr fun e he => by rw [h d List.mem_cons_self e (List.mem_cons_of_mem _ he), h e (List.mem_cons_of_mem _ he) d List.mem_cons_self]; rfl, alike_S fun x hx y hy => h x (List.mem_cons_of_mem _ hx) y (List.mem_cons_of_mem _ hy)⟩
theorem tups_S : ∀ {l : List (List Str)}, (∀ k ∈ l, k.isEmpty = false) → tupsOk (l.map daS) = true
  | [], _ => rfl
  | [] :: r, h => by have := h [] List.mem_cons_self; cases this
  | (x :: k) :: r, h => by
    show tupsOk (r.map daS) = true
    exact tups_S fun z hz => h z (List.mem_cons_of_mem _ hz)
/-- the order in which they come is nothing -/
theorem sortA_S {l D : List (List Str)} (p : l.Perm D) (ok : okS D = true) : sortA (l.map avS) = some ((sortP (D.map prS)).map (·.1)) := by
  obtain ⟨o1, o2⟩ := Bool.and_eq_true_iff.mp (show ((D.all fun k => (D.all fun z => PySem.W.alike (daS k) (daS z)) && !k.isEmpty && Nat.ble (daS k).depth 50) && strictP (sortP (D.map prS))) = true from ok)
  have o1 := List.all_eq_true.mp o1
  have al : ∀ d ∈ l.map daS, ∀ e ∈ l.map daS, PySem.W.alike d e = true := fun d hd e he => by
    obtain ⟨k, hk, rfl⟩ := List.mem_map.mp hd
    obtain ⟨z, hz, rfl⟩ := List.mem_map.mp he
    have q := o1 k (p.mem_iff.mp hk)
    simp only [Bool.and_eq_true] at q
    exact List.all_eq_true.mp q.1.1 z (p.mem_iff.mp hz)
  unfold sortA
  rw [dats_S]
  dsimp only
  have c : (allAlike (l.map daS) && ((l.map daS).all fun d => PySem.W.alike d d) && tupsOk (l.map daS) && ((l.map daS).all fun d => Nat.ble d.depth 50)) = true := by
    simp only [Bool.and_eq_true]
    refine ⟨⟨⟨alike_S al, List.all_eq_true.mpr fun d hd => al d hd d hd⟩, tups_S fun k hk => ?_⟩, List.all_eq_true.mpr fun d hd => ?_⟩
    · have q := o1 k (p.mem_iff.mp hk)
      simp only [Bool.and_eq_true, Bool.not_eq_true'] at q
      exact q.1.2
    · obtain ⟨k, hk, rfl⟩ := List.mem_map.mp hd
      have q := o1 k (p.mem_iff.mp hk)
      simp only [Bool.and_eq_true] at q
      exact q.2
  rw [c]
  dsimp only
  rw [zip_S, sortP_same (p.map prS) o2]
end Ev
set_option Elab.async false
set_option linter.all false
set_option maxRecDepth 100000
set_option maxHeartbeats 4000000
namespace Ev
open PySem PySem.Spec PyProof.Rows L2
section
variable {X : Cx} {ca : Ca} {E : XK} {lv : Nat} {a : Expr} {ma : ME} {pos p p2 q : Pos}
theorem den_strs {K : PySem.W.Frag} {μ : Mu} {H : Hp} : ∀ {k : List Str} {vs : List V}, DenL K μ H (k.map .str) vs → vs = k.map V.str
  | [], _, .nil => rfl
  | x :: k, _, .cons d r => by cases d; rw [den_strs r]; rfl
theorem items_S {P : Program} {w : World} : ∀ {k : List Str} {us : List Value}, Vals (k.map V.str) us → ItemsAre (strKind P w) k us
  | [], _, .nil => .nil
  | z :: k, _, .cons r t => by
    obtain ⟨tk, rfl⟩ := r
    exact .cons (strKind_is P w z tk) (items_S t)
theorem tupS_of {pins : List (Addr × Obj)} {σ : L2.St} {H : Hp} {s : Shared} {μ : Mu} {k : List Str} {b : Addr} (I : Inv X pins σ H s) (d : Den X.K μ H (avS k) (.ref b)) : TupS X.prog X.w s.heap k b := by
  cases d with
  | tup sq dl =>
    rw [den_strs dl] at sq
    obtain ⟨its, r, ⟨o, ho, hc, n, hd⟩, _⟩ := I.tuple sq
    exact ⟨o, its.toArray, n, ho, hc, hd, by simpa using items_S r⟩
theorem refs_S {K : PySem.W.Frag} {μ : Mu} {H : Hp} : ∀ {xs : List AV} {vs : List V} {ks : List (List Str)}, DenL K μ H xs vs → keysS xs = some ks → ∃ ps : List (Addr × List Str), vs = ps.map (fun p => V.ref p.1) ∧ ps.map (·.2) = ks ∧ ∀ p ∈ ps, Den K μ H (avS p.2) (.ref p.1)
  | _, _, ks, .nil, e => by cases e; exact ⟨[], rfl, rfl, fun p hp => by cases hp⟩
  | _, _, ks, @DenL.cons _ _ _ x v xs vs d r, e => by
    have e' : (match keyS x with | some k => (keysS xs).map (k :: ·) | none => none) = some ks := e
    cases q : keyS x with
    | none => rw [q] at e'; cases e'
    | some k =>
      rw [q] at e'
      dsimp only at e'
      cases q2 : keysS xs with
      | none => rw [q2] at e'; cases e'
      | some k2 =>
        rw [q2] at e'; cases e'
        obtain ⟨ps, h1, h2, h3⟩ := refs_S r q2
        have ex := keyS_is q
        subst ex
        obtain ⟨b, rfl⟩ : ∃ b, v = .ref b := by cases d; exact ⟨_, rfl⟩
        refine ⟨(b, k) :: ps, by rw [h1]; rfl, by rw [List.map_cons, h2], fun p hp => ?_⟩
        rcases List.mem_cons.mp hp with z | z
        · subst z; exact d
        · exact h3 p z
/-- the set at S, without the tuples -/
def SetHO (P : Program) (w : World) (S : Addr) (L : List (Addr × List Str)) : HO := .ext fun h => ∃ es ep t, (∃ o, h.get? S = some o ∧ o.ExactSet ∧ o.data = .set es ep t) ∧ es.toList = rowsS P w L ∧ TabOk t (L.map fun p => hT P w p.2) ∧ (L.map (·.2)).Nodup ∧ (w.params.followText "set-order" = true ∨ t.led = true) ∧ L.length * 5 < t.mask * 3 ∧ L.length < 64
theorem setHO_ok {P : Program} {w : World} {H : Hp} {h : Heap} {S : Addr} {L : List (Addr × List Str)} {es : Array (Int × Value)} {ep : Nat} {t : SetTable} (R : SetS P w h S L es ep t) : ObjOk P w H h S (SetHO P w S L) := by
  obtain ⟨o, ho, r⟩ := R.at_
  exact ⟨⟨es, ep, t, R.at_, R.rows, R.tab, R.nd, R.led, R.room, R.few⟩, ⟨o, ho⟩, fun g1 g2 ⟨es, ep, t, ⟨o, e, r⟩, z⟩ k => ⟨es, ep, t, ⟨o, k o e, r⟩, z⟩⟩
theorem refs_vals : ∀ {ps : List (Addr × List Str)} {us : List Value}, Vals (ps.map fun p => V.ref p.1) us → us = ps.map fun p => Value.ref p.1
  | [], _, .nil => rfl
  | p :: ps, _, .cons r t => by cases r; rw [refs_vals t]; rfl
theorem vals_refs : ∀ ps : List (Addr × List Str), Vals (ps.map fun p => V.ref p.1) (ps.map fun p => Value.ref p.1)
  | [] => .nil
  | p :: ps => .cons rfl (vals_refs ps)
def rSetS (X : Cx) (μ : Mu) : List V → Hp → VK → Prop := fun xs H Q => ∃ (l : Addr) (ps : List (Addr × List Str)), xs = [.ref l] ∧ (SqL X.K H l (ps.map fun p => V.ref p.1) ∨ SqT X.K H l (ps.map fun p => V.ref p.1)) ∧ (∀ p ∈ ps, Den X.K μ H (avS p.2) (.ref p.1)) ∧ ps.length < 64 ∧
  ∀ S L, H S = none → (∀ p ∈ L, p ∈ ps) → (∀ p ∈ ps, p.2 ∈ L.map (·.2)) → (L.map (·.2)).Nodup → Q (.ref S) (upd H S (SetHO X.prog X.w S L))
theorem cr_setS (hc : X.calm = true) (hu : X.A.units + 64 < cLine) : CallR X (.type "set") (fun xs H Q => ∃ μ, rSetS X μ xs H Q) := by
  intro pins s σ H xs us Q I r ⟨μ, l, ps, ex, hl, hd, few, q⟩
  subst ex
  obtain ⟨u, rfl, ru⟩ := r.one
  cases ru
  have hn : H s.heap.objs.size = none := I.hok.fresh (Nat.le_refl _)
  rcases hl with hl | hl
  · obtain ⟨its, rv, pl, hz⟩ := I.list hl
    refine call_setS (P := X.prog) (w := X.w) ps (I.ok.hd hc) pl.isList (by simpa using refs_vals rv) (fun p hp => tupS_of I (hd p hp)) few (by omega) fun h' tk L es ep t R g k => ?_
    exact ⟨.ref s.heap.objs.size, _, I.laid (t' := tk) k (Nat.le_refl _) (setHO_ok R), rfl, q _ L hn (fun p hp => List.mem_of_mem_take (g.of p hp)) (fun p hp => g.all p (by rw [List.take_length]; exact hp)) R.nd⟩
  · obtain ⟨its, rv, ⟨o, ho, hcl, n, hdt⟩, _⟩ := I.tuple hl
    refine call_setST (P := X.prog) (w := X.w) ps (I.ok.hd hc) (its := its.toArray) ⟨o, ho, hcl, n, hdt⟩ (by simpa using refs_vals rv) (fun p hp => tupS_of I (hd p hp)) few (by omega) fun h' tk L es ep t R g k => ?_
    exact ⟨.ref s.heap.objs.size, _, I.laid (t' := tk) k (Nat.le_refl _) (setHO_ok R), rfl, q _ L hn (fun p hp => List.mem_of_mem_take (g.of p hp)) (fun p hp => g.all p (by rw [List.take_length]; exact hp)) R.nd⟩
def rSortS (X : Cx) (μ : Mu) : List V → Hp → VK → Prop := fun xs H Q => ∃ (S : Addr) (L : List (Addr × List Str)) (D : List (List Str)), xs = [.ref S] ∧ H S = some (SetHO X.prog X.w S L) ∧ (∀ p ∈ L, Den X.K μ H (avS p.2) (.ref p.1)) ∧ (L.map (·.2)).Perm D ∧ okS D = true ∧
  ∀ zs p, DenL X.K μ H ((sortP (D.map prS)).map (·.1)) zs → zs.length ≤ sizeLine → H p = none → Q (.ref p) (upd H p (.lst zs))
theorem den_S {K : PySem.W.Frag} {μ : Mu} {H : Hp} : ∀ {L : List (Addr × List Str)}, (∀ p ∈ L, Den K μ H (avS p.2) (.ref p.1)) → DenL K μ H ((L.map (·.2)).map avS) (L.map fun p => V.ref p.1)
  | [], _ => .nil
  | p :: L, h => .cons (h p List.mem_cons_self) (den_S fun z hz => h z (List.mem_cons_of_mem _ hz))
theorem perm_back {α β : Type} {f : α → β} {l m : List β} (p : l.Perm m) : ∀ L : List α, m = L.map f → ∃ L1 : List α, l = L1.map f ∧ L1.Perm L := by
  induction p with
  | nil => intro L e; cases L with
    | nil => exact ⟨[], rfl, .nil⟩
    | cons a L => cases e
  | cons x p ih => intro L e; cases L with
    | nil => cases e
    | cons a L =>
      cases e
      obtain ⟨L1, h1, h2⟩ := ih L rfl
      exact ⟨a :: L1, by rw [h1]; rfl, h2.cons a⟩
  | swap x y l => intro L e; cases L with
    | nil => cases e
    | cons a L => cases L with
      | nil => cases e
      | cons b L =>
        cases e
        exact ⟨b :: a :: L, rfl, .swap ..⟩
  | trans p1 p2 ih1 ih2 =>
    intro L e
    obtain ⟨L2, a1, a2⟩ := ih2 L e
    obtain ⟨L1, b1, b2⟩ := ih1 L2 a1
    exact ⟨L1, b1, b2.trans a2⟩
theorem cr_sortS (hc : X.calm = true) (hu : X.A.units + 75 < cLine) : CallR X (.builtin "sorted") (fun xs H Q => ∃ μ, rSortS X μ xs H Q) := by
  intro pins s σ H xs us Q I r ⟨μ, S, L, D, ex, hS, hd, pm, ok, q⟩
  subst ex
  obtain ⟨u, rfl, ru⟩ := r.one
  cases ru
  obtain ⟨⟨es, ep, t, ⟨o, ho, hex, hdt⟩, rows, tab, nd, led, room, few⟩, _, _⟩ := I.hok S _ hS
  have R : SetS X.prog X.w s.heap S L es ep t := ⟨⟨o, ho, hex, hdt⟩, rows, tab, nd, fun p hp => tupS_of I (hd p hp), led, room, few⟩
  have sz := rows_len rows
  refine Calls.call_function_entry PyProof.Rows.kind_sorted PyProof.Rows.plain_sorted PyProof.Rows.entry_sorted (PyProof.Rows.args_sorted1 _) ?_
  unfold Builtin.«sorted»
  refine wpAny_bind (m := checkCount "sorted" 1 1 _) (wpAny_pure ?_)
  refine wpAny_bind (collect_set (A := X.A.in1) (I.ok.hd hc) ⟨o, ho, hex.1, hdt⟩ R.fits (by unfold scanBound; omega) R.tab.ris R.led fun s1 vs k1 hz g1 o1 pv => ?_)
  have er : es.toList.map (·.2) = L.map fun p => Value.ref p.1 := by rw [rows, rowsS, List.map_map]; rfl
  rw [er] at pv
  have one : ∀ y ∈ L, ∀ z ∈ L, y.1 = z.1 → y = z := fun y hy z hz e => by
    have b1 := R.tups y hy
    rw [e] at b1
    exact Prod.ext e (b1.inj (R.tups z hz))
  obtain ⟨L1, e1, p1⟩ : ∃ L1 : List (Addr × List Str), vs = L1.map (fun p => Value.ref p.1) ∧ L1.Perm L := perm_back pv L rfl
  subst e1
  obtain ⟨h1, gn, dr, tk, os⟩ := s1
  cases g1
  cases o1
  have I1 : Inv X pins σ H { s with heap := h1, drawn := dr, toks := tk } := I.call (ch := []) (Un.kept k1) (I.hok.kept k1) I.bare (fun _ z => nomatch z)
  have pk : (L1.map (·.2)).Perm D := (p1.map (·.2)).trans pm
  exact sorted_tail (A := X.A.in1) (by show X.A.units + 1 + 70 < cLine; omega) I1 (den_S fun p hp => hd p (p1.mem_iff.mp hp)) (vals_refs L1) (sortA_S pk ok) (by rw [List.length_map, List.length_map, p1.length_eq, sizeLine_eq]; omega) q
theorem perm_of {α : Type} [DecidableEq α] {l m : List α} (h1 : l.Nodup) (h2 : m.Nodup) (h : ∀ x, x ∈ l ↔ x ∈ m) : l.Perm m := by
  rw [List.perm_iff_count]
  intro x
  rw [h1.count, h2.count]
  by_cases e : x ∈ l
  · rw [if_pos e, if_pos ((h x).mp e)]
  · rw [if_neg e, if_neg (fun z => e ((h x).mpr z))]
theorem gSset (c : CF X E lv) (hm : X.mg "sorted" = none) (hm2 : X.mg "set" = none) (ha : SimE X (wd X ca E) a ma) (hg : Gl X "sorted" := by rfl) (hg2 : Gl X "set" := by rfl) (hs : notStar a = true := by rfl) :
    SimE X (wd X ca E) (.Call (.Name "sorted" p) [.Call (.Name "set" p2) [a] [] q] [] pos) (mB1 (g1 ssetA) ma) :=
  PE.weaken (pe_callB (cr_sortS c.calm (by have := c.room.un; omega)) hg hm bt_sorted (pa_cons (pe_callTy (cr_setS c.calm (by have := c.room.un; omega)) hg2 hm2 (by rfl) (pa_cons ha pa_nil (star_one hs)) (by decide) (by decide) (star_one hs) rfl) pa_nil rfl) (by decide) (by decide) rfl rfl) fun σ H Q ⟨ro, μ, l, h, A, p⟩ => ⟨ro, μ, l, h, A, (bindP (dV _) A p).imp fun x H1 ⟨μ1, v, h1, A1, d1, st1, p1⟩ => by
    have R1 := A1.R
    have core : ∀ (ys : List AV) (b : Addr) (vs : List V), (SqL X.K H1 b vs ∨ SqT X.K H1 b vs) → DenL X.K μ1 H1 ys vs → post (wd X ca E) ro μ1 H1 (ssetL ys h1) Q → rSetS X μ1 [.ref b] H1 (fun z H2 => ∃ μ, rSortS X μ [z] H2 Q) := fun ys b vs hv dl p2 => by
      unfold ssetL at p2
      cases e : keysS ys with
      | none => rw [e] at p2; exact False.elim p2
      | some ks =>
        rw [e] at p2
        dsimp only at p2
        cases eb : Nat.blt ks.length 64 && okS (dedupS [] ks) with
        | false => rw [eb] at p2; exact False.elim p2
        | true =>
          rw [eb] at p2
          dsimp only at p2
          obtain ⟨e1, e2⟩ := Bool.and_eq_true_iff.mp eb
          obtain ⟨ps, ev, ek, hd⟩ := refs_S dl e
          refine ⟨b, ps, rfl, by rw [← ev]; exact hv, hd, by have := blt_tt.mp e1; rw [← ek, List.length_map] at this; exact this, fun S L hS m1 m2 nd => ⟨μ1, S, L, dedupS [] ks, rfl, upd_same, fun z hz => R1.den (Step.laid hS) (hd z (m1 z hz)), ?_, e2, fun zs y dz hz hy => ?_⟩⟩
          · refine perm_of nd dedup_nodup fun k => ?_
            rw [dedup_mem]
            constructor
            · intro hk
              obtain ⟨z, hz, rfl⟩ := List.mem_map.mp hk
              exact ⟨by rw [← ek]; exact List.mem_map_of_mem (m1 z hz), by simp⟩
            · rintro ⟨hk, _⟩
              rw [← ek] at hk
              obtain ⟨z, hz, rfl⟩ := List.mem_map.mp hk
              exact m2 z hz
          · have R2 := R1.laid (u := SetHO X.prog X.w S L) hS
            obtain ⟨_, q2⟩ := postG.alloc R2 (p2.later (Step.laid hS))
            exact q2 y _ hy ⟨by rw [dz.length]; exact hz, zs, upd_same, R2.denL (Step.laid hy) dz⟩
    have p2 : post (wd X ca E) ro μ1 H1 (ssetA v h1) Q := p1
    unfold ssetA at p2
    cases d1 with
    | @obj n b hn =>
      dsimp only at p2
      obtain ⟨o, ho, r1⟩ := R1.there hn
      rw [ho] at p2
      cases o with
      | lst ys =>
        obtain ⟨hz, vs, hv, dl⟩ := r1
        exact ⟨μ1, core ys b vs (.inl (SqL.of hv)) dl p2⟩
      | _ => exact False.elim p2
    | @tup b vs ys sq dl => exact ⟨μ1, core ys b vs (.inr sq) dl p2⟩
    | _ => exact False.elim p2⟩
end
end Ev
set_option Elab.async false
set_option linter.all false
set_option maxRecDepth 100000
set_option maxHeartbeats 4000000
/-! a def that gets data and gives data may be run on a heap of its own -/
namespace Ev
open PySem PySem.Spec PyProof.Rows L2
def hE : AH := ⟨.nil, 0, 0⟩
def pureF (F : Fn) : Fn := fun args h => match AV.clns 0 args with
  | true => (match F args hE with
    | .ok v _ => (match AV.cln 0 v with
      | true => .ok v h
      | false => .bad)
    | _ => .bad)
  | false => .bad
/-- all slots hold data -/
def slotsC : List (Option AV) → Bool
  | [] => true
  | some v :: r => AV.cln 0 v && slotsC r
  | none :: r => slotsC r
def hI (c : Nat) (fs : List (Option AV)) : AH := ⟨Tr.put 24 .nil 0 (.ins c fs), 1, 1⟩
/-- the first is an instance that holds data -/
def pureI (F : Fn) : Fn := fun args h => match args with
  | .obj n :: rest => (match h.get n with
    | some (.ins c fs) => (match AV.clns 0 rest && slotsC fs with
      | true => (match F (.obj 0 :: rest) (hI c fs) with
        | .ok v _ => (match AV.cln 0 v with
          | true => .ok v h
          | false => .bad)
        | _ => .bad)
      | false => .bad)
    | _ => .bad)
  | _ => .bad
section
variable {W : Wd} {ro : Nat} {μ : Mu} {h : AH} {H H' : Hp}
theorem RelO.notbl {P : Program} {w : World} {K : PySem.W.Frag} {ca : Ca} {rw : Bool} {a : Addr} {o : AO} (r : RelO P w K ca rw μ H a o) : ∀ u, H a = some u → ∀ ps, u ≠ .tbl ps := by
  intro u hu ps e
  subst e
  cases o with
  | lst xs => obtain ⟨_, vs, e, _⟩ := r; rw [hu] at e; cases e
  | fz ns => obtain ⟨o, e⟩ := r; rw [hu] at e; cases e
  | dct kvs =>
    obtain ⟨_, _, xs, e | ⟨_, o, e⟩, _⟩ := r
    · rw [hu] at e; cases e
    · rw [hu] at e; cases e
  | ins c fs => obtain ⟨dx, vs, e, _⟩ := r; rw [hu] at e; cases e
theorem Step.kept (k : ∀ b o, (∀ ps, o ≠ .tbl ps) → H b = some o → H' b = some o) (kp : ∀ b o, H b = some o → ∃ o', H' b = some o') : Step ro μ H μ H' := ⟨fun _ _ e => e, fun _ _ e => .inl e, fun b o _ n e => k b o n e, kp⟩
theorem RelH.still (R : RelH W ro μ h H) (k : ∀ b o, (∀ ps, o ≠ .tbl ps) → H b = some o → H' b = some o) (kp : ∀ b o, H b = some o → ∃ o', H' b = some o') (t : LamX.Tabs W.ca.T H') : RelH W ro μ h H' where
  lim := R.lim
  rol := R.rol
  roe := R.roe
  inj := R.inj
  obj := fun n o e => by
    obtain ⟨a, e1, r⟩ := R.obj n o e
    exact ⟨a, e1, r.keep (fun x v d => R.den (Step.kept k kp) d) (fun v q => k a v (r.notbl v q) q) fun b q => k b _ (fun ps z => by cases z) q⟩
  back := R.back
  full := R.full
  tabs := t
theorem relE (t : LamX.Tabs W.ca.T H) : RelH W 0 (fun _ => none) hE H where
  lim := Nat.zero_le _
  rol := Nat.le_refl _
  roe := rfl
  inj := fun n m a e => by cases e
  obj := fun n o e => by cases e
  back := fun n a e => by cases e
  full := fun n e => absurd e (Nat.not_lt_zero _)
  tabs := t
theorem pureF_sp {F : Fn} {vs : List V} {Q : VK} {E : XK} (s : spF W (pureF F) vs H Q E) : spF W F vs H Q E := by
  obtain ⟨ro, μ, h, args, R, d, p⟩ := s
  unfold pureF at p
  cases c : AV.clns 0 args with
  | false => rw [c] at p; exact False.elim p
  | true =>
    rw [c] at p
    dsimp only at p
    refine ⟨0, fun _ => none, hE, args, relE R.tabs, d.clean (fun k a z => absurd z (Nat.not_lt_zero _)) c, ?_⟩
    cases e : F args hE with
    | bad => rw [e] at p; exact False.elim p
    | ex x h1 => rw [e] at p; exact False.elim p
    | ok v h1 =>
      rw [e] at p
      dsimp only at p
      cases cv : AV.cln 0 v with
      | false => rw [cv] at p; exact False.elim p
      | true =>
        rw [cv] at p
        intro μ' u H' st R' dv
        have k : ∀ b o, (∀ ps, o ≠ .tbl ps) → H b = some o → H' b = some o := fun b o n e => st.frm b o (fun _ _ z => by cases z) n e
        have R2 : RelH (W.to E) ro μ h H' := (R.to E).still k st.kep R'.tabs
        exact p μ u H' (Step.kept k st.kep) R2 (Den.clean (n := 0) (fun k a z => absurd z (Nat.not_lt_zero _)) dv cv)
theorem FnW.pure {P : Program} {w : World} {K : PySem.W.Frag} {mg : Str → Option Value} {base : Heap} {ca : Ca} {lv : Nat} {F : Fn} {f : Addr} (h : FnW P w K mg base ca lv F f) : FnW P w K mg base ca lv (pureF F) f := FnR.imp h fun _ _ _ _ s => pureF_sp s
theorem slots_at : ∀ {fs : List (Option AV)} {i : Nat} {v : AV}, slotsC fs = true → fs[i]? = some (some v) → AV.cln 0 v = true
  | [], i, v, _, e => by simp at e
  | none :: r, 0, v, _, e => by simp at e
  | some x :: r, 0, v, c, e => by
    simp at e; subst e
    exact (Bool.and_eq_true_iff.mp (show (AV.cln 0 x && slotsC r) = true from c)).1
  | none :: r, i + 1, v, c, e => slots_at (fs := r) (i := i) c (by simpa using e)
  | some x :: r, i + 1, v, c, e => slots_at (fs := r) (i := i) (Bool.and_eq_true_iff.mp (show (AV.cln 0 x && slotsC r) = true from c)).2 (by simpa using e)
def muI (a : Addr) : Mu := fun n => if n = 0 then some a else none
theorem muI_at {a b : Addr} {n : Nat} (h : muI a n = some b) : n = 0 ∧ b = a := by
  unfold muI at h
  by_cases e : n = 0
  · rw [if_pos e] at h; exact ⟨e, (Option.some.inj h).symm⟩
  · rw [if_neg e] at h; cases h
theorem hI_get (c : Nat) (fs : List (Option AV)) : (hI c fs).get 0 = some (.ins c fs) := rfl
theorem relI {a : Addr} {c : Nat} {fs : List (Option AV)} {rw : Bool} (t : LamX.Tabs W.ca.T H) (r : RelO W.P W.w W.K W.ca rw μ H a (.ins c fs)) (s : slotsC fs = true) : RelH W 1 (muI a) (hI c fs) H where
  lim := by show 1 ≤ top; decide
  rol := Nat.le_refl _
  roe := rfl
  inj := fun n m b h1 h2 => by rw [(muI_at h1).1, (muI_at h2).1]
  obj := fun n x e => by
    have hn : n < 1 := AH.get_lt e
    have en : n = 0 := by omega
    subst en
    rw [hI_get] at e; cases e
    obtain ⟨dx, vs, h1, h2, h3⟩ := r
    refine ⟨a, rfl, dx, vs, h1, h2, fun i v e => ?_⟩
    obtain ⟨u, q1, q2⟩ := h3 i v e
    exact ⟨u, q1, q2.clean (n := 0) (fun k a z => absurd z (Nat.not_lt_zero _)) (slots_at s e)⟩
  back := fun n b e => by
    obtain ⟨en, _⟩ := muI_at e
    subst en
    exact ⟨_, hI_get c fs⟩
  full := fun n e => by
    have e : n < 1 := e
    have en : n = 0 := by omega
    subst en
    exact ⟨_, hI_get c fs⟩
  tabs := t
theorem pureI_sp {F : Fn} {vs : List V} {Q : VK} {E : XK} (s : spF W (pureI F) vs H Q E) : spF W F vs H Q E := by
  obtain ⟨ro, μ, h, args, R, d, p⟩ := s
  unfold pureI at p
  cases d with
  | nil => exact False.elim p
  | @cons x v0 rest ws d0 dr =>
    cases d0 with
    | @obj n a hn =>
      dsimp only at p
      obtain ⟨o, ho, r1⟩ := R.there hn
      rw [ho] at p
      cases o with
      | ins c fs =>
        dsimp only at p
        cases cc : AV.clns 0 rest && slotsC fs with
        | false => rw [cc] at p; exact False.elim p
        | true =>
          rw [cc] at p
          dsimp only at p
          obtain ⟨c1, c2⟩ := Bool.and_eq_true_iff.mp cc
          refine ⟨1, muI a, hI c fs, .obj 0 :: rest, relI R.tabs r1 c2, .cons (.obj rfl) (dr.clean (fun k a z => absurd z (Nat.not_lt_zero _)) c1), ?_⟩
          cases e : F (.obj 0 :: rest) (hI c fs) with
          | bad => rw [e] at p; exact False.elim p
          | ex x h1 => rw [e] at p; exact False.elim p
          | ok v h1 =>
            rw [e] at p
            dsimp only at p
            cases cv : AV.cln 0 v with
            | false => rw [cv] at p; exact False.elim p
            | true =>
              rw [cv] at p
              intro μ' u H' st R' dv
              have k : ∀ b o, (∀ ps, o ≠ .tbl ps) → H b = some o → H' b = some o := fun b o n e => st.frm b o (fun m hm z => by have := (muI_at z).1; omega) n e
              have R2 : RelH (W.to E) ro μ h H' := (R.to E).still k st.kep R'.tabs
              exact p μ u H' (Step.kept k st.kep) R2 (Den.clean (n := 0) (fun k a z => absurd z (Nat.not_lt_zero _)) dv cv)
      | _ => exact False.elim p
    | _ => exact False.elim p
theorem FnW.pureI {P : Program} {w : World} {K : PySem.W.Frag} {mg : Str → Option Value} {base : Heap} {ca : Ca} {lv : Nat} {F : Fn} {f : Addr} (h : FnW P w K mg base ca lv F f) : FnW P w K mg base ca lv (pureI F) f := FnR.imp h fun _ _ _ _ s => pureI_sp s
/-! the first may be any object that holds data; the answer is data or a new list of data -/
def impO : AO → Bool
  | .lst xs => AV.clns 0 xs
  | .fz _ => true
  | .ins _ fs => slotsC fs
  | .dct _ => false
def hO (o : AO) : AH := ⟨Tr.put 24 .nil 0 o, 1, 1⟩
def outV (h : AH) (v : AV) : R AV := match AV.cln 0 v with
  | true => .ok v h
  | false => .bad
def outL (h h1 : AH) (n : Nat) : R AV := match Nat.ble h1.ro n with
  | true => (match h1.get n with
    | some (.lst xs) => (match AV.clns 0 xs with
      | true => alloc h (.lst xs)
      | false => .bad)
    | _ => .bad)
  | false => .bad
def outP (h : AH) (r : R AV) : R AV := match r with
  | .ok v h1 => (match v with
    | .obj n => outL h h1 n
    | v => outV h v)
  | _ => .bad
def pureX (F : Fn) : Fn := fun args h => match args with
  | .obj n :: rest => (match h.get n with
    | some o => (match AV.clns 0 rest && impO o with
      | true => outP h (F (.obj 0 :: rest) (hO o))
      | false => .bad)
    | none => .bad)
  | args => (match AV.clns 0 args with
    | true => outP h (F args hE)
    | false => .bad)
theorem hO_get (o : AO) : (hO o).get 0 = some o := rfl
theorem relO {a : Addr} {o : AO} {rw : Bool} (t : LamX.Tabs W.ca.T H) (r : RelO W.P W.w W.K W.ca rw μ H a o) (s : impO o = true) : RelH W 1 (muI a) (hO o) H where
  lim := by show 1 ≤ top; decide
  rol := Nat.le_refl _
  roe := rfl
  inj := fun n m b h1 h2 => by rw [(muI_at h1).1, (muI_at h2).1]
  obj := fun n x e => by
    have hn : n < 1 := AH.get_lt e
    have en : n = 0 := by omega
    subst en
    rw [hO_get] at e; cases e
    refine ⟨a, rfl, ?_⟩
    cases o with
    | lst xs =>
      obtain ⟨h1, vs, h2, h3⟩ := r
      exact ⟨h1, vs, h2, h3.clean (n := 0) (fun k a z => absurd z (Nat.not_lt_zero _)) s⟩
    | fz ns => exact r
    | dct kvs => cases s
    | ins c fs =>
      obtain ⟨dx, vs, h1, h2, h3⟩ := r
      refine ⟨dx, vs, h1, h2, fun i v e => ?_⟩
      obtain ⟨u, q1, q2⟩ := h3 i v e
      exact ⟨u, q1, q2.clean (n := 0) (fun k a z => absurd z (Nat.not_lt_zero _)) (slots_at s e)⟩
  back := fun n b e => by
    obtain ⟨en, _⟩ := muI_at e
    subst en
    exact ⟨_, hO_get o⟩
  full := fun n e => by
    have e : n < 1 := e
    have en : n = 0 := by omega
    subst en
    exact ⟨_, hO_get o⟩
  tabs := t
theorem out_post {ro1 : Nat} {μ1 : Mu} {r : R AV} {Q : VK} (R : RelH W ro μ h H) (hf : ∀ n, ro1 ≤ n → μ1 n = none) (p : post W ro μ H (outP h r) Q) : post W ro1 μ1 H r Q := by
  cases r with
  | bad => exact False.elim p
  | ex x h1 => exact False.elim p
  | ok v h1 =>
    intro μ' u H' st R' dv
    have k : ∀ b o, (∀ ps, o ≠ .tbl ps) → H b = some o → H' b = some o := fun b o n e => st.frm b o (fun m hm z => by rw [hf m hm] at z; cases z) n e
    have R2 : RelH W ro μ h H' := R.still k st.kep R'.tabs
    have pv : post W ro μ H (outV h v) Q → Q u H' := fun p => by
      unfold outV at p
      cases cv : AV.cln 0 v with
      | false => rw [cv] at p; exact False.elim p
      | true =>
        rw [cv] at p
        exact p μ u H' (Step.kept k st.kep) R2 (Den.clean (n := 0) (fun k a z => absurd z (Nat.not_lt_zero _)) dv cv)
    cases v with
    | obj n =>
      have p : post W ro μ H (outL h h1 n) Q := p
      unfold outL at p
      cases cn : Nat.ble h1.ro n with
      | false => rw [cn] at p; exact False.elim p
      | true =>
        rw [cn] at p
        dsimp only at p
        cases dv with
        | @obj _ b hb =>
          obtain ⟨o, ho, r1⟩ := R'.there hb
          rw [ho] at p
          cases o with
          | lst xs =>
            dsimp only at p
            cases cx : AV.clns 0 xs with
            | false => rw [cx] at p; exact False.elim p
            | true =>
              rw [cx] at p
              dsimp only at p
              unfold Ev.alloc at p
              cases e : Nat.blt h.n top with
              | false => rw [e] at p; exact False.elim p
              | true =>
                rw [e] at p
                have hn := blt_tt.mp e
                have rn : ro1 ≤ n := by rw [← R'.roe]; exact Nat.le_of_ble_eq_true cn
                have hH : H b = none := by
                  rcases st.new n b hb with z | z
                  · rw [hf n rn] at z; cases z
                  · exact z
                obtain ⟨z1, vs, z2, z3⟩ := r1
                refine p (muPut μ h.n b) (.ref b) H' ⟨fun m a e => ?_, fun m a e => ?_, fun b o _ n e => k b o n e, st.kep⟩ (R2.own hn (fun n => R.fresh hH n) ⟨z1, vs, z2, z3.clean (n := 0) (fun k a z => absurd z (Nat.not_lt_zero _)) cx⟩) (.obj ?_)
                · unfold muPut
                  have : m ≠ h.n := fun z => by rw [R.dom (Nat.le_of_eq z.symm)] at e; cases e
                  rw [if_neg this]; exact e
                · unfold muPut at e
                  by_cases z : m = h.n
                  · rw [if_pos z] at e; cases e; exact .inr hH
                  · rw [if_neg z] at e; exact .inl e
                · unfold muPut
                  rw [if_pos rfl]
          | _ => exact False.elim p
    | _ => exact pv p
theorem pureX_sp {F : Fn} {vs : List V} {Q : VK} {E : XK} (s : spF W (pureX F) vs H Q E) : spF W F vs H Q E := by
  obtain ⟨ro, μ, h, args, R, d, p⟩ := s
  have data : ∀ args : List AV, DenL W.K μ H args vs → postG (dV (W.to E)) (W.to E) ro μ H (match AV.clns 0 args with | true => outP h (F args hE) | false => .bad) Q → spF W F vs H Q E := fun args d p => by
    cases c : AV.clns 0 args with
    | false => rw [c] at p; exact False.elim p
    | true =>
      rw [c] at p
      exact ⟨0, fun _ => none, hE, args, relE R.tabs, d.clean (fun k a z => absurd z (Nat.not_lt_zero _)) c, out_post (R.to E) (fun _ _ => rfl) p⟩
  cases args with
  | nil => exact data [] d p
  | cons x rest =>
    cases x with
    | obj n =>
      have p : postG (dV (W.to E)) (W.to E) ro μ H (match h.get n with | some o => (match AV.clns 0 rest && impO o with | true => outP h (F (.obj 0 :: rest) (hO o)) | false => .bad) | none => .bad) Q := p
      cases d with
      | @cons _ v0 _ ws d0 dr =>
        cases d0 with
        | @obj _ a hn =>
          obtain ⟨o, ho, r1⟩ := R.there hn
          rw [ho] at p
          dsimp only at p
          cases cc : AV.clns 0 rest && impO o with
          | false => rw [cc] at p; exact False.elim p
          | true =>
            rw [cc] at p
            obtain ⟨c1, c2⟩ := Bool.and_eq_true_iff.mp cc
            exact ⟨1, muI a, hO o, .obj 0 :: rest, relO R.tabs r1 c2, .cons (.obj rfl) (dr.clean (fun k a z => absurd z (Nat.not_lt_zero _)) c1), out_post (R.to E) (fun m hm => by unfold muI; rw [if_neg (by omega)]) p⟩
    | _ => exact data _ d p
theorem FnW.pureX {P : Program} {w : World} {K : PySem.W.Frag} {mg : Str → Option Value} {base : Heap} {ca : Ca} {lv : Nat} {F : Fn} {f : Addr} (h : FnW P w K mg base ca lv F f) : FnW P w K mg base ca lv (pureX F) f := FnR.imp h fun _ _ _ _ s => pureX_sp s
end
end Ev
set_option Elab.async false
set_option linter.all false
set_option maxRecDepth 100000
set_option maxHeartbeats 4000000
/-! the walk: what each def computes, by the machine (printed by gen.py) -/
namespace Ev
open PySem PySem.Spec PyProof.Rows L2
def tops (i : Nat) : Stmt := PySem.Challenge.pw_shelfmove_k01_whole_views.main.body.getD i (.Pass ⟨0, 0, 0, 0⟩)
def inCls : Stmt → List Stmt
  | .ClassDef (body := b) .. => b
  | _ => []
def meths (i j : Nat) : Stmt := (inCls (tops i)).getD j (.Pass ⟨0, 0, 0, 0⟩)
def v_BOTH : AV := .str "both"
def v_CHANGE : AV := .str "mode"
def v_CONTENTS : AV := .tup [.tup [.str "fresh", .str "empty"], .tup [.str "fresh", .str "fresh"], .tup [.str "fresh", .str "stale"], .tup [.str "stale", .str "empty"], .tup [.str "stale", .str "fresh"], .tup [.str "stale", .str "stale"]]
def v_COPIERS : AV := .tup [.str "plain", .str "empty", .str "check"]
def v_COPY : AV := .tup [.str "copy"]
def v_EMPTY : AV := .str "empty"
def v_FRESH : AV := .str "fresh"
def v_MAX_PRICE : AV := .int 9
def v_MAX_SERVERS : AV := .int 3
def v_MODES : AV := .tup [.tup [.str "old", .str "old"], .tup [.str "old", .str "both"], .tup [.str "old", .str "new"], .tup [.str "new", .str "old"], .tup [.str "new", .str "both"], .tup [.str "new", .str "new"]]
def v_NEW : AV := .str "new"
def v_OLD : AV := .str "old"
def v_STALE : AV := .str "stale"
def cas (K : PySem.W.Frag) : Ca := ⟨fun n => match n with
  | 0 => He.ga K "House"
  | _ => 0, []⟩
abbrev FnP (K : PySem.W.Frag) (x q : Str) (st : Stmt) (f : Addr) : Prop := ∃ fd, FunD K x q (defArgs st) (defBody st) (defScope st) [] [] f fd
def OwnI (K : PySem.W.Frag) (ca : Ca) (c : Nat) (cs : List Nat) : Prop := (∀ t : Ty, PySem.W.kitOne K (.type t.name) (.ref (ca c)) = some false) ∧ ∀ c' ∈ cs, SlX.SCls K (ca c') ∧ SlX.SIsi K (ca c') ∧ PySem.W.kitOne K (.ref (ca c')) (.ref (ca c)) = some (Nat.beq c' c)
def facts : List Fc := [.free "abs",
  .free "all",
  .free "any",
  .free "bool",
  .free "enumerate",
  .free "int",
  .free "isinstance",
  .free "len",
  .free "list",
  .free "range",
  .free "set",
  .free "sorted",
  .free "str",
  .free "sum",
  .free "tuple",
  .free "zip",
  .tup "BOTH" v_BOTH,
  .tup "CHANGE" v_CHANGE,
  .tup "CONTENTS" v_CONTENTS,
  .tup "COPIERS" v_COPIERS,
  .tup "COPY" v_COPY,
  .tup "EMPTY" v_EMPTY,
  .tup "FRESH" v_FRESH,
  .tup "MAX_PRICE" v_MAX_PRICE,
  .tup "MAX_SERVERS" v_MAX_SERVERS,
  .tup "MODES" v_MODES,
  .tup "NEW" v_NEW,
  .tup "OLD" v_OLD,
  .tup "STALE" v_STALE,
  .glo "_law_draw",
  .keep "_law_draw",
  .glo "_law_cell_at",
  .keep "_law_cell_at",
  .glo "_law_digits",
  .keep "_law_digits",
  .glo "_law_pool",
  .keep "_law_pool",
  .glo "_law_all_modes",
  .keep "_law_all_modes",
  .glo "_law_take",
  .keep "_law_take",
  .glo "_law_mode",
  .keep "_law_mode",
  .glo "_law_net",
  .keep "_law_net",
  .glo "is_mode",
  .keep "is_mode",
  .glo "are_modes",
  .keep "are_modes",
  .glo "is_integer",
  .keep "is_integer",
  .glo "_law_all_contents",
  .keep "_law_all_contents",
  .glo "_law_write",
  .keep "_law_write",
  .glo "_law_more",
  .keep "_law_more",
  .glo "_law_grown",
  .keep "_law_grown",
  .glo "check_house",
  .keep "check_house",
  .glo "check_modes",
  .keep "check_modes",
  .glo "is_view",
  .keep "is_view",
  .glo "check_view",
  .keep "check_view",
  .glo "aged",
  .keep "aged",
  .glo "written",
  .keep "written",
  .glo "view_of",
  .keep "view_of",
  .glo "grown",
  .keep "grown",
  .glo "closed",
  .keep "closed",
  .glo "is_fine",
  .keep "is_fine",
  .glo "is_safe",
  .keep "is_safe",
  .glo "reads_fine",
  .keep "reads_fine",
  .glo "_law_fine",
  .keep "_law_fine",
  .glo "is_step",
  .keep "is_step",
  .glo "check_step",
  .keep "check_step",
  .glo "modes_after",
  .keep "modes_after",
  .glo "hands_from",
  .keep "hands_from",
  .glo "put_down",
  .keep "put_down",
  .glo "copied",
  .keep "copied",
  .glo "view_after",
  .keep "view_after",
  .glo "after",
  .keep "after",
  .glo "_law_told",
  .keep "_law_told",
  .glo "_law_put",
  .keep "_law_put",
  .glo "_law_copy",
  .keep "_law_copy",
  .glo "_law_next",
  .keep "_law_next",
  .glo "law",
  .keep "law",
  .glo "House",
  .scl "House",
  .slt "House" "copies" 0,
  .slt "House" "costs" 1,
  .slt "House" "first" 2,
  .prp "House" "modes",
  .prp "House" "copier",
  .prp "House" "prices",
  .meth "House" "__len__",
  .meth "House" "all_parts",
  .mk "House",
  .eqo "House",
  .isit "House",
  .isi "House" "House" true]
structure Fx (K : PySem.W.Frag) (mg : Str → Option Value) : Prop where
  d__law_draw : FnP K "_law_draw" "_law_draw" (tops 46) ((pG "_law_draw") K)
  d__law_cell_at : FnP K "_law_cell_at" "_law_cell_at" (tops 47) ((pG "_law_cell_at") K)
  d__law_digits : FnP K "_law_digits" "_law_digits" (tops 48) ((pG "_law_digits") K)
  d__law_pool : FnP K "_law_pool" "_law_pool" (tops 50) ((pG "_law_pool") K)
  d__law_all_modes : FnP K "_law_all_modes" "_law_all_modes" (tops 51) ((pG "_law_all_modes") K)
  d__law_take : FnP K "_law_take" "_law_take" (tops 49) ((pG "_law_take") K)
  d__law_mode : FnP K "_law_mode" "_law_mode" (tops 52) ((pG "_law_mode") K)
  d__law_net : FnP K "_law_net" "_law_net" (tops 53) ((pG "_law_net") K)
  d_is_mode : FnP K "is_mode" "is_mode" (tops 17) ((pG "is_mode") K)
  d_are_modes : FnP K "are_modes" "are_modes" (tops 18) ((pG "are_modes") K)
  d_is_integer : FnP K "is_integer" "is_integer" (tops 16) ((pG "is_integer") K)
  d_House___init__ : FnP K "__init__" "House.__init__" (meths 19 1) ((pM "House" "__init__") K)
  d_House_modes : FnP K "modes" "House.modes" (meths 19 5) ((pP "House" "modes") K)
  d_House_copier : FnP K "copier" "House.copier" (meths 19 6) ((pP "House" "copier") K)
  d_House_prices : FnP K "prices" "House.prices" (meths 19 7) ((pP "House" "prices") K)
  d_House___len__ : FnP K "__len__" "House.__len__" (meths 19 2) ((pM "House" "__len__") K)
  d_House_all_parts : FnP K "all_parts" "House.all_parts" (meths 19 4) ((pM "House" "all_parts") K)
  d_House___eq__ : FnP K "__eq__" "House.__eq__" (meths 19 3) ((pM "House" "__eq__") K)
  d__law_all_contents : FnP K "_law_all_contents" "_law_all_contents" (tops 54) ((pG "_law_all_contents") K)
  d__law_write : FnP K "_law_write" "_law_write" (tops 55) ((pG "_law_write") K)
  d__law_more : FnP K "_law_more" "_law_more" (tops 57) ((pG "_law_more") K)
  d__law_grown : FnP K "_law_grown" "_law_grown" (tops 56) ((pG "_law_grown") K)
  d_check_house : FnP K "check_house" "check_house" (tops 20) ((pG "check_house") K)
  d_check_modes : FnP K "check_modes" "check_modes" (tops 21) ((pG "check_modes") K)
  d_is_view : FnP K "is_view" "is_view" (tops 40) ((pG "is_view") K)
  d_check_view : FnP K "check_view" "check_view" (tops 41) ((pG "check_view") K)
  d_aged : FnP K "aged" "aged" (tops 30) ((pG "aged") K)
  d_written : FnP K "written" "written" (tops 31) ((pG "written") K)
  d_view_of : FnP K "view_of" "view_of" (tops 32) ((pG "view_of") K)
  d_grown : FnP K "grown" "grown" (tops 33) ((pG "grown") K)
  d_closed : FnP K "closed" "closed" (tops 42) ((pG "closed") K)
  d_is_fine : FnP K "is_fine" "is_fine" (tops 34) ((pG "is_fine") K)
  d_is_safe : FnP K "is_safe" "is_safe" (tops 35) ((pG "is_safe") K)
  d_reads_fine : FnP K "reads_fine" "reads_fine" (tops 43) ((pG "reads_fine") K)
  d__law_fine : FnP K "_law_fine" "_law_fine" (tops 62) ((pG "_law_fine") K)
  d_is_step : FnP K "is_step" "is_step" (tops 22) ((pG "is_step") K)
  d_check_step : FnP K "check_step" "check_step" (tops 23) ((pG "check_step") K)
  d_modes_after : FnP K "modes_after" "modes_after" (tops 24) ((pG "modes_after") K)
  d_hands_from : FnP K "hands_from" "hands_from" (tops 36) ((pG "hands_from") K)
  d_put_down : FnP K "put_down" "put_down" (tops 37) ((pG "put_down") K)
  d_copied : FnP K "copied" "copied" (tops 38) ((pG "copied") K)
  d_view_after : FnP K "view_after" "view_after" (tops 39) ((pG "view_after") K)
  d_after : FnP K "after" "after" (tops 44) ((pG "after") K)
  d__law_told : FnP K "_law_told" "_law_told" (tops 60) ((pG "_law_told") K)
  d__law_put : FnP K "_law_put" "_law_put" (tops 58) ((pG "_law_put") K)
  d__law_copy : FnP K "_law_copy" "_law_copy" (tops 59) ((pG "_law_copy") K)
  d__law_next : FnP K "_law_next" "_law_next" (tops 61) ((pG "_law_next") K)
  d_law : FnP K "law" "law" (tops 63) ((pG "law") K)
  b_abs : mg "abs" = none
  b_all : mg "all" = none
  b_any : mg "any" = none
  b_bool : mg "bool" = none
  b_enumerate : mg "enumerate" = none
  b_int : mg "int" = none
  b_isinstance : mg "isinstance" = none
  b_len : mg "len" = none
  b_list : mg "list" = none
  b_range : mg "range" = none
  b_set : mg "set" = none
  b_sorted : mg "sorted" = none
  b_str : mg "str" = none
  b_sum : mg "sum" = none
  b_tuple : mg "tuple" = none
  b_zip : mg "zip" = none
  v_BOTH : GlK K mg "BOTH" v_BOTH
  v_CHANGE : GlK K mg "CHANGE" v_CHANGE
  v_CONTENTS : GlK K mg "CONTENTS" v_CONTENTS
  v_COPIERS : GlK K mg "COPIERS" v_COPIERS
  v_COPY : GlK K mg "COPY" v_COPY
  v_EMPTY : GlK K mg "EMPTY" v_EMPTY
  v_FRESH : GlK K mg "FRESH" v_FRESH
  v_MAX_PRICE : GlK K mg "MAX_PRICE" v_MAX_PRICE
  v_MAX_SERVERS : GlK K mg "MAX_SERVERS" v_MAX_SERVERS
  v_MODES : GlK K mg "MODES" v_MODES
  v_NEW : GlK K mg "NEW" v_NEW
  v_OLD : GlK K mg "OLD" v_OLD
  v_STALE : GlK K mg "STALE" v_STALE
  g__law_draw : mg "_law_draw" = some (.ref (pG "_law_draw" K))
  h__law_draw : PySem.W.keepIn K (.ref (pG "_law_draw" K)) = true
  g__law_cell_at : mg "_law_cell_at" = some (.ref (pG "_law_cell_at" K))
  h__law_cell_at : PySem.W.keepIn K (.ref (pG "_law_cell_at" K)) = true
  g__law_digits : mg "_law_digits" = some (.ref (pG "_law_digits" K))
  h__law_digits : PySem.W.keepIn K (.ref (pG "_law_digits" K)) = true
  g__law_pool : mg "_law_pool" = some (.ref (pG "_law_pool" K))
  h__law_pool : PySem.W.keepIn K (.ref (pG "_law_pool" K)) = true
  g__law_all_modes : mg "_law_all_modes" = some (.ref (pG "_law_all_modes" K))
  h__law_all_modes : PySem.W.keepIn K (.ref (pG "_law_all_modes" K)) = true
  g__law_take : mg "_law_take" = some (.ref (pG "_law_take" K))
  h__law_take : PySem.W.keepIn K (.ref (pG "_law_take" K)) = true
  g__law_mode : mg "_law_mode" = some (.ref (pG "_law_mode" K))
  h__law_mode : PySem.W.keepIn K (.ref (pG "_law_mode" K)) = true
  g__law_net : mg "_law_net" = some (.ref (pG "_law_net" K))
  h__law_net : PySem.W.keepIn K (.ref (pG "_law_net" K)) = true
  g_is_mode : mg "is_mode" = some (.ref (pG "is_mode" K))
  h_is_mode : PySem.W.keepIn K (.ref (pG "is_mode" K)) = true
  g_are_modes : mg "are_modes" = some (.ref (pG "are_modes" K))
  h_are_modes : PySem.W.keepIn K (.ref (pG "are_modes" K)) = true
  g_is_integer : mg "is_integer" = some (.ref (pG "is_integer" K))
  h_is_integer : PySem.W.keepIn K (.ref (pG "is_integer" K)) = true
  g__law_all_contents : mg "_law_all_contents" = some (.ref (pG "_law_all_contents" K))
  h__law_all_contents : PySem.W.keepIn K (.ref (pG "_law_all_contents" K)) = true
  g__law_write : mg "_law_write" = some (.ref (pG "_law_write" K))
  h__law_write : PySem.W.keepIn K (.ref (pG "_law_write" K)) = true
  g__law_more : mg "_law_more" = some (.ref (pG "_law_more" K))
  h__law_more : PySem.W.keepIn K (.ref (pG "_law_more" K)) = true
  g__law_grown : mg "_law_grown" = some (.ref (pG "_law_grown" K))
  h__law_grown : PySem.W.keepIn K (.ref (pG "_law_grown" K)) = true
  g_check_house : mg "check_house" = some (.ref (pG "check_house" K))
  h_check_house : PySem.W.keepIn K (.ref (pG "check_house" K)) = true
  g_check_modes : mg "check_modes" = some (.ref (pG "check_modes" K))
  h_check_modes : PySem.W.keepIn K (.ref (pG "check_modes" K)) = true
  g_is_view : mg "is_view" = some (.ref (pG "is_view" K))
  h_is_view : PySem.W.keepIn K (.ref (pG "is_view" K)) = true
  g_check_view : mg "check_view" = some (.ref (pG "check_view" K))
  h_check_view : PySem.W.keepIn K (.ref (pG "check_view" K)) = true
  g_aged : mg "aged" = some (.ref (pG "aged" K))
  h_aged : PySem.W.keepIn K (.ref (pG "aged" K)) = true
  g_written : mg "written" = some (.ref (pG "written" K))
  h_written : PySem.W.keepIn K (.ref (pG "written" K)) = true
  g_view_of : mg "view_of" = some (.ref (pG "view_of" K))
  h_view_of : PySem.W.keepIn K (.ref (pG "view_of" K)) = true
  g_grown : mg "grown" = some (.ref (pG "grown" K))
  h_grown : PySem.W.keepIn K (.ref (pG "grown" K)) = true
  g_closed : mg "closed" = some (.ref (pG "closed" K))
  h_closed : PySem.W.keepIn K (.ref (pG "closed" K)) = true
  g_is_fine : mg "is_fine" = some (.ref (pG "is_fine" K))
  h_is_fine : PySem.W.keepIn K (.ref (pG "is_fine" K)) = true
  g_is_safe : mg "is_safe" = some (.ref (pG "is_safe" K))
  h_is_safe : PySem.W.keepIn K (.ref (pG "is_safe" K)) = true
  g_reads_fine : mg "reads_fine" = some (.ref (pG "reads_fine" K))
  h_reads_fine : PySem.W.keepIn K (.ref (pG "reads_fine" K)) = true
  g__law_fine : mg "_law_fine" = some (.ref (pG "_law_fine" K))
  h__law_fine : PySem.W.keepIn K (.ref (pG "_law_fine" K)) = true
  g_is_step : mg "is_step" = some (.ref (pG "is_step" K))
  h_is_step : PySem.W.keepIn K (.ref (pG "is_step" K)) = true
  g_check_step : mg "check_step" = some (.ref (pG "check_step" K))
  h_check_step : PySem.W.keepIn K (.ref (pG "check_step" K)) = true
  g_modes_after : mg "modes_after" = some (.ref (pG "modes_after" K))
  h_modes_after : PySem.W.keepIn K (.ref (pG "modes_after" K)) = true
  g_hands_from : mg "hands_from" = some (.ref (pG "hands_from" K))
  h_hands_from : PySem.W.keepIn K (.ref (pG "hands_from" K)) = true
  g_put_down : mg "put_down" = some (.ref (pG "put_down" K))
  h_put_down : PySem.W.keepIn K (.ref (pG "put_down" K)) = true
  g_copied : mg "copied" = some (.ref (pG "copied" K))
  h_copied : PySem.W.keepIn K (.ref (pG "copied" K)) = true
  g_view_after : mg "view_after" = some (.ref (pG "view_after" K))
  h_view_after : PySem.W.keepIn K (.ref (pG "view_after" K)) = true
  g_after : mg "after" = some (.ref (pG "after" K))
  h_after : PySem.W.keepIn K (.ref (pG "after" K)) = true
  g__law_told : mg "_law_told" = some (.ref (pG "_law_told" K))
  h__law_told : PySem.W.keepIn K (.ref (pG "_law_told" K)) = true
  g__law_put : mg "_law_put" = some (.ref (pG "_law_put" K))
  h__law_put : PySem.W.keepIn K (.ref (pG "_law_put" K)) = true
  g__law_copy : mg "_law_copy" = some (.ref (pG "_law_copy" K))
  h__law_copy : PySem.W.keepIn K (.ref (pG "_law_copy" K)) = true
  g__law_next : mg "_law_next" = some (.ref (pG "_law_next" K))
  h__law_next : PySem.W.keepIn K (.ref (pG "_law_next" K)) = true
  g_law : mg "law" = some (.ref (pG "law" K))
  h_law : PySem.W.keepIn K (.ref (pG "law" K)) = true
  g_House : mg "House" = some (.ref ((cas K) 0))
  s_House : SlX.SCls K ((cas K) 0)
  t_House_copies : SlX.Slot1 K ((cas K) 0) "copies" (pM "House" "copies" K) 0
  t_House_costs : SlX.Slot1 K ((cas K) 0) "costs" (pM "House" "costs" K) 1
  t_House_first : SlX.Slot1 K ((cas K) 0) "first" (pM "House" "first" K) 2
  p_House_modes : PySem.W.findIn K (.ref ((cas K) 0)) "modes" = some (some (.ref (pM "House" "modes" K))) ∧ PySem.W.specialIn K (.ref (pM "House" "modes" K)) "__get__" = some (some (.builtin "property.__get__")) ∧ PySem.W.takesIn K (.ref (pM "House" "modes" K)) = some true ∧ ∃ rest, PySem.W.recIn K (pM "House" "modes" K) "property" = some (.ref (pP "House" "modes" K) :: rest)
  p_House_copier : PySem.W.findIn K (.ref ((cas K) 0)) "copier" = some (some (.ref (pM "House" "copier" K))) ∧ PySem.W.specialIn K (.ref (pM "House" "copier" K)) "__get__" = some (some (.builtin "property.__get__")) ∧ PySem.W.takesIn K (.ref (pM "House" "copier" K)) = some true ∧ ∃ rest, PySem.W.recIn K (pM "House" "copier" K) "property" = some (.ref (pP "House" "copier" K) :: rest)
  p_House_prices : PySem.W.findIn K (.ref ((cas K) 0)) "prices" = some (some (.ref (pM "House" "prices" K))) ∧ PySem.W.specialIn K (.ref (pM "House" "prices" K)) "__get__" = some (some (.builtin "property.__get__")) ∧ PySem.W.takesIn K (.ref (pM "House" "prices" K)) = some true ∧ ∃ rest, PySem.W.recIn K (pM "House" "prices" K) "property" = some (.ref (pP "House" "prices" K) :: rest)
  m_House___len__ : Meth K ((cas K) 0) "__len__" (pM "House" "__len__" K)
  m_House_all_parts : Meth K ((cas K) 0) "all_parts" (pM "House" "all_parts" K)
  k_House : Mk K ((cas K) 0) (pM "House" "__init__" K)
  e_House : PySem.W.subIn K (.ref ((cas K) 0)) (.type "object") = some true ∧ PySem.W.findIn K (.ref ((cas K) 0)) "__ne__" = some (some (.builtin "object.__ne__")) ∧ PySem.W.findIn K (.ref ((cas K) 0)) "__eq__" = some (some (.ref (pM "House" "__eq__" K))) ∧ PySem.W.isFn K (.ref (pM "House" "__eq__" K)) = true
  i_House : OwnI K (cas K) 0 [0]
/-! _law_draw -/
def n__law_draw : List Str := ["_law_cell", "_law_k", "_law_many", "_law_primes"]
theorem sc__law_draw : FnScope n__law_draw ["_law_cell", "_law_k", "_law_many"] (defScope (tops 46)) := fnScopeBy (by decide +kernel)
def m__law_draw : MS := (mSeq (mSet 3 (mTup (aC (mC (.int 1000003)) (aC (mC (.int 1000033)) (aC (mC (.int 1000037)) (aC (mC (.int 1000039)) (aC (mC (.int 1000081)) (aC (mC (.int 1000099)) (aC (mC (.int 1000117)) (aC (mC (.int 1000121)) (aC (mC (.int 1000133)) (aC (mC (.int 1000151)) (aC (mC (.int 1000159)) (aC (mC (.int 1000171)) (aC (mC (.int 1000183)) (aC (mC (.int 1000187)) (aC (mC (.int 1000193)) (aC (mC (.int 1000199)) a0))))))))))))))))))
  (mRet (mBin .Mod (mBin .Mod (mB1 (biA .int) (mBin .Add (mBin .Mult (mV 0) (mC (.int 48271))) (mBin .Mult (mV 1) (mC (.int 69621))))) (mSub (mV 3) (mBin .Mod (mV 1) (mC (.int 16))))) (mV 2))))
def f__law_draw : Fn := fnM 3 4 m__law_draw
theorem b__law_draw {P : Program} {w : World} {K : PySem.W.Frag} {mg : Str → Option Value} {base : Heap} (c : Fx K mg) (cdv : Value) (A : Around) (outer : List Env) (s : Shared) (H : Hp) (E : XK) (hr : Room 0 (A.deeper (envOfC "_law_draw" (defScope (tops 46)) s.heap.objs.size ((pG "_law_draw") K) cdv))) :
    SimSs (cxOf (L2.CX P w) P w K mg base n__law_draw "_law_draw" (defScope (tops 46)) ((pG "_law_draw") K) cdv A outer s H E) ⟨P, w, K, cas K, E⟩ (defBody (tops 46)) m__law_draw := by
  have c1 : CF (cxOf (L2.CX P w) P w K mg base n__law_draw "_law_draw" (defScope (tops 46)) ((pG "_law_draw") K) cdv A outer s H E) E 0 := ⟨rfl, hr, takes_of rfl rfl rfl rfl, sc__law_draw.nd⟩
  have po : PassesOwn (model P w) (cxOf (L2.CX P w) P w K mg base n__law_draw "_law_draw" (defScope (tops 46)) ((pG "_law_draw") K) cdv A outer s H E).A (cxOf (L2.CX P w) P w K mg base n__law_draw "_law_draw" (defScope (tops 46)) ((pG "_law_draw") K) cdv A outer s H E).env (cxOf (L2.CX P w) P w K mg base n__law_draw "_law_draw" (defScope (tops 46)) ((pG "_law_draw") K) cdv A outer s H E).xe := passes_of rfl
  exact (sims_cons (xSet c1 3 (gTup (gA gI (gA gI (gA gI (gA gI (gA gI (gA gI (gA gI (gA gI (gA gI (gA gI (gA gI (gA gI (gA gI (gA gI (gA gI (gA gI g0))))))))))))))))))
  (sims_one (sims_ret (gBin (gBin (gInt c.b_int (gBin (gBin (gV 0) gI) (gBin (gV 1) gI))) (gSub c1 (gV 3) (gBin (gV 1) gI))) (gV 2)))))
theorem k__law_draw {P : Program} {w : World} {K : PySem.W.Frag} {mg : Str → Option Value} {base : Heap} (c : Fx K mg) : FnW P w K mg base (cas K) 1 f__law_draw ((pG "_law_draw") K) := by
  obtain ⟨fd, F⟩ := c.d__law_draw
  exact fn_sim (ps := ["_law_cell", "_law_k", "_law_many"]) F sc__law_draw (F.bindsN fun _ _ _ _ _ _ us hl => match us, hl with | [_, _, _], _ => rfl) (b__law_draw c)
/-! _law_cell_at -/
def n__law_cell_at : List Str := ["_law_script", "_law_k"]
theorem sc__law_cell_at : FnScope n__law_cell_at ["_law_script", "_law_k"] (defScope (tops 47)) := fnScopeBy (by decide +kernel)
def m__law_cell_at : MS := (mSeq (mIf (mCmp .Lt (mV 1) (mB1 (g1 lenA) (mV 0))) (mRet (mB1 (biA .abs) (mSub (mV 0) (mV 1)))) mNx)
  (mRet (mCall (pureX f__law_draw) (aC (mBin .Add (mB1 (biA .abs) (mB1 (g1 (b1A .sum)) (mV 0))) (mBin .Mult (mC (.int 7919)) (mV 1))) (aC (mV 1) (aC (mC (.int 999983)) a0))))))
def f__law_cell_at : Fn := fnM 2 2 m__law_cell_at
theorem b__law_cell_at {P : Program} {w : World} {K : PySem.W.Frag} {mg : Str → Option Value} {base : Heap} (c : Fx K mg) (cdv : Value) (A : Around) (outer : List Env) (s : Shared) (H : Hp) (E : XK) (hr : Room 1 (A.deeper (envOfC "_law_cell_at" (defScope (tops 47)) s.heap.objs.size ((pG "_law_cell_at") K) cdv))) :
    SimSs (cxOf (L2.CX P w) P w K mg base n__law_cell_at "_law_cell_at" (defScope (tops 47)) ((pG "_law_cell_at") K) cdv A outer s H E) ⟨P, w, K, cas K, E⟩ (defBody (tops 47)) m__law_cell_at := by
  have c1 : CF (cxOf (L2.CX P w) P w K mg base n__law_cell_at "_law_cell_at" (defScope (tops 47)) ((pG "_law_cell_at") K) cdv A outer s H E) E 1 := ⟨rfl, hr, takes_of rfl rfl rfl rfl, sc__law_cell_at.nd⟩
  have po : PassesOwn (model P w) (cxOf (L2.CX P w) P w K mg base n__law_cell_at "_law_cell_at" (defScope (tops 47)) ((pG "_law_cell_at") K) cdv A outer s H E).A (cxOf (L2.CX P w) P w K mg base n__law_cell_at "_law_cell_at" (defScope (tops 47)) ((pG "_law_cell_at") K) cdv A outer s H E).env (cxOf (L2.CX P w) P w K mg base n__law_cell_at "_law_cell_at" (defScope (tops 47)) ((pG "_law_cell_at") K) cdv A outer s H E).xe := passes_of rfl
  exact (sims_cons (sims_if (tCmp c1 (gV 1) (gLen c.b_len (gV 0))) (sims_one (sims_ret (gAbs c.b_abs (gSub c1 (gV 0) (gV 1))))) sims_nil)
  (sims_one (sims_ret (gCall c1 c.g__law_draw c.h__law_draw (k__law_draw c).pureX (gA (gBin (gAbs c.b_abs (gSum c1 c.b_sum (gV 0))) (gBin gI (gV 1))) (gA (gV 1) (gA gI g0)))))))
theorem k__law_cell_at {P : Program} {w : World} {K : PySem.W.Frag} {mg : Str → Option Value} {base : Heap} (c : Fx K mg) : FnW P w K mg base (cas K) 2 f__law_cell_at ((pG "_law_cell_at") K) := by
  obtain ⟨fd, F⟩ := c.d__law_cell_at
  exact fn_sim (ps := ["_law_script", "_law_k"]) F sc__law_cell_at (F.bindsN fun _ _ _ _ _ _ us hl => match us, hl with | [_, _], _ => rfl) (b__law_cell_at c)
/-! _law_digits -/
def n__law_digits : List Str := ["_law_script", "_law_at", "_law_many", "_law_base", "_law_remaining", "_law_turn", "_law_cell", "_law_found", "_law_blend", "_law_more_here"]
theorem sc__law_digits : FnScope n__law_digits ["_law_script", "_law_at", "_law_many", "_law_base"] (defScope (tops 48)) := fnScopeBy (by decide +kernel)
def m__law_digits : MS := (mSeq (mPar 6 7 (mCall (pureX f__law_cell_at) (aC (mV 0) (aC (mV 1) a0))) (mLst a0))
  (mSeq (mSet 4 (mBin .Sub (mV 6) (mBin .Pow (mC (.int 10)) (mC (.int 18)))))
  (mSeq (mFor (mtN 5) (miRg (mV 2)) (mIf (mCmp .Gt (mV 4) (mC (.int 0))) (mSeq (mEx (mBm .append (mV 7) (aC (mBin .Mod (mB1 (biA .int) (mV 4)) (mV 3)) a0)))
  (mSet 4 (mBin .FloorDiv (mV 4) (mV 3)))) (mSeq (mSet 8 (mCall (pureX f__law_draw) (aC (mBin .Mult (mBin .Add (mV 6) (mBin .Mult (mC (.int 977)) (mV 5))) (mBin .Add (mBin .Add (mV 6) (mBin .Mult (mC (.int 31)) (mV 5))) (mC (.int 5)))) (aC (mBin .Add (mBin .Mod (mV 5) (mC (.int 9))) (mC (.int 1))) (aC (mC (.int 999983)) a0)))))
  (mSeq (mSet 9 (mCall (pureX f__law_draw) (aC (mBin .Add (mBin .Mult (mBin .Add (mV 6) (mBin .Mult (mC (.int 31)) (mV 5))) (mBin .Add (mV 6) (mC (.int 7)))) (mBin .Mult (mC (.int 977)) (mV 5))) (aC (mBin .Add (mBin .Mod (mV 5) (mC (.int 7))) (mC (.int 2))) (aC (mC (.int 1000003)) a0)))))
  (mEx (mBm .append (mV 7) (aC (mBin .Mod (mB1 (biA .int) (mBin .Add (mBin .Mult (mV 8) (mC (.int 1000003))) (mV 9))) (mV 3)) a0)))))))
  (mRet (mV 7)))))
def f__law_digits : Fn := fnM 4 10 m__law_digits
theorem b__law_digits {P : Program} {w : World} {K : PySem.W.Frag} {mg : Str → Option Value} {base : Heap} (c : Fx K mg) (cdv : Value) (A : Around) (outer : List Env) (s : Shared) (H : Hp) (E : XK) (hr : Room 2 (A.deeper (envOfC "_law_digits" (defScope (tops 48)) s.heap.objs.size ((pG "_law_digits") K) cdv))) :
    SimSs (cxOf (L2.CX P w) P w K mg base n__law_digits "_law_digits" (defScope (tops 48)) ((pG "_law_digits") K) cdv A outer s H E) ⟨P, w, K, cas K, E⟩ (defBody (tops 48)) m__law_digits := by
  have c1 : CF (cxOf (L2.CX P w) P w K mg base n__law_digits "_law_digits" (defScope (tops 48)) ((pG "_law_digits") K) cdv A outer s H E) E 2 := ⟨rfl, hr, takes_of rfl rfl rfl rfl, sc__law_digits.nd⟩
  have po : PassesOwn (model P w) (cxOf (L2.CX P w) P w K mg base n__law_digits "_law_digits" (defScope (tops 48)) ((pG "_law_digits") K) cdv A outer s H E).A (cxOf (L2.CX P w) P w K mg base n__law_digits "_law_digits" (defScope (tops 48)) ((pG "_law_digits") K) cdv A outer s H E).env (cxOf (L2.CX P w) P w K mg base n__law_digits "_law_digits" (defScope (tops 48)) ((pG "_law_digits") K) cdv A outer s H E).xe := passes_of rfl
  exact (sims_cons (xPar c1 6 7 (gCall c1 c.g__law_cell_at c.h__law_cell_at (k__law_cell_at c).pureX (gA (gV 0) (gA (gV 1) g0))) (gLst g0))
  (sims_cons (xSet c1 4 (gBin (gV 6) (gBin gI gI)))
  (sims_cons (xFor c1 po (iRg c.b_range (gV 2)) (uN c1 5) (sims_one (sims_if (tCmp c1 (gV 4) gI) (sims_cons (xEx (gApp (gV 7) (gBin (gInt c.b_int (gV 4)) (gV 3))))
  (sims_one (xSet c1 4 (gBin (gV 4) (gV 3))))) (sims_cons (xSet c1 8 (gCall c1 c.g__law_draw c.h__law_draw (k__law_draw c).pureX (gA (gBin (gBin (gV 6) (gBin gI (gV 5))) (gBin (gBin (gV 6) (gBin gI (gV 5))) gI)) (gA (gBin (gBin (gV 5) gI) gI) (gA gI g0)))))
  (sims_cons (xSet c1 9 (gCall c1 c.g__law_draw c.h__law_draw (k__law_draw c).pureX (gA (gBin (gBin (gBin (gV 6) (gBin gI (gV 5))) (gBin (gV 6) gI)) (gBin gI (gV 5))) (gA (gBin (gBin (gV 5) gI) gI) (gA gI g0)))))
  (sims_one (xEx (gApp (gV 7) (gBin (gInt c.b_int (gBin (gBin (gV 8) gI) (gV 9))) (gV 3))))))))))
  (sims_one (sims_ret (gV 7))))))
theorem k__law_digits {P : Program} {w : World} {K : PySem.W.Frag} {mg : Str → Option Value} {base : Heap} (c : Fx K mg) : FnW P w K mg base (cas K) 3 f__law_digits ((pG "_law_digits") K) := by
  obtain ⟨fd, F⟩ := c.d__law_digits
  exact fn_sim (ps := ["_law_script", "_law_at", "_law_many", "_law_base"]) F sc__law_digits (F.bindsN fun _ _ _ _ _ _ us hl => match us, hl with | [_, _, _, _], _ => rfl) (b__law_digits c)
/-! _law_pool -/
def n__law_pool : List Str := ["_law_script", "_law_bases", "_law_found", "_law_at", "_law_base"]
theorem sc__law_pool : FnScope n__law_pool ["_law_script", "_law_bases"] (defScope (tops 50)) := fnScopeBy (by decide +kernel)
def m__law_pool : MS := (mSeq (mSet 2 (mLst a0))
  (mSeq (mFor (mtT (mtC (mtN 3) (mtC (mtN 4) mt0))) (miEn (mV 1)) (mSet 2 (mBin .Add (mV 2) (mCall (pureX f__law_digits) (aC (mV 0) (aC (mV 3) (aC (mC (.int 150)) (aC (mV 4) a0))))))))
  (mRet (mV 2))))
def f__law_pool : Fn := fnM 2 5 m__law_pool
theorem b__law_pool {P : Program} {w : World} {K : PySem.W.Frag} {mg : Str → Option Value} {base : Heap} (c : Fx K mg) (cdv : Value) (A : Around) (outer : List Env) (s : Shared) (H : Hp) (E : XK) (hr : Room 3 (A.deeper (envOfC "_law_pool" (defScope (tops 50)) s.heap.objs.size ((pG "_law_pool") K) cdv))) :
    SimSs (cxOf (L2.CX P w) P w K mg base n__law_pool "_law_pool" (defScope (tops 50)) ((pG "_law_pool") K) cdv A outer s H E) ⟨P, w, K, cas K, E⟩ (defBody (tops 50)) m__law_pool := by
  have c1 : CF (cxOf (L2.CX P w) P w K mg base n__law_pool "_law_pool" (defScope (tops 50)) ((pG "_law_pool") K) cdv A outer s H E) E 3 := ⟨rfl, hr, takes_of rfl rfl rfl rfl, sc__law_pool.nd⟩
  have po : PassesOwn (model P w) (cxOf (L2.CX P w) P w K mg base n__law_pool "_law_pool" (defScope (tops 50)) ((pG "_law_pool") K) cdv A outer s H E).A (cxOf (L2.CX P w) P w K mg base n__law_pool "_law_pool" (defScope (tops 50)) ((pG "_law_pool") K) cdv A outer s H E).env (cxOf (L2.CX P w) P w K mg base n__law_pool "_law_pool" (defScope (tops 50)) ((pG "_law_pool") K) cdv A outer s H E).xe := passes_of rfl
  exact (sims_cons (xSet c1 2 (gLst g0))
  (sims_cons (xFor c1 po (iEn c.b_enumerate (gV 1)) (uT c1 (uC (uN c1 3) (uC (uN c1 4) u0)) (mtC_len (mtC_len mt0_len))) (sims_one (xSet c1 2 (gBin (gV 2) (gCall c1 c.g__law_digits c.h__law_digits (k__law_digits c).pureX (gA (gV 0) (gA (gV 3) (gA gI (gA (gV 4) g0)))))))))
  (sims_one (sims_ret (gV 2)))))
theorem k__law_pool {P : Program} {w : World} {K : PySem.W.Frag} {mg : Str → Option Value} {base : Heap} (c : Fx K mg) : FnW P w K mg base (cas K) 4 f__law_pool ((pG "_law_pool") K) := by
  obtain ⟨fd, F⟩ := c.d__law_pool
  exact fn_sim (ps := ["_law_script", "_law_bases"]) F sc__law_pool (F.bindsN fun _ _ _ _ _ _ us hl => match us, hl with | [_, _], _ => rfl) (b__law_pool c)
/-! _law_all_modes -/
def n__law_all_modes : List Str := ["_law_found", "_law_place", "_law_word"]
theorem sc__law_all_modes : FnScope n__law_all_modes [] (defScope (tops 51)) := fnScopeBy (by decide +kernel)
def m__law_all_modes : MS := (mSeq (mSet 0 (mLst a0))
  (mSeq (mFor (mtN 1) (miOf (mTup (aC (mC (.str "old")) (aC (mC (.str "new")) a0)))) (mSet 0 (mBin .Add (mV 0) (mLc [2] (mtN 2) (miOf (mTup (aC (mC (.str "old")) (aC (mC (.str "both")) (aC (mC (.str "new")) a0))))) mYes (mTup (aC (mV 1) (aC (mV 2) a0)))))))
  (mRet (mV 0))))
def f__law_all_modes : Fn := fnM 0 3 m__law_all_modes
theorem b__law_all_modes {P : Program} {w : World} {K : PySem.W.Frag} {mg : Str → Option Value} {base : Heap} (c : Fx K mg) (cdv : Value) (A : Around) (outer : List Env) (s : Shared) (H : Hp) (E : XK) (hr : Room 0 (A.deeper (envOfC "_law_all_modes" (defScope (tops 51)) s.heap.objs.size ((pG "_law_all_modes") K) cdv))) :
    SimSs (cxOf (L2.CX P w) P w K mg base n__law_all_modes "_law_all_modes" (defScope (tops 51)) ((pG "_law_all_modes") K) cdv A outer s H E) ⟨P, w, K, cas K, E⟩ (defBody (tops 51)) m__law_all_modes := by
  have c1 : CF (cxOf (L2.CX P w) P w K mg base n__law_all_modes "_law_all_modes" (defScope (tops 51)) ((pG "_law_all_modes") K) cdv A outer s H E) E 0 := ⟨rfl, hr, takes_of rfl rfl rfl rfl, sc__law_all_modes.nd⟩
  have po : PassesOwn (model P w) (cxOf (L2.CX P w) P w K mg base n__law_all_modes "_law_all_modes" (defScope (tops 51)) ((pG "_law_all_modes") K) cdv A outer s H E).A (cxOf (L2.CX P w) P w K mg base n__law_all_modes "_law_all_modes" (defScope (tops 51)) ((pG "_law_all_modes") K) cdv A outer s H E).env (cxOf (L2.CX P w) P w K mg base n__law_all_modes "_law_all_modes" (defScope (tops 51)) ((pG "_law_all_modes") K) cdv A outer s H E).xe := passes_of rfl
  exact (sims_cons (xSet c1 0 (gLst g0))
  (sims_cons (xFor c1 po (simi_of (gTup (gA gS (gA gS g0)))) (uN c1 1) (sims_one (xSet c1 0 (gBin (gV 0) (gLc c1 [("_law_word", 2)] (simi_of (gTup (gA gS (gA gS (gA gS g0))))) (fun s1 H1 C1 l1 q1 => (uN (c1.blk s1 H1 _ _ q1) 2)) (fun s2 H2 C2 l2 q2 => simts_nil) (fun s3 H3 C3 l3 q3 => (gTup (gA (gV 1) (gA (gV 2) g0)))))))))
  (sims_one (sims_ret (gV 0)))))
theorem k__law_all_modes {P : Program} {w : World} {K : PySem.W.Frag} {mg : Str → Option Value} {base : Heap} (c : Fx K mg) : FnW P w K mg base (cas K) 1 f__law_all_modes ((pG "_law_all_modes") K) := by
  obtain ⟨fd, F⟩ := c.d__law_all_modes
  exact fn_sim (ps := []) F sc__law_all_modes (F.bindsN fun _ _ _ _ _ _ us hl => match us, hl with | [], _ => rfl) (b__law_all_modes c)
/-! _law_take -/
def n__law_take : List Str := ["_law_draws", "_law_many"]
theorem sc__law_take : FnScope n__law_take ["_law_draws", "_law_many"] (defScope (tops 49)) := fnScopeBy (by decide +kernel)
def m__law_take : MS := (mRet (mIte (mCmp .NotEq (mV 0) (mLst a0)) (mBin .Mod (mB1 (biA .int) (mBm .pop0 (mV 0) (aC (mC (.int 0)) a0))) (mV 1)) (mC (.int 0))))
def f__law_take : Fn := fnM 2 2 m__law_take
theorem b__law_take {P : Program} {w : World} {K : PySem.W.Frag} {mg : Str → Option Value} {base : Heap} (c : Fx K mg) (cdv : Value) (A : Around) (outer : List Env) (s : Shared) (H : Hp) (E : XK) (hr : Room 0 (A.deeper (envOfC "_law_take" (defScope (tops 49)) s.heap.objs.size ((pG "_law_take") K) cdv))) :
    SimSs (cxOf (L2.CX P w) P w K mg base n__law_take "_law_take" (defScope (tops 49)) ((pG "_law_take") K) cdv A outer s H E) ⟨P, w, K, cas K, E⟩ (defBody (tops 49)) m__law_take := by
  have c1 : CF (cxOf (L2.CX P w) P w K mg base n__law_take "_law_take" (defScope (tops 49)) ((pG "_law_take") K) cdv A outer s H E) E 0 := ⟨rfl, hr, takes_of rfl rfl rfl rfl, sc__law_take.nd⟩
  have po : PassesOwn (model P w) (cxOf (L2.CX P w) P w K mg base n__law_take "_law_take" (defScope (tops 49)) ((pG "_law_take") K) cdv A outer s H E).A (cxOf (L2.CX P w) P w K mg base n__law_take "_law_take" (defScope (tops 49)) ((pG "_law_take") K) cdv A outer s H E).env (cxOf (L2.CX P w) P w K mg base n__law_take "_law_take" (defScope (tops 49)) ((pG "_law_take") K) cdv A outer s H E).xe := passes_of rfl
  exact (sims_one (sims_ret (gIte (tCmp c1 (gV 0) (gLst g0)) (gBin (gInt c.b_int (gPop0 (gV 0) gI)) (gV 1)) gI)))
theorem k__law_take {P : Program} {w : World} {K : PySem.W.Frag} {mg : Str → Option Value} {base : Heap} (c : Fx K mg) : FnW P w K mg base (cas K) 1 f__law_take ((pG "_law_take") K) := by
  obtain ⟨fd, F⟩ := c.d__law_take
  exact fn_sim (ps := ["_law_draws", "_law_many"]) F sc__law_take (F.bindsN fun _ _ _ _ _ _ us hl => match us, hl with | [_, _], _ => rfl) (b__law_take c)
/-! _law_mode -/
def n__law_mode : List Str := ["_law_draws"]
theorem sc__law_mode : FnScope n__law_mode ["_law_draws"] (defScope (tops 52)) := fnScopeBy (by decide +kernel)
def m__law_mode : MS := (mRet (mSub (mCall0 (pureX f__law_all_modes)) (mCall f__law_take (aC (mV 0) (aC (mC (.int 6)) a0)))))
def f__law_mode : Fn := fnM 1 1 m__law_mode
theorem b__law_mode {P : Program} {w : World} {K : PySem.W.Frag} {mg : Str → Option Value} {base : Heap} (c : Fx K mg) (cdv : Value) (A : Around) (outer : List Env) (s : Shared) (H : Hp) (E : XK) (hr : Room 1 (A.deeper (envOfC "_law_mode" (defScope (tops 52)) s.heap.objs.size ((pG "_law_mode") K) cdv))) :
    SimSs (cxOf (L2.CX P w) P w K mg base n__law_mode "_law_mode" (defScope (tops 52)) ((pG "_law_mode") K) cdv A outer s H E) ⟨P, w, K, cas K, E⟩ (defBody (tops 52)) m__law_mode := by
  have c1 : CF (cxOf (L2.CX P w) P w K mg base n__law_mode "_law_mode" (defScope (tops 52)) ((pG "_law_mode") K) cdv A outer s H E) E 1 := ⟨rfl, hr, takes_of rfl rfl rfl rfl, sc__law_mode.nd⟩
  have po : PassesOwn (model P w) (cxOf (L2.CX P w) P w K mg base n__law_mode "_law_mode" (defScope (tops 52)) ((pG "_law_mode") K) cdv A outer s H E).A (cxOf (L2.CX P w) P w K mg base n__law_mode "_law_mode" (defScope (tops 52)) ((pG "_law_mode") K) cdv A outer s H E).env (cxOf (L2.CX P w) P w K mg base n__law_mode "_law_mode" (defScope (tops 52)) ((pG "_law_mode") K) cdv A outer s H E).xe := passes_of rfl
  exact (sims_one (sims_ret (gSub c1 (gCall0 c1 c.g__law_all_modes c.h__law_all_modes (k__law_all_modes c).pureX) (gCall c1 c.g__law_take c.h__law_take (k__law_take c) (gA (gV 0) (gA gI g0))))))
theorem k__law_mode {P : Program} {w : World} {K : PySem.W.Frag} {mg : Str → Option Value} {base : Heap} (c : Fx K mg) : FnW P w K mg base (cas K) 2 f__law_mode ((pG "_law_mode") K) := by
  obtain ⟨fd, F⟩ := c.d__law_mode
  exact fn_sim (ps := ["_law_draws"]) F sc__law_mode (F.bindsN fun _ _ _ _ _ _ us hl => match us, hl with | [_], _ => rfl) (b__law_mode c)
/-! _law_net -/
def n__law_net : List Str := ["_law_draws", "_law_most", "_law_crew", "_law_begin", "_law_server"]
theorem sc__law_net : FnScope n__law_net ["_law_draws", "_law_most"] (defScope (tops 53)) := fnScopeBy (by decide +kernel)
def m__law_net : MS := (mSeq (mSet 2 (mBin .Add (mC (.int 1)) (mCall f__law_take (aC (mV 0) (aC (mV 1) a0)))))
  (mSeq (mSet 3 (mB1 (g1 (b1A .tuple)) (mLc [4] (mtN 4) (miRg (mV 2)) mYes (mIte (mCmp .Gt (mCall f__law_take (aC (mV 0) (aC (mC (.int 4)) a0))) (mC (.int 0))) (mTup (aC (mC (.str "old")) (aC (mC (.str "old")) a0))) (mCall f__law_mode (aC (mV 0) a0))))))
  (mRet (mTup (aC (mV 3) (aC (mSub (mTup (aC (mC (.str "plain")) (aC (mC (.str "empty")) (aC (mC (.str "check")) a0)))) (mCall f__law_take (aC (mV 0) (aC (mC (.int 3)) a0)))) (aC (mTup (aC (mBin .Add (mC (.int 1)) (mCall f__law_take (aC (mV 0) (aC (mC (.int 9)) a0)))) (aC (mBin .Add (mC (.int 1)) (mCall f__law_take (aC (mV 0) (aC (mC (.int 9)) a0)))) a0))) a0)))))))
def f__law_net : Fn := fnM 2 5 m__law_net
theorem b__law_net {P : Program} {w : World} {K : PySem.W.Frag} {mg : Str → Option Value} {base : Heap} (c : Fx K mg) (cdv : Value) (A : Around) (outer : List Env) (s : Shared) (H : Hp) (E : XK) (hr : Room 2 (A.deeper (envOfC "_law_net" (defScope (tops 53)) s.heap.objs.size ((pG "_law_net") K) cdv))) :
    SimSs (cxOf (L2.CX P w) P w K mg base n__law_net "_law_net" (defScope (tops 53)) ((pG "_law_net") K) cdv A outer s H E) ⟨P, w, K, cas K, E⟩ (defBody (tops 53)) m__law_net := by
  have c1 : CF (cxOf (L2.CX P w) P w K mg base n__law_net "_law_net" (defScope (tops 53)) ((pG "_law_net") K) cdv A outer s H E) E 2 := ⟨rfl, hr, takes_of rfl rfl rfl rfl, sc__law_net.nd⟩
  have po : PassesOwn (model P w) (cxOf (L2.CX P w) P w K mg base n__law_net "_law_net" (defScope (tops 53)) ((pG "_law_net") K) cdv A outer s H E).A (cxOf (L2.CX P w) P w K mg base n__law_net "_law_net" (defScope (tops 53)) ((pG "_law_net") K) cdv A outer s H E).env (cxOf (L2.CX P w) P w K mg base n__law_net "_law_net" (defScope (tops 53)) ((pG "_law_net") K) cdv A outer s H E).xe := passes_of rfl
  exact (sims_cons (xSet c1 2 (gBin gI (gCall c1 c.g__law_take c.h__law_take (k__law_take c) (gA (gV 0) (gA (gV 1) g0)))))
  (sims_cons (xSet c1 3 (gTuple c.b_tuple (gLc c1 [("_law_server", 4)] (iRg c.b_range (gV 2)) (fun s1 H1 C1 l1 q1 => (uN (c1.blk s1 H1 _ _ q1) 4)) (fun s2 H2 C2 l2 q2 => simts_nil) (fun s3 H3 C3 l3 q3 => (gIte (tCmp (c1.blk s3 H3 _ _ q3) (gCall (c1.blk s3 H3 _ _ q3) c.g__law_take c.h__law_take (k__law_take c) (gA (gV 0) (gA gI g0))) gI) (gTup (gA gS (gA gS g0))) (gCall (c1.blk s3 H3 _ _ q3) c.g__law_mode c.h__law_mode (k__law_mode c) (gA (gV 0) g0)))))))
  (sims_one (sims_ret (gTup (gA (gV 3) (gA (gSub c1 (gTup (gA gS (gA gS (gA gS g0)))) (gCall c1 c.g__law_take c.h__law_take (k__law_take c) (gA (gV 0) (gA gI g0)))) (gA (gTup (gA (gBin gI (gCall c1 c.g__law_take c.h__law_take (k__law_take c) (gA (gV 0) (gA gI g0)))) (gA (gBin gI (gCall c1 c.g__law_take c.h__law_take (k__law_take c) (gA (gV 0) (gA gI g0)))) g0))) g0))))))))
theorem k__law_net {P : Program} {w : World} {K : PySem.W.Frag} {mg : Str → Option Value} {base : Heap} (c : Fx K mg) : FnW P w K mg base (cas K) 3 f__law_net ((pG "_law_net") K) := by
  obtain ⟨fd, F⟩ := c.d__law_net
  exact fn_sim (ps := ["_law_draws", "_law_most"]) F sc__law_net (F.bindsN fun _ _ _ _ _ _ us hl => match us, hl with | [_, _], _ => rfl) (b__law_net c)
/-! is_mode -/
def n_is_mode : List Str := ["value", "word"]
theorem sc_is_mode : FnScope n_is_mode ["value"] (defScope (tops 17)) := fnScopeBy (by decide +kernel)
def m_is_mode : MS := (mRet (andM (mIsi (mV 0) (.ty .tuple)) (andM (mB1 (g1 (b1A .all)) (mLc [1] (mtN 1) (miOf (mV 0)) mYes (mIsi (mV 1) (.ty .str)))) (mCmp .In (mV 0) (mC v_MODES)))))
def f_is_mode : Fn := fnM 1 2 m_is_mode
theorem b_is_mode {P : Program} {w : World} {K : PySem.W.Frag} {mg : Str → Option Value} {base : Heap} (c : Fx K mg) (cdv : Value) (A : Around) (outer : List Env) (s : Shared) (H : Hp) (E : XK) (hr : Room 0 (A.deeper (envOfC "is_mode" (defScope (tops 17)) s.heap.objs.size ((pG "is_mode") K) cdv))) :
    SimSs (cxOf (L2.CX P w) P w K mg base n_is_mode "is_mode" (defScope (tops 17)) ((pG "is_mode") K) cdv A outer s H E) ⟨P, w, K, cas K, E⟩ (defBody (tops 17)) m_is_mode := by
  have c1 : CF (cxOf (L2.CX P w) P w K mg base n_is_mode "is_mode" (defScope (tops 17)) ((pG "is_mode") K) cdv A outer s H E) E 0 := ⟨rfl, hr, takes_of rfl rfl rfl rfl, sc_is_mode.nd⟩
  have po : PassesOwn (model P w) (cxOf (L2.CX P w) P w K mg base n_is_mode "is_mode" (defScope (tops 17)) ((pG "is_mode") K) cdv A outer s H E).A (cxOf (L2.CX P w) P w K mg base n_is_mode "is_mode" (defScope (tops 17)) ((pG "is_mode") K) cdv A outer s H E).env (cxOf (L2.CX P w) P w K mg base n_is_mode "is_mode" (defScope (tops 17)) ((pG "is_mode") K) cdv A outer s H E).xe := passes_of rfl
  exact (sims_one (sims_ret (sim_and (gIsi1 .tuple c.b_isinstance c.b_tuple bt_tuple (gV 0)) (sim_and (gAll c1 c.b_all (gLc c1 [("word", 1)] (simi_of (gV 0)) (fun s1 H1 C1 l1 q1 => (uN (c1.blk s1 H1 _ _ q1) 1)) (fun s2 H2 C2 l2 q2 => simts_nil) (fun s3 H3 C3 l3 q3 => (gIsi1 .str c.b_isinstance c.b_str bt_str (gV 1))))) (sim_one (gCmp c1 (gV 0) (gG c.v_MODES)))))))
theorem k_is_mode {P : Program} {w : World} {K : PySem.W.Frag} {mg : Str → Option Value} {base : Heap} (c : Fx K mg) : FnW P w K mg base (cas K) 1 f_is_mode ((pG "is_mode") K) := by
  obtain ⟨fd, F⟩ := c.d_is_mode
  exact fn_sim (ps := ["value"]) F sc_is_mode (F.bindsN fun _ _ _ _ _ _ us hl => match us, hl with | [_], _ => rfl) (b_is_mode c)
/-! are_modes -/
def n_are_modes : List Str := ["value", "many", "mode"]
theorem sc_are_modes : FnScope n_are_modes ["value", "many"] (defScope (tops 18)) := fnScopeBy (by decide +kernel)
def m_are_modes : MS := (mRet (andM (mIsi (mV 0) (.ty .tuple)) (andM (mCmp .Eq (mB1 (g1 lenA) (mV 0)) (mV 1)) (mB1 (g1 (b1A .all)) (mLc [2] (mtN 2) (miOf (mV 0)) mYes (mCall f_is_mode (aC (mV 2) a0)))))))
def f_are_modes : Fn := fnM 2 3 m_are_modes
theorem b_are_modes {P : Program} {w : World} {K : PySem.W.Frag} {mg : Str → Option Value} {base : Heap} (c : Fx K mg) (cdv : Value) (A : Around) (outer : List Env) (s : Shared) (H : Hp) (E : XK) (hr : Room 1 (A.deeper (envOfC "are_modes" (defScope (tops 18)) s.heap.objs.size ((pG "are_modes") K) cdv))) :
    SimSs (cxOf (L2.CX P w) P w K mg base n_are_modes "are_modes" (defScope (tops 18)) ((pG "are_modes") K) cdv A outer s H E) ⟨P, w, K, cas K, E⟩ (defBody (tops 18)) m_are_modes := by
  have c1 : CF (cxOf (L2.CX P w) P w K mg base n_are_modes "are_modes" (defScope (tops 18)) ((pG "are_modes") K) cdv A outer s H E) E 1 := ⟨rfl, hr, takes_of rfl rfl rfl rfl, sc_are_modes.nd⟩
  have po : PassesOwn (model P w) (cxOf (L2.CX P w) P w K mg base n_are_modes "are_modes" (defScope (tops 18)) ((pG "are_modes") K) cdv A outer s H E).A (cxOf (L2.CX P w) P w K mg base n_are_modes "are_modes" (defScope (tops 18)) ((pG "are_modes") K) cdv A outer s H E).env (cxOf (L2.CX P w) P w K mg base n_are_modes "are_modes" (defScope (tops 18)) ((pG "are_modes") K) cdv A outer s H E).xe := passes_of rfl
  exact (sims_one (sims_ret (sim_and (gIsi1 .tuple c.b_isinstance c.b_tuple bt_tuple (gV 0)) (sim_and (gCmp c1 (gLen c.b_len (gV 0)) (gV 1)) (sim_one (gAll c1 c.b_all (gLc c1 [("mode", 2)] (simi_of (gV 0)) (fun s1 H1 C1 l1 q1 => (uN (c1.blk s1 H1 _ _ q1) 2)) (fun s2 H2 C2 l2 q2 => simts_nil) (fun s3 H3 C3 l3 q3 => (gCall (c1.blk s3 H3 _ _ q3) c.g_is_mode c.h_is_mode (k_is_mode c) (gA (gV 2) g0))))))))))
theorem k_are_modes {P : Program} {w : World} {K : PySem.W.Frag} {mg : Str → Option Value} {base : Heap} (c : Fx K mg) : FnW P w K mg base (cas K) 2 f_are_modes ((pG "are_modes") K) := by
  obtain ⟨fd, F⟩ := c.d_are_modes
  exact fn_sim (ps := ["value", "many"]) F sc_are_modes (F.bindsN fun _ _ _ _ _ _ us hl => match us, hl with | [_, _], _ => rfl) (b_are_modes c)
/-! is_integer -/
def n_is_integer : List Str := ["value", "low", "high"]
theorem sc_is_integer : FnScope n_is_integer ["value", "low", "high"] (defScope (tops 16)) := fnScopeBy (by decide +kernel)
def m_is_integer : MS := (mRet (andM (mIsi (mV 0) (.ty .int)) (andM (mNot (mIsi (mV 0) (.ty .bool))) (mChn .LtE .LtE (mV 1) (mV 0) (mV 2)))))
def f_is_integer : Fn := fnM 3 3 m_is_integer
theorem b_is_integer {P : Program} {w : World} {K : PySem.W.Frag} {mg : Str → Option Value} {base : Heap} (c : Fx K mg) (cdv : Value) (A : Around) (outer : List Env) (s : Shared) (H : Hp) (E : XK) (hr : Room 0 (A.deeper (envOfC "is_integer" (defScope (tops 16)) s.heap.objs.size ((pG "is_integer") K) cdv))) :
    SimSs (cxOf (L2.CX P w) P w K mg base n_is_integer "is_integer" (defScope (tops 16)) ((pG "is_integer") K) cdv A outer s H E) ⟨P, w, K, cas K, E⟩ (defBody (tops 16)) m_is_integer := by
  have c1 : CF (cxOf (L2.CX P w) P w K mg base n_is_integer "is_integer" (defScope (tops 16)) ((pG "is_integer") K) cdv A outer s H E) E 0 := ⟨rfl, hr, takes_of rfl rfl rfl rfl, sc_is_integer.nd⟩
  have po : PassesOwn (model P w) (cxOf (L2.CX P w) P w K mg base n_is_integer "is_integer" (defScope (tops 16)) ((pG "is_integer") K) cdv A outer s H E).A (cxOf (L2.CX P w) P w K mg base n_is_integer "is_integer" (defScope (tops 16)) ((pG "is_integer") K) cdv A outer s H E).env (cxOf (L2.CX P w) P w K mg base n_is_integer "is_integer" (defScope (tops 16)) ((pG "is_integer") K) cdv A outer s H E).xe := passes_of rfl
  exact (sims_one (sims_ret (sim_and (gIsi1 .int c.b_isinstance c.b_int bt_int (gV 0)) (sim_and (gNot (gIsi1 .bool c.b_isinstance c.b_bool bt_bool (gV 0))) (sim_one (gChn c1 (gV 1) (gV 0) (gV 2)))))))
theorem k_is_integer {P : Program} {w : World} {K : PySem.W.Frag} {mg : Str → Option Value} {base : Heap} (c : Fx K mg) : FnW P w K mg base (cas K) 1 f_is_integer ((pG "is_integer") K) := by
  obtain ⟨fd, F⟩ := c.d_is_integer
  exact fn_sim (ps := ["value", "low", "high"]) F sc_is_integer (F.bindsN fun _ _ _ _ _ _ us hl => match us, hl with | [_, _, _], _ => rfl) (b_is_integer c)
/-! House.__init__ -/
def n_House___init__ : List Str := ["self", "modes", "copier", "prices", "price"]
theorem sc_House___init__ : FnScope n_House___init__ ["self", "modes", "copier", "prices"] (defScope (meths 19 1)) := fnScopeBy (by decide +kernel)
def m_House___init__ : MS := (mSeq (mIf (orM (mNot (mIsi (mV 1) (.ty .tuple))) (orM (mNot (mChn .LtE .LtE (mC (.int 1)) (mB1 (g1 lenA) (mV 1)) (mC v_MAX_SERVERS))) (mNot (mCall (pureX f_are_modes) (aC (mV 1) (aC (mB1 (g1 lenA) (mV 1)) a0)))))) mNever mNx)
  (mSeq (mIf (orM (mNot (mIsi (mV 2) (.ty .str))) (mCmp .NotIn (mV 2) (mC v_COPIERS))) mNever mNx)
  (mSeq (mIf (orM (mNot (mIsi (mV 3) (.ty .tuple))) (mCmp .NotEq (mB1 (g1 lenA) (mV 3)) (mC (.int 2)))) mNever mNx)
  (mSeq (mIf (mNot (mB1 (g1 (b1A .all)) (mLc [4] (mtN 4) (miOf (mV 3)) mYes (mCall (pureX f_is_integer) (aC (mV 4) (aC (mC (.int 1)) (aC (mC v_MAX_PRICE) a0))))))) mNever mNx)
  (mSeq (mAtt (mV 0) [(0, 2)] (mV 1))
  (mSeq (mAtt (mV 0) [(0, 0)] (mV 2))
  (mAtt (mV 0) [(0, 1)] (mV 3))))))))
def f_House___init__ : Fn := fnM 4 5 m_House___init__
theorem b_House___init__ {P : Program} {w : World} {K : PySem.W.Frag} {mg : Str → Option Value} {base : Heap} (c : Fx K mg) (cdv : Value) (A : Around) (outer : List Env) (s : Shared) (H : Hp) (E : XK) (hr : Room 2 (A.deeper (envOfC "House.__init__" (defScope (meths 19 1)) s.heap.objs.size ((pM "House" "__init__") K) cdv))) :
    SimSs (cxOf (L2.CX P w) P w K mg base n_House___init__ "House.__init__" (defScope (meths 19 1)) ((pM "House" "__init__") K) cdv A outer s H E) ⟨P, w, K, cas K, E⟩ (defBody (meths 19 1)) m_House___init__ := by
  have c1 : CF (cxOf (L2.CX P w) P w K mg base n_House___init__ "House.__init__" (defScope (meths 19 1)) ((pM "House" "__init__") K) cdv A outer s H E) E 2 := ⟨rfl, hr, takes_of rfl rfl rfl rfl, sc_House___init__.nd⟩
  have po : PassesOwn (model P w) (cxOf (L2.CX P w) P w K mg base n_House___init__ "House.__init__" (defScope (meths 19 1)) ((pM "House" "__init__") K) cdv A outer s H E).A (cxOf (L2.CX P w) P w K mg base n_House___init__ "House.__init__" (defScope (meths 19 1)) ((pM "House" "__init__") K) cdv A outer s H E).env (cxOf (L2.CX P w) P w K mg base n_House___init__ "House.__init__" (defScope (meths 19 1)) ((pM "House" "__init__") K) cdv A outer s H E).xe := passes_of rfl
  exact (sims_cons (sims_if (tOr (tNot (tV (gIsi1 .tuple c.b_isinstance c.b_tuple bt_tuple (gV 1)))) (simw_or (tNot (tChn c1 gI (gLen c.b_len (gV 1)) (gG c.v_MAX_SERVERS))) (simw_one (tNot (tV (gCall c1 c.g_are_modes c.h_are_modes (k_are_modes c).pureX (gA (gV 1) (gA (gLen c.b_len (gV 1)) g0)))))))) (sims_one sims_never) sims_nil)
  (sims_cons (sims_if (tOr (tNot (tV (gIsi1 .str c.b_isinstance c.b_str bt_str (gV 2)))) (simw_one (tCmp c1 (gV 2) (gG c.v_COPIERS)))) (sims_one sims_never) sims_nil)
  (sims_cons (sims_if (tOr (tNot (tV (gIsi1 .tuple c.b_isinstance c.b_tuple bt_tuple (gV 3)))) (simw_one (tCmp c1 (gLen c.b_len (gV 3)) gI))) (sims_one sims_never) sims_nil)
  (sims_cons (sims_if (tNot (tV (gAll c1 c.b_all (gLc c1 [("price", 4)] (simi_of (gV 3)) (fun s1 H1 C1 l1 q1 => (uN (c1.blk s1 H1 _ _ q1) 4)) (fun s2 H2 C2 l2 q2 => simts_nil) (fun s3 H3 C3 l3 q3 => (gCall (c1.blk s3 H3 _ _ q3) c.g_is_integer c.h_is_integer (k_is_integer c).pureX (gA (gV 4) (gA gI (gA (gG c.v_MAX_PRICE) g0))))))))) (sims_one sims_never) sims_nil)
  (sims_cons (xAtt (k := 0) c.s_House c.t_House_first (gV 0) (gV 1))
  (sims_cons (xAtt (k := 0) c.s_House c.t_House_copies (gV 0) (gV 2))
  (sims_one (xAtt (k := 0) c.s_House c.t_House_costs (gV 0) (gV 3)))))))))
theorem k_House___init__ {P : Program} {w : World} {K : PySem.W.Frag} {mg : Str → Option Value} {base : Heap} (c : Fx K mg) : FnW P w K mg base (cas K) 3 f_House___init__ ((pM "House" "__init__") K) := by
  obtain ⟨fd, F⟩ := c.d_House___init__
  exact fn_sim (ps := ["self", "modes", "copier", "prices"]) F sc_House___init__ (F.bindsN fun _ _ _ _ _ _ us hl => match us, hl with | [_, _, _, _], _ => rfl) (b_House___init__ c)
/-! House.modes -/
def n_House_modes : List Str := ["self"]
theorem sc_House_modes : FnScope n_House_modes ["self"] (defScope (meths 19 5)) := fnScopeBy (by decide +kernel)
def m_House_modes : MS := (mRet (mAttr (mV 0) [(0, 2)]))
def f_House_modes : Fn := fnM 1 1 m_House_modes
theorem b_House_modes {P : Program} {w : World} {K : PySem.W.Frag} {mg : Str → Option Value} {base : Heap} (c : Fx K mg) (cdv : Value) (A : Around) (outer : List Env) (s : Shared) (H : Hp) (E : XK) (hr : Room 0 (A.deeper (envOfC "House.modes" (defScope (meths 19 5)) s.heap.objs.size ((pP "House" "modes") K) cdv))) :
    SimSs (cxOf (L2.CX P w) P w K mg base n_House_modes "House.modes" (defScope (meths 19 5)) ((pP "House" "modes") K) cdv A outer s H E) ⟨P, w, K, cas K, E⟩ (defBody (meths 19 5)) m_House_modes := by
  have c1 : CF (cxOf (L2.CX P w) P w K mg base n_House_modes "House.modes" (defScope (meths 19 5)) ((pP "House" "modes") K) cdv A outer s H E) E 0 := ⟨rfl, hr, takes_of rfl rfl rfl rfl, sc_House_modes.nd⟩
  have po : PassesOwn (model P w) (cxOf (L2.CX P w) P w K mg base n_House_modes "House.modes" (defScope (meths 19 5)) ((pP "House" "modes") K) cdv A outer s H E).A (cxOf (L2.CX P w) P w K mg base n_House_modes "House.modes" (defScope (meths 19 5)) ((pP "House" "modes") K) cdv A outer s H E).env (cxOf (L2.CX P w) P w K mg base n_House_modes "House.modes" (defScope (meths 19 5)) ((pP "House" "modes") K) cdv A outer s H E).xe := passes_of rfl
  exact (sims_one (sims_ret (gAtt (k := 0) c.s_House c.t_House_first (gV 0))))
theorem k_House_modes {P : Program} {w : World} {K : PySem.W.Frag} {mg : Str → Option Value} {base : Heap} (c : Fx K mg) : FnW P w K mg base (cas K) 1 f_House_modes ((pP "House" "modes") K) := by
  obtain ⟨fd, F⟩ := c.d_House_modes
  exact fn_sim (ps := ["self"]) F sc_House_modes (F.bindsN fun _ _ _ _ _ _ us hl => match us, hl with | [_], _ => rfl) (b_House_modes c)
/-! House.copier -/
def n_House_copier : List Str := ["self"]
theorem sc_House_copier : FnScope n_House_copier ["self"] (defScope (meths 19 6)) := fnScopeBy (by decide +kernel)
def m_House_copier : MS := (mRet (mAttr (mV 0) [(0, 0)]))
def f_House_copier : Fn := fnM 1 1 m_House_copier
theorem b_House_copier {P : Program} {w : World} {K : PySem.W.Frag} {mg : Str → Option Value} {base : Heap} (c : Fx K mg) (cdv : Value) (A : Around) (outer : List Env) (s : Shared) (H : Hp) (E : XK) (hr : Room 0 (A.deeper (envOfC "House.copier" (defScope (meths 19 6)) s.heap.objs.size ((pP "House" "copier") K) cdv))) :
    SimSs (cxOf (L2.CX P w) P w K mg base n_House_copier "House.copier" (defScope (meths 19 6)) ((pP "House" "copier") K) cdv A outer s H E) ⟨P, w, K, cas K, E⟩ (defBody (meths 19 6)) m_House_copier := by
  have c1 : CF (cxOf (L2.CX P w) P w K mg base n_House_copier "House.copier" (defScope (meths 19 6)) ((pP "House" "copier") K) cdv A outer s H E) E 0 := ⟨rfl, hr, takes_of rfl rfl rfl rfl, sc_House_copier.nd⟩
  have po : PassesOwn (model P w) (cxOf (L2.CX P w) P w K mg base n_House_copier "House.copier" (defScope (meths 19 6)) ((pP "House" "copier") K) cdv A outer s H E).A (cxOf (L2.CX P w) P w K mg base n_House_copier "House.copier" (defScope (meths 19 6)) ((pP "House" "copier") K) cdv A outer s H E).env (cxOf (L2.CX P w) P w K mg base n_House_copier "House.copier" (defScope (meths 19 6)) ((pP "House" "copier") K) cdv A outer s H E).xe := passes_of rfl
  exact (sims_one (sims_ret (gAtt (k := 0) c.s_House c.t_House_copies (gV 0))))
theorem k_House_copier {P : Program} {w : World} {K : PySem.W.Frag} {mg : Str → Option Value} {base : Heap} (c : Fx K mg) : FnW P w K mg base (cas K) 1 f_House_copier ((pP "House" "copier") K) := by
  obtain ⟨fd, F⟩ := c.d_House_copier
  exact fn_sim (ps := ["self"]) F sc_House_copier (F.bindsN fun _ _ _ _ _ _ us hl => match us, hl with | [_], _ => rfl) (b_House_copier c)
/-! House.prices -/
def n_House_prices : List Str := ["self"]
theorem sc_House_prices : FnScope n_House_prices ["self"] (defScope (meths 19 7)) := fnScopeBy (by decide +kernel)
def m_House_prices : MS := (mRet (mAttr (mV 0) [(0, 1)]))
def f_House_prices : Fn := fnM 1 1 m_House_prices
theorem b_House_prices {P : Program} {w : World} {K : PySem.W.Frag} {mg : Str → Option Value} {base : Heap} (c : Fx K mg) (cdv : Value) (A : Around) (outer : List Env) (s : Shared) (H : Hp) (E : XK) (hr : Room 0 (A.deeper (envOfC "House.prices" (defScope (meths 19 7)) s.heap.objs.size ((pP "House" "prices") K) cdv))) :
    SimSs (cxOf (L2.CX P w) P w K mg base n_House_prices "House.prices" (defScope (meths 19 7)) ((pP "House" "prices") K) cdv A outer s H E) ⟨P, w, K, cas K, E⟩ (defBody (meths 19 7)) m_House_prices := by
  have c1 : CF (cxOf (L2.CX P w) P w K mg base n_House_prices "House.prices" (defScope (meths 19 7)) ((pP "House" "prices") K) cdv A outer s H E) E 0 := ⟨rfl, hr, takes_of rfl rfl rfl rfl, sc_House_prices.nd⟩
  have po : PassesOwn (model P w) (cxOf (L2.CX P w) P w K mg base n_House_prices "House.prices" (defScope (meths 19 7)) ((pP "House" "prices") K) cdv A outer s H E).A (cxOf (L2.CX P w) P w K mg base n_House_prices "House.prices" (defScope (meths 19 7)) ((pP "House" "prices") K) cdv A outer s H E).env (cxOf (L2.CX P w) P w K mg base n_House_prices "House.prices" (defScope (meths 19 7)) ((pP "House" "prices") K) cdv A outer s H E).xe := passes_of rfl
  exact (sims_one (sims_ret (gAtt (k := 0) c.s_House c.t_House_costs (gV 0))))
theorem k_House_prices {P : Program} {w : World} {K : PySem.W.Frag} {mg : Str → Option Value} {base : Heap} (c : Fx K mg) : FnW P w K mg base (cas K) 1 f_House_prices ((pP "House" "prices") K) := by
  obtain ⟨fd, F⟩ := c.d_House_prices
  exact fn_sim (ps := ["self"]) F sc_House_prices (F.bindsN fun _ _ _ _ _ _ us hl => match us, hl with | [_], _ => rfl) (b_House_prices c)
/-! House.__len__ -/
def n_House___len__ : List Str := ["self"]
theorem sc_House___len__ : FnScope n_House___len__ ["self"] (defScope (meths 19 2)) := fnScopeBy (by decide +kernel)
def m_House___len__ : MS := (mRet (mB1 (g1 lenA) (mAttr (mV 0) [(0, 2)])))
def f_House___len__ : Fn := fnM 1 1 m_House___len__
theorem b_House___len__ {P : Program} {w : World} {K : PySem.W.Frag} {mg : Str → Option Value} {base : Heap} (c : Fx K mg) (cdv : Value) (A : Around) (outer : List Env) (s : Shared) (H : Hp) (E : XK) (hr : Room 0 (A.deeper (envOfC "House.__len__" (defScope (meths 19 2)) s.heap.objs.size ((pM "House" "__len__") K) cdv))) :
    SimSs (cxOf (L2.CX P w) P w K mg base n_House___len__ "House.__len__" (defScope (meths 19 2)) ((pM "House" "__len__") K) cdv A outer s H E) ⟨P, w, K, cas K, E⟩ (defBody (meths 19 2)) m_House___len__ := by
  have c1 : CF (cxOf (L2.CX P w) P w K mg base n_House___len__ "House.__len__" (defScope (meths 19 2)) ((pM "House" "__len__") K) cdv A outer s H E) E 0 := ⟨rfl, hr, takes_of rfl rfl rfl rfl, sc_House___len__.nd⟩
  have po : PassesOwn (model P w) (cxOf (L2.CX P w) P w K mg base n_House___len__ "House.__len__" (defScope (meths 19 2)) ((pM "House" "__len__") K) cdv A outer s H E).A (cxOf (L2.CX P w) P w K mg base n_House___len__ "House.__len__" (defScope (meths 19 2)) ((pM "House" "__len__") K) cdv A outer s H E).env (cxOf (L2.CX P w) P w K mg base n_House___len__ "House.__len__" (defScope (meths 19 2)) ((pM "House" "__len__") K) cdv A outer s H E).xe := passes_of rfl
  exact (sims_one (sims_ret (gLen c.b_len (gAtt (k := 0) c.s_House c.t_House_first (gV 0)))))
theorem k_House___len__ {P : Program} {w : World} {K : PySem.W.Frag} {mg : Str → Option Value} {base : Heap} (c : Fx K mg) : FnW P w K mg base (cas K) 1 f_House___len__ ((pM "House" "__len__") K) := by
  obtain ⟨fd, F⟩ := c.d_House___len__
  exact fn_sim (ps := ["self"]) F sc_House___len__ (F.bindsN fun _ _ _ _ _ _ us hl => match us, hl with | [_], _ => rfl) (b_House___len__ c)
/-! House.all_parts -/
def n_House_all_parts : List Str := ["self"]
theorem sc_House_all_parts : FnScope n_House_all_parts ["self"] (defScope (meths 19 4)) := fnScopeBy (by decide +kernel)
def m_House_all_parts : MS := (mRet (mLst (aC (mAttr (mV 0) [(0, 2)]) (aC (mAttr (mV 0) [(0, 0)]) (aC (mAttr (mV 0) [(0, 1)]) a0)))))
def f_House_all_parts : Fn := fnM 1 1 m_House_all_parts
theorem b_House_all_parts {P : Program} {w : World} {K : PySem.W.Frag} {mg : Str → Option Value} {base : Heap} (c : Fx K mg) (cdv : Value) (A : Around) (outer : List Env) (s : Shared) (H : Hp) (E : XK) (hr : Room 0 (A.deeper (envOfC "House.all_parts" (defScope (meths 19 4)) s.heap.objs.size ((pM "House" "all_parts") K) cdv))) :
    SimSs (cxOf (L2.CX P w) P w K mg base n_House_all_parts "House.all_parts" (defScope (meths 19 4)) ((pM "House" "all_parts") K) cdv A outer s H E) ⟨P, w, K, cas K, E⟩ (defBody (meths 19 4)) m_House_all_parts := by
  have c1 : CF (cxOf (L2.CX P w) P w K mg base n_House_all_parts "House.all_parts" (defScope (meths 19 4)) ((pM "House" "all_parts") K) cdv A outer s H E) E 0 := ⟨rfl, hr, takes_of rfl rfl rfl rfl, sc_House_all_parts.nd⟩
  have po : PassesOwn (model P w) (cxOf (L2.CX P w) P w K mg base n_House_all_parts "House.all_parts" (defScope (meths 19 4)) ((pM "House" "all_parts") K) cdv A outer s H E).A (cxOf (L2.CX P w) P w K mg base n_House_all_parts "House.all_parts" (defScope (meths 19 4)) ((pM "House" "all_parts") K) cdv A outer s H E).env (cxOf (L2.CX P w) P w K mg base n_House_all_parts "House.all_parts" (defScope (meths 19 4)) ((pM "House" "all_parts") K) cdv A outer s H E).xe := passes_of rfl
  exact (sims_one (sims_ret (gLst (gA (gAtt (k := 0) c.s_House c.t_House_first (gV 0)) (gA (gAtt (k := 0) c.s_House c.t_House_copies (gV 0)) (gA (gAtt (k := 0) c.s_House c.t_House_costs (gV 0)) g0))))))
theorem k_House_all_parts {P : Program} {w : World} {K : PySem.W.Frag} {mg : Str → Option Value} {base : Heap} (c : Fx K mg) : FnW P w K mg base (cas K) 1 f_House_all_parts ((pM "House" "all_parts") K) := by
  obtain ⟨fd, F⟩ := c.d_House_all_parts
  exact fn_sim (ps := ["self"]) F sc_House_all_parts (F.bindsN fun _ _ _ _ _ _ us hl => match us, hl with | [_], _ => rfl) (b_House_all_parts c)
/-! House.__eq__ -/
def n_House___eq__ : List Str := ["self", "other"]
theorem sc_House___eq__ : FnScope n_House___eq__ ["self", "other"] (defScope (meths 19 3)) := fnScopeBy (by decide +kernel)
def m_House___eq__ : MS := (mRet (andM (mIsi (mV 1) (.own 0 [0])) (mCmp .Eq (mMet0 (tab1 f_House_all_parts) (mV 0) [(0, 0)]) (mMet0 (tab1 f_House_all_parts) (mV 1) [(0, 0)]))))
def f_House___eq__ : Fn := fnM 2 2 m_House___eq__
theorem b_House___eq__ {P : Program} {w : World} {K : PySem.W.Frag} {mg : Str → Option Value} {base : Heap} (c : Fx K mg) (cdv : Value) (A : Around) (outer : List Env) (s : Shared) (H : Hp) (E : XK) (hr : Room 1 (A.deeper (envOfC "House.__eq__" (defScope (meths 19 3)) s.heap.objs.size ((pM "House" "__eq__") K) cdv))) :
    SimSs (cxOf (L2.CX P w) P w K mg base n_House___eq__ "House.__eq__" (defScope (meths 19 3)) ((pM "House" "__eq__") K) cdv A outer s H E) ⟨P, w, K, cas K, E⟩ (defBody (meths 19 3)) m_House___eq__ := by
  have c1 : CF (cxOf (L2.CX P w) P w K mg base n_House___eq__ "House.__eq__" (defScope (meths 19 3)) ((pM "House" "__eq__") K) cdv A outer s H E) E 1 := ⟨rfl, hr, takes_of rfl rfl rfl rfl, sc_House___eq__.nd⟩
  have po : PassesOwn (model P w) (cxOf (L2.CX P w) P w K mg base n_House___eq__ "House.__eq__" (defScope (meths 19 3)) ((pM "House" "__eq__") K) cdv A outer s H E).A (cxOf (L2.CX P w) P w K mg base n_House___eq__ "House.__eq__" (defScope (meths 19 3)) ((pM "House" "__eq__") K) cdv A outer s H E).env (cxOf (L2.CX P w) P w K mg base n_House___eq__ "House.__eq__" (defScope (meths 19 3)) ((pM "House" "__eq__") K) cdv A outer s H E).xe := passes_of rfl
  exact (sims_one (sims_ret (sim_and (gIsiO c.b_isinstance ⟨(c.i_House).1, (c.i_House).2⟩ c.g_House (gV 1)) (sim_one (gCmp c1 (gMet0 (k := 0) c1 c.s_House c.m_House_all_parts (k_House_all_parts c) (gV 0)) (gMet0 (k := 0) c1 c.s_House c.m_House_all_parts (k_House_all_parts c) (gV 1)))))))
theorem k_House___eq__ {P : Program} {w : World} {K : PySem.W.Frag} {mg : Str → Option Value} {base : Heap} (c : Fx K mg) : FnW P w K mg base (cas K) 2 f_House___eq__ ((pM "House" "__eq__") K) := by
  obtain ⟨fd, F⟩ := c.d_House___eq__
  exact fn_sim (ps := ["self", "other"]) F sc_House___eq__ (F.bindsN fun _ _ _ _ _ _ us hl => match us, hl with | [_, _], _ => rfl) (b_House___eq__ c)
/-! _law_all_contents -/
def n__law_all_contents : List Str := ["_law_found", "_law_one", "_law_other"]
theorem sc__law_all_contents : FnScope n__law_all_contents [] (defScope (tops 54)) := fnScopeBy (by decide +kernel)
def m__law_all_contents : MS := (mSeq (mSet 0 (mLst a0))
  (mSeq (mFor (mtN 1) (miOf (mTup (aC (mC (.str "fresh")) (aC (mC (.str "stale")) a0)))) (mSet 0 (mBin .Add (mV 0) (mLc [2] (mtN 2) (miOf (mTup (aC (mC (.str "empty")) (aC (mC (.str "fresh")) (aC (mC (.str "stale")) a0))))) mYes (mTup (aC (mV 1) (aC (mV 2) a0)))))))
  (mRet (mV 0))))
def f__law_all_contents : Fn := fnM 0 3 m__law_all_contents
theorem b__law_all_contents {P : Program} {w : World} {K : PySem.W.Frag} {mg : Str → Option Value} {base : Heap} (c : Fx K mg) (cdv : Value) (A : Around) (outer : List Env) (s : Shared) (H : Hp) (E : XK) (hr : Room 0 (A.deeper (envOfC "_law_all_contents" (defScope (tops 54)) s.heap.objs.size ((pG "_law_all_contents") K) cdv))) :
    SimSs (cxOf (L2.CX P w) P w K mg base n__law_all_contents "_law_all_contents" (defScope (tops 54)) ((pG "_law_all_contents") K) cdv A outer s H E) ⟨P, w, K, cas K, E⟩ (defBody (tops 54)) m__law_all_contents := by
  have c1 : CF (cxOf (L2.CX P w) P w K mg base n__law_all_contents "_law_all_contents" (defScope (tops 54)) ((pG "_law_all_contents") K) cdv A outer s H E) E 0 := ⟨rfl, hr, takes_of rfl rfl rfl rfl, sc__law_all_contents.nd⟩
  have po : PassesOwn (model P w) (cxOf (L2.CX P w) P w K mg base n__law_all_contents "_law_all_contents" (defScope (tops 54)) ((pG "_law_all_contents") K) cdv A outer s H E).A (cxOf (L2.CX P w) P w K mg base n__law_all_contents "_law_all_contents" (defScope (tops 54)) ((pG "_law_all_contents") K) cdv A outer s H E).env (cxOf (L2.CX P w) P w K mg base n__law_all_contents "_law_all_contents" (defScope (tops 54)) ((pG "_law_all_contents") K) cdv A outer s H E).xe := passes_of rfl
  exact (sims_cons (xSet c1 0 (gLst g0))
  (sims_cons (xFor c1 po (simi_of (gTup (gA gS (gA gS g0)))) (uN c1 1) (sims_one (xSet c1 0 (gBin (gV 0) (gLc c1 [("_law_other", 2)] (simi_of (gTup (gA gS (gA gS (gA gS g0))))) (fun s1 H1 C1 l1 q1 => (uN (c1.blk s1 H1 _ _ q1) 2)) (fun s2 H2 C2 l2 q2 => simts_nil) (fun s3 H3 C3 l3 q3 => (gTup (gA (gV 1) (gA (gV 2) g0)))))))))
  (sims_one (sims_ret (gV 0)))))
theorem k__law_all_contents {P : Program} {w : World} {K : PySem.W.Frag} {mg : Str → Option Value} {base : Heap} (c : Fx K mg) : FnW P w K mg base (cas K) 1 f__law_all_contents ((pG "_law_all_contents") K) := by
  obtain ⟨fd, F⟩ := c.d__law_all_contents
  exact fn_sim (ps := []) F sc__law_all_contents (F.bindsN fun _ _ _ _ _ _ us hl => match us, hl with | [], _ => rfl) (b__law_all_contents c)
/-! _law_write -/
def n__law_write : List Str := ["_law_pair", "_law_word"]
theorem sc__law_write : FnScope n__law_write ["_law_pair", "_law_word"] (defScope (tops 55)) := fnScopeBy (by decide +kernel)
def m__law_write : MS := (mSeq (mIf (mCmp .Eq (mV 1) (mC (.str "both"))) (mRet (mTup (aC (mC (.str "fresh")) (aC (mC (.str "fresh")) a0)))) mNx)
  (mSeq (mIf (mCmp .Eq (mV 1) (mC (.str "old"))) (mRet (mTup (aC (mC (.str "fresh")) (aC (mIte (mCmp .Eq (mSub (mV 0) (mC (.int 1))) (mC (.str "fresh"))) (mC (.str "stale")) (mSub (mV 0) (mC (.int 1)))) a0)))) mNx)
  (mRet (mTup (aC (mC (.str "stale")) (aC (mC (.str "fresh")) a0))))))
def f__law_write : Fn := fnM 2 2 m__law_write
theorem b__law_write {P : Program} {w : World} {K : PySem.W.Frag} {mg : Str → Option Value} {base : Heap} (c : Fx K mg) (cdv : Value) (A : Around) (outer : List Env) (s : Shared) (H : Hp) (E : XK) (hr : Room 0 (A.deeper (envOfC "_law_write" (defScope (tops 55)) s.heap.objs.size ((pG "_law_write") K) cdv))) :
    SimSs (cxOf (L2.CX P w) P w K mg base n__law_write "_law_write" (defScope (tops 55)) ((pG "_law_write") K) cdv A outer s H E) ⟨P, w, K, cas K, E⟩ (defBody (tops 55)) m__law_write := by
  have c1 : CF (cxOf (L2.CX P w) P w K mg base n__law_write "_law_write" (defScope (tops 55)) ((pG "_law_write") K) cdv A outer s H E) E 0 := ⟨rfl, hr, takes_of rfl rfl rfl rfl, sc__law_write.nd⟩
  have po : PassesOwn (model P w) (cxOf (L2.CX P w) P w K mg base n__law_write "_law_write" (defScope (tops 55)) ((pG "_law_write") K) cdv A outer s H E).A (cxOf (L2.CX P w) P w K mg base n__law_write "_law_write" (defScope (tops 55)) ((pG "_law_write") K) cdv A outer s H E).env (cxOf (L2.CX P w) P w K mg base n__law_write "_law_write" (defScope (tops 55)) ((pG "_law_write") K) cdv A outer s H E).xe := passes_of rfl
  exact (sims_cons (sims_if (tCmp c1 (gV 1) gS) (sims_one (sims_ret (gTup (gA gS (gA gS g0))))) sims_nil)
  (sims_cons (sims_if (tCmp c1 (gV 1) gS) (sims_one (sims_ret (gTup (gA gS (gA (gIte (tCmp c1 (gSub c1 (gV 0) gI) gS) gS (gSub c1 (gV 0) gI)) g0))))) sims_nil)
  (sims_one (sims_ret (gTup (gA gS (gA gS g0)))))))
theorem k__law_write {P : Program} {w : World} {K : PySem.W.Frag} {mg : Str → Option Value} {base : Heap} (c : Fx K mg) : FnW P w K mg base (cas K) 1 f__law_write ((pG "_law_write") K) := by
  obtain ⟨fd, F⟩ := c.d__law_write
  exact fn_sim (ps := ["_law_pair", "_law_word"]) F sc__law_write (F.bindsN fun _ _ _ _ _ _ us hl => match us, hl with | [_, _], _ => rfl) (b__law_write c)
/-! _law_more -/
def n__law_more : List Str := ["_law_line", "_law_some", "_law_found", "_law_mode_here", "_law_pair"]
theorem sc__law_more : FnScope n__law_more ["_law_line", "_law_some"] (defScope (tops 57)) := fnScopeBy (by decide +kernel)
def m__law_more : MS := (mSeq (mSet 2 (mB1 (g1 (b1A .list)) (mV 1)))
  (mSeq (mFor (mtN 3) (miOf (mV 0)) (mSet 2 (mBin .Add (mV 2) (mLc [4] (mtN 4) (miOf (mV 1)) mYes (mCall f__law_write (aC (mV 4) (aC (mSub (mV 3) (mC (.int 1))) a0)))))))
  (mRet (mB1 (g1 ssetA) (mV 2)))))
def f__law_more : Fn := fnM 2 5 m__law_more
theorem b__law_more {P : Program} {w : World} {K : PySem.W.Frag} {mg : Str → Option Value} {base : Heap} (c : Fx K mg) (cdv : Value) (A : Around) (outer : List Env) (s : Shared) (H : Hp) (E : XK) (hr : Room 1 (A.deeper (envOfC "_law_more" (defScope (tops 57)) s.heap.objs.size ((pG "_law_more") K) cdv))) :
    SimSs (cxOf (L2.CX P w) P w K mg base n__law_more "_law_more" (defScope (tops 57)) ((pG "_law_more") K) cdv A outer s H E) ⟨P, w, K, cas K, E⟩ (defBody (tops 57)) m__law_more := by
  have c1 : CF (cxOf (L2.CX P w) P w K mg base n__law_more "_law_more" (defScope (tops 57)) ((pG "_law_more") K) cdv A outer s H E) E 1 := ⟨rfl, hr, takes_of rfl rfl rfl rfl, sc__law_more.nd⟩
  have po : PassesOwn (model P w) (cxOf (L2.CX P w) P w K mg base n__law_more "_law_more" (defScope (tops 57)) ((pG "_law_more") K) cdv A outer s H E).A (cxOf (L2.CX P w) P w K mg base n__law_more "_law_more" (defScope (tops 57)) ((pG "_law_more") K) cdv A outer s H E).env (cxOf (L2.CX P w) P w K mg base n__law_more "_law_more" (defScope (tops 57)) ((pG "_law_more") K) cdv A outer s H E).xe := passes_of rfl
  exact (sims_cons (xSet c1 2 (gList c1 c.b_list (gV 1)))
  (sims_cons (xFor c1 po (simi_of (gV 0)) (uN c1 3) (sims_one (xSet c1 2 (gBin (gV 2) (gLc c1 [("_law_pair", 4)] (simi_of (gV 1)) (fun s1 H1 C1 l1 q1 => (uN (c1.blk s1 H1 _ _ q1) 4)) (fun s2 H2 C2 l2 q2 => simts_nil) (fun s3 H3 C3 l3 q3 => (gCall (c1.blk s3 H3 _ _ q3) c.g__law_write c.h__law_write (k__law_write c) (gA (gV 4) (gA (gSub (c1.blk s3 H3 _ _ q3) (gV 3) gI) g0)))))))))
  (sims_one (sims_ret (gSset c1 c.b_sorted c.b_set (gV 2))))))
theorem k__law_more {P : Program} {w : World} {K : PySem.W.Frag} {mg : Str → Option Value} {base : Heap} (c : Fx K mg) : FnW P w K mg base (cas K) 2 f__law_more ((pG "_law_more") K) := by
  obtain ⟨fd, F⟩ := c.d__law_more
  exact fn_sim (ps := ["_law_line", "_law_some"]) F sc__law_more (F.bindsN fun _ _ _ _ _ _ us hl => match us, hl with | [_, _], _ => rfl) (b__law_more c)
/-! _law_grown -/
def n__law_grown : List Str := ["_law_line", "_law_some", "_law_found", "_law_before"]
theorem sc__law_grown : FnScope n__law_grown ["_law_line", "_law_some"] (defScope (tops 56)) := fnScopeBy (by decide +kernel)
def m__law_grown : MS := (mSeq (mPar 2 3 (mB1 (g1 ssetA) (mV 1)) (mLst a0))
  (mSeq (mWhl (mCmp .NotEq (mV 2) (mV 3)) (mSeq (mSet 3 (mV 2))
  (mSet 2 (mCall f__law_more (aC (mV 0) (aC (mV 2) a0))))))
  (mRet (mB1 (g1 (b1A .tuple)) (mV 2)))))
def f__law_grown : Fn := fnM 2 4 m__law_grown
theorem b__law_grown {P : Program} {w : World} {K : PySem.W.Frag} {mg : Str → Option Value} {base : Heap} (c : Fx K mg) (cdv : Value) (A : Around) (outer : List Env) (s : Shared) (H : Hp) (E : XK) (hr : Room 2 (A.deeper (envOfC "_law_grown" (defScope (tops 56)) s.heap.objs.size ((pG "_law_grown") K) cdv))) :
    SimSs (cxOf (L2.CX P w) P w K mg base n__law_grown "_law_grown" (defScope (tops 56)) ((pG "_law_grown") K) cdv A outer s H E) ⟨P, w, K, cas K, E⟩ (defBody (tops 56)) m__law_grown := by
  have c1 : CF (cxOf (L2.CX P w) P w K mg base n__law_grown "_law_grown" (defScope (tops 56)) ((pG "_law_grown") K) cdv A outer s H E) E 2 := ⟨rfl, hr, takes_of rfl rfl rfl rfl, sc__law_grown.nd⟩
  have po : PassesOwn (model P w) (cxOf (L2.CX P w) P w K mg base n__law_grown "_law_grown" (defScope (tops 56)) ((pG "_law_grown") K) cdv A outer s H E).A (cxOf (L2.CX P w) P w K mg base n__law_grown "_law_grown" (defScope (tops 56)) ((pG "_law_grown") K) cdv A outer s H E).env (cxOf (L2.CX P w) P w K mg base n__law_grown "_law_grown" (defScope (tops 56)) ((pG "_law_grown") K) cdv A outer s H E).xe := passes_of rfl
  exact (sims_cons (xPar c1 2 3 (gSset c1 c.b_sorted c.b_set (gV 1)) (gLst g0))
  (sims_cons (sims_whl po (tCmp c1 (gV 2) (gV 3)) (sims_cons (xSet c1 3 (gV 2))
  (sims_one (xSet c1 2 (gCall c1 c.g__law_more c.h__law_more (k__law_more c) (gA (gV 0) (gA (gV 2) g0)))))))
  (sims_one (sims_ret (gTuple c.b_tuple (gV 2))))))
theorem k__law_grown {P : Program} {w : World} {K : PySem.W.Frag} {mg : Str → Option Value} {base : Heap} (c : Fx K mg) : FnW P w K mg base (cas K) 3 f__law_grown ((pG "_law_grown") K) := by
  obtain ⟨fd, F⟩ := c.d__law_grown
  exact fn_sim (ps := ["_law_line", "_law_some"]) F sc__law_grown (F.bindsN fun _ _ _ _ _ _ us hl => match us, hl with | [_, _], _ => rfl) (b__law_grown c)
/-! check_house -/
def n_check_house : List Str := ["house"]
theorem sc_check_house : FnScope n_check_house ["house"] (defScope (tops 20)) := fnScopeBy (by decide +kernel)
def m_check_house : MS := (mIf (mNot (mIsi (mV 0) (.own 0 [0]))) mNever mNx)
def f_check_house : Fn := fnM 1 1 m_check_house
theorem b_check_house {P : Program} {w : World} {K : PySem.W.Frag} {mg : Str → Option Value} {base : Heap} (c : Fx K mg) (cdv : Value) (A : Around) (outer : List Env) (s : Shared) (H : Hp) (E : XK) (hr : Room 0 (A.deeper (envOfC "check_house" (defScope (tops 20)) s.heap.objs.size ((pG "check_house") K) cdv))) :
    SimSs (cxOf (L2.CX P w) P w K mg base n_check_house "check_house" (defScope (tops 20)) ((pG "check_house") K) cdv A outer s H E) ⟨P, w, K, cas K, E⟩ (defBody (tops 20)) m_check_house := by
  have c1 : CF (cxOf (L2.CX P w) P w K mg base n_check_house "check_house" (defScope (tops 20)) ((pG "check_house") K) cdv A outer s H E) E 0 := ⟨rfl, hr, takes_of rfl rfl rfl rfl, sc_check_house.nd⟩
  have po : PassesOwn (model P w) (cxOf (L2.CX P w) P w K mg base n_check_house "check_house" (defScope (tops 20)) ((pG "check_house") K) cdv A outer s H E).A (cxOf (L2.CX P w) P w K mg base n_check_house "check_house" (defScope (tops 20)) ((pG "check_house") K) cdv A outer s H E).env (cxOf (L2.CX P w) P w K mg base n_check_house "check_house" (defScope (tops 20)) ((pG "check_house") K) cdv A outer s H E).xe := passes_of rfl
  exact (sims_one (sims_if (tNot (tV (gIsiO c.b_isinstance ⟨(c.i_House).1, (c.i_House).2⟩ c.g_House (gV 0)))) (sims_one sims_never) sims_nil))
theorem k_check_house {P : Program} {w : World} {K : PySem.W.Frag} {mg : Str → Option Value} {base : Heap} (c : Fx K mg) : FnW P w K mg base (cas K) 1 f_check_house ((pG "check_house") K) := by
  obtain ⟨fd, F⟩ := c.d_check_house
  exact fn_sim (ps := ["house"]) F sc_check_house (F.bindsN fun _ _ _ _ _ _ us hl => match us, hl with | [_], _ => rfl) (b_check_house c)
/-! check_modes -/
def n_check_modes : List Str := ["house", "modes"]
theorem sc_check_modes : FnScope n_check_modes ["house", "modes"] (defScope (tops 21)) := fnScopeBy (by decide +kernel)
def m_check_modes : MS := (mSeq (mEx (mCall (pureX f_check_house) (aC (mV 0) a0)))
  (mIf (mNot (mCall (pureX f_are_modes) (aC (mV 1) (aC (mLenO (tab1 f_House___len__) (mV 0) [(0, 0)]) a0)))) mNever mNx))
def f_check_modes : Fn := fnM 2 2 m_check_modes
theorem b_check_modes {P : Program} {w : World} {K : PySem.W.Frag} {mg : Str → Option Value} {base : Heap} (c : Fx K mg) (cdv : Value) (A : Around) (outer : List Env) (s : Shared) (H : Hp) (E : XK) (hr : Room 2 (A.deeper (envOfC "check_modes" (defScope (tops 21)) s.heap.objs.size ((pG "check_modes") K) cdv))) :
    SimSs (cxOf (L2.CX P w) P w K mg base n_check_modes "check_modes" (defScope (tops 21)) ((pG "check_modes") K) cdv A outer s H E) ⟨P, w, K, cas K, E⟩ (defBody (tops 21)) m_check_modes := by
  have c1 : CF (cxOf (L2.CX P w) P w K mg base n_check_modes "check_modes" (defScope (tops 21)) ((pG "check_modes") K) cdv A outer s H E) E 2 := ⟨rfl, hr, takes_of rfl rfl rfl rfl, sc_check_modes.nd⟩
  have po : PassesOwn (model P w) (cxOf (L2.CX P w) P w K mg base n_check_modes "check_modes" (defScope (tops 21)) ((pG "check_modes") K) cdv A outer s H E).A (cxOf (L2.CX P w) P w K mg base n_check_modes "check_modes" (defScope (tops 21)) ((pG "check_modes") K) cdv A outer s H E).env (cxOf (L2.CX P w) P w K mg base n_check_modes "check_modes" (defScope (tops 21)) ((pG "check_modes") K) cdv A outer s H E).xe := passes_of rfl
  exact (sims_cons (xEx (gCall c1 c.g_check_house c.h_check_house (k_check_house c).pureX (gA (gV 0) g0)))
  (sims_one (sims_if (tNot (tV (gCall c1 c.g_are_modes c.h_are_modes (k_are_modes c).pureX (gA (gV 1) (gA (gLenO (k := 0) c1 c.b_len c.s_House c.m_House___len__ (k_House___len__ c) (gV 0)) g0))))) (sims_one sims_never) sims_nil)))
theorem k_check_modes {P : Program} {w : World} {K : PySem.W.Frag} {mg : Str → Option Value} {base : Heap} (c : Fx K mg) : FnW P w K mg base (cas K) 3 f_check_modes ((pG "check_modes") K) := by
  obtain ⟨fd, F⟩ := c.d_check_modes
  exact fn_sim (ps := ["house", "modes"]) F sc_check_modes (F.bindsN fun _ _ _ _ _ _ us hl => match us, hl with | [_, _], _ => rfl) (b_check_modes c)
/-! is_view -/
def n_is_view : List Str := ["value", "one", "word", "other"]
theorem sc_is_view : FnScope n_is_view ["value"] (defScope (tops 40)) := fnScopeBy (by decide +kernel)
def m_is_view : MS := (mSeq (mIf (orM (mNot (mIsi (mV 0) (.ty .tuple))) (orM (mCmp .Eq (mV 0) (mTup a0)) (mNot (mB1 (g1 (b1A .all)) (mLc [1] (mtN 1) (miOf (mV 0)) mYes (mIsi (mV 1) (.ty .tuple))))))) (mRet (mC (.bl false))) mNx)
  (mSeq (mIf (mNot (mB1 (g1 (b1A .all)) (mLc2 [1, 2] [2] (mtN 1) (miOf (mV 0)) (miOf (mV 1)) (mtN 2) mYes (mIsi (mV 2) (.ty .str))))) (mRet (mC (.bl false))) mNx)
  (mRet (andM (mB1 (g1 (b1A .all)) (mLc [1] (mtN 1) (miOf (mV 0)) mYes (mCmp .In (mV 1) (mC v_CONTENTS)))) (mB1 (g1 (b1A .all)) (mLc [1, 3] (mtT (mtC (mtN 1) (mtC (mtN 3) mt0))) (miZp (mV 0) (mSl (mV 0) (oS (mC (.int 1))) oN)) mYes (mCmp .Lt (mV 1) (mV 3))))))))
def f_is_view : Fn := fnM 1 4 m_is_view
theorem b_is_view {P : Program} {w : World} {K : PySem.W.Frag} {mg : Str → Option Value} {base : Heap} (c : Fx K mg) (cdv : Value) (A : Around) (outer : List Env) (s : Shared) (H : Hp) (E : XK) (hr : Room 0 (A.deeper (envOfC "is_view" (defScope (tops 40)) s.heap.objs.size ((pG "is_view") K) cdv))) :
    SimSs (cxOf (L2.CX P w) P w K mg base n_is_view "is_view" (defScope (tops 40)) ((pG "is_view") K) cdv A outer s H E) ⟨P, w, K, cas K, E⟩ (defBody (tops 40)) m_is_view := by
  have c1 : CF (cxOf (L2.CX P w) P w K mg base n_is_view "is_view" (defScope (tops 40)) ((pG "is_view") K) cdv A outer s H E) E 0 := ⟨rfl, hr, takes_of rfl rfl rfl rfl, sc_is_view.nd⟩
  have po : PassesOwn (model P w) (cxOf (L2.CX P w) P w K mg base n_is_view "is_view" (defScope (tops 40)) ((pG "is_view") K) cdv A outer s H E).A (cxOf (L2.CX P w) P w K mg base n_is_view "is_view" (defScope (tops 40)) ((pG "is_view") K) cdv A outer s H E).env (cxOf (L2.CX P w) P w K mg base n_is_view "is_view" (defScope (tops 40)) ((pG "is_view") K) cdv A outer s H E).xe := passes_of rfl
  exact (sims_cons (sims_if (tOr (tNot (tV (gIsi1 .tuple c.b_isinstance c.b_tuple bt_tuple (gV 0)))) (simw_or (tCmp c1 (gV 0) (gTup g0)) (simw_one (tNot (tV (gAll c1 c.b_all (gLc c1 [("one", 1)] (simi_of (gV 0)) (fun s1 H1 C1 l1 q1 => (uN (c1.blk s1 H1 _ _ q1) 1)) (fun s2 H2 C2 l2 q2 => simts_nil) (fun s3 H3 C3 l3 q3 => (gIsi1 .tuple c.b_isinstance c.b_tuple bt_tuple (gV 1)))))))))) (sims_one (sims_ret gB)) sims_nil)
  (sims_cons (sims_if (tNot (tV (gAll c1 c.b_all (gLc2 c1 [("one", 1), ("word", 2)] [2] (simi_of (gV 0)) (fun s4 H4 C4 l4 q4 => (uN (c1.blk s4 H4 _ _ q4) 1)) (fun s5 H5 C5 l5 q5 => (simi_of (gV 1))) (fun s6 H6 C6 l6 q6 => (uN (c1.blk s6 H6 _ _ q6) 2)) (fun s7 H7 C7 l7 q7 => simts_nil) (fun s8 H8 C8 l8 q8 => (gIsi1 .str c.b_isinstance c.b_str bt_str (gV 2))))))) (sims_one (sims_ret gB)) sims_nil)
  (sims_one (sims_ret (sim_and (gAll c1 c.b_all (gLc c1 [("one", 1)] (simi_of (gV 0)) (fun s9 H9 C9 l9 q9 => (uN (c1.blk s9 H9 _ _ q9) 1)) (fun s10 H10 C10 l10 q10 => simts_nil) (fun s11 H11 C11 l11 q11 => (gCmp (c1.blk s11 H11 _ _ q11) (gV 1) (gG c.v_CONTENTS))))) (sim_one (gAll c1 c.b_all (gLc c1 [("one", 1), ("other", 3)] (iZp c.b_zip (gV 0) (gSl (gV 0) (goS gI) goN)) (fun s12 H12 C12 l12 q12 => (uT (c1.blk s12 H12 _ _ q12) (uC (uN (c1.blk s12 H12 _ _ q12) 1) (uC (uN (c1.blk s12 H12 _ _ q12) 3) u0)) (mtC_len (mtC_len mt0_len)))) (fun s13 H13 C13 l13 q13 => simts_nil) (fun s14 H14 C14 l14 q14 => (gCmp (c1.blk s14 H14 _ _ q14) (gV 1) (gV 3)))))))))))
theorem k_is_view {P : Program} {w : World} {K : PySem.W.Frag} {mg : Str → Option Value} {base : Heap} (c : Fx K mg) : FnW P w K mg base (cas K) 1 f_is_view ((pG "is_view") K) := by
  obtain ⟨fd, F⟩ := c.d_is_view
  exact fn_sim (ps := ["value"]) F sc_is_view (F.bindsN fun _ _ _ _ _ _ us hl => match us, hl with | [_], _ => rfl) (b_is_view c)
/-! check_view -/
def n_check_view : List Str := ["house", "modes", "view"]
theorem sc_check_view : FnScope n_check_view ["house", "modes", "view"] (defScope (tops 41)) := fnScopeBy (by decide +kernel)
def m_check_view : MS := (mSeq (mEx (mCall (pureX f_check_modes) (aC (mV 0) (aC (mV 1) a0))))
  (mIf (mNot (mCall (pureX f_is_view) (aC (mV 2) a0))) mNever mNx))
def f_check_view : Fn := fnM 3 3 m_check_view
theorem b_check_view {P : Program} {w : World} {K : PySem.W.Frag} {mg : Str → Option Value} {base : Heap} (c : Fx K mg) (cdv : Value) (A : Around) (outer : List Env) (s : Shared) (H : Hp) (E : XK) (hr : Room 3 (A.deeper (envOfC "check_view" (defScope (tops 41)) s.heap.objs.size ((pG "check_view") K) cdv))) :
    SimSs (cxOf (L2.CX P w) P w K mg base n_check_view "check_view" (defScope (tops 41)) ((pG "check_view") K) cdv A outer s H E) ⟨P, w, K, cas K, E⟩ (defBody (tops 41)) m_check_view := by
  have c1 : CF (cxOf (L2.CX P w) P w K mg base n_check_view "check_view" (defScope (tops 41)) ((pG "check_view") K) cdv A outer s H E) E 3 := ⟨rfl, hr, takes_of rfl rfl rfl rfl, sc_check_view.nd⟩
  have po : PassesOwn (model P w) (cxOf (L2.CX P w) P w K mg base n_check_view "check_view" (defScope (tops 41)) ((pG "check_view") K) cdv A outer s H E).A (cxOf (L2.CX P w) P w K mg base n_check_view "check_view" (defScope (tops 41)) ((pG "check_view") K) cdv A outer s H E).env (cxOf (L2.CX P w) P w K mg base n_check_view "check_view" (defScope (tops 41)) ((pG "check_view") K) cdv A outer s H E).xe := passes_of rfl
  exact (sims_cons (xEx (gCall c1 c.g_check_modes c.h_check_modes (k_check_modes c).pureX (gA (gV 0) (gA (gV 1) g0))))
  (sims_one (sims_if (tNot (tV (gCall c1 c.g_is_view c.h_is_view (k_is_view c).pureX (gA (gV 2) g0)))) (sims_one sims_never) sims_nil)))
theorem k_check_view {P : Program} {w : World} {K : PySem.W.Frag} {mg : Str → Option Value} {base : Heap} (c : Fx K mg) : FnW P w K mg base (cas K) 4 f_check_view ((pG "check_view") K) := by
  obtain ⟨fd, F⟩ := c.d_check_view
  exact fn_sim (ps := ["house", "modes", "view"]) F sc_check_view (F.bindsN fun _ _ _ _ _ _ us hl => match us, hl with | [_, _, _], _ => rfl) (b_check_view c)
/-! aged -/
def n_aged : List Str := ["word"]
theorem sc_aged : FnScope n_aged ["word"] (defScope (tops 30)) := fnScopeBy (by decide +kernel)
def m_aged : MS := (mRet (mIte (mCmp .Eq (mV 0) (mC v_FRESH)) (mC v_STALE) (mV 0)))
def f_aged : Fn := fnM 1 1 m_aged
theorem b_aged {P : Program} {w : World} {K : PySem.W.Frag} {mg : Str → Option Value} {base : Heap} (c : Fx K mg) (cdv : Value) (A : Around) (outer : List Env) (s : Shared) (H : Hp) (E : XK) (hr : Room 0 (A.deeper (envOfC "aged" (defScope (tops 30)) s.heap.objs.size ((pG "aged") K) cdv))) :
    SimSs (cxOf (L2.CX P w) P w K mg base n_aged "aged" (defScope (tops 30)) ((pG "aged") K) cdv A outer s H E) ⟨P, w, K, cas K, E⟩ (defBody (tops 30)) m_aged := by
  have c1 : CF (cxOf (L2.CX P w) P w K mg base n_aged "aged" (defScope (tops 30)) ((pG "aged") K) cdv A outer s H E) E 0 := ⟨rfl, hr, takes_of rfl rfl rfl rfl, sc_aged.nd⟩
  have po : PassesOwn (model P w) (cxOf (L2.CX P w) P w K mg base n_aged "aged" (defScope (tops 30)) ((pG "aged") K) cdv A outer s H E).A (cxOf (L2.CX P w) P w K mg base n_aged "aged" (defScope (tops 30)) ((pG "aged") K) cdv A outer s H E).env (cxOf (L2.CX P w) P w K mg base n_aged "aged" (defScope (tops 30)) ((pG "aged") K) cdv A outer s H E).xe := passes_of rfl
  exact (sims_one (sims_ret (gIte (tCmp c1 (gV 0) (gG c.v_FRESH)) (gG c.v_STALE) (gV 0))))
theorem k_aged {P : Program} {w : World} {K : PySem.W.Frag} {mg : Str → Option Value} {base : Heap} (c : Fx K mg) : FnW P w K mg base (cas K) 1 f_aged ((pG "aged") K) := by
  obtain ⟨fd, F⟩ := c.d_aged
  exact fn_sim (ps := ["word"]) F sc_aged (F.bindsN fun _ _ _ _ _ _ us hl => match us, hl with | [_], _ => rfl) (b_aged c)
/-! written -/
def n_written : List Str := ["contents", "writes", "old", "new"]
theorem sc_written : FnScope n_written ["contents", "writes"] (defScope (tops 31)) := fnScopeBy (by decide +kernel)
def m_written : MS := (mSeq (mAs (mtT (mtC (mtN 2) (mtC (mtN 3) mt0))) (mV 0))
  (mSeq (mIf (mCmp .Eq (mV 1) (mC v_BOTH)) (mRet (mTup (aC (mC v_FRESH) (aC (mC v_FRESH) a0)))) mNx)
  (mRet (mIte (mCmp .Eq (mV 1) (mC v_OLD)) (mTup (aC (mC v_FRESH) (aC (mCall f_aged (aC (mV 3) a0)) a0))) (mTup (aC (mC v_STALE) (aC (mC v_FRESH) a0)))))))
def f_written : Fn := fnM 2 4 m_written
theorem b_written {P : Program} {w : World} {K : PySem.W.Frag} {mg : Str → Option Value} {base : Heap} (c : Fx K mg) (cdv : Value) (A : Around) (outer : List Env) (s : Shared) (H : Hp) (E : XK) (hr : Room 1 (A.deeper (envOfC "written" (defScope (tops 31)) s.heap.objs.size ((pG "written") K) cdv))) :
    SimSs (cxOf (L2.CX P w) P w K mg base n_written "written" (defScope (tops 31)) ((pG "written") K) cdv A outer s H E) ⟨P, w, K, cas K, E⟩ (defBody (tops 31)) m_written := by
  have c1 : CF (cxOf (L2.CX P w) P w K mg base n_written "written" (defScope (tops 31)) ((pG "written") K) cdv A outer s H E) E 1 := ⟨rfl, hr, takes_of rfl rfl rfl rfl, sc_written.nd⟩
  have po : PassesOwn (model P w) (cxOf (L2.CX P w) P w K mg base n_written "written" (defScope (tops 31)) ((pG "written") K) cdv A outer s H E).A (cxOf (L2.CX P w) P w K mg base n_written "written" (defScope (tops 31)) ((pG "written") K) cdv A outer s H E).env (cxOf (L2.CX P w) P w K mg base n_written "written" (defScope (tops 31)) ((pG "written") K) cdv A outer s H E).xe := passes_of rfl
  exact (sims_cons (xAs (gV 0) (uT c1 (uC (uN c1 2) (uC (uN c1 3) u0)) (mtC_len (mtC_len mt0_len))))
  (sims_cons (sims_if (tCmp c1 (gV 1) (gG c.v_BOTH)) (sims_one (sims_ret (gTup (gA (gG c.v_FRESH) (gA (gG c.v_FRESH) g0))))) sims_nil)
  (sims_one (sims_ret (gIte (tCmp c1 (gV 1) (gG c.v_OLD)) (gTup (gA (gG c.v_FRESH) (gA (gCall c1 c.g_aged c.h_aged (k_aged c) (gA (gV 3) g0)) g0))) (gTup (gA (gG c.v_STALE) (gA (gG c.v_FRESH) g0))))))))
theorem k_written {P : Program} {w : World} {K : PySem.W.Frag} {mg : Str → Option Value} {base : Heap} (c : Fx K mg) : FnW P w K mg base (cas K) 2 f_written ((pG "written") K) := by
  obtain ⟨fd, F⟩ := c.d_written
  exact fn_sim (ps := ["contents", "writes"]) F sc_written (F.bindsN fun _ _ _ _ _ _ us hl => match us, hl with | [_, _], _ => rfl) (b_written c)
/-! view_of -/
def n_view_of : List Str := ["some", "contents"]
theorem sc_view_of : FnScope n_view_of ["some"] (defScope (tops 32)) := fnScopeBy (by decide +kernel)
def m_view_of : MS := (mRet (mB1 (g1 (b1A .tuple)) (mB1 (g1 (b1A .sorted)) (mDc [1] (mtN 1) (miK 0) (mV 1) (mC (.bl true))))))
def f_view_of : Fn := fnM 1 2 m_view_of
theorem b_view_of {P : Program} {w : World} {K : PySem.W.Frag} {mg : Str → Option Value} {base : Heap} (c : Fx K mg) (cdv : Value) (A : Around) (outer : List Env) (s : Shared) (H : Hp) (E : XK) (hr : Room 0 (A.deeper (envOfC "view_of" (defScope (tops 32)) s.heap.objs.size ((pG "view_of") K) cdv))) :
    SimSs (cxOf (L2.CX P w) P w K mg base n_view_of "view_of" (defScope (tops 32)) ((pG "view_of") K) cdv A outer s H E) ⟨P, w, K, cas K, E⟩ (defBody (tops 32)) m_view_of := by
  have c1 : CF (cxOf (L2.CX P w) P w K mg base n_view_of "view_of" (defScope (tops 32)) ((pG "view_of") K) cdv A outer s H E) E 0 := ⟨rfl, hr, takes_of rfl rfl rfl rfl, sc_view_of.nd⟩
  have po : PassesOwn (model P w) (cxOf (L2.CX P w) P w K mg base n_view_of "view_of" (defScope (tops 32)) ((pG "view_of") K) cdv A outer s H E).A (cxOf (L2.CX P w) P w K mg base n_view_of "view_of" (defScope (tops 32)) ((pG "view_of") K) cdv A outer s H E).env (cxOf (L2.CX P w) P w K mg base n_view_of "view_of" (defScope (tops 32)) ((pG "view_of") K) cdv A outer s H E).xe := passes_of rfl
  exact (sims_one (sims_ret (gTuple c.b_tuple (gSorted c1 c.b_sorted (gDcK c1 [("contents", 1)] 0 (fun s1 H1 C1 l1 q1 => (uN (c1.blk s1 H1 _ _ q1) 1)) (fun s2 H2 C2 l2 q2 => (gV 1)) (fun s3 H3 C3 l3 q3 => gB))))))
theorem k_view_of {P : Program} {w : World} {K : PySem.W.Frag} {mg : Str → Option Value} {base : Heap} (c : Fx K mg) : FnW P w K mg base (cas K) 1 f_view_of ((pG "view_of") K) := by
  obtain ⟨fd, F⟩ := c.d_view_of
  exact fn_sim (ps := ["some"]) F sc_view_of (F.bindsN fun _ _ _ _ _ _ us hl => match us, hl with | [_], _ => rfl) (b_view_of c)
/-! grown -/
def n_grown : List Str := ["modes", "some", "known", "waiting", "contents", "reads", "writes", "later"]
theorem sc_grown : FnScope n_grown ["modes", "some"] (defScope (tops 33)) := fnScopeBy (by decide +kernel)
def m_grown : MS := (mSeq (mSet 2 (mDc [4] (mtN 4) (miK 1) (mV 4) (mC (.bl true))))
  (mSeq (mSet 3 (mB1 (g1 (b1A .list)) (mV 2)))
  (mSeq (mWhl (mCmp .NotEq (mV 3) (mLst a0)) (mSeq (mSet 4 (mBm0 .pop (mV 3)))
  (mFor (mtT (mtC (mtN 5) (mtC (mtN 6) mt0))) (miOf (mV 0)) (mSeq (mSet 7 (mCall f_written (aC (mV 4) (aC (mV 6) a0))))
  (mIf (mCmp .NotIn (mV 7) (mV 2)) (mSeq (mPut (mV 2) (mV 7) (mC (.bl true)))
  (mEx (mBm .append (mV 3) (aC (mV 7) a0)))) mNx)))))
  (mRet (mCall f_view_of (aC (mV 2) a0))))))
def f_grown : Fn := fnM 2 8 m_grown
theorem b_grown {P : Program} {w : World} {K : PySem.W.Frag} {mg : Str → Option Value} {base : Heap} (c : Fx K mg) (cdv : Value) (A : Around) (outer : List Env) (s : Shared) (H : Hp) (E : XK) (hr : Room 2 (A.deeper (envOfC "grown" (defScope (tops 33)) s.heap.objs.size ((pG "grown") K) cdv))) :
    SimSs (cxOf (L2.CX P w) P w K mg base n_grown "grown" (defScope (tops 33)) ((pG "grown") K) cdv A outer s H E) ⟨P, w, K, cas K, E⟩ (defBody (tops 33)) m_grown := by
  have c1 : CF (cxOf (L2.CX P w) P w K mg base n_grown "grown" (defScope (tops 33)) ((pG "grown") K) cdv A outer s H E) E 2 := ⟨rfl, hr, takes_of rfl rfl rfl rfl, sc_grown.nd⟩
  have po : PassesOwn (model P w) (cxOf (L2.CX P w) P w K mg base n_grown "grown" (defScope (tops 33)) ((pG "grown") K) cdv A outer s H E).A (cxOf (L2.CX P w) P w K mg base n_grown "grown" (defScope (tops 33)) ((pG "grown") K) cdv A outer s H E).env (cxOf (L2.CX P w) P w K mg base n_grown "grown" (defScope (tops 33)) ((pG "grown") K) cdv A outer s H E).xe := passes_of rfl
  exact (sims_cons (xDcK c1 2 [("contents", 4)] 1 (fun s1 H1 C1 l1 q1 => (uN (c1.blk s1 H1 _ _ q1) 4)) (fun s2 H2 C2 l2 q2 => (gV 4)) (fun s3 H3 C3 l3 q3 => gB))
  (sims_cons (xSet c1 3 (gList c1 c.b_list (gV 2)))
  (sims_cons (sims_whl po (tCmp c1 (gV 3) (gLst g0)) (sims_cons (xSet c1 4 (gPop (gV 3)))
  (sims_one (xFor c1 po (simi_of (gV 0)) (uT c1 (uC (uN c1 5) (uC (uN c1 6) u0)) (mtC_len (mtC_len mt0_len))) (sims_cons (xSet c1 7 (gCall c1 c.g_written c.h_written (k_written c) (gA (gV 4) (gA (gV 6) g0))))
  (sims_one (sims_if (tCmp c1 (gV 7) (gV 2)) (sims_cons (xPut c1 (gV 2) (gV 7) gB)
  (sims_one (xEx (gApp (gV 3) (gV 7))))) sims_nil)))))))
  (sims_one (sims_ret (gCall c1 c.g_view_of c.h_view_of (k_view_of c) (gA (gV 2) g0)))))))
theorem k_grown {P : Program} {w : World} {K : PySem.W.Frag} {mg : Str → Option Value} {base : Heap} (c : Fx K mg) : FnW P w K mg base (cas K) 3 f_grown ((pG "grown") K) := by
  obtain ⟨fd, F⟩ := c.d_grown
  exact fn_sim (ps := ["modes", "some"]) F sc_grown (F.bindsN fun _ _ _ _ _ _ us hl => match us, hl with | [_, _], _ => rfl) (b_grown c)
/-! closed -/
def n_closed : List Str := ["house", "modes", "view"]
theorem sc_closed : FnScope n_closed ["house", "modes", "view"] (defScope (tops 42)) := fnScopeBy (by decide +kernel)
def m_closed : MS := (mSeq (mEx (mCall (pureX f_check_view) (aC (mV 0) (aC (mV 1) (aC (mV 2) a0)))))
  (mRet (mCall (pureX f_grown) (aC (mV 1) (aC (mV 2) a0)))))
def f_closed : Fn := fnM 3 3 m_closed
theorem b_closed {P : Program} {w : World} {K : PySem.W.Frag} {mg : Str → Option Value} {base : Heap} (c : Fx K mg) (cdv : Value) (A : Around) (outer : List Env) (s : Shared) (H : Hp) (E : XK) (hr : Room 4 (A.deeper (envOfC "closed" (defScope (tops 42)) s.heap.objs.size ((pG "closed") K) cdv))) :
    SimSs (cxOf (L2.CX P w) P w K mg base n_closed "closed" (defScope (tops 42)) ((pG "closed") K) cdv A outer s H E) ⟨P, w, K, cas K, E⟩ (defBody (tops 42)) m_closed := by
  have c1 : CF (cxOf (L2.CX P w) P w K mg base n_closed "closed" (defScope (tops 42)) ((pG "closed") K) cdv A outer s H E) E 4 := ⟨rfl, hr, takes_of rfl rfl rfl rfl, sc_closed.nd⟩
  have po : PassesOwn (model P w) (cxOf (L2.CX P w) P w K mg base n_closed "closed" (defScope (tops 42)) ((pG "closed") K) cdv A outer s H E).A (cxOf (L2.CX P w) P w K mg base n_closed "closed" (defScope (tops 42)) ((pG "closed") K) cdv A outer s H E).env (cxOf (L2.CX P w) P w K mg base n_closed "closed" (defScope (tops 42)) ((pG "closed") K) cdv A outer s H E).xe := passes_of rfl
  exact (sims_cons (xEx (gCall c1 c.g_check_view c.h_check_view (k_check_view c).pureX (gA (gV 0) (gA (gV 1) (gA (gV 2) g0)))))
  (sims_one (sims_ret (gCall c1 c.g_grown c.h_grown (k_grown c).pureX (gA (gV 1) (gA (gV 2) g0))))))
theorem k_closed {P : Program} {w : World} {K : PySem.W.Frag} {mg : Str → Option Value} {base : Heap} (c : Fx K mg) : FnW P w K mg base (cas K) 5 f_closed ((pG "closed") K) := by
  obtain ⟨fd, F⟩ := c.d_closed
  exact fn_sim (ps := ["house", "modes", "view"]) F sc_closed (F.bindsN fun _ _ _ _ _ _ us hl => match us, hl with | [_, _, _], _ => rfl) (b_closed c)
/-! is_fine -/
def n_is_fine : List Str := ["mode", "contents"]
theorem sc_is_fine : FnScope n_is_fine ["mode", "contents"] (defScope (tops 34)) := fnScopeBy (by decide +kernel)
def m_is_fine : MS := (mRet (mCmp .Eq (mSub (mV 1) (mIte (mCmp .Eq (mSub (mV 0) (mC (.int 0))) (mC v_NEW)) (mC (.int 1)) (mC (.int 0)))) (mC v_FRESH)))
def f_is_fine : Fn := fnM 2 2 m_is_fine
theorem b_is_fine {P : Program} {w : World} {K : PySem.W.Frag} {mg : Str → Option Value} {base : Heap} (c : Fx K mg) (cdv : Value) (A : Around) (outer : List Env) (s : Shared) (H : Hp) (E : XK) (hr : Room 0 (A.deeper (envOfC "is_fine" (defScope (tops 34)) s.heap.objs.size ((pG "is_fine") K) cdv))) :
    SimSs (cxOf (L2.CX P w) P w K mg base n_is_fine "is_fine" (defScope (tops 34)) ((pG "is_fine") K) cdv A outer s H E) ⟨P, w, K, cas K, E⟩ (defBody (tops 34)) m_is_fine := by
  have c1 : CF (cxOf (L2.CX P w) P w K mg base n_is_fine "is_fine" (defScope (tops 34)) ((pG "is_fine") K) cdv A outer s H E) E 0 := ⟨rfl, hr, takes_of rfl rfl rfl rfl, sc_is_fine.nd⟩
  have po : PassesOwn (model P w) (cxOf (L2.CX P w) P w K mg base n_is_fine "is_fine" (defScope (tops 34)) ((pG "is_fine") K) cdv A outer s H E).A (cxOf (L2.CX P w) P w K mg base n_is_fine "is_fine" (defScope (tops 34)) ((pG "is_fine") K) cdv A outer s H E).env (cxOf (L2.CX P w) P w K mg base n_is_fine "is_fine" (defScope (tops 34)) ((pG "is_fine") K) cdv A outer s H E).xe := passes_of rfl
  exact (sims_one (sims_ret (gCmp c1 (gSub c1 (gV 1) (gIte (tCmp c1 (gSub c1 (gV 0) gI) (gG c.v_NEW)) gI gI)) (gG c.v_FRESH))))
theorem k_is_fine {P : Program} {w : World} {K : PySem.W.Frag} {mg : Str → Option Value} {base : Heap} (c : Fx K mg) : FnW P w K mg base (cas K) 1 f_is_fine ((pG "is_fine") K) := by
  obtain ⟨fd, F⟩ := c.d_is_fine
  exact fn_sim (ps := ["mode", "contents"]) F sc_is_fine (F.bindsN fun _ _ _ _ _ _ us hl => match us, hl with | [_, _], _ => rfl) (b_is_fine c)
/-! is_safe -/
def n_is_safe : List Str := ["modes", "view", "mode", "contents"]
theorem sc_is_safe : FnScope n_is_safe ["modes", "view"] (defScope (tops 35)) := fnScopeBy (by decide +kernel)
def m_is_safe : MS := (mRet (mB1 (g1 (b1A .all)) (mLc2 [2, 3] [3] (mtN 2) (miOf (mV 0)) (miOf (mV 1)) (mtN 3) mYes (mCall f_is_fine (aC (mV 2) (aC (mV 3) a0))))))
def f_is_safe : Fn := fnM 2 4 m_is_safe
theorem b_is_safe {P : Program} {w : World} {K : PySem.W.Frag} {mg : Str → Option Value} {base : Heap} (c : Fx K mg) (cdv : Value) (A : Around) (outer : List Env) (s : Shared) (H : Hp) (E : XK) (hr : Room 1 (A.deeper (envOfC "is_safe" (defScope (tops 35)) s.heap.objs.size ((pG "is_safe") K) cdv))) :
    SimSs (cxOf (L2.CX P w) P w K mg base n_is_safe "is_safe" (defScope (tops 35)) ((pG "is_safe") K) cdv A outer s H E) ⟨P, w, K, cas K, E⟩ (defBody (tops 35)) m_is_safe := by
  have c1 : CF (cxOf (L2.CX P w) P w K mg base n_is_safe "is_safe" (defScope (tops 35)) ((pG "is_safe") K) cdv A outer s H E) E 1 := ⟨rfl, hr, takes_of rfl rfl rfl rfl, sc_is_safe.nd⟩
  have po : PassesOwn (model P w) (cxOf (L2.CX P w) P w K mg base n_is_safe "is_safe" (defScope (tops 35)) ((pG "is_safe") K) cdv A outer s H E).A (cxOf (L2.CX P w) P w K mg base n_is_safe "is_safe" (defScope (tops 35)) ((pG "is_safe") K) cdv A outer s H E).env (cxOf (L2.CX P w) P w K mg base n_is_safe "is_safe" (defScope (tops 35)) ((pG "is_safe") K) cdv A outer s H E).xe := passes_of rfl
  exact (sims_one (sims_ret (gAll c1 c.b_all (gLc2 c1 [("mode", 2), ("contents", 3)] [3] (simi_of (gV 0)) (fun s1 H1 C1 l1 q1 => (uN (c1.blk s1 H1 _ _ q1) 2)) (fun s2 H2 C2 l2 q2 => (simi_of (gV 1))) (fun s3 H3 C3 l3 q3 => (uN (c1.blk s3 H3 _ _ q3) 3)) (fun s4 H4 C4 l4 q4 => simts_nil) (fun s5 H5 C5 l5 q5 => (gCall (c1.blk s5 H5 _ _ q5) c.g_is_fine c.h_is_fine (k_is_fine c) (gA (gV 2) (gA (gV 3) g0))))))))
theorem k_is_safe {P : Program} {w : World} {K : PySem.W.Frag} {mg : Str → Option Value} {base : Heap} (c : Fx K mg) : FnW P w K mg base (cas K) 2 f_is_safe ((pG "is_safe") K) := by
  obtain ⟨fd, F⟩ := c.d_is_safe
  exact fn_sim (ps := ["modes", "view"]) F sc_is_safe (F.bindsN fun _ _ _ _ _ _ us hl => match us, hl with | [_, _], _ => rfl) (b_is_safe c)
/-! reads_fine -/
def n_reads_fine : List Str := ["house", "modes", "view"]
theorem sc_reads_fine : FnScope n_reads_fine ["house", "modes", "view"] (defScope (tops 43)) := fnScopeBy (by decide +kernel)
def m_reads_fine : MS := (mSeq (mEx (mCall (pureX f_check_view) (aC (mV 0) (aC (mV 1) (aC (mV 2) a0)))))
  (mRet (mCall (pureX f_is_safe) (aC (mV 1) (aC (mV 2) a0)))))
def f_reads_fine : Fn := fnM 3 3 m_reads_fine
theorem b_reads_fine {P : Program} {w : World} {K : PySem.W.Frag} {mg : Str → Option Value} {base : Heap} (c : Fx K mg) (cdv : Value) (A : Around) (outer : List Env) (s : Shared) (H : Hp) (E : XK) (hr : Room 4 (A.deeper (envOfC "reads_fine" (defScope (tops 43)) s.heap.objs.size ((pG "reads_fine") K) cdv))) :
    SimSs (cxOf (L2.CX P w) P w K mg base n_reads_fine "reads_fine" (defScope (tops 43)) ((pG "reads_fine") K) cdv A outer s H E) ⟨P, w, K, cas K, E⟩ (defBody (tops 43)) m_reads_fine := by
  have c1 : CF (cxOf (L2.CX P w) P w K mg base n_reads_fine "reads_fine" (defScope (tops 43)) ((pG "reads_fine") K) cdv A outer s H E) E 4 := ⟨rfl, hr, takes_of rfl rfl rfl rfl, sc_reads_fine.nd⟩
  have po : PassesOwn (model P w) (cxOf (L2.CX P w) P w K mg base n_reads_fine "reads_fine" (defScope (tops 43)) ((pG "reads_fine") K) cdv A outer s H E).A (cxOf (L2.CX P w) P w K mg base n_reads_fine "reads_fine" (defScope (tops 43)) ((pG "reads_fine") K) cdv A outer s H E).env (cxOf (L2.CX P w) P w K mg base n_reads_fine "reads_fine" (defScope (tops 43)) ((pG "reads_fine") K) cdv A outer s H E).xe := passes_of rfl
  exact (sims_cons (xEx (gCall c1 c.g_check_view c.h_check_view (k_check_view c).pureX (gA (gV 0) (gA (gV 1) (gA (gV 2) g0)))))
  (sims_one (sims_ret (gCall c1 c.g_is_safe c.h_is_safe (k_is_safe c).pureX (gA (gV 1) (gA (gV 2) g0))))))
theorem k_reads_fine {P : Program} {w : World} {K : PySem.W.Frag} {mg : Str → Option Value} {base : Heap} (c : Fx K mg) : FnW P w K mg base (cas K) 5 f_reads_fine ((pG "reads_fine") K) := by
  obtain ⟨fd, F⟩ := c.d_reads_fine
  exact fn_sim (ps := ["house", "modes", "view"]) F sc_reads_fine (F.bindsN fun _ _ _ _ _ _ us hl => match us, hl with | [_, _, _], _ => rfl) (b_reads_fine c)
/-! _law_fine -/
def n__law_fine : List Str := ["_law_line", "_law_view", "_law_mode_here", "_law_pair"]
theorem sc__law_fine : FnScope n__law_fine ["_law_line", "_law_view"] (defScope (tops 62)) := fnScopeBy (by decide +kernel)
def m__law_fine : MS := (mSeq (mFor (mtN 2) (miOf (mV 0)) (mIf (mB1 (g1 (b1A .any)) (mLc [3] (mtN 3) (miOf (mV 1)) mYes (mCmp .NotEq (mSub (mV 3) (mIte (mCmp .Eq (mSub (mV 2) (mC (.int 0))) (mC (.str "old"))) (mC (.int 0)) (mC (.int 1)))) (mC (.str "fresh"))))) (mRet (mC (.bl false))) mNx))
  (mRet (mC (.bl true))))
def f__law_fine : Fn := fnM 2 4 m__law_fine
theorem b__law_fine {P : Program} {w : World} {K : PySem.W.Frag} {mg : Str → Option Value} {base : Heap} (c : Fx K mg) (cdv : Value) (A : Around) (outer : List Env) (s : Shared) (H : Hp) (E : XK) (hr : Room 0 (A.deeper (envOfC "_law_fine" (defScope (tops 62)) s.heap.objs.size ((pG "_law_fine") K) cdv))) :
    SimSs (cxOf (L2.CX P w) P w K mg base n__law_fine "_law_fine" (defScope (tops 62)) ((pG "_law_fine") K) cdv A outer s H E) ⟨P, w, K, cas K, E⟩ (defBody (tops 62)) m__law_fine := by
  have c1 : CF (cxOf (L2.CX P w) P w K mg base n__law_fine "_law_fine" (defScope (tops 62)) ((pG "_law_fine") K) cdv A outer s H E) E 0 := ⟨rfl, hr, takes_of rfl rfl rfl rfl, sc__law_fine.nd⟩
  have po : PassesOwn (model P w) (cxOf (L2.CX P w) P w K mg base n__law_fine "_law_fine" (defScope (tops 62)) ((pG "_law_fine") K) cdv A outer s H E).A (cxOf (L2.CX P w) P w K mg base n__law_fine "_law_fine" (defScope (tops 62)) ((pG "_law_fine") K) cdv A outer s H E).env (cxOf (L2.CX P w) P w K mg base n__law_fine "_law_fine" (defScope (tops 62)) ((pG "_law_fine") K) cdv A outer s H E).xe := passes_of rfl
  exact (sims_cons (xFor c1 po (simi_of (gV 0)) (uN c1 2) (sims_one (sims_if (tV (gAny c1 c.b_any (gLc c1 [("_law_pair", 3)] (simi_of (gV 1)) (fun s1 H1 C1 l1 q1 => (uN (c1.blk s1 H1 _ _ q1) 3)) (fun s2 H2 C2 l2 q2 => simts_nil) (fun s3 H3 C3 l3 q3 => (gCmp (c1.blk s3 H3 _ _ q3) (gSub (c1.blk s3 H3 _ _ q3) (gV 3) (gIte (tCmp (c1.blk s3 H3 _ _ q3) (gSub (c1.blk s3 H3 _ _ q3) (gV 2) gI) gS) gI gI)) gS))))) (sims_one (sims_ret gB)) sims_nil)))
  (sims_one (sims_ret gB)))
theorem k__law_fine {P : Program} {w : World} {K : PySem.W.Frag} {mg : Str → Option Value} {base : Heap} (c : Fx K mg) : FnW P w K mg base (cas K) 1 f__law_fine ((pG "_law_fine") K) := by
  obtain ⟨fd, F⟩ := c.d__law_fine
  exact fn_sim (ps := ["_law_line", "_law_view"]) F sc__law_fine (F.bindsN fun _ _ _ _ _ _ us hl => match us, hl with | [_, _], _ => rfl) (b__law_fine c)
/-! is_step -/
def n_is_step : List Str := ["house", "value"]
theorem sc_is_step : FnScope n_is_step ["house", "value"] (defScope (tops 22)) := fnScopeBy (by decide +kernel)
def m_is_step : MS := (mSeq (mIf (orM (mNot (mIsi (mV 1) (.ty .tuple))) (orM (mCmp .Eq (mV 1) (mTup a0)) (mNot (mIsi (mSub (mV 1) (mC (.int 0))) (.ty .str))))) (mRet (mC (.bl false))) mNx)
  (mSeq (mIf (mCmp .NotEq (mSub (mV 1) (mC (.int 0))) (mC v_CHANGE)) (mRet (mCmp .Eq (mV 1) (mC v_COPY))) mNx)
  (mRet (andM (mCmp .Eq (mB1 (g1 lenA) (mV 1)) (mC (.int 3))) (andM (mCall (pureX f_is_integer) (aC (mSub (mV 1) (mC (.int 1))) (aC (mC (.int 0)) (aC (mBin .Sub (mLenO (tab1 f_House___len__) (mV 0) [(0, 0)]) (mC (.int 1))) a0)))) (mCall (pureX f_is_mode) (aC (mSub (mV 1) (mC (.int 2))) a0)))))))
def f_is_step : Fn := fnM 2 2 m_is_step
theorem b_is_step {P : Program} {w : World} {K : PySem.W.Frag} {mg : Str → Option Value} {base : Heap} (c : Fx K mg) (cdv : Value) (A : Around) (outer : List Env) (s : Shared) (H : Hp) (E : XK) (hr : Room 2 (A.deeper (envOfC "is_step" (defScope (tops 22)) s.heap.objs.size ((pG "is_step") K) cdv))) :
    SimSs (cxOf (L2.CX P w) P w K mg base n_is_step "is_step" (defScope (tops 22)) ((pG "is_step") K) cdv A outer s H E) ⟨P, w, K, cas K, E⟩ (defBody (tops 22)) m_is_step := by
  have c1 : CF (cxOf (L2.CX P w) P w K mg base n_is_step "is_step" (defScope (tops 22)) ((pG "is_step") K) cdv A outer s H E) E 2 := ⟨rfl, hr, takes_of rfl rfl rfl rfl, sc_is_step.nd⟩
  have po : PassesOwn (model P w) (cxOf (L2.CX P w) P w K mg base n_is_step "is_step" (defScope (tops 22)) ((pG "is_step") K) cdv A outer s H E).A (cxOf (L2.CX P w) P w K mg base n_is_step "is_step" (defScope (tops 22)) ((pG "is_step") K) cdv A outer s H E).env (cxOf (L2.CX P w) P w K mg base n_is_step "is_step" (defScope (tops 22)) ((pG "is_step") K) cdv A outer s H E).xe := passes_of rfl
  exact (sims_cons (sims_if (tOr (tNot (tV (gIsi1 .tuple c.b_isinstance c.b_tuple bt_tuple (gV 1)))) (simw_or (tCmp c1 (gV 1) (gTup g0)) (simw_one (tNot (tV (gIsi1 .str c.b_isinstance c.b_str bt_str (gSub c1 (gV 1) gI))))))) (sims_one (sims_ret gB)) sims_nil)
  (sims_cons (sims_if (tCmp c1 (gSub c1 (gV 1) gI) (gG c.v_CHANGE)) (sims_one (sims_ret (gCmp c1 (gV 1) (gG c.v_COPY)))) sims_nil)
  (sims_one (sims_ret (sim_and (gCmp c1 (gLen c.b_len (gV 1)) gI) (sim_and (gCall c1 c.g_is_integer c.h_is_integer (k_is_integer c).pureX (gA (gSub c1 (gV 1) gI) (gA gI (gA (gBin (gLenO (k := 0) c1 c.b_len c.s_House c.m_House___len__ (k_House___len__ c) (gV 0)) gI) g0)))) (sim_one (gCall c1 c.g_is_mode c.h_is_mode (k_is_mode c).pureX (gA (gSub c1 (gV 1) gI) g0)))))))))
theorem k_is_step {P : Program} {w : World} {K : PySem.W.Frag} {mg : Str → Option Value} {base : Heap} (c : Fx K mg) : FnW P w K mg base (cas K) 3 f_is_step ((pG "is_step") K) := by
  obtain ⟨fd, F⟩ := c.d_is_step
  exact fn_sim (ps := ["house", "value"]) F sc_is_step (F.bindsN fun _ _ _ _ _ _ us hl => match us, hl with | [_, _], _ => rfl) (b_is_step c)
/-! check_step -/
def n_check_step : List Str := ["house", "step"]
theorem sc_check_step : FnScope n_check_step ["house", "step"] (defScope (tops 23)) := fnScopeBy (by decide +kernel)
def m_check_step : MS := (mIf (mNot (mCall (pureX f_is_step) (aC (mV 0) (aC (mV 1) a0)))) mNever mNx)
def f_check_step : Fn := fnM 2 2 m_check_step
theorem b_check_step {P : Program} {w : World} {K : PySem.W.Frag} {mg : Str → Option Value} {base : Heap} (c : Fx K mg) (cdv : Value) (A : Around) (outer : List Env) (s : Shared) (H : Hp) (E : XK) (hr : Room 3 (A.deeper (envOfC "check_step" (defScope (tops 23)) s.heap.objs.size ((pG "check_step") K) cdv))) :
    SimSs (cxOf (L2.CX P w) P w K mg base n_check_step "check_step" (defScope (tops 23)) ((pG "check_step") K) cdv A outer s H E) ⟨P, w, K, cas K, E⟩ (defBody (tops 23)) m_check_step := by
  have c1 : CF (cxOf (L2.CX P w) P w K mg base n_check_step "check_step" (defScope (tops 23)) ((pG "check_step") K) cdv A outer s H E) E 3 := ⟨rfl, hr, takes_of rfl rfl rfl rfl, sc_check_step.nd⟩
  have po : PassesOwn (model P w) (cxOf (L2.CX P w) P w K mg base n_check_step "check_step" (defScope (tops 23)) ((pG "check_step") K) cdv A outer s H E).A (cxOf (L2.CX P w) P w K mg base n_check_step "check_step" (defScope (tops 23)) ((pG "check_step") K) cdv A outer s H E).env (cxOf (L2.CX P w) P w K mg base n_check_step "check_step" (defScope (tops 23)) ((pG "check_step") K) cdv A outer s H E).xe := passes_of rfl
  exact (sims_one (sims_if (tNot (tV (gCall c1 c.g_is_step c.h_is_step (k_is_step c).pureX (gA (gV 0) (gA (gV 1) g0))))) (sims_one sims_never) sims_nil))
theorem k_check_step {P : Program} {w : World} {K : PySem.W.Frag} {mg : Str → Option Value} {base : Heap} (c : Fx K mg) : FnW P w K mg base (cas K) 4 f_check_step ((pG "check_step") K) := by
  obtain ⟨fd, F⟩ := c.d_check_step
  exact fn_sim (ps := ["house", "step"]) F sc_check_step (F.bindsN fun _ _ _ _ _ _ us hl => match us, hl with | [_, _], _ => rfl) (b_check_step c)
/-! modes_after -/
def n_modes_after : List Str := ["modes", "step", "server", "mode"]
theorem sc_modes_after : FnScope n_modes_after ["modes", "step"] (defScope (tops 24)) := fnScopeBy (by decide +kernel)
def m_modes_after : MS := (mSeq (mIf (mCmp .Eq (mV 1) (mC v_COPY)) (mRet (mV 0)) mNx)
  (mRet (mB1 (g1 (b1A .tuple)) (mLc [2, 3] (mtT (mtC (mtN 2) (mtC (mtN 3) mt0))) (miEn (mV 0)) mYes (mIte (mCmp .Eq (mV 2) (mSub (mV 1) (mC (.int 1)))) (mSub (mV 1) (mC (.int 2))) (mV 3))))))
def f_modes_after : Fn := fnM 2 4 m_modes_after
theorem b_modes_after {P : Program} {w : World} {K : PySem.W.Frag} {mg : Str → Option Value} {base : Heap} (c : Fx K mg) (cdv : Value) (A : Around) (outer : List Env) (s : Shared) (H : Hp) (E : XK) (hr : Room 0 (A.deeper (envOfC "modes_after" (defScope (tops 24)) s.heap.objs.size ((pG "modes_after") K) cdv))) :
    SimSs (cxOf (L2.CX P w) P w K mg base n_modes_after "modes_after" (defScope (tops 24)) ((pG "modes_after") K) cdv A outer s H E) ⟨P, w, K, cas K, E⟩ (defBody (tops 24)) m_modes_after := by
  have c1 : CF (cxOf (L2.CX P w) P w K mg base n_modes_after "modes_after" (defScope (tops 24)) ((pG "modes_after") K) cdv A outer s H E) E 0 := ⟨rfl, hr, takes_of rfl rfl rfl rfl, sc_modes_after.nd⟩
  have po : PassesOwn (model P w) (cxOf (L2.CX P w) P w K mg base n_modes_after "modes_after" (defScope (tops 24)) ((pG "modes_after") K) cdv A outer s H E).A (cxOf (L2.CX P w) P w K mg base n_modes_after "modes_after" (defScope (tops 24)) ((pG "modes_after") K) cdv A outer s H E).env (cxOf (L2.CX P w) P w K mg base n_modes_after "modes_after" (defScope (tops 24)) ((pG "modes_after") K) cdv A outer s H E).xe := passes_of rfl
  exact (sims_cons (sims_if (tCmp c1 (gV 1) (gG c.v_COPY)) (sims_one (sims_ret (gV 0))) sims_nil)
  (sims_one (sims_ret (gTuple c.b_tuple (gLc c1 [("server", 2), ("mode", 3)] (iEn c.b_enumerate (gV 0)) (fun s1 H1 C1 l1 q1 => (uT (c1.blk s1 H1 _ _ q1) (uC (uN (c1.blk s1 H1 _ _ q1) 2) (uC (uN (c1.blk s1 H1 _ _ q1) 3) u0)) (mtC_len (mtC_len mt0_len)))) (fun s2 H2 C2 l2 q2 => simts_nil) (fun s3 H3 C3 l3 q3 => (gIte (tCmp (c1.blk s3 H3 _ _ q3) (gV 2) (gSub (c1.blk s3 H3 _ _ q3) (gV 1) gI)) (gSub (c1.blk s3 H3 _ _ q3) (gV 1) gI) (gV 3))))))))
theorem k_modes_after {P : Program} {w : World} {K : PySem.W.Frag} {mg : Str → Option Value} {base : Heap} (c : Fx K mg) : FnW P w K mg base (cas K) 1 f_modes_after ((pG "modes_after") K) := by
  obtain ⟨fd, F⟩ := c.d_modes_after
  exact fn_sim (ps := ["modes", "step"]) F sc_modes_after (F.bindsN fun _ _ _ _ _ _ us hl => match us, hl with | [_, _], _ => rfl) (b_modes_after c)
/-! hands_from -/
def n_hands_from : List Str := ["modes", "contents", "first", "known", "waiting", "here", "hand", "is_still", "reads", "writes", "later"]
theorem sc_hands_from : FnScope n_hands_from ["modes", "contents"] (defScope (tops 36)) := fnScopeBy (by decide +kernel)
def m_hands_from : MS := (mSeq (mSet 2 (mTup (aC (mV 1) (aC (mSub (mV 1) (mC (.int 0))) (aC (mC (.bl true)) a0)))))
  (mSeq (mPar 3 4 (mD1 (mV 2) (mC (.bl true))) (mLst (aC (mV 2) a0)))
  (mSeq (mWhl (mCmp .NotEq (mV 4) (mLst a0)) (mSeq (mAs (mtT (mtC (mtN 5) (mtC (mtN 6) (mtC (mtN 7) mt0)))) (mBm0 .pop (mV 4)))
  (mFor (mtT (mtC (mtN 8) (mtC (mtN 9) mt0))) (miOf (mV 0)) (mSeq (mSet 10 (mTup (aC (mCall f_written (aC (mV 5) (aC (mV 9) a0))) (aC (mC v_STALE) (aC (mC (.bl false)) a0)))))
  (mIf (mCmp .NotIn (mV 10) (mV 3)) (mSeq (mPut (mV 3) (mV 10) (mC (.bl true)))
  (mEx (mBm .append (mV 4) (aC (mV 10) a0)))) mNx)))))
  (mRet (mB1 (g1 (b1A .list)) (mV 3))))))
def f_hands_from : Fn := fnM 2 11 m_hands_from
theorem b_hands_from {P : Program} {w : World} {K : PySem.W.Frag} {mg : Str → Option Value} {base : Heap} (c : Fx K mg) (cdv : Value) (A : Around) (outer : List Env) (s : Shared) (H : Hp) (E : XK) (hr : Room 2 (A.deeper (envOfC "hands_from" (defScope (tops 36)) s.heap.objs.size ((pG "hands_from") K) cdv))) :
    SimSs (cxOf (L2.CX P w) P w K mg base n_hands_from "hands_from" (defScope (tops 36)) ((pG "hands_from") K) cdv A outer s H E) ⟨P, w, K, cas K, E⟩ (defBody (tops 36)) m_hands_from := by
  have c1 : CF (cxOf (L2.CX P w) P w K mg base n_hands_from "hands_from" (defScope (tops 36)) ((pG "hands_from") K) cdv A outer s H E) E 2 := ⟨rfl, hr, takes_of rfl rfl rfl rfl, sc_hands_from.nd⟩
  have po : PassesOwn (model P w) (cxOf (L2.CX P w) P w K mg base n_hands_from "hands_from" (defScope (tops 36)) ((pG "hands_from") K) cdv A outer s H E).A (cxOf (L2.CX P w) P w K mg base n_hands_from "hands_from" (defScope (tops 36)) ((pG "hands_from") K) cdv A outer s H E).env (cxOf (L2.CX P w) P w K mg base n_hands_from "hands_from" (defScope (tops 36)) ((pG "hands_from") K) cdv A outer s H E).xe := passes_of rfl
  exact (sims_cons (xSet c1 2 (gTup (gA (gV 1) (gA (gSub c1 (gV 1) gI) (gA gB g0)))))
  (sims_cons (xPar c1 3 4 (gD1 c1 (gV 2) gB) (gLst (gA (gV 2) g0)))
  (sims_cons (sims_whl po (tCmp c1 (gV 4) (gLst g0)) (sims_cons (xAs (gPop (gV 4)) (uT c1 (uC (uN c1 5) (uC (uN c1 6) (uC (uN c1 7) u0))) (mtC_len (mtC_len (mtC_len mt0_len)))))
  (sims_one (xFor c1 po (simi_of (gV 0)) (uT c1 (uC (uN c1 8) (uC (uN c1 9) u0)) (mtC_len (mtC_len mt0_len))) (sims_cons (xSet c1 10 (gTup (gA (gCall c1 c.g_written c.h_written (k_written c) (gA (gV 5) (gA (gV 9) g0))) (gA (gG c.v_STALE) (gA gB g0)))))
  (sims_one (sims_if (tCmp c1 (gV 10) (gV 3)) (sims_cons (xPut c1 (gV 3) (gV 10) gB)
  (sims_one (xEx (gApp (gV 4) (gV 10))))) sims_nil)))))))
  (sims_one (sims_ret (gList c1 c.b_list (gV 3)))))))
theorem k_hands_from {P : Program} {w : World} {K : PySem.W.Frag} {mg : Str → Option Value} {base : Heap} (c : Fx K mg) : FnW P w K mg base (cas K) 3 f_hands_from ((pG "hands_from") K) := by
  obtain ⟨fd, F⟩ := c.d_hands_from
  exact fn_sim (ps := ["modes", "contents"]) F sc_hands_from (F.bindsN fun _ _ _ _ _ _ us hl => match us, hl with | [_, _], _ => rfl) (b_hands_from c)
/-! put_down -/
def n_put_down : List Str := ["copier", "triple", "hand", "is_still", "old", "new"]
theorem sc_put_down : FnScope n_put_down ["copier", "triple"] (defScope (tops 37)) := fnScopeBy (by decide +kernel)
def m_put_down : MS := (mSeq (mAs (mtT (mtC (mtT (mtC (mtN 4) (mtC (mtN 5) mt0))) (mtC (mtN 2) (mtC (mtN 3) mt0)))) (mV 1))
  (mSeq (mIf (orM (andM (mCmp .Eq (mV 0) (mC (.str "empty"))) (mCmp .NotEq (mV 5) (mC v_EMPTY))) (andM (mCmp .Eq (mV 0) (mC (.str "check"))) (mNot (mV 3)))) (mRet (mTup (aC (mV 4) (aC (mV 5) a0)))) mNx)
  (mRet (mTup (aC (mV 4) (aC (mV 2) a0))))))
def f_put_down : Fn := fnM 2 6 m_put_down
theorem b_put_down {P : Program} {w : World} {K : PySem.W.Frag} {mg : Str → Option Value} {base : Heap} (c : Fx K mg) (cdv : Value) (A : Around) (outer : List Env) (s : Shared) (H : Hp) (E : XK) (hr : Room 0 (A.deeper (envOfC "put_down" (defScope (tops 37)) s.heap.objs.size ((pG "put_down") K) cdv))) :
    SimSs (cxOf (L2.CX P w) P w K mg base n_put_down "put_down" (defScope (tops 37)) ((pG "put_down") K) cdv A outer s H E) ⟨P, w, K, cas K, E⟩ (defBody (tops 37)) m_put_down := by
  have c1 : CF (cxOf (L2.CX P w) P w K mg base n_put_down "put_down" (defScope (tops 37)) ((pG "put_down") K) cdv A outer s H E) E 0 := ⟨rfl, hr, takes_of rfl rfl rfl rfl, sc_put_down.nd⟩
  have po : PassesOwn (model P w) (cxOf (L2.CX P w) P w K mg base n_put_down "put_down" (defScope (tops 37)) ((pG "put_down") K) cdv A outer s H E).A (cxOf (L2.CX P w) P w K mg base n_put_down "put_down" (defScope (tops 37)) ((pG "put_down") K) cdv A outer s H E).env (cxOf (L2.CX P w) P w K mg base n_put_down "put_down" (defScope (tops 37)) ((pG "put_down") K) cdv A outer s H E).xe := passes_of rfl
  exact (sims_cons (xAs (gV 1) (uT c1 (uC (uT c1 (uC (uN c1 4) (uC (uN c1 5) u0)) (mtC_len (mtC_len mt0_len))) (uC (uN c1 2) (uC (uN c1 3) u0))) (mtC_len (mtC_len (mtC_len mt0_len)))))
  (sims_cons (sims_if (tOr (tAnd (tCmp c1 (gV 0) gS) (simw_one (tCmp c1 (gV 5) (gG c.v_EMPTY)))) (simw_one (tAnd (tCmp c1 (gV 0) gS) (simw_one (tNot (tV (gV 3))))))) (sims_one (sims_ret (gTup (gA (gV 4) (gA (gV 5) g0))))) sims_nil)
  (sims_one (sims_ret (gTup (gA (gV 4) (gA (gV 2) g0)))))))
theorem k_put_down {P : Program} {w : World} {K : PySem.W.Frag} {mg : Str → Option Value} {base : Heap} (c : Fx K mg) : FnW P w K mg base (cas K) 1 f_put_down ((pG "put_down") K) := by
  obtain ⟨fd, F⟩ := c.d_put_down
  exact fn_sim (ps := ["copier", "triple"]) F sc_put_down (F.bindsN fun _ _ _ _ _ _ us hl => match us, hl with | [_, _], _ => rfl) (b_put_down c)
/-! copied -/
def n_copied : List Str := ["house", "modes", "view", "found", "contents", "triple"]
theorem sc_copied : FnScope n_copied ["house", "modes", "view"] (defScope (tops 38)) := fnScopeBy (by decide +kernel)
def m_copied : MS := (mSeq (mSet 3 (mLst a0))
  (mSeq (mFor (mtN 4) (miOf (mV 2)) (mEx (mBm .extend (mV 3) (aC (mLc [5] (mtN 5) (miOf (mCall (pureX f_hands_from) (aC (mV 1) (aC (mV 4) a0)))) mYes (mCall (pureX f_put_down) (aC (mAttr (mV 0) [(0, 0)]) (aC (mV 5) a0)))) a0))))
  (mRet (mCall (pureX f_view_of) (aC (mV 3) a0)))))
def f_copied : Fn := fnM 3 6 m_copied
theorem b_copied {P : Program} {w : World} {K : PySem.W.Frag} {mg : Str → Option Value} {base : Heap} (c : Fx K mg) (cdv : Value) (A : Around) (outer : List Env) (s : Shared) (H : Hp) (E : XK) (hr : Room 3 (A.deeper (envOfC "copied" (defScope (tops 38)) s.heap.objs.size ((pG "copied") K) cdv))) :
    SimSs (cxOf (L2.CX P w) P w K mg base n_copied "copied" (defScope (tops 38)) ((pG "copied") K) cdv A outer s H E) ⟨P, w, K, cas K, E⟩ (defBody (tops 38)) m_copied := by
  have c1 : CF (cxOf (L2.CX P w) P w K mg base n_copied "copied" (defScope (tops 38)) ((pG "copied") K) cdv A outer s H E) E 3 := ⟨rfl, hr, takes_of rfl rfl rfl rfl, sc_copied.nd⟩
  have po : PassesOwn (model P w) (cxOf (L2.CX P w) P w K mg base n_copied "copied" (defScope (tops 38)) ((pG "copied") K) cdv A outer s H E).A (cxOf (L2.CX P w) P w K mg base n_copied "copied" (defScope (tops 38)) ((pG "copied") K) cdv A outer s H E).env (cxOf (L2.CX P w) P w K mg base n_copied "copied" (defScope (tops 38)) ((pG "copied") K) cdv A outer s H E).xe := passes_of rfl
  exact (sims_cons (xSet c1 3 (gLst g0))
  (sims_cons (xFor c1 po (simi_of (gV 2)) (uN c1 4) (sims_one (xEx (gExt (gV 3) (gLc c1 [("triple", 5)] (simi_of (gCall c1 c.g_hands_from c.h_hands_from (k_hands_from c).pureX (gA (gV 1) (gA (gV 4) g0)))) (fun s1 H1 C1 l1 q1 => (uN (c1.blk s1 H1 _ _ q1) 5)) (fun s2 H2 C2 l2 q2 => simts_nil) (fun s3 H3 C3 l3 q3 => (gCall (c1.blk s3 H3 _ _ q3) c.g_put_down c.h_put_down (k_put_down c).pureX (gA (gAtt (k := 0) c.s_House c.t_House_copies (gV 0)) (gA (gV 5) g0)))))))))
  (sims_one (sims_ret (gCall c1 c.g_view_of c.h_view_of (k_view_of c).pureX (gA (gV 3) g0))))))
theorem k_copied {P : Program} {w : World} {K : PySem.W.Frag} {mg : Str → Option Value} {base : Heap} (c : Fx K mg) : FnW P w K mg base (cas K) 4 f_copied ((pG "copied") K) := by
  obtain ⟨fd, F⟩ := c.d_copied
  exact fn_sim (ps := ["house", "modes", "view"]) F sc_copied (F.bindsN fun _ _ _ _ _ _ us hl => match us, hl with | [_, _, _], _ => rfl) (b_copied c)
/-! view_after -/
def n_view_after : List Str := ["house", "modes", "view", "step", "later"]
theorem sc_view_after : FnScope n_view_after ["house", "modes", "view", "step"] (defScope (tops 39)) := fnScopeBy (by decide +kernel)
def m_view_after : MS := (mSeq (mSet 4 (mCall (pureX f_modes_after) (aC (mV 1) (aC (mV 3) a0))))
  (mRet (mCall (pureX f_grown) (aC (mV 4) (aC (mIte (mCmp .Eq (mV 3) (mC v_COPY)) (mCall (pureX f_copied) (aC (mV 0) (aC (mV 1) (aC (mV 2) a0)))) (mV 2)) a0)))))
def f_view_after : Fn := fnM 4 5 m_view_after
theorem b_view_after {P : Program} {w : World} {K : PySem.W.Frag} {mg : Str → Option Value} {base : Heap} (c : Fx K mg) (cdv : Value) (A : Around) (outer : List Env) (s : Shared) (H : Hp) (E : XK) (hr : Room 4 (A.deeper (envOfC "view_after" (defScope (tops 39)) s.heap.objs.size ((pG "view_after") K) cdv))) :
    SimSs (cxOf (L2.CX P w) P w K mg base n_view_after "view_after" (defScope (tops 39)) ((pG "view_after") K) cdv A outer s H E) ⟨P, w, K, cas K, E⟩ (defBody (tops 39)) m_view_after := by
  have c1 : CF (cxOf (L2.CX P w) P w K mg base n_view_after "view_after" (defScope (tops 39)) ((pG "view_after") K) cdv A outer s H E) E 4 := ⟨rfl, hr, takes_of rfl rfl rfl rfl, sc_view_after.nd⟩
  have po : PassesOwn (model P w) (cxOf (L2.CX P w) P w K mg base n_view_after "view_after" (defScope (tops 39)) ((pG "view_after") K) cdv A outer s H E).A (cxOf (L2.CX P w) P w K mg base n_view_after "view_after" (defScope (tops 39)) ((pG "view_after") K) cdv A outer s H E).env (cxOf (L2.CX P w) P w K mg base n_view_after "view_after" (defScope (tops 39)) ((pG "view_after") K) cdv A outer s H E).xe := passes_of rfl
  exact (sims_cons (xSet c1 4 (gCall c1 c.g_modes_after c.h_modes_after (k_modes_after c).pureX (gA (gV 1) (gA (gV 3) g0))))
  (sims_one (sims_ret (gCall c1 c.g_grown c.h_grown (k_grown c).pureX (gA (gV 4) (gA (gIte (tCmp c1 (gV 3) (gG c.v_COPY)) (gCall c1 c.g_copied c.h_copied (k_copied c).pureX (gA (gV 0) (gA (gV 1) (gA (gV 2) g0)))) (gV 2)) g0))))))
theorem k_view_after {P : Program} {w : World} {K : PySem.W.Frag} {mg : Str → Option Value} {base : Heap} (c : Fx K mg) : FnW P w K mg base (cas K) 5 f_view_after ((pG "view_after") K) := by
  obtain ⟨fd, F⟩ := c.d_view_after
  exact fn_sim (ps := ["house", "modes", "view", "step"]) F sc_view_after (F.bindsN fun _ _ _ _ _ _ us hl => match us, hl with | [_, _, _, _], _ => rfl) (b_view_after c)
/-! after -/
def n_after : List Str := ["house", "modes", "view", "step"]
theorem sc_after : FnScope n_after ["house", "modes", "view", "step"] (defScope (tops 44)) := fnScopeBy (by decide +kernel)
def m_after : MS := (mSeq (mEx (mCall (pureX f_check_view) (aC (mV 0) (aC (mV 1) (aC (mV 2) a0)))))
  (mSeq (mEx (mCall (pureX f_check_step) (aC (mV 0) (aC (mV 3) a0))))
  (mRet (mTup (aC (mCall (pureX f_modes_after) (aC (mV 1) (aC (mV 3) a0))) (aC (mCall (pureX f_view_after) (aC (mV 0) (aC (mV 1) (aC (mCall (pureX f_grown) (aC (mV 1) (aC (mV 2) a0))) (aC (mV 3) a0))))) a0))))))
def f_after : Fn := fnM 4 4 m_after
theorem b_after {P : Program} {w : World} {K : PySem.W.Frag} {mg : Str → Option Value} {base : Heap} (c : Fx K mg) (cdv : Value) (A : Around) (outer : List Env) (s : Shared) (H : Hp) (E : XK) (hr : Room 5 (A.deeper (envOfC "after" (defScope (tops 44)) s.heap.objs.size ((pG "after") K) cdv))) :
    SimSs (cxOf (L2.CX P w) P w K mg base n_after "after" (defScope (tops 44)) ((pG "after") K) cdv A outer s H E) ⟨P, w, K, cas K, E⟩ (defBody (tops 44)) m_after := by
  have c1 : CF (cxOf (L2.CX P w) P w K mg base n_after "after" (defScope (tops 44)) ((pG "after") K) cdv A outer s H E) E 5 := ⟨rfl, hr, takes_of rfl rfl rfl rfl, sc_after.nd⟩
  have po : PassesOwn (model P w) (cxOf (L2.CX P w) P w K mg base n_after "after" (defScope (tops 44)) ((pG "after") K) cdv A outer s H E).A (cxOf (L2.CX P w) P w K mg base n_after "after" (defScope (tops 44)) ((pG "after") K) cdv A outer s H E).env (cxOf (L2.CX P w) P w K mg base n_after "after" (defScope (tops 44)) ((pG "after") K) cdv A outer s H E).xe := passes_of rfl
  exact (sims_cons (xEx (gCall c1 c.g_check_view c.h_check_view (k_check_view c).pureX (gA (gV 0) (gA (gV 1) (gA (gV 2) g0)))))
  (sims_cons (xEx (gCall c1 c.g_check_step c.h_check_step (k_check_step c).pureX (gA (gV 0) (gA (gV 3) g0))))
  (sims_one (sims_ret (gTup (gA (gCall c1 c.g_modes_after c.h_modes_after (k_modes_after c).pureX (gA (gV 1) (gA (gV 3) g0))) (gA (gCall c1 c.g_view_after c.h_view_after (k_view_after c).pureX (gA (gV 0) (gA (gV 1) (gA (gCall c1 c.g_grown c.h_grown (k_grown c).pureX (gA (gV 1) (gA (gV 2) g0))) (gA (gV 3) g0))))) g0)))))))
theorem k_after {P : Program} {w : World} {K : PySem.W.Frag} {mg : Str → Option Value} {base : Heap} (c : Fx K mg) : FnW P w K mg base (cas K) 6 f_after ((pG "after") K) := by
  obtain ⟨fd, F⟩ := c.d_after
  exact fn_sim (ps := ["house", "modes", "view", "step"]) F sc_after (F.bindsN fun _ _ _ _ _ _ us hl => match us, hl with | [_, _, _, _], _ => rfl) (b_after c)
/-! _law_told -/
def n__law_told : List Str := ["_law_line", "_law_step", "_law_server", "_law_mode_here"]
theorem sc__law_told : FnScope n__law_told ["_law_line", "_law_step"] (defScope (tops 60)) := fnScopeBy (by decide +kernel)
def m__law_told : MS := (mSeq (mIf (mCmp .Eq (mV 1) (mTup (aC (mC (.str "copy")) a0))) (mRet (mV 0)) mNx)
  (mRet (mB1 (g1 (b1A .tuple)) (mLc [2, 3] (mtT (mtC (mtN 2) (mtC (mtN 3) mt0))) (miEn (mV 0)) mYes (mIte (mCmp .Eq (mV 2) (mSub (mV 1) (mC (.int 1)))) (mSub (mV 1) (mC (.int 2))) (mV 3))))))
def f__law_told : Fn := fnM 2 4 m__law_told
theorem b__law_told {P : Program} {w : World} {K : PySem.W.Frag} {mg : Str → Option Value} {base : Heap} (c : Fx K mg) (cdv : Value) (A : Around) (outer : List Env) (s : Shared) (H : Hp) (E : XK) (hr : Room 0 (A.deeper (envOfC "_law_told" (defScope (tops 60)) s.heap.objs.size ((pG "_law_told") K) cdv))) :
    SimSs (cxOf (L2.CX P w) P w K mg base n__law_told "_law_told" (defScope (tops 60)) ((pG "_law_told") K) cdv A outer s H E) ⟨P, w, K, cas K, E⟩ (defBody (tops 60)) m__law_told := by
  have c1 : CF (cxOf (L2.CX P w) P w K mg base n__law_told "_law_told" (defScope (tops 60)) ((pG "_law_told") K) cdv A outer s H E) E 0 := ⟨rfl, hr, takes_of rfl rfl rfl rfl, sc__law_told.nd⟩
  have po : PassesOwn (model P w) (cxOf (L2.CX P w) P w K mg base n__law_told "_law_told" (defScope (tops 60)) ((pG "_law_told") K) cdv A outer s H E).A (cxOf (L2.CX P w) P w K mg base n__law_told "_law_told" (defScope (tops 60)) ((pG "_law_told") K) cdv A outer s H E).env (cxOf (L2.CX P w) P w K mg base n__law_told "_law_told" (defScope (tops 60)) ((pG "_law_told") K) cdv A outer s H E).xe := passes_of rfl
  exact (sims_cons (sims_if (tCmp c1 (gV 1) (gTup (gA gS g0))) (sims_one (sims_ret (gV 0))) sims_nil)
  (sims_one (sims_ret (gTuple c.b_tuple (gLc c1 [("_law_server", 2), ("_law_mode_here", 3)] (iEn c.b_enumerate (gV 0)) (fun s1 H1 C1 l1 q1 => (uT (c1.blk s1 H1 _ _ q1) (uC (uN (c1.blk s1 H1 _ _ q1) 2) (uC (uN (c1.blk s1 H1 _ _ q1) 3) u0)) (mtC_len (mtC_len mt0_len)))) (fun s2 H2 C2 l2 q2 => simts_nil) (fun s3 H3 C3 l3 q3 => (gIte (tCmp (c1.blk s3 H3 _ _ q3) (gV 2) (gSub (c1.blk s3 H3 _ _ q3) (gV 1) gI)) (gSub (c1.blk s3 H3 _ _ q3) (gV 1) gI) (gV 3))))))))
theorem k__law_told {P : Program} {w : World} {K : PySem.W.Frag} {mg : Str → Option Value} {base : Heap} (c : Fx K mg) : FnW P w K mg base (cas K) 1 f__law_told ((pG "_law_told") K) := by
  obtain ⟨fd, F⟩ := c.d__law_told
  exact fn_sim (ps := ["_law_line", "_law_step"]) F sc__law_told (F.bindsN fun _ _ _ _ _ _ us hl => match us, hl with | [_, _], _ => rfl) (b__law_told c)
/-! _law_put -/
def n__law_put : List Str := ["_law_copier_here", "_law_pair", "_law_taken", "_law_quiet"]
theorem sc__law_put : FnScope n__law_put ["_law_copier_here", "_law_pair", "_law_taken", "_law_quiet"] (defScope (tops 58)) := fnScopeBy (by decide +kernel)
def m__law_put : MS := (mSeq (mIf (orM (andM (mCmp .Eq (mV 0) (mC (.str "empty"))) (mCmp .NotEq (mSub (mV 1) (mC (.int 1))) (mC (.str "empty")))) (andM (mCmp .Eq (mV 0) (mC (.str "check"))) (mNot (mV 3)))) (mRet (mV 1)) mNx)
  (mRet (mTup (aC (mSub (mV 1) (mC (.int 0))) (aC (mV 2) a0)))))
def f__law_put : Fn := fnM 4 4 m__law_put
theorem b__law_put {P : Program} {w : World} {K : PySem.W.Frag} {mg : Str → Option Value} {base : Heap} (c : Fx K mg) (cdv : Value) (A : Around) (outer : List Env) (s : Shared) (H : Hp) (E : XK) (hr : Room 0 (A.deeper (envOfC "_law_put" (defScope (tops 58)) s.heap.objs.size ((pG "_law_put") K) cdv))) :
    SimSs (cxOf (L2.CX P w) P w K mg base n__law_put "_law_put" (defScope (tops 58)) ((pG "_law_put") K) cdv A outer s H E) ⟨P, w, K, cas K, E⟩ (defBody (tops 58)) m__law_put := by
  have c1 : CF (cxOf (L2.CX P w) P w K mg base n__law_put "_law_put" (defScope (tops 58)) ((pG "_law_put") K) cdv A outer s H E) E 0 := ⟨rfl, hr, takes_of rfl rfl rfl rfl, sc__law_put.nd⟩
  have po : PassesOwn (model P w) (cxOf (L2.CX P w) P w K mg base n__law_put "_law_put" (defScope (tops 58)) ((pG "_law_put") K) cdv A outer s H E).A (cxOf (L2.CX P w) P w K mg base n__law_put "_law_put" (defScope (tops 58)) ((pG "_law_put") K) cdv A outer s H E).env (cxOf (L2.CX P w) P w K mg base n__law_put "_law_put" (defScope (tops 58)) ((pG "_law_put") K) cdv A outer s H E).xe := passes_of rfl
  exact (sims_cons (sims_if (tOr (tAnd (tCmp c1 (gV 0) gS) (simw_one (tCmp c1 (gSub c1 (gV 1) gI) gS))) (simw_one (tAnd (tCmp c1 (gV 0) gS) (simw_one (tNot (tV (gV 3))))))) (sims_one (sims_ret (gV 1))) sims_nil)
  (sims_one (sims_ret (gTup (gA (gSub c1 (gV 1) gI) (gA (gV 2) g0))))))
theorem k__law_put {P : Program} {w : World} {K : PySem.W.Frag} {mg : Str → Option Value} {base : Heap} (c : Fx K mg) : FnW P w K mg base (cas K) 1 f__law_put ((pG "_law_put") K) := by
  obtain ⟨fd, F⟩ := c.d__law_put
  exact fn_sim (ps := ["_law_copier_here", "_law_pair", "_law_taken", "_law_quiet"]) F sc__law_put (F.bindsN fun _ _ _ _ _ _ us hl => match us, hl with | [_, _, _, _], _ => rfl) (b__law_put c)
/-! _law_copy -/
def n__law_copy : List Str := ["_law_copier_here", "_law_line", "_law_view", "_law_found", "_law_pair", "_law_writes", "_law_mode_here", "_law_other"]
theorem sc__law_copy : FnScope n__law_copy ["_law_copier_here", "_law_line", "_law_view"] (defScope (tops 59)) := fnScopeBy (by decide +kernel)
def m__law_copy : MS := (mSeq (mSet 3 (mLst a0))
  (mSeq (mFor (mtN 4) (miOf (mV 2)) (mSeq (mEx (mBm .append (mV 3) (aC (mCall f__law_put (aC (mV 0) (aC (mV 4) (aC (mSub (mV 4) (mC (.int 0))) (aC (mC (.bl true)) a0))))) a0)))
  (mSeq (mSet 5 (mLc [6] (mtN 6) (miOf (mV 1)) mYes (mCall f__law_write (aC (mV 4) (aC (mSub (mV 6) (mC (.int 1))) a0)))))
  (mSet 3 (mBin .Add (mV 3) (mLc [7] (mtN 7) (miOf (mCall f__law_grown (aC (mV 1) (aC (mV 5) a0)))) mYes (mCall f__law_put (aC (mV 0) (aC (mV 7) (aC (mC (.str "stale")) (aC (mC (.bl false)) a0)))))))))))
  (mRet (mB1 (g1 ssetA) (mV 3)))))
def f__law_copy : Fn := fnM 3 8 m__law_copy
theorem b__law_copy {P : Program} {w : World} {K : PySem.W.Frag} {mg : Str → Option Value} {base : Heap} (c : Fx K mg) (cdv : Value) (A : Around) (outer : List Env) (s : Shared) (H : Hp) (E : XK) (hr : Room 3 (A.deeper (envOfC "_law_copy" (defScope (tops 59)) s.heap.objs.size ((pG "_law_copy") K) cdv))) :
    SimSs (cxOf (L2.CX P w) P w K mg base n__law_copy "_law_copy" (defScope (tops 59)) ((pG "_law_copy") K) cdv A outer s H E) ⟨P, w, K, cas K, E⟩ (defBody (tops 59)) m__law_copy := by
  have c1 : CF (cxOf (L2.CX P w) P w K mg base n__law_copy "_law_copy" (defScope (tops 59)) ((pG "_law_copy") K) cdv A outer s H E) E 3 := ⟨rfl, hr, takes_of rfl rfl rfl rfl, sc__law_copy.nd⟩
  have po : PassesOwn (model P w) (cxOf (L2.CX P w) P w K mg base n__law_copy "_law_copy" (defScope (tops 59)) ((pG "_law_copy") K) cdv A outer s H E).A (cxOf (L2.CX P w) P w K mg base n__law_copy "_law_copy" (defScope (tops 59)) ((pG "_law_copy") K) cdv A outer s H E).env (cxOf (L2.CX P w) P w K mg base n__law_copy "_law_copy" (defScope (tops 59)) ((pG "_law_copy") K) cdv A outer s H E).xe := passes_of rfl
  exact (sims_cons (xSet c1 3 (gLst g0))
  (sims_cons (xFor c1 po (simi_of (gV 2)) (uN c1 4) (sims_cons (xEx (gApp (gV 3) (gCall c1 c.g__law_put c.h__law_put (k__law_put c) (gA (gV 0) (gA (gV 4) (gA (gSub c1 (gV 4) gI) (gA gB g0)))))))
  (sims_cons (xLc c1 5 [("_law_mode_here", 6)] (simi_of (gV 1)) (fun s1 H1 C1 l1 q1 => (uN (c1.blk s1 H1 _ _ q1) 6)) (fun s2 H2 C2 l2 q2 => simts_nil) (fun s3 H3 C3 l3 q3 => (gCall (c1.blk s3 H3 _ _ q3) c.g__law_write c.h__law_write (k__law_write c) (gA (gV 4) (gA (gSub (c1.blk s3 H3 _ _ q3) (gV 6) gI) g0)))))
  (sims_one (xSet c1 3 (gBin (gV 3) (gLc c1 [("_law_other", 7)] (simi_of (gCall c1 c.g__law_grown c.h__law_grown (k__law_grown c) (gA (gV 1) (gA (gV 5) g0)))) (fun s4 H4 C4 l4 q4 => (uN (c1.blk s4 H4 _ _ q4) 7)) (fun s5 H5 C5 l5 q5 => simts_nil) (fun s6 H6 C6 l6 q6 => (gCall (c1.blk s6 H6 _ _ q6) c.g__law_put c.h__law_put (k__law_put c) (gA (gV 0) (gA (gV 7) (gA gS (gA gB g0)))))))))))))
  (sims_one (sims_ret (gSset c1 c.b_sorted c.b_set (gV 3))))))
theorem k__law_copy {P : Program} {w : World} {K : PySem.W.Frag} {mg : Str → Option Value} {base : Heap} (c : Fx K mg) : FnW P w K mg base (cas K) 4 f__law_copy ((pG "_law_copy") K) := by
  obtain ⟨fd, F⟩ := c.d__law_copy
  exact fn_sim (ps := ["_law_copier_here", "_law_line", "_law_view"]) F sc__law_copy (F.bindsN fun _ _ _ _ _ _ us hl => match us, hl with | [_, _, _], _ => rfl) (b__law_copy c)
/-! _law_next -/
def n__law_next : List Str := ["_law_net_here", "_law_line", "_law_view", "_law_step", "_law_later"]
theorem sc__law_next : FnScope n__law_next ["_law_net_here", "_law_line", "_law_view", "_law_step"] (defScope (tops 61)) := fnScopeBy (by decide +kernel)
def m__law_next : MS := (mSeq (mSet 4 (mCall (pureX f__law_told) (aC (mV 1) (aC (mV 3) a0))))
  (mRet (mTup (aC (mV 4) (aC (mCall f__law_grown (aC (mV 4) (aC (mIte (mCmp .Eq (mV 3) (mTup (aC (mC (.str "copy")) a0))) (mCall f__law_copy (aC (mSub (mV 0) (mC (.int 1))) (aC (mV 1) (aC (mV 2) a0)))) (mV 2)) a0))) a0)))))
def f__law_next : Fn := fnM 4 5 m__law_next
theorem b__law_next {P : Program} {w : World} {K : PySem.W.Frag} {mg : Str → Option Value} {base : Heap} (c : Fx K mg) (cdv : Value) (A : Around) (outer : List Env) (s : Shared) (H : Hp) (E : XK) (hr : Room 4 (A.deeper (envOfC "_law_next" (defScope (tops 61)) s.heap.objs.size ((pG "_law_next") K) cdv))) :
    SimSs (cxOf (L2.CX P w) P w K mg base n__law_next "_law_next" (defScope (tops 61)) ((pG "_law_next") K) cdv A outer s H E) ⟨P, w, K, cas K, E⟩ (defBody (tops 61)) m__law_next := by
  have c1 : CF (cxOf (L2.CX P w) P w K mg base n__law_next "_law_next" (defScope (tops 61)) ((pG "_law_next") K) cdv A outer s H E) E 4 := ⟨rfl, hr, takes_of rfl rfl rfl rfl, sc__law_next.nd⟩
  have po : PassesOwn (model P w) (cxOf (L2.CX P w) P w K mg base n__law_next "_law_next" (defScope (tops 61)) ((pG "_law_next") K) cdv A outer s H E).A (cxOf (L2.CX P w) P w K mg base n__law_next "_law_next" (defScope (tops 61)) ((pG "_law_next") K) cdv A outer s H E).env (cxOf (L2.CX P w) P w K mg base n__law_next "_law_next" (defScope (tops 61)) ((pG "_law_next") K) cdv A outer s H E).xe := passes_of rfl
  exact (sims_cons (xSet c1 4 (gCall c1 c.g__law_told c.h__law_told (k__law_told c).pureX (gA (gV 1) (gA (gV 3) g0))))
  (sims_one (sims_ret (gTup (gA (gV 4) (gA (gCall c1 c.g__law_grown c.h__law_grown (k__law_grown c) (gA (gV 4) (gA (gIte (tCmp c1 (gV 3) (gTup (gA gS g0))) (gCall c1 c.g__law_copy c.h__law_copy (k__law_copy c) (gA (gSub c1 (gV 0) gI) (gA (gV 1) (gA (gV 2) g0)))) (gV 2)) g0))) g0))))))
theorem k__law_next {P : Program} {w : World} {K : PySem.W.Frag} {mg : Str → Option Value} {base : Heap} (c : Fx K mg) : FnW P w K mg base (cas K) 5 f__law_next ((pG "_law_next") K) := by
  obtain ⟨fd, F⟩ := c.d__law_next
  exact fn_sim (ps := ["_law_net_here", "_law_line", "_law_view", "_law_step"]) F sc__law_next (F.bindsN fun _ _ _ _ _ _ us hl => match us, hl with | [_, _, _, _], _ => rfl) (b__law_next c)
/-! law -/
def n_law : List Str := ["_law_script", "_law_draws", "_law_turn", "_law_net_here", "_law_house", "_law_more_here", "_law_line", "_law_view", "_law_every", "_law_step", "_law_server", "_law_pair"]
theorem sc_law : FnScope n_law ["_law_script"] (defScope (tops 63)) := fnScopeBy (by decide +kernel)
def m_law : MS := (mSeq (mSet 0 (mSl (mV 0) oN (oS (mC (.int 63)))))
  (mSeq (mSet 1 (mCall (pureX f__law_pool) (aC (mV 0) (aC (mTup (aC (mC (.int 1009)) (aC (mC (.int 1013)) (aC (mC (.int 1000033)) a0)))) a0))))
  (mSeq (mIf (mCmp .NotEq (mB1 (g1 (b1A .list)) (mC v_MODES)) (mCall0 (pureX f__law_all_modes))) (mRet (mC (.bl false))) mNx)
  (mSeq (mFor (mtN 2) (miRg (mC (.int 6))) (mSeq (mSet 3 (mCall f__law_net (aC (mV 1) (aC (mC (.int 3)) a0))))
  (mSeq (mSet 4 (newM 0 f_House___init__ (aC (mSub (mV 3) (mC (.int 0))) (aC (mSub (mV 3) (mC (.int 1))) (aC (mSub (mV 3) (mC (.int 2))) a0)))))
  (mSeq (mIf (orM (mCmp .NotEq (mPrp (tab1 f_House_modes) (mV 4) [(0, 0)]) (mSub (mV 3) (mC (.int 0)))) (orM (mCmp .NotEq (mPrp (tab1 f_House_copier) (mV 4) [(0, 0)]) (mSub (mV 3) (mC (.int 1)))) (orM (mCmp .NotEq (mPrp (tab1 f_House_prices) (mV 4) [(0, 0)]) (mSub (mV 3) (mC (.int 2)))) (mCmp .NotEq (mLenO (tab1 f_House___len__) (mV 4) [(0, 0)]) (mB1 (g1 lenA) (mSub (mV 3) (mC (.int 0)))))))) (mRet (mC (.bl false))) mNx)
  (mSeq (mIf (orM (mOeq (tab1 f_House___eq__) true [(0, 0)] (mV 4) (newM 0 f_House___init__ (aC (mSub (mV 3) (mC (.int 0))) (aC (mSub (mV 3) (mC (.int 1))) (aC (mSub (mV 3) (mC (.int 2))) a0))))) (mOeq (tab1 f_House___eq__) false [(0, 0)] (mV 4) (newM 0 f_House___init__ (aC (mSub (mV 3) (mC (.int 0))) (aC (mSub (mV 3) (mC (.int 1))) (aC (mTup (aC (mSub (mSub (mV 3) (mC (.int 2))) (mC (.int 0))) (aC (mBin .Add (mBin .Mod (mSub (mSub (mV 3) (mC (.int 2))) (mC (.int 1))) (mC (.int 9))) (mC (.int 1))) a0))) a0)))))) (mRet (mC (.bl false))) mNx)
  (mSeq (mIf (orM (mOeq (tab1 f_House___eq__) false [(0, 0)] (mV 4) (newM 0 f_House___init__ (aC (mSub (mV 3) (mC (.int 0))) (aC (mIte (mCmp .NotEq (mSub (mV 3) (mC (.int 1))) (mC (.str "plain"))) (mC (.str "plain")) (mC (.str "check"))) (aC (mSub (mV 3) (mC (.int 2))) a0))))) (mOeq (tab1 f_House___eq__) false [(0, 0)] (mV 4) (newM 0 f_House___init__ (aC (mBin .Add (mSl (mSub (mV 3) (mC (.int 0))) oN (oS (mNeg (mC (.int 1))))) (mTup (aC (mTup (aC (mSub (mSub (mSub (mV 3) (mC (.int 0))) (mNeg (mC (.int 1)))) (mC (.int 0))) (aC (mIte (mCmp .NotEq (mSub (mSub (mSub (mV 3) (mC (.int 0))) (mNeg (mC (.int 1)))) (mC (.int 1))) (mC (.str "both"))) (mC (.str "both")) (mC (.str "new"))) a0))) a0))) (aC (mSub (mV 3) (mC (.int 1))) (aC (mSub (mV 3) (mC (.int 2))) a0)))))) (mRet (mC (.bl false))) mNx)
  (mFor (mtN 5) (miRg (mC (.int 4))) (mSeq (mSet 6 (mB1 (g1 (b1A .tuple)) (mLc [10] (mtN 10) (miOf (mSub (mV 3) (mC (.int 0)))) mYes (mCall f__law_mode (aC (mV 1) a0)))))
  (mSeq (mSet 7 (mB1 (g1 (b1A .tuple)) (mLc [11] (mtN 11) (miOf (mCall0 (pureX f__law_all_contents))) (mCmp .Eq (mCall f__law_take (aC (mV 1) (aC (mC (.int 3)) a0))) (mC (.int 0))) (mV 11))))
  (mSeq (mIf (mCmp .Eq (mV 7) (mTup a0)) (mSet 7 (mTup (aC (mTup (aC (mC (.str "fresh")) (aC (mC (.str "empty")) a0))) a0))) mNx)
  (mSeq (mSet 8 (mCall (pureX f__law_grown) (aC (mV 6) (aC (mV 7) a0))))
  (mSeq (mIf (orM (mCmp .NotEq (mCall (pureX f_closed) (aC (mV 4) (aC (mV 6) (aC (mV 7) a0)))) (mV 8)) (mCmp .NotEq (mCall (pureX f_reads_fine) (aC (mV 4) (aC (mV 6) (aC (mV 7) a0)))) (mCall (pureX f__law_fine) (aC (mV 6) (aC (mV 7) a0))))) (mRet (mC (.bl false))) mNx)
  (mSeq (mSet 9 (mIte (mCmp .Eq (mCall f__law_take (aC (mV 1) (aC (mC (.int 2)) a0))) (mC (.int 0))) (mTup (aC (mC (.str "copy")) a0)) (mTup (aC (mC (.str "mode")) (aC (mCall f__law_take (aC (mV 1) (aC (mB1 (g1 lenA) (mV 6)) a0))) (aC (mCall f__law_mode (aC (mV 1) a0)) a0))))))
  (mIf (mCmp .NotEq (mCall (pureX f_after) (aC (mV 4) (aC (mV 6) (aC (mV 7) (aC (mV 9) a0))))) (mCall (pureX f__law_next) (aC (mV 3) (aC (mV 6) (aC (mV 8) (aC (mV 9) a0)))))) (mRet (mC (.bl false))) mNx))))))))))))))
  (mRet (mC (.bl true)))))))
def f_law : Fn := fnM 1 12 m_law
theorem b_law {P : Program} {w : World} {K : PySem.W.Frag} {mg : Str → Option Value} {base : Heap} (c : Fx K mg) (cdv : Value) (A : Around) (outer : List Env) (s : Shared) (H : Hp) (E : XK) (hr : Room 6 (A.deeper (envOfC "law" (defScope (tops 63)) s.heap.objs.size ((pG "law") K) cdv))) :
    SimSs (cxOf (L2.CX P w) P w K mg base n_law "law" (defScope (tops 63)) ((pG "law") K) cdv A outer s H E) ⟨P, w, K, cas K, E⟩ (defBody (tops 63)) m_law := by
  have c1 : CF (cxOf (L2.CX P w) P w K mg base n_law "law" (defScope (tops 63)) ((pG "law") K) cdv A outer s H E) E 6 := ⟨rfl, hr, takes_of rfl rfl rfl rfl, sc_law.nd⟩
  have po : PassesOwn (model P w) (cxOf (L2.CX P w) P w K mg base n_law "law" (defScope (tops 63)) ((pG "law") K) cdv A outer s H E).A (cxOf (L2.CX P w) P w K mg base n_law "law" (defScope (tops 63)) ((pG "law") K) cdv A outer s H E).env (cxOf (L2.CX P w) P w K mg base n_law "law" (defScope (tops 63)) ((pG "law") K) cdv A outer s H E).xe := passes_of rfl
  exact (sims_cons (xSet c1 0 (gSl (gV 0) goN (goS gI)))
  (sims_cons (xSet c1 1 (gCall c1 c.g__law_pool c.h__law_pool (k__law_pool c).pureX (gA (gV 0) (gA (gTup (gA gI (gA gI (gA gI g0)))) g0))))
  (sims_cons (sims_if (tCmp c1 (gList c1 c.b_list (gG c.v_MODES)) (gCall0 c1 c.g__law_all_modes c.h__law_all_modes (k__law_all_modes c).pureX)) (sims_one (sims_ret gB)) sims_nil)
  (sims_cons (xFor c1 po (iRg c.b_range gI) (uN c1 2) (sims_cons (xSet c1 3 (gCall c1 c.g__law_net c.h__law_net (k__law_net c) (gA (gV 1) (gA gI g0))))
  (sims_cons (xSet c1 4 (gNew (k := 0) c1 c.g_House c.k_House (k_House___init__ c) (gA (gSub c1 (gV 3) gI) (gA (gSub c1 (gV 3) gI) (gA (gSub c1 (gV 3) gI) g0)))))
  (sims_cons (sims_if (tOr (tCmp c1 (gPrp (k := 0) c1 c.s_House c.p_House_modes (k_House_modes c) (gV 4)) (gSub c1 (gV 3) gI)) (simw_or (tCmp c1 (gPrp (k := 0) c1 c.s_House c.p_House_copier (k_House_copier c) (gV 4)) (gSub c1 (gV 3) gI)) (simw_or (tCmp c1 (gPrp (k := 0) c1 c.s_House c.p_House_prices (k_House_prices c) (gV 4)) (gSub c1 (gV 3) gI)) (simw_one (tCmp c1 (gLenO (k := 0) c1 c.b_len c.s_House c.m_House___len__ (k_House___len__ c) (gV 4)) (gLen c.b_len (gSub c1 (gV 3) gI))))))) (sims_one (sims_ret gB)) sims_nil)
  (sims_cons (sims_if (tOr (tOeq (k := 0) c1 true c.s_House c.e_House (k_House___eq__ c) (gV 4) (gNew (k := 0) c1 c.g_House c.k_House (k_House___init__ c) (gA (gSub c1 (gV 3) gI) (gA (gSub c1 (gV 3) gI) (gA (gSub c1 (gV 3) gI) g0))))) (simw_one (tOeq (k := 0) c1 false c.s_House c.e_House (k_House___eq__ c) (gV 4) (gNew (k := 0) c1 c.g_House c.k_House (k_House___init__ c) (gA (gSub c1 (gV 3) gI) (gA (gSub c1 (gV 3) gI) (gA (gTup (gA (gSub c1 (gSub c1 (gV 3) gI) gI) (gA (gBin (gBin (gSub c1 (gSub c1 (gV 3) gI) gI) gI) gI) g0))) g0))))))) (sims_one (sims_ret gB)) sims_nil)
  (sims_cons (sims_if (tOr (tOeq (k := 0) c1 false c.s_House c.e_House (k_House___eq__ c) (gV 4) (gNew (k := 0) c1 c.g_House c.k_House (k_House___init__ c) (gA (gSub c1 (gV 3) gI) (gA (gIte (tCmp c1 (gSub c1 (gV 3) gI) gS) gS gS) (gA (gSub c1 (gV 3) gI) g0))))) (simw_one (tOeq (k := 0) c1 false c.s_House c.e_House (k_House___eq__ c) (gV 4) (gNew (k := 0) c1 c.g_House c.k_House (k_House___init__ c) (gA (gBin (gSl (gSub c1 (gV 3) gI) goN (goS (gNeg gI))) (gTup (gA (gTup (gA (gSub c1 (gSub c1 (gSub c1 (gV 3) gI) (gNeg gI)) gI) (gA (gIte (tCmp c1 (gSub c1 (gSub c1 (gSub c1 (gV 3) gI) (gNeg gI)) gI) gS) gS gS) g0))) g0))) (gA (gSub c1 (gV 3) gI) (gA (gSub c1 (gV 3) gI) g0))))))) (sims_one (sims_ret gB)) sims_nil)
  (sims_one (xFor c1 po (iRg c.b_range gI) (uN c1 5) (sims_cons (xSet c1 6 (gTuple c.b_tuple (gLc c1 [("_law_server", 10)] (simi_of (gSub c1 (gV 3) gI)) (fun s1 H1 C1 l1 q1 => (uN (c1.blk s1 H1 _ _ q1) 10)) (fun s2 H2 C2 l2 q2 => simts_nil) (fun s3 H3 C3 l3 q3 => (gCall (c1.blk s3 H3 _ _ q3) c.g__law_mode c.h__law_mode (k__law_mode c) (gA (gV 1) g0))))))
  (sims_cons (xSet c1 7 (gTuple c.b_tuple (gLc c1 [("_law_pair", 11)] (simi_of (gCall0 c1 c.g__law_all_contents c.h__law_all_contents (k__law_all_contents c).pureX)) (fun s4 H4 C4 l4 q4 => (uN (c1.blk s4 H4 _ _ q4) 11)) (fun s5 H5 C5 l5 q5 => (simts_one (tCmp (c1.blk s5 H5 _ _ q5) (gCall (c1.blk s5 H5 _ _ q5) c.g__law_take c.h__law_take (k__law_take c) (gA (gV 1) (gA gI g0))) gI))) (fun s6 H6 C6 l6 q6 => (gV 11)))))
  (sims_cons (sims_if (tCmp c1 (gV 7) (gTup g0)) (sims_one (xSet c1 7 (gTup (gA (gTup (gA gS (gA gS g0))) g0)))) sims_nil)
  (sims_cons (xSet c1 8 (gCall c1 c.g__law_grown c.h__law_grown (k__law_grown c).pureX (gA (gV 6) (gA (gV 7) g0))))
  (sims_cons (sims_if (tOr (tCmp c1 (gCall c1 c.g_closed c.h_closed (k_closed c).pureX (gA (gV 4) (gA (gV 6) (gA (gV 7) g0)))) (gV 8)) (simw_one (tCmp c1 (gCall c1 c.g_reads_fine c.h_reads_fine (k_reads_fine c).pureX (gA (gV 4) (gA (gV 6) (gA (gV 7) g0)))) (gCall c1 c.g__law_fine c.h__law_fine (k__law_fine c).pureX (gA (gV 6) (gA (gV 7) g0)))))) (sims_one (sims_ret gB)) sims_nil)
  (sims_cons (xSet c1 9 (gIte (tCmp c1 (gCall c1 c.g__law_take c.h__law_take (k__law_take c) (gA (gV 1) (gA gI g0))) gI) (gTup (gA gS g0)) (gTup (gA gS (gA (gCall c1 c.g__law_take c.h__law_take (k__law_take c) (gA (gV 1) (gA (gLen c.b_len (gV 6)) g0))) (gA (gCall c1 c.g__law_mode c.h__law_mode (k__law_mode c) (gA (gV 1) g0)) g0))))))
  (sims_one (sims_if (tCmp c1 (gCall c1 c.g_after c.h_after (k_after c).pureX (gA (gV 4) (gA (gV 6) (gA (gV 7) (gA (gV 9) g0))))) (gCall c1 c.g__law_next c.h__law_next (k__law_next c).pureX (gA (gV 3) (gA (gV 6) (gA (gV 8) (gA (gV 9) g0)))))) (sims_one (sims_ret gB)) sims_nil))))))))))))))))
  (sims_one (sims_ret gB))))))
theorem k_law {P : Program} {w : World} {K : PySem.W.Frag} {mg : Str → Option Value} {base : Heap} (c : Fx K mg) : FnW P w K mg base (cas K) 7 f_law ((pG "law") K) := by
  obtain ⟨fd, F⟩ := c.d_law
  exact fn_sim (ps := ["_law_script"]) F sc_law (F.bindsN fun _ _ _ _ _ _ us hl => match us, hl with | [_], _ => rfl) (b_law c)
/-! the head -/
def defs : List DefP := [⟨(pG "_law_draw"), "_law_draw", "_law_draw", defArgs (tops 46), defBody (tops 46), defScope (tops 46)⟩,
  ⟨(pG "_law_cell_at"), "_law_cell_at", "_law_cell_at", defArgs (tops 47), defBody (tops 47), defScope (tops 47)⟩,
  ⟨(pG "_law_digits"), "_law_digits", "_law_digits", defArgs (tops 48), defBody (tops 48), defScope (tops 48)⟩,
  ⟨(pG "_law_pool"), "_law_pool", "_law_pool", defArgs (tops 50), defBody (tops 50), defScope (tops 50)⟩,
  ⟨(pG "_law_all_modes"), "_law_all_modes", "_law_all_modes", defArgs (tops 51), defBody (tops 51), defScope (tops 51)⟩,
  ⟨(pG "_law_take"), "_law_take", "_law_take", defArgs (tops 49), defBody (tops 49), defScope (tops 49)⟩,
  ⟨(pG "_law_mode"), "_law_mode", "_law_mode", defArgs (tops 52), defBody (tops 52), defScope (tops 52)⟩,
  ⟨(pG "_law_net"), "_law_net", "_law_net", defArgs (tops 53), defBody (tops 53), defScope (tops 53)⟩,
  ⟨(pG "is_mode"), "is_mode", "is_mode", defArgs (tops 17), defBody (tops 17), defScope (tops 17)⟩,
  ⟨(pG "are_modes"), "are_modes", "are_modes", defArgs (tops 18), defBody (tops 18), defScope (tops 18)⟩,
  ⟨(pG "is_integer"), "is_integer", "is_integer", defArgs (tops 16), defBody (tops 16), defScope (tops 16)⟩,
  ⟨(pM "House" "__init__"), "__init__", "House.__init__", defArgs (meths 19 1), defBody (meths 19 1), defScope (meths 19 1)⟩,
  ⟨(pP "House" "modes"), "modes", "House.modes", defArgs (meths 19 5), defBody (meths 19 5), defScope (meths 19 5)⟩,
  ⟨(pP "House" "copier"), "copier", "House.copier", defArgs (meths 19 6), defBody (meths 19 6), defScope (meths 19 6)⟩,
  ⟨(pP "House" "prices"), "prices", "House.prices", defArgs (meths 19 7), defBody (meths 19 7), defScope (meths 19 7)⟩,
  ⟨(pM "House" "__len__"), "__len__", "House.__len__", defArgs (meths 19 2), defBody (meths 19 2), defScope (meths 19 2)⟩,
  ⟨(pM "House" "all_parts"), "all_parts", "House.all_parts", defArgs (meths 19 4), defBody (meths 19 4), defScope (meths 19 4)⟩,
  ⟨(pM "House" "__eq__"), "__eq__", "House.__eq__", defArgs (meths 19 3), defBody (meths 19 3), defScope (meths 19 3)⟩,
  ⟨(pG "_law_all_contents"), "_law_all_contents", "_law_all_contents", defArgs (tops 54), defBody (tops 54), defScope (tops 54)⟩,
  ⟨(pG "_law_write"), "_law_write", "_law_write", defArgs (tops 55), defBody (tops 55), defScope (tops 55)⟩,
  ⟨(pG "_law_more"), "_law_more", "_law_more", defArgs (tops 57), defBody (tops 57), defScope (tops 57)⟩,
  ⟨(pG "_law_grown"), "_law_grown", "_law_grown", defArgs (tops 56), defBody (tops 56), defScope (tops 56)⟩,
  ⟨(pG "check_house"), "check_house", "check_house", defArgs (tops 20), defBody (tops 20), defScope (tops 20)⟩,
  ⟨(pG "check_modes"), "check_modes", "check_modes", defArgs (tops 21), defBody (tops 21), defScope (tops 21)⟩,
  ⟨(pG "is_view"), "is_view", "is_view", defArgs (tops 40), defBody (tops 40), defScope (tops 40)⟩,
  ⟨(pG "check_view"), "check_view", "check_view", defArgs (tops 41), defBody (tops 41), defScope (tops 41)⟩,
  ⟨(pG "aged"), "aged", "aged", defArgs (tops 30), defBody (tops 30), defScope (tops 30)⟩,
  ⟨(pG "written"), "written", "written", defArgs (tops 31), defBody (tops 31), defScope (tops 31)⟩,
  ⟨(pG "view_of"), "view_of", "view_of", defArgs (tops 32), defBody (tops 32), defScope (tops 32)⟩,
  ⟨(pG "grown"), "grown", "grown", defArgs (tops 33), defBody (tops 33), defScope (tops 33)⟩,
  ⟨(pG "closed"), "closed", "closed", defArgs (tops 42), defBody (tops 42), defScope (tops 42)⟩,
  ⟨(pG "is_fine"), "is_fine", "is_fine", defArgs (tops 34), defBody (tops 34), defScope (tops 34)⟩,
  ⟨(pG "is_safe"), "is_safe", "is_safe", defArgs (tops 35), defBody (tops 35), defScope (tops 35)⟩,
  ⟨(pG "reads_fine"), "reads_fine", "reads_fine", defArgs (tops 43), defBody (tops 43), defScope (tops 43)⟩,
  ⟨(pG "_law_fine"), "_law_fine", "_law_fine", defArgs (tops 62), defBody (tops 62), defScope (tops 62)⟩,
  ⟨(pG "is_step"), "is_step", "is_step", defArgs (tops 22), defBody (tops 22), defScope (tops 22)⟩,
  ⟨(pG "check_step"), "check_step", "check_step", defArgs (tops 23), defBody (tops 23), defScope (tops 23)⟩,
  ⟨(pG "modes_after"), "modes_after", "modes_after", defArgs (tops 24), defBody (tops 24), defScope (tops 24)⟩,
  ⟨(pG "hands_from"), "hands_from", "hands_from", defArgs (tops 36), defBody (tops 36), defScope (tops 36)⟩,
  ⟨(pG "put_down"), "put_down", "put_down", defArgs (tops 37), defBody (tops 37), defScope (tops 37)⟩,
  ⟨(pG "copied"), "copied", "copied", defArgs (tops 38), defBody (tops 38), defScope (tops 38)⟩,
  ⟨(pG "view_after"), "view_after", "view_after", defArgs (tops 39), defBody (tops 39), defScope (tops 39)⟩,
  ⟨(pG "after"), "after", "after", defArgs (tops 44), defBody (tops 44), defScope (tops 44)⟩,
  ⟨(pG "_law_told"), "_law_told", "_law_told", defArgs (tops 60), defBody (tops 60), defScope (tops 60)⟩,
  ⟨(pG "_law_put"), "_law_put", "_law_put", defArgs (tops 58), defBody (tops 58), defScope (tops 58)⟩,
  ⟨(pG "_law_copy"), "_law_copy", "_law_copy", defArgs (tops 59), defBody (tops 59), defScope (tops 59)⟩,
  ⟨(pG "_law_next"), "_law_next", "_law_next", defArgs (tops 61), defBody (tops 61), defScope (tops 61)⟩,
  ⟨(pG "law"), "law", "law", defArgs (tops 63), defBody (tops 63), defScope (tops 63)⟩]
theorem fx_of {K : PySem.W.Frag} {h : Heap} {mg : Str → Option Value} (X : K.In h) (G : h.Ns mainGlobals mg) (s : SaysP (factsB facts) defs K) : Fx K mg := by
  have e := s.two.1
  exact {
    d__law_draw := s.def_ 0 rfl
    d__law_cell_at := s.def_ 1 rfl
    d__law_digits := s.def_ 2 rfl
    d__law_pool := s.def_ 3 rfl
    d__law_all_modes := s.def_ 4 rfl
    d__law_take := s.def_ 5 rfl
    d__law_mode := s.def_ 6 rfl
    d__law_net := s.def_ 7 rfl
    d_is_mode := s.def_ 8 rfl
    d_are_modes := s.def_ 9 rfl
    d_is_integer := s.def_ 10 rfl
    d_House___init__ := s.def_ 11 rfl
    d_House_modes := s.def_ 12 rfl
    d_House_copier := s.def_ 13 rfl
    d_House_prices := s.def_ 14 rfl
    d_House___len__ := s.def_ 15 rfl
    d_House_all_parts := s.def_ 16 rfl
    d_House___eq__ := s.def_ 17 rfl
    d__law_all_contents := s.def_ 18 rfl
    d__law_write := s.def_ 19 rfl
    d__law_more := s.def_ 20 rfl
    d__law_grown := s.def_ 21 rfl
    d_check_house := s.def_ 22 rfl
    d_check_modes := s.def_ 23 rfl
    d_is_view := s.def_ 24 rfl
    d_check_view := s.def_ 25 rfl
    d_aged := s.def_ 26 rfl
    d_written := s.def_ 27 rfl
    d_view_of := s.def_ 28 rfl
    d_grown := s.def_ 29 rfl
    d_closed := s.def_ 30 rfl
    d_is_fine := s.def_ 31 rfl
    d_is_safe := s.def_ 32 rfl
    d_reads_fine := s.def_ 33 rfl
    d__law_fine := s.def_ 34 rfl
    d_is_step := s.def_ 35 rfl
    d_check_step := s.def_ 36 rfl
    d_modes_after := s.def_ 37 rfl
    d_hands_from := s.def_ 38 rfl
    d_put_down := s.def_ 39 rfl
    d_copied := s.def_ 40 rfl
    d_view_after := s.def_ 41 rfl
    d_after := s.def_ 42 rfl
    d__law_told := s.def_ 43 rfl
    d__law_put := s.def_ 44 rfl
    d__law_copy := s.def_ 45 rfl
    d__law_next := s.def_ 46 rfl
    d_law := s.def_ 47 rfl
    b_abs := fc_free X G (facts_at e 0 rfl)
    b_all := fc_free X G (facts_at e 1 rfl)
    b_any := fc_free X G (facts_at e 2 rfl)
    b_bool := fc_free X G (facts_at e 3 rfl)
    b_enumerate := fc_free X G (facts_at e 4 rfl)
    b_int := fc_free X G (facts_at e 5 rfl)
    b_isinstance := fc_free X G (facts_at e 6 rfl)
    b_len := fc_free X G (facts_at e 7 rfl)
    b_list := fc_free X G (facts_at e 8 rfl)
    b_range := fc_free X G (facts_at e 9 rfl)
    b_set := fc_free X G (facts_at e 10 rfl)
    b_sorted := fc_free X G (facts_at e 11 rfl)
    b_str := fc_free X G (facts_at e 12 rfl)
    b_sum := fc_free X G (facts_at e 13 rfl)
    b_tuple := fc_free X G (facts_at e 14 rfl)
    b_zip := fc_free X G (facts_at e 15 rfl)
    v_BOTH := fc_val X G (facts_at e 16 rfl)
    v_CHANGE := fc_val X G (facts_at e 17 rfl)
    v_CONTENTS := fc_val X G (facts_at e 18 rfl)
    v_COPIERS := fc_val X G (facts_at e 19 rfl)
    v_COPY := fc_val X G (facts_at e 20 rfl)
    v_EMPTY := fc_val X G (facts_at e 21 rfl)
    v_FRESH := fc_val X G (facts_at e 22 rfl)
    v_MAX_PRICE := fc_val X G (facts_at e 23 rfl)
    v_MAX_SERVERS := fc_val X G (facts_at e 24 rfl)
    v_MODES := fc_val X G (facts_at e 25 rfl)
    v_NEW := fc_val X G (facts_at e 26 rfl)
    v_OLD := fc_val X G (facts_at e 27 rfl)
    v_STALE := fc_val X G (facts_at e 28 rfl)
    g__law_draw := fc_glo X G (facts_at e 29 rfl)
    h__law_draw := facts_at (f := .keep "_law_draw") e 30 rfl
    g__law_cell_at := fc_glo X G (facts_at e 31 rfl)
    h__law_cell_at := facts_at (f := .keep "_law_cell_at") e 32 rfl
    g__law_digits := fc_glo X G (facts_at e 33 rfl)
    h__law_digits := facts_at (f := .keep "_law_digits") e 34 rfl
    g__law_pool := fc_glo X G (facts_at e 35 rfl)
    h__law_pool := facts_at (f := .keep "_law_pool") e 36 rfl
    g__law_all_modes := fc_glo X G (facts_at e 37 rfl)
    h__law_all_modes := facts_at (f := .keep "_law_all_modes") e 38 rfl
    g__law_take := fc_glo X G (facts_at e 39 rfl)
    h__law_take := facts_at (f := .keep "_law_take") e 40 rfl
    g__law_mode := fc_glo X G (facts_at e 41 rfl)
    h__law_mode := facts_at (f := .keep "_law_mode") e 42 rfl
    g__law_net := fc_glo X G (facts_at e 43 rfl)
    h__law_net := facts_at (f := .keep "_law_net") e 44 rfl
    g_is_mode := fc_glo X G (facts_at e 45 rfl)
    h_is_mode := facts_at (f := .keep "is_mode") e 46 rfl
    g_are_modes := fc_glo X G (facts_at e 47 rfl)
    h_are_modes := facts_at (f := .keep "are_modes") e 48 rfl
    g_is_integer := fc_glo X G (facts_at e 49 rfl)
    h_is_integer := facts_at (f := .keep "is_integer") e 50 rfl
    g__law_all_contents := fc_glo X G (facts_at e 51 rfl)
    h__law_all_contents := facts_at (f := .keep "_law_all_contents") e 52 rfl
    g__law_write := fc_glo X G (facts_at e 53 rfl)
    h__law_write := facts_at (f := .keep "_law_write") e 54 rfl
    g__law_more := fc_glo X G (facts_at e 55 rfl)
    h__law_more := facts_at (f := .keep "_law_more") e 56 rfl
    g__law_grown := fc_glo X G (facts_at e 57 rfl)
    h__law_grown := facts_at (f := .keep "_law_grown") e 58 rfl
    g_check_house := fc_glo X G (facts_at e 59 rfl)
    h_check_house := facts_at (f := .keep "check_house") e 60 rfl
    g_check_modes := fc_glo X G (facts_at e 61 rfl)
    h_check_modes := facts_at (f := .keep "check_modes") e 62 rfl
    g_is_view := fc_glo X G (facts_at e 63 rfl)
    h_is_view := facts_at (f := .keep "is_view") e 64 rfl
    g_check_view := fc_glo X G (facts_at e 65 rfl)
    h_check_view := facts_at (f := .keep "check_view") e 66 rfl
    g_aged := fc_glo X G (facts_at e 67 rfl)
    h_aged := facts_at (f := .keep "aged") e 68 rfl
    g_written := fc_glo X G (facts_at e 69 rfl)
    h_written := facts_at (f := .keep "written") e 70 rfl
    g_view_of := fc_glo X G (facts_at e 71 rfl)
    h_view_of := facts_at (f := .keep "view_of") e 72 rfl
    g_grown := fc_glo X G (facts_at e 73 rfl)
    h_grown := facts_at (f := .keep "grown") e 74 rfl
    g_closed := fc_glo X G (facts_at e 75 rfl)
    h_closed := facts_at (f := .keep "closed") e 76 rfl
    g_is_fine := fc_glo X G (facts_at e 77 rfl)
    h_is_fine := facts_at (f := .keep "is_fine") e 78 rfl
    g_is_safe := fc_glo X G (facts_at e 79 rfl)
    h_is_safe := facts_at (f := .keep "is_safe") e 80 rfl
    g_reads_fine := fc_glo X G (facts_at e 81 rfl)
    h_reads_fine := facts_at (f := .keep "reads_fine") e 82 rfl
    g__law_fine := fc_glo X G (facts_at e 83 rfl)
    h__law_fine := facts_at (f := .keep "_law_fine") e 84 rfl
    g_is_step := fc_glo X G (facts_at e 85 rfl)
    h_is_step := facts_at (f := .keep "is_step") e 86 rfl
    g_check_step := fc_glo X G (facts_at e 87 rfl)
    h_check_step := facts_at (f := .keep "check_step") e 88 rfl
    g_modes_after := fc_glo X G (facts_at e 89 rfl)
    h_modes_after := facts_at (f := .keep "modes_after") e 90 rfl
    g_hands_from := fc_glo X G (facts_at e 91 rfl)
    h_hands_from := facts_at (f := .keep "hands_from") e 92 rfl
    g_put_down := fc_glo X G (facts_at e 93 rfl)
    h_put_down := facts_at (f := .keep "put_down") e 94 rfl
    g_copied := fc_glo X G (facts_at e 95 rfl)
    h_copied := facts_at (f := .keep "copied") e 96 rfl
    g_view_after := fc_glo X G (facts_at e 97 rfl)
    h_view_after := facts_at (f := .keep "view_after") e 98 rfl
    g_after := fc_glo X G (facts_at e 99 rfl)
    h_after := facts_at (f := .keep "after") e 100 rfl
    g__law_told := fc_glo X G (facts_at e 101 rfl)
    h__law_told := facts_at (f := .keep "_law_told") e 102 rfl
    g__law_put := fc_glo X G (facts_at e 103 rfl)
    h__law_put := facts_at (f := .keep "_law_put") e 104 rfl
    g__law_copy := fc_glo X G (facts_at e 105 rfl)
    h__law_copy := facts_at (f := .keep "_law_copy") e 106 rfl
    g__law_next := fc_glo X G (facts_at e 107 rfl)
    h__law_next := facts_at (f := .keep "_law_next") e 108 rfl
    g_law := fc_glo X G (facts_at e 109 rfl)
    h_law := facts_at (f := .keep "law") e 110 rfl
    g_House := fc_glo X G (facts_at e 111 rfl)
    s_House := fc_scl (facts_at e 112 rfl)
    t_House_copies := fc_slt (facts_at e 113 rfl)
    t_House_costs := fc_slt (facts_at e 114 rfl)
    t_House_first := fc_slt (facts_at e 115 rfl)
    p_House_modes := fc_prp (facts_at e 116 rfl)
    p_House_copier := fc_prp (facts_at e 117 rfl)
    p_House_prices := fc_prp (facts_at e 118 rfl)
    m_House___len__ := fc_meth (facts_at e 119 rfl)
    m_House_all_parts := fc_meth (facts_at e 120 rfl)
    k_House := fc_mk (facts_at e 121 rfl)
    e_House := fc_eqo (facts_at e 122 rfl)
    i_House := ⟨fc_isit (facts_at e 123 rfl), fun z hz => by
    rcases List.mem_cons.mp hz with hz | hz
    · subst hz; exact ⟨fc_scl (facts_at e 112 rfl), fc_isi (facts_at e 124 rfl)⟩
    · cases hz
⟩
  }
end Ev
set_option Elab.async false
set_option linter.all false
set_option maxRecDepth 100000
set_option maxHeartbeats 0
namespace Ev
open PySem PySem.Spec PyProof.Rows L2
/-- no list stands in the written part -/
def noLst (K : PySem.W.Frag) : Bool := K.all fun p => match p.2.cls with
  | .type n => !decide (n = "list")
  | _ => true
def exK (K : PySem.W.Frag) : Bool := noLst K && factsB facts K
abbrev rowOf : PySem.W.OpenRow := PySem.W.OpenLaw.row PySem.Challenge.rw_shelfmove_k01_whole_views
abbrev hk : PySem.W.Hook := hookP 5 exK defs
def ob (s : PySem.W.SharedT) : AlP := obG 5 exK defs (HandSHeadRun.getT s)
theorem ob_eq (s : PySem.W.SharedT) : ob s = hk.obs s.abs := obG_eq (HandSHeadRun.getT_eq s)
def loose1 : List PySem.Str := ["__name__", "ShelfError", "BadHouse", "BadModes", "BadView", "BadStep", "OLD", "NEW", "BOTH", "COPIERS", "MODES", "MAX_SERVERS", "MAX_PRICE", "COPY", "CHANGE", "is_integer", "is_mode", "are_modes", "House", "check_house", "check_modes", "is_step", "check_step", "modes_after", "FRESH", "STALE", "EMPTY", "CONTENTS", "aged", "written"]
def loose2 : List PySem.Str := ["view_of", "grown", "is_fine", "is_safe", "hands_from", "put_down", "copied", "view_after", "is_view", "check_view", "closed", "reads_fine", "after", "_law_draw", "_law_cell_at", "_law_digits", "_law_take", "_law_pool", "_law_all_modes", "_law_mode", "_law_net", "_law_all_contents", "_law_write", "_law_grown", "_law_more", "_law_put", "_law_copy", "_law_told", "_law_next", "_law_fine"]
def loose : List PySem.Str := loose1 ++ loose2
theorem run (w : World) : HandSHeadRun.RunEq rowOf (PySem.W.view rowOf.prog [63]) hk ob 6000 loose w := by
  intro os
  kernel_rfl
end Ev
set_option Elab.async false
set_option linter.all false
set_option maxRecDepth 100000
set_option maxHeartbeats 0
namespace Ev
open PySem PySem.Spec PyProof.Rows L2
/-- the heap at the law's call: the script alone -/
def h0 (ns : List Int) : AH := ⟨Tr.put 24 .nil 0 (.fz ns), 1, 1⟩
theorem h0_get (ns : List Int) : (h0 ns).get 0 = some (.fz ns) := rfl
def mu0 (a : Addr) : Mu := fun n => if n = 0 then some a else none
theorem mu0_at {a b : Addr} {n : Nat} (h : mu0 a n = some b) : n = 0 ∧ b = a := by
  unfold mu0 at h
  by_cases e : n = 0
  · rw [if_pos e] at h; exact ⟨e, (Option.some.inj h).symm⟩
  · rw [if_neg e] at h; cases h
theorem rel0 {W : Wd} {H : Hp} {a : Addr} {o : Obj} {ns : List Int} (hT : W.ca.T = []) (h : H a = some (.frz o (.lst (ns.map V.int)))) : RelH W 1 (mu0 a) (h0 ns) H where
  lim := by show 1 ≤ top; decide
  rol := Nat.le_refl _
  roe := rfl
  inj := fun n m b h1 h2 => by rw [(mu0_at h1).1, (mu0_at h2).1]
  obj := fun n x e => by
    have hn : n < 1 := AH.get_lt e
    have en : n = 0 := by omega
    subst en
    rw [h0_get] at e; cases e
    exact ⟨a, rfl, o, h⟩
  back := fun n b e => by
    obtain ⟨en, _⟩ := mu0_at e
    subst en
    exact ⟨_, h0_get ns⟩
  full := fun n e => by
    have e : n < 1 := e
    have en : n = 0 := by omega
    subst en
    exact ⟨_, h0_get ns⟩
  tabs := fun p hp => by rw [hT] at hp; cases hp
theorem lookup_in {a : Addr} {o : Obj} : ∀ {l : List (Addr × Obj)}, l.lookup a = some o → (a, o) ∈ l
  | [], e => by cases e
  | (b, u) :: r, e => by
    rw [List.lookup_cons] at e
    cases q : (a == b) with
    | true => rw [q] at e; cases e; rw [eq_of_beq q]; exact List.mem_cons_self
    | false => rw [q] at e; exact List.mem_cons_of_mem _ (lookup_in e)
/-- no exception leaves -/
theorem fn_cx0 {P : Program} {w : World} {K : PySem.W.Frag} {mg : Str → Option Value} {base : Heap} {k : Nat} {f : Addr} {fd : FuncData} {ps : List Str} {sp : Sp} (F : FnOk P w K mg base (L2.CX P w) k f fd ps sp) : FnOk P w K mg base CX0 k f fd ps (fun vs H Q _ => sp vs H Q E0) :=
  ⟨fun vs H Q E h => F.len vs H Q E0 h, fun A outer s H args us vs Q E hr e0 hb hv hs => codeAny_mono (F.run A outer s H args us vs Q E0 hr e0 hb hv hs) fun r s' hq => by
    cases r with
    | ok fl => cases fl <;> exact hq
    | error e =>
      obtain ⟨_, _, _, _, _, _, _, _, _, _, _, _, z⟩ := (show L2.CX P w outer H s E0 e s' from hq)
      exact z.elim⟩
theorem noLst_ok {K : PySem.W.Frag} (h : noLst K = true) {a : Addr} {o : Obj} (e : K.lookup a = some o) : o.cls ≠ .type "list" := fun z => by
  have hm : (a, o) ∈ K := lookup_in e
  have k := List.all_eq_true.mp (show (K.all fun p => match p.2.cls with | .type n => !decide (n = "list") | _ => true) = true from h) _ hm
  dsimp only at k
  rw [z] at k
  simp at k
/-- the script, as the machine has it -/
theorem script_sp {P : Program} {w : World} {K : PySem.W.Frag} {ca : Ca} {F : Fn} {H : Hp} {a : Addr} {ns : List Int} (hT : ca.T = []) (hK : noLst K = true) (hO : Only H) (hS : SqL K H a (ns.map V.int)) (hF : ∃ h', F [.obj 0] (h0 ns) = .ok (.bl true) h') : spF ⟨P, w, K, ca, E0⟩ F [.ref a] H (fun v _ => v = .bl true) fun _ _ _ => False := by
  have hf : ∃ o, H a = some (.frz o (.lst (ns.map V.int))) := by
    rcases hS with hS | ⟨o, its, n, hk, hc, _⟩
    · rcases hS with hS | hS
      · rcases hO a with z | ⟨o, xs, z⟩
        · rw [z] at hS; cases hS
        · rw [z] at hS; cases hS
      · exact hS
    · exact absurd hc (noLst_ok hK hk)
  obtain ⟨o, hf⟩ := hf
  obtain ⟨h', e⟩ := hF
  refine ⟨1, mu0 a, h0 ns, [.obj 0], rel0 hT hf, .cons (.obj rfl) .nil, ?_⟩
  rw [e]
  intro μ u H' st R d
  cases d
  rfl
theorem all_of {P : Program} {w : World} {K : PySem.W.Frag} {h : Heap} {mg : Str → Option Value} {f : Addr} (X : K.In h) (G : h.Ns mainGlobals mg) (hfa : mg ("law" : Str) = some (.ref f)) (c : SaysP exK defs K) :
    noLst K = true ∧ ∃ fd : FuncData, (∀ (s : Shared) (v : Value), BindsTo s fd ⟨[v], []⟩ [("_law_script", v)]) ∧ ∀ base : Heap, K.In base → base.Ns mainGlobals mg → FnOk P w K mg base CX0 7 f fd ["_law_script"] (fun vs H Q _ => spF ⟨P, w, K, cas K, E0⟩ f_law vs H Q E0) := by
  obtain ⟨e1, e2⟩ := Bool.and_eq_true_iff.mp c.two.1
  have c' : SaysP (factsB facts) defs K := by
    have k1 := c.two.2
    have k2 : (defs.map fun d => obF K (d.at_ K)) = defs.map DefP.val := congrArg (fun z : AlP => z.2) c
    show (_, _) = (_, _)
    rw [e2, k1, k2]
    rfl
  have Fx := fx_of X G c'
  have e := hfa.symm.trans Fx.g_law
  cases e
  obtain ⟨fd, F⟩ := Fx.d_law
  have b := F.bindsN (ps := ["_law_script"]) fun _ _ _ _ _ _ us hl => match us, hl with | [_], _ => rfl
  refine ⟨e1, fd, fun s v => ?_, fun base _ _ => fn_cx0 (fn_okS (ps := ["_law_script"]) F sc_law (b_law Fx))⟩
  exact (FunD.bindsA (ps := ["_law_script"]) F fun _ _ _ _ _ _ us hl => match us, hl with | [_], _ => rfl) s [v] rfl
/-- THE LAW, from what the machine answers -/
theorem holds_of (hp : ∀ ns : List Int, ns.length ≤ 63 → ∃ h', f_law [.obj 0] (h0 ns) = .ok (.bl true) h') : PySem.Challenge.rw_shelfmove_k01_whole_views.Holds := by
  w_on; o_law
  refine HandSHeadRun.head_any (r := PySem.W.OpenLaw.row PySem.Challenge.rw_shelfmove_k01_whole_views) (q := PySem.W.view (PySem.W.OpenLaw.row PySem.Challenge.rw_shelfmove_k01_whole_views).prog [63]) (H := hk) (ob := ob) (M := 6000) (loose := loose) (d := HandSHeadRun.topDef (PySem.W.OpenLaw.row PySem.Challenge.rw_shelfmove_k01_whole_views).prog 63) (kwd := []) ob_eq
    (by kernel_rfl) (fun s => by kernel_rfl) run (by kernel_rfl) (by kernel_rfl) (by kernel_rfl) (by rfl) (by first | assumption | decide +kernel) (by decide +kernel) ⟨rfl, rfl, rfl, rfl, rfl, by decide +kernel⟩ ?hw ?hc
  case hw => w_witness2
  case hc =>
    refine L2.walk_ofE (l := PySem.Challenge.rw_shelfmove_k01_whole_views) (n := 63) (k := 7) (x := "_law_script") (CX := L2.CX0) rfl (by decide) (by kernel_rfl) ⟨rfl, by decide, by decide⟩ ?F (fun _ _ _ _ z => z)
    intro w mg fa h Y G hmg0
    obtain ⟨K, KX, c⟩ := Y
    have hmg : mg ("law" : PySem.Str) = some (.ref fa) := by
      have e : (HandSHeadRun.topDef (PySem.W.OpenLaw.row PySem.Challenge.rw_shelfmove_k01_whole_views).prog 63).name = ("law" : PySem.Str) := by kernel_rfl
      rw [← e]
      exact hmg0
    obtain ⟨nl, fd, hb, hF⟩ := all_of (P := PySem.Challenge.rw_shelfmove_k01_whole_views.prog) (w := w) KX G hmg c
    exact ⟨K, fd, fun vs H Q _ => spF ⟨PySem.Challenge.rw_shelfmove_k01_whole_views.prog, w, K, cas K, E0⟩ f_law vs H Q E0, KX, hb, fun H a ns hl hO hS => script_sp rfl nl hO hS (hp ns hl), hF⟩
end Ev
set_option Elab.async false
set_option linter.all false
set_option maxRecDepth 100000
set_option maxHeartbeats 4000000
/-! what a law's draws do to the heap: the machine's loops, by invariants -/
namespace Ev
open PySem PySem.Spec PyProof.Rows L2
/-- the draws lie at d -/
structure Dr (d : Nat) (h : AH) : Prop where
  w : h.ro ≤ d
  g : ∃ is : List Int, h.get d = some (.lst (is.map AV.int))
structure Go (d k : Nat) (h h' : AH) : Prop where
  n1 : h.n ≤ h'.n
  n2 : h'.n ≤ h.n + k
  ro : h'.ro = h.ro
  same : ∀ j, j < h.n → j ≠ d → h'.get j = h.get j
  dr : Dr d h'
section
variable {d k k' : Nat} {h h1 h2 : AH}
theorem Dr.lt (D : Dr d h) : d < h.n := by
  obtain ⟨is, e⟩ := D.g
  exact AH.get_lt e
theorem Go.refl (D : Dr d h) : Go d 0 h h := ⟨Nat.le_refl _, Nat.le_refl _, rfl, fun _ _ _ => rfl, D⟩
theorem Go.trans (a : Go d k h h1) (b : Go d k' h1 h2) : Go d (k + k') h h2 := ⟨Nat.le_trans a.n1 b.n1, by have := a.n2; have := b.n2; omega, b.ro.trans a.ro, fun j q z => (b.same j (Nat.lt_of_lt_of_le q a.n1) z).trans (a.same j q z), b.dr⟩
theorem Go.mono (a : Go d k h h1) (q : k ≤ k') : Go d k' h h1 := ⟨a.n1, by have := a.n2; omega, a.ro, a.same, a.dr⟩
theorem Go.push (D : Dr d h) (o : AO) : Go d 1 h (h.push o) := by
  have hl := D.lt
  obtain ⟨w, is, e⟩ := D
  exact ⟨Nat.le_succ _, Nat.le_refl _, rfl, fun j q z => AH.get_push_old (Nat.ne_of_lt q), w, is, (AH.get_push_old (Nat.ne_of_lt hl)).trans e⟩
theorem Go.setD (D : Dr d h) (hn : h.n ≤ top) (is : List Int) : Go d 0 h (h.set d (.lst (is.map AV.int))) := by
  have hl := D.lt
  exact ⟨Nat.le_refl _, Nat.le_refl _, rfl, fun j q z => AH.get_set_ne z, D.w, is, AH.get_set_same hn hl⟩
/-- another object is changed -/
theorem Go.setO (D : Dr d h) {j : Nat} (hj : j ≠ d) (o : AO) {g : AH} (G : Go d k g h) (q : g.n ≤ j) : Go d k g (h.set j o) := by
  obtain ⟨w, is, e⟩ := D
  exact ⟨G.n1, G.n2, G.ro, fun i a b => (AH.get_set_ne (by omega)).trans (G.same i a b), w, is, (AH.get_set_ne (Ne.symm hj)).trans e⟩
theorem alloc_ok {o : AO} (hn : h.n < top) : alloc h o = .ok (.obj h.n) (h.push o) := by
  unfold alloc
  rw [blt_tt.mpr hn]
theorem dats_ints : ∀ is : List Int, AV.dats (is.map AV.int) = some (is.map PyData.int)
  | [] => rfl
  | i :: r => by
    show (match AV.dat (.int i) with | some d => (AV.dats (r.map AV.int)).map (d :: ·) | none => none) = _
    rw [dats_ints r]
    rfl
theorem lay_ints : ∀ is : List Int, PyData.canLayAll0 (is.map PyData.int) = true
  | [] => rfl
  | i :: r => by
    show (PyData.canLay0 (.int i) && PyData.canLayAll0 (r.map PyData.int)) = true
    rw [lay_ints r]
    rfl
theorem depth_ints : ∀ is : List Int, PyData.depthAll (is.map PyData.int) = 0
  | [] => rfl
  | i :: r => by
    show max (PyData.depth (.int i)) (PyData.depthAll (r.map PyData.int)) = 0
    rw [depth_ints r]
    rfl
theorem shaped_ints (is : List Int) : SeqAt.shaped (.list (is.map PyData.int)) = true := by
  show (PyData.canLayAll0 (is.map PyData.int) && decide (PyData.depthAll (is.map PyData.int) + 1 ≤ 64)) = true
  rw [lay_ints, depth_ints]
  rfl
theorem clns_ints : ∀ is : List Int, AV.clns 0 (is.map AV.int) = true
  | [] => rfl
  | i :: r => clns_ints r
theorem eq_nil {e : Nat} {is : List Int} (a : h.get d = some (.lst (is.map AV.int))) (b : h.get e = some (.lst [])) : eqA h (.obj d) (.obj e) = some is.isEmpty := by
  have p1 : datL h (.obj d) = some (.list (is.map PyData.int)) := by
    unfold datL
    dsimp only
    rw [a]
    show (AV.dats (is.map AV.int)).map PyData.list = _
    rw [dats_ints]
    rfl
  have p2 : datL h (.obj e) = some (.list []) := by
    unfold datL
    dsimp only
    rw [b]
    rfl
  unfold eqA
  rw [p1, p2]
  dsimp only
  rw [shaped_ints]
  cases is <;> rfl
/-! ### loops -/
theorem Src.at_rg (n i : Nat) (h : AH) : Src.at (.rg n) h i = if i < n then some (some (.int i)) else some none := by
  show (match Nat.blt i n with | true => some (some (AV.int i)) | false => some none) = _
  by_cases q : i < n
  · rw [blt_tt.mpr q, if_pos q]
  · rw [blt_ff.mpr (Nat.not_lt.mp q), if_neg q]
theorem for_rg {n : Nat} {turn : AV → Loc' → AH → RS} {J : Nat → Loc' → AH → Prop} (step : ∀ i l h, i < n → J i l h → ∃ l' h', turn (.int i) l h = .nx l' h' ∧ J (i + 1) l' h') :
    ∀ (k i m : Nat) (l : Loc') (h : AH), i + k = n → k < m → J i l h → ∃ l' h', forLoop (.rg n) turn m i l h = .nx l' h' ∧ J n l' h'
  | k, i, 0, l, h, e, q, j => absurd q (Nat.not_lt_zero _)
  | 0, i, m + 1, l, h, e, q, j => by
    have : ¬ i < n := by omega
    refine ⟨l, h, ?_, by have e : i = n := by omega
                         rw [← e]; exact j⟩
    show (match Src.at (.rg n) h i with | some (some x) => (turn x l h).bind fun l1 h1 => forLoop (.rg n) turn m (i + 1) l1 h1 | some none => .nx l h | none => .bad) = _
    rw [Src.at_rg, if_neg this]
  | k + 1, i, m + 1, l, h, e, q, j => by
    have hi : i < n := by omega
    obtain ⟨l1, h1, e1, j1⟩ := step i l h hi j
    obtain ⟨l2, h2, e2, j2⟩ := for_rg step k (i + 1) m l1 h1 (by omega) (by omega) j1
    refine ⟨l2, h2, ?_, j2⟩
    show (match Src.at (.rg n) h i with | some (some x) => (turn x l h).bind fun l1 h1 => forLoop (.rg n) turn m (i + 1) l1 h1 | some none => .nx l h | none => .bad) = _
    rw [Src.at_rg, if_pos hi]
    dsimp only
    rw [e1]
    exact e2
/-- what a comprehension gives -/
inductive Outs (Q : AV → List AV → Prop) : List AV → List AV → Prop
  | nil : Outs Q [] []
  | cons {x : AV} {ys r zs : List AV} : Q x ys → Outs Q r zs → Outs Q (x :: r) (ys ++ zs)
theorem comp_src {s : Src} {xs : List AV} {turn : AV → AH → R (List AV)} {Q : AV → List AV → Prop} {I : AH → Prop} (at_ : ∀ h i, I h → s.at h i = some xs[i]?)
    (keep : ∀ h h', I h → Go d k h h' → I h') (step : ∀ x h, x ∈ xs → I h → Dr d h → h.n + k ≤ top → ∃ ys h', turn x h = .ok ys h' ∧ Q x ys ∧ Go d k h h') :
    ∀ (r : List AV) (i m : Nat) (h : AH), xs.drop i = r → r.length < m → I h → Dr d h → h.n + r.length * k ≤ top → ∃ ys h', compLoop s turn m i h = .ok ys h' ∧ Outs Q r ys ∧ Go d (r.length * k) h h'
  | r, i, 0, h, e, q, _, _, _ => absurd q (Nat.not_lt_zero _)
  | [], i, m + 1, h, e, q, j, D, b => by
    have : xs[i]? = none := by
      rw [List.getElem?_eq_none_iff]
      have := congrArg List.length e
      rw [List.length_drop] at this
      simp at this
      omega
    refine ⟨[], h, ?_, .nil, by simpa using Go.refl D⟩
    rw [compLoop, at_ h i j, this]
  | x :: r, i, m + 1, h, e, q, j, D, b => by
    have hx : xs[i]? = some x := by
      have := congrArg (fun l => l[0]?) e
      simpa using this
    have hm : x ∈ xs := List.mem_of_getElem? hx
    have hd : xs.drop (i + 1) = r := by
      have := congrArg List.tail e
      simpa using this
    have lr : (x :: r).length = r.length + 1 := rfl
    rw [lr, Nat.succ_mul] at b
    obtain ⟨ys, h1, e1, q1, g1⟩ := step x h hm j D (by omega)
    obtain ⟨zs, h2, e2, q2, g2⟩ := comp_src at_ keep step r (i + 1) m h1 hd (by rw [lr] at q; omega) (keep _ _ j g1) g1.dr (by have := g1.n2; omega)
    refine ⟨ys ++ zs, h2, ?_, .cons q1 q2, ?_⟩
    · rw [compLoop, at_ h i j, hx]
      dsimp only
      rw [e1]
      dsimp only
      rw [e2]
    · rw [lr, Nat.succ_mul, Nat.add_comm]
      exact g1.trans g2
theorem comp_tp {xs : List AV} {turn : AV → AH → R (List AV)} {Q : AV → List AV → Prop} (step : ∀ x h, x ∈ xs → Dr d h → h.n + k ≤ top → ∃ ys h', turn x h = .ok ys h' ∧ Q x ys ∧ Go d k h h') (hl : xs.length < turns) (D : Dr d h) (b : h.n + xs.length * k ≤ top) :
    ∃ ys h', compLoop (.tp xs) turn turns 0 h = .ok ys h' ∧ Outs Q xs ys ∧ Go d (xs.length * k) h h' :=
  comp_src (I := fun _ => True) (fun _ _ _ => rfl) (fun _ _ _ _ => trivial) (fun x h hx _ => step x h hx) xs 0 turns h rfl hl trivial D b
theorem comp_ob {n : Nat} {xs : List AV} {turn : AV → AH → R (List AV)} {Q : AV → List AV → Prop} (hne : n ≠ d) (ho : h.get n = some (.lst xs)) (step : ∀ x h, x ∈ xs → Dr d h → h.n + k ≤ top → ∃ ys h', turn x h = .ok ys h' ∧ Q x ys ∧ Go d k h h') (hl : xs.length < turns) (D : Dr d h) (b : h.n + xs.length * k ≤ top) :
    ∃ ys h', compLoop (.ob n) turn turns 0 h = .ok ys h' ∧ Outs Q xs ys ∧ Go d (xs.length * k) h h' :=
  comp_src (I := fun g => g.get n = some (.lst xs)) (fun g i e => by
      show (match g.get n with | some (.lst xs) => some xs[i]? | _ => none) = _
      rw [e]) (fun g g' e G => (G.same n (AH.get_lt e) hne).trans e) (fun x h hx _ => step x h hx) xs 0 turns h rfl hl ho D b
def rgL (n : Nat) : List AV := (List.range n).map fun (i : Nat) => AV.int i
theorem rgL_at (n i : Nat) (h : AH) : Src.at (.rg n) h i = some (rgL n)[i]? := by
  rw [Src.at_rg]
  unfold rgL
  by_cases q : i < n
  · rw [if_pos q]
    simp [q]
  · rw [if_neg q]
    simp [q]
theorem comp_rg {n : Nat} {turn : AV → AH → R (List AV)} {Q : AV → List AV → Prop} (step : ∀ x h, Dr d h → h.n + k ≤ top → ∃ ys h', turn x h = .ok ys h' ∧ Q x ys ∧ Go d k h h') (hl : n < turns) (D : Dr d h) (b : h.n + n * k ≤ top) :
    ∃ ys h', compLoop (.rg n) turn turns 0 h = .ok ys h' ∧ Outs Q (rgL n) ys ∧ Go d (n * k) h h' := by
  have hn : (rgL n).length = n := by simp [rgL]
  have := comp_src (s := .rg n) (xs := rgL n) (turn := turn) (Q := Q) (d := d) (k := k) (I := fun _ => True) (fun h i _ => rgL_at n i h) (fun _ _ _ _ => trivial) (fun x h hx _ => step x h) (rgL n) 0 turns h rfl (by rw [hn]; exact hl) trivial D (by rw [hn]; exact b)
  rw [hn] at this
  exact this
/-- one value a turn -/
theorem Outs.each {P : AV → Prop} : ∀ {xs ys : List AV}, Outs (fun _ ys => ∃ y, ys = [y] ∧ P y) xs ys → ys.length = xs.length ∧ ∀ y ∈ ys, P y
  | _, _, .nil => ⟨rfl, fun y q => by cases q⟩
  | _, _, .cons (ys := ys) q r => by
    obtain ⟨y, e, p⟩ := q
    subst e
    obtain ⟨a, b⟩ := Outs.each r
    refine ⟨by simp [a], fun z hz => ?_⟩
    rcases List.mem_cons.mp hz with e | e
    · rw [e]; exact p
    · exact b z e
/-- each is kept or left out -/
theorem Outs.some {xs ys : List AV} (o : Outs (fun x ys => ys = [x] ∨ ys = []) xs ys) : ys.Sublist xs := by
  induction o with
  | nil => exact .slnil
  | @cons x ys r zs q _ ih =>
    rcases q with e | e
    · subst e; exact ih.cons₂ _
    · subst e; exact ih.cons _
/-! ### a drawn number -/
theorem take_ok {m : Int} (D : Dr d h) (hm : 0 < m) (hn : h.n < top) : ∃ r h', fnM 2 2 (mRet (mIte (mCmp .NotEq (mV 0) (mLst a0)) (mBin .Mod (mB1 (biA .int) (mBm .pop0 (mV 0) (aC (mC (.int 0)) a0))) (mV 1)) (mC (.int 0)))) [.obj d, .int m] h = .ok (.int r) h' ∧ 0 ≤ r ∧ r < m ∧ Go d 1 h h' := by
  obtain ⟨is, e⟩ := D.g
  have G := Go.push D (.lst [])
  have e1 : (h.push (.lst [])).get d = some (.lst (is.map AV.int)) := (AH.get_push_old (Nat.ne_of_lt D.lt)).trans e
  have e2 : (h.push (.lst [])).get h.n = some (.lst []) := AH.get_push_new hn
  have c : (mCmp .NotEq (mV 0) (mLst a0)) [some (.obj d), some (.int m)] h = .ok (.bl (!is.isEmpty)) (h.push (.lst [])) := by
    show (alloc h (.lst [])).bind (fun y h2 => cmpA .NotEq (.obj d) y h2) = _
    rw [alloc_ok hn]
    show rOpt ((eqA (h.push (.lst [])) (.obj d) (.obj h.n)).map fun b => AV.bl (!b)) (h.push (.lst [])) = _
    rw [eq_nil e1 e2]
    rfl
  show ∃ r h', endF (((mIte (mCmp .NotEq (mV 0) (mLst a0)) (mBin .Mod (mB1 (biA .int) (mBm .pop0 (mV 0) (aC (mC (.int 0)) a0))) (mV 1)) (mC (.int 0))) [some (.obj d), some (.int m)] h).toS fun v h1 => .rt v h1) = .ok (.int r) h' ∧ _
  unfold mIte
  rw [c]
  cases is with
  | nil => exact ⟨0, _, rfl, Int.le_refl _, hm, G⟩
  | cons i r =>
    refine ⟨i % m, (h.push (.lst [])).set d (.lst (r.map AV.int)), ?_, Int.emod_nonneg _ (by omega), Int.emod_lt_of_pos _ hm, G.trans (Go.setD G.dr hn r)⟩
    have p : (mBm .pop0 (mV 0) (aC (mC (.int 0)) a0)) [some (.obj d), some (.int m)] (h.push (.lst [])) = .ok (.int i) ((h.push (.lst [])).set d (.lst (r.map AV.int))) := by
      show (match isLst (.obj d) (h.push (.lst [])) with | true => bmA .pop0 (.obj d) [.int 0] (h.push (.lst [])) | false => .bad) = _
      have q : isLst (.obj d) (h.push (.lst [])) = true := by
        unfold isLst
        dsimp only
        rw [e1]
      rw [q]
      unfold bmA
      dsimp only
      rw [e1]
      dsimp only
      have w : Nat.ble (h.push (.lst [])).ro d = true := Nat.ble_eq_true_of_le G.dr.w
      rw [w]
      rfl
    have z : (mBin .Mod (mB1 (biA .int) (mBm .pop0 (mV 0) (aC (mC (.int 0)) a0))) (mV 1)) [some (.obj d), some (.int m)] (h.push (.lst [])) = .ok (.int (i % m)) ((h.push (.lst [])).set d (.lst (r.map AV.int))) := by
      unfold mBin mB1
      rw [p]
      show (match decide (0 < m) with | true => R.ok (AV.int (i % m)) _ | false => .bad) = _
      rw [decide_eq_true hm]
    show endF (((mBin .Mod (mB1 (biA .int) (mBm .pop0 (mV 0) (aC (mC (.int 0)) a0))) (mV 1)) [some (.obj d), some (.int m)] (h.push (.lst []))).toS fun v h1 => .rt v h1) = _
    rw [z]
    rfl
end
/-! ### equal data -/
def okD (v : AV) : Bool := match v.dat with
  | some d => SeqAt.shaped d
  | none => false
theorem eq_self {h : AH} {v : AV} (o : okD v = true) : eqA h v v = some true := by
  unfold okD at o
  cases e : v.dat with
  | none => rw [e] at o; cases o
  | some x =>
    rw [e] at o
    have p : datL h v = some x := by
      cases v with
      | obj n => cases e
      | _ => exact e
    unfold eqA
    rw [p]
    dsimp only
    rw [show (SeqAt.shaped x && SeqAt.shaped x) = true by rw [show SeqAt.shaped x = true from o]; rfl]
    dsimp only
    rw [SeqAt.eqv_refl x (SeqAt.canLay_of_shaped o)]
theorem ne_self {h : AH} {v : AV} (o : okD v = true) : cmpA .NotEq v v h = .ok (.bl false) h := by
  show rOpt ((eqA h v v).map fun b => AV.bl (!b)) h = _
  rw [eq_self o]
  rfl
end Ev
set_option Elab.async false
set_option linter.all false
set_option maxRecDepth 100000
set_option maxHeartbeats 4000000
/-! contents by numbers: what dicts, sorting and sets of them give -/
namespace Ev
open PySem PySem.Spec PyProof.Rows L2
def cc : Nat → AV
  | 0 => .tup [.str "fresh", .str "empty"]
  | 1 => .tup [.str "fresh", .str "fresh"]
  | 2 => .tup [.str "fresh", .str "stale"]
  | 3 => .tup [.str "stale", .str "empty"]
  | 4 => .tup [.str "stale", .str "fresh"]
  | _ => .tup [.str "stale", .str "stale"]
def ccd : Nat → PyData
  | 0 => .tuple [.str "fresh", .str "empty"]
  | 1 => .tuple [.str "fresh", .str "fresh"]
  | 2 => .tuple [.str "fresh", .str "stale"]
  | 3 => .tuple [.str "stale", .str "empty"]
  | 4 => .tuple [.str "stale", .str "fresh"]
  | _ => .tuple [.str "stale", .str "stale"]
def kk : Nat → NestedKey
  | 0 => .tup [.text "fresh", .text "empty"]
  | 1 => .tup [.text "fresh", .text "fresh"]
  | 2 => .tup [.text "fresh", .text "stale"]
  | 3 => .tup [.text "stale", .text "empty"]
  | 4 => .tup [.text "stale", .text "fresh"]
  | _ => .tup [.text "stale", .text "stale"]
def kS : Nat → List Str
  | 0 => ["fresh", "empty"]
  | 1 => ["fresh", "fresh"]
  | 2 => ["fresh", "stale"]
  | 3 => ["stale", "empty"]
  | 4 => ["stale", "fresh"]
  | _ => ["stale", "stale"]
abbrev L (xs : List Nat) : List AV := xs.map cc
def C6 (xs : List Nat) : Prop := ∀ i ∈ xs, i < 6
theorem C6.nil : C6 [] := fun _ h => by cases h
theorem C6.cons {x : Nat} {r : List Nat} (a : x < 6) (b : C6 r) : C6 (x :: r) := fun i h => by
  rcases List.mem_cons.mp h with e | e
  · rw [e]; exact a
  · exact b i e
theorem C6.hd {x : Nat} {r : List Nat} (h : C6 (x :: r)) : x < 6 := h x List.mem_cons_self
theorem C6.tl {x : Nat} {r : List Nat} (h : C6 (x :: r)) : C6 r := fun i q => h i (List.mem_cons_of_mem _ q)
theorem C6.app {a b : List Nat} (p : C6 a) (q : C6 b) : C6 (a ++ b) := fun i h => by
  rcases List.mem_append.mp h with e | e
  · exact p i e
  · exact q i e
theorem C6.fst {a b : List Nat} (p : C6 (a ++ b)) : C6 a := fun i h => p i (List.mem_append_left _ h)
theorem C6.sub {a b : List Nat} (p : C6 b) (s : ∀ i ∈ a, i ∈ b) : C6 a := fun i h => p i (s i h)
/-- a fact of each of the six -/
theorem six {P : Nat → Prop} (h0 : P 0) (h1 : P 1) (h2 : P 2) (h3 : P 3) (h4 : P 4) (h5 : ∀ n, P (n + 5)) : ∀ i, P i
  | 0 => h0
  | 1 => h1
  | 2 => h2
  | 3 => h3
  | 4 => h4
  | n + 5 => h5 n
theorem dat_cc (i : Nat) : (cc i).dat = some (ccd i) := six (P := fun i => (cc i).dat = some (ccd i)) rfl rfl rfl rfl rfl (fun _ => rfl) i
theorem tkey_cc (i : Nat) : AV.tkey (cc i) = some (kk i) := six (P := fun i => AV.tkey (cc i) = some (kk i)) rfl rfl rfl rfl rfl (fun _ => rfl) i
theorem keyS_cc (i : Nat) : keyS (cc i) = some (kS i) := six (P := fun i => keyS (cc i) = some (kS i)) rfl rfl rfl rfl rfl (fun _ => rfl) i
theorem cln_cc (i : Nat) : AV.cln 0 (cc i) = true := six (P := fun i => AV.cln 0 (cc i) = true) rfl rfl rfl rfl rfl (fun _ => rfl) i
theorem av_kS (i : Nat) : prS (kS i) = (cc i, ccd i) := six (P := fun i => prS (kS i) = (cc i, ccd i)) rfl rfl rfl rfl rfl (fun _ => rfl) i
theorem da_kS (i : Nat) : daS (kS i) = ccd i := six (P := fun i => daS (kS i) = ccd i) rfl rfl rfl rfl rfl (fun _ => rfl) i
theorem eqv_cc : ∀ i < 6, ∀ j < 6, PyData.eqv (ccd i) (ccd j) = Nat.beq i j := by decide +kernel
theorem lt_cc : ∀ i < 6, ∀ j < 6, PySem.W.dataLt (ccd i) (ccd j) = Nat.blt i j := by decide +kernel
theorem al_cc : ∀ i < 6, ∀ j < 6, PySem.W.alike (ccd i) (ccd j) = true := by decide +kernel
theorem kk_cc : ∀ i < 6, ∀ j < 6, decide (kk i = kk j) = Nat.beq i j := by decide +kernel
theorem kS_cc : ∀ i < 6, ∀ j < 6, decide (kS i = kS j) = Nat.beq i j := by decide +kernel
theorem lay_cc : ∀ i < 6, PyData.canLay0 (ccd i) = true := by decide +kernel
theorem dep_cc : ∀ i < 6, PyData.depth (ccd i) = 1 := by decide +kernel
theorem tup_cc (i : Nat) (r : List PyData) : tupsOk (ccd i :: r) = tupsOk r := six (P := fun i => tupsOk (ccd i :: r) = tupsOk r) rfl rfl rfl rfl rfl (fun _ => rfl) i
theorem ne_kS (i : Nat) : (!(kS i).isEmpty) = true := six (P := fun i => (!(kS i).isEmpty) = true) rfl rfl rfl rfl rfl (fun _ => rfl) i
theorem limK {n : Nat} (h : n ≤ 100000) : lim n = true := Nat.ble_eq_true_of_le (by omega)
/-! ### equality -/
def beqL : List Nat → List Nat → Bool
  | [], [] => true
  | x :: xs, y :: ys => Nat.beq x y && beqL xs ys
  | _, _ => false
theorem beqL_eq : ∀ {xs ys : List Nat}, beqL xs ys = true → xs = ys
  | [], [], _ => rfl
  | x :: xs, y :: ys, h => by
    obtain ⟨a, b⟩ := Bool.and_eq_true_iff.mp (show (Nat.beq x y && beqL xs ys) = true from h)
    rw [beq_tt a, beqL_eq b]
  | [], _ :: _, h => by cases h
  | _ :: _, [], h => by cases h
theorem dats_L : ∀ xs : List Nat, AV.dats (L xs) = some (xs.map ccd)
  | [] => rfl
  | i :: r => by
    show (match AV.dat (cc i) with | some d => (AV.dats (L r)).map (d :: ·) | none => none) = _
    rw [dat_cc, dats_L r]
    rfl
theorem eqvAll_L : ∀ {xs ys : List Nat}, C6 xs → C6 ys → PyData.eqvAll (xs.map ccd) (ys.map ccd) = beqL xs ys
  | [], [], _, _ => rfl
  | x :: xs, y :: ys, a, b => by
    show (PyData.eqv (ccd x) (ccd y) && PyData.eqvAll (xs.map ccd) (ys.map ccd)) = _
    rw [eqv_cc x a.hd y b.hd, eqvAll_L a.tl b.tl]
    rfl
  | [], _ :: _, _, _ => rfl
  | _ :: _, [], _, _ => rfl
theorem lay_L : ∀ {xs : List Nat}, C6 xs → PyData.canLayAll0 (xs.map ccd) = true
  | [], _ => rfl
  | x :: xs, a => by
    show (PyData.canLay0 (ccd x) && PyData.canLayAll0 (xs.map ccd)) = true
    rw [lay_cc x a.hd, lay_L a.tl]
    rfl
theorem dep_L : ∀ {xs : List Nat}, C6 xs → PyData.depthAll (xs.map ccd) ≤ 1
  | [], _ => Nat.zero_le _
  | x :: xs, a => by
    show max (PyData.depth (ccd x)) (PyData.depthAll (xs.map ccd)) ≤ 1
    rw [dep_cc x a.hd]
    have := dep_L a.tl
    omega
theorem shaped_L {xs : List Nat} (a : C6 xs) : SeqAt.shaped (.list (xs.map ccd)) = true := by
  show (PyData.canLayAll0 (xs.map ccd) && decide (PyData.depthAll (xs.map ccd) + 1 ≤ 64)) = true
  have := dep_L a
  rw [lay_L a, decide_eq_true (by omega)]
  rfl
theorem eq_L {h : AH} {m n : Nat} {xs ys : List Nat} (p : h.get m = some (.lst (L xs))) (q : h.get n = some (.lst (L ys))) (a : C6 xs) (b : C6 ys) : eqA h (.obj m) (.obj n) = some (beqL xs ys) := by
  have p1 : datL h (.obj m) = some (.list (xs.map ccd)) := by
    unfold datL
    dsimp only
    rw [p]
    show (AV.dats (L xs)).map PyData.list = _
    rw [dats_L]
    rfl
  have p2 : datL h (.obj n) = some (.list (ys.map ccd)) := by
    unfold datL
    dsimp only
    rw [q]
    show (AV.dats (L ys)).map PyData.list = _
    rw [dats_L]
    rfl
  unfold eqA
  rw [p1, p2]
  dsimp only
  rw [shaped_L a, shaped_L b]
  show some (PyData.eqvAll (xs.map ccd) (ys.map ccd)) = _
  rw [eqvAll_L a b]
theorem clns_L : ∀ xs : List Nat, AV.clns 0 (L xs) = true
  | [] => rfl
  | i :: r => by
    show (match AV.cln 0 (cc i) with | true => AV.clns 0 (L r) | false => false) = true
    rw [cln_cc]
    exact clns_L r
/-! ### dicts -/
def hasN (x : Nat) : List Nat → Bool
  | [] => false
  | k :: r => (match Nat.beq k x with
    | true => true
    | false => hasN x r)
def dk (ks : List Nat) : List (AV × AV) := ks.map fun i => (cc i, AV.bl true)
theorem dhas_dk {x : Nat} (hx : x < 6) : ∀ {ks : List Nat}, C6 ks → dhas (kk x) (dk ks) = hasN x ks
  | [], _ => rfl
  | k :: r, a => by
    show (match AV.tkey (cc k) with
      | some k' => (match decide (k' = kk x) with
        | true => true
        | false => dhas (kk x) (dk r))
      | none => false) = _
    rw [tkey_cc]
    dsimp only
    rw [kk_cc k a.hd x hx, dhas_dk hx a.tl]
    rfl
theorem dput_new {x : Nat} (hx : x < 6) : ∀ {ks : List Nat}, C6 ks → hasN x ks = false → dput (kk x) (cc x) (.bl true) (dk ks) = dk (ks ++ [x])
  | [], _, _ => rfl
  | k :: r, a, n => by
    show (match AV.tkey (cc k) with
      | some k' => (match decide (k' = kk x) with
        | true => (cc k, AV.bl true) :: dk r
        | false => (cc k, AV.bl true) :: dput (kk x) (cc x) (.bl true) (dk r))
      | none => (cc k, AV.bl true) :: dk r) = _
    rw [tkey_cc]
    dsimp only
    rw [kk_cc k a.hd x hx]
    have n : (match Nat.beq k x with | true => true | false => hasN x r) = false := n
    cases e : Nat.beq k x with
    | true => rw [e] at n; cases n
    | false =>
      rw [e] at n
      dsimp only at n ⊢
      rw [dput_new hx a.tl n]
      rfl
theorem dput_old {x : Nat} (hx : x < 6) : ∀ {ks : List Nat}, C6 ks → hasN x ks = true → dput (kk x) (cc x) (.bl true) (dk ks) = dk ks
  | [], _, n => by cases n
  | k :: r, a, n => by
    show (match AV.tkey (cc k) with
      | some k' => (match decide (k' = kk x) with
        | true => (cc k, AV.bl true) :: dk r
        | false => (cc k, AV.bl true) :: dput (kk x) (cc x) (.bl true) (dk r))
      | none => (cc k, AV.bl true) :: dk r) = _
    rw [tkey_cc]
    dsimp only
    rw [kk_cc k a.hd x hx]
    have n : (match Nat.beq k x with | true => true | false => hasN x r) = true := n
    cases e : Nat.beq k x with
    | true => rfl
    | false =>
      rw [e] at n
      dsimp only at n ⊢
      rw [dput_old hx a.tl n]
      rfl
def addN (acc : List Nat) : List Nat → List Nat
  | [] => acc
  | x :: r => (match hasN x acc with
    | true => addN acc r
    | false => addN (acc ++ [x]) r)
theorem dictOf_L : ∀ (xs acc : List Nat), C6 xs → C6 acc → dictOfL (xs.map fun i => .tup [cc i, .bl true]) (dk acc) = some (dk (addN acc xs))
  | [], acc, _, _ => rfl
  | x :: r, acc, a, b => by
    show (match AV.tkey (cc x) with
      | some q => dictOfL (r.map fun i => .tup [cc i, .bl true]) (dput q (cc x) (.bl true) (dk acc))
      | none => none) = _
    rw [tkey_cc]
    dsimp only
    unfold addN
    cases e : hasN x acc with
    | true => rw [dput_old a.hd b e]; exact dictOf_L r acc a.tl b
    | false => rw [dput_new a.hd b e]; exact dictOf_L r _ a.tl (b.app (C6.cons a.hd C6.nil))
theorem addN_sub : ∀ (xs acc : List Nat) (i : Nat), i ∈ addN acc xs → i ∈ acc ∨ i ∈ xs
  | [], acc, i, h => .inl h
  | x :: r, acc, i, h => by
    unfold addN at h
    cases e : hasN x acc with
    | true =>
      rw [e] at h
      rcases addN_sub r acc i h with q | q
      · exact .inl q
      · exact .inr (List.mem_cons_of_mem _ q)
    | false =>
      rw [e] at h
      rcases addN_sub r _ i h with q | q
      · rcases List.mem_append.mp q with z | z
        · exact .inl z
        · exact .inr (by rw [List.mem_singleton.mp z]; exact List.mem_cons_self)
      · exact .inr (List.mem_cons_of_mem _ q)
theorem C6.addN {acc xs : List Nat} (a : C6 acc) (b : C6 xs) : C6 (addN acc xs) := fun i h => by
  rcases addN_sub xs acc i h with q | q
  · exact a i q
  · exact b i q
theorem addN_len : ∀ (xs acc : List Nat), (Ev.addN acc xs).length ≤ acc.length + xs.length
  | [], acc => Nat.le_refl _
  | x :: r, acc => by
    unfold Ev.addN
    cases hasN x acc with
    | true => have := addN_len r acc; simp only [List.length_cons]; omega
    | false => have := addN_len r (acc ++ [x]); simp only [List.length_cons, List.length_append, List.length_nil] at this ⊢; omega
/-! ### sorting -/
def insN (x : Nat) : List Nat → List Nat
  | [] => [x]
  | y :: r => (match Nat.blt y x with
    | true => y :: insN x r
    | false => x :: y :: r)
def isort : List Nat → List Nat
  | [] => []
  | x :: r => insN x (isort r)
def prC (i : Nat) : AV × PyData := (cc i, ccd i)
theorem mem_insN (x : Nat) : ∀ (r : List Nat) (i : Nat), i ∈ insN x r → i = x ∨ i ∈ r
  | [], i, h => .inl (List.mem_singleton.mp h)
  | y :: r, i, h => by
    unfold insN at h
    cases e : Nat.blt y x with
    | true =>
      rw [e] at h
      rcases List.mem_cons.mp h with q | q
      · exact .inr (by rw [q]; exact List.mem_cons_self)
      · rcases mem_insN x r i q with z | z
        · exact .inl z
        · exact .inr (List.mem_cons_of_mem _ z)
    | false =>
      rw [e] at h
      exact List.mem_cons.mp h
theorem mem_isort : ∀ (r : List Nat) (i : Nat), i ∈ isort r → i ∈ r
  | [], i, h => h
  | x :: r, i, h => by
    rcases mem_insN x (isort r) i h with q | q
    · rw [q]; exact List.mem_cons_self
    · exact List.mem_cons_of_mem _ (mem_isort r i q)
theorem C6.isort {xs : List Nat} (a : C6 xs) : C6 (isort xs) := fun i h => a i (mem_isort xs i h)
theorem insA_L {x : Nat} (hx : x < 6) : ∀ {r : List Nat}, C6 r → insA (prC x) (r.map prC) = (insN x r).map prC
  | [], _ => rfl
  | y :: r, a => by
    show (match PySem.W.dataLt (ccd y) (ccd x) with
      | true => prC y :: insA (prC x) (r.map prC)
      | false => prC x :: prC y :: r.map prC) = _
    rw [lt_cc y a.hd x hx]
    unfold insN
    cases Nat.blt y x with
    | true => dsimp only; rw [insA_L hx a.tl]; rfl
    | false => rfl
theorem sortP_L : ∀ {xs : List Nat}, C6 xs → sortP (xs.map prC) = (isort xs).map prC
  | [], _ => rfl
  | x :: r, a => by
    show insA (prC x) (sortP (r.map prC)) = _
    rw [sortP_L a.tl, insA_L a.hd a.tl.isort]
    rfl
theorem zip_L : ∀ xs : List Nat, (L xs).zip (xs.map ccd) = xs.map prC
  | [] => rfl
  | x :: r => by
    show (cc x, ccd x) :: (L r).zip (r.map ccd) = _
    rw [zip_L r]
    rfl
theorem all_L {p : PyData → Bool} : ∀ {xs : List Nat}, (∀ i ∈ xs, p (ccd i) = true) → (xs.map ccd).all p = true
  | [], _ => rfl
  | x :: r, a => by
    show (p (ccd x) && (r.map ccd).all p) = true
    rw [a x List.mem_cons_self, all_L fun i q => a i (List.mem_cons_of_mem _ q)]
    rfl
theorem allAlike_L : ∀ {xs : List Nat}, C6 xs → allAlike (xs.map ccd) = true
  | [], _ => rfl
  | x :: r, a => by
    show ((r.map ccd).all (fun e => PySem.W.alike (ccd x) e && PySem.W.alike e (ccd x)) && allAlike (r.map ccd)) = true
    rw [allAlike_L a.tl, all_L fun i q => by rw [al_cc x a.hd i (a.tl i q), al_cc i (a.tl i q) x a.hd]; rfl]
    rfl
theorem tupsOk_L : ∀ xs : List Nat, tupsOk (xs.map ccd) = true
  | [] => rfl
  | x :: r => (tup_cc x _).trans (tupsOk_L r)
theorem sortA_L {xs : List Nat} (a : C6 xs) : sortA (L xs) = some (L (isort xs)) := by
  unfold sortA
  rw [dats_L]
  dsimp only
  rw [allAlike_L a, all_L (xs := xs) fun i q => al_cc i (a i q) i (a i q), tupsOk_L, all_L (xs := xs) fun i q => by rw [dep_cc i (a i q)]; rfl]
  show some ((sortP ((L xs).zip (xs.map ccd))).map (·.1)) = _
  rw [zip_L, sortP_L a]
  show some (((isort xs).map prC).map (·.1)) = _
  rw [List.map_map]
  rfl
/-! ### sorted(set(..)) -/
def dedN (seen : List Nat) : List Nat → List Nat
  | [] => []
  | k :: r => (match seen.any fun z => Nat.beq z k with
    | true => dedN seen r
    | false => k :: dedN (k :: seen) r)
theorem mem_dedN : ∀ (xs seen : List Nat) (i : Nat), i ∈ dedN seen xs → i ∈ xs
  | [], _, i, h => h
  | x :: r, seen, i, h => by
    unfold dedN at h
    cases e : seen.any fun z => Nat.beq z x with
    | true => rw [e] at h; exact List.mem_cons_of_mem _ (mem_dedN r _ i h)
    | false =>
      rw [e] at h
      rcases List.mem_cons.mp h with q | q
      · rw [q]; exact List.mem_cons_self
      · exact List.mem_cons_of_mem _ (mem_dedN r _ i q)
theorem C6.dedN {xs seen : List Nat} (a : C6 xs) : C6 (dedN seen xs) := fun i h => a i (mem_dedN xs seen i h)
theorem any_kS {k : Nat} (hk : k < 6) : ∀ {seen : List Nat}, C6 seen → ((seen.map kS).any fun z => decide (z = kS k)) = seen.any fun z => Nat.beq z k
  | [], _ => rfl
  | s :: r, a => by
    show (decide (kS s = kS k) || (r.map kS).any fun z => decide (z = kS k)) = (Nat.beq s k || r.any fun z => Nat.beq z k)
    rw [kS_cc s a.hd k hk, any_kS hk a.tl]
theorem dedupS_L : ∀ (xs seen : List Nat), C6 xs → C6 seen → dedupS (seen.map kS) (xs.map kS) = (Ev.dedN seen xs).map kS
  | [], _, _, _ => rfl
  | x :: r, seen, a, b => by
    show (match (seen.map kS).any fun z => decide (z = kS x) with
      | true => dedupS (seen.map kS) (r.map kS)
      | false => kS x :: dedupS (kS x :: seen.map kS) (r.map kS)) = _
    rw [any_kS a.hd b]
    unfold Ev.dedN
    cases seen.any fun z => Nat.beq z x with
    | true => exact dedupS_L r seen a.tl b
    | false => exact congrArg (kS x :: ·) (dedupS_L r (x :: seen) a.tl (C6.cons a.hd b))
theorem keysS_L : ∀ xs : List Nat, keysS (L xs) = some (xs.map kS)
  | [] => rfl
  | x :: r => by
    show (match keyS (cc x) with | some k => (keysS (L r)).map (k :: ·) | none => none) = _
    rw [keyS_cc, keysS_L r]
    rfl
def strictN : List Nat → Bool
  | [] => true
  | x :: r => (r.all fun y => Nat.blt x y) && strictN r
theorem strictP_L : ∀ {xs : List Nat}, C6 xs → strictP (xs.map prC) = strictN xs
  | [], _ => rfl
  | x :: r, a => by
    show (((r.map prC).all fun y => PySem.W.dataLt (ccd x) y.2) && strictP (r.map prC)) = ((r.all fun y => Nat.blt x y) && strictN r)
    rw [strictP_L a.tl]
    congr 1
    have : ∀ {r : List Nat}, C6 r → ((r.map prC).all fun y => PySem.W.dataLt (ccd x) y.2) = r.all fun y => Nat.blt x y := by
      intro r
      induction r with
      | nil => intro _; rfl
      | cons y r ih =>
        intro b
        show (PySem.W.dataLt (ccd x) (ccd y) && (r.map prC).all fun y => PySem.W.dataLt (ccd x) y.2) = (Nat.blt x y && r.all fun y => Nat.blt x y)
        rw [lt_cc x a.hd y b.hd, ih b.tl]
    exact this a.tl
def ssetN (xs : List Nat) : Option (List Nat) := match Nat.blt xs.length 64 && strictN (isort (dedN [] xs)) && Nat.blt (isort (dedN [] xs)).length 7 with
  | true => some (isort (dedN [] xs))
  | false => none
theorem ssetN_at {xs ys : List Nat} (h : ssetN xs = some ys) : xs.length < 64 ∧ strictN ys = true ∧ ys.length < 7 ∧ ys = isort (dedN [] xs) := by
  unfold ssetN at h
  cases e : Nat.blt xs.length 64 && strictN (isort (dedN [] xs)) && Nat.blt (isort (dedN [] xs)).length 7 with
  | true =>
    rw [e] at h
    cases h
    obtain ⟨e1, e3⟩ := Bool.and_eq_true_iff.mp e
    obtain ⟨e1, e2⟩ := Bool.and_eq_true_iff.mp e1
    exact ⟨blt_tt.mp e1, e2, blt_tt.mp e3, rfl⟩
  | false => rw [e] at h; cases h
theorem C6.sset {xs ys : List Nat} (a : C6 xs) (h : ssetN xs = some ys) : C6 ys := by
  rw [(ssetN_at h).2.2.2]
  exact (C6.dedN a).isort
theorem allS_L {p : List Str → Bool} : ∀ {xs : List Nat}, (∀ i ∈ xs, p (kS i) = true) → (xs.map kS).all p = true
  | [], _ => rfl
  | x :: r, a => by
    show (p (kS x) && (r.map kS).all p) = true
    rw [a x List.mem_cons_self, allS_L fun i q => a i (List.mem_cons_of_mem _ q)]
    rfl
theorem sset_L {h : AH} {xs ys : List Nat} (a : C6 xs) (e : ssetN xs = some ys) : ssetL (L xs) h = alloc h (.lst (L ys)) := by
  obtain ⟨e1, e2, e3, e4⟩ := ssetN_at e
  have d := dedupS_L xs [] a C6.nil
  have cd : C6 (Ev.dedN [] xs) := C6.dedN a
  have pr : ((Ev.dedN [] xs).map kS).map prS = (Ev.dedN [] xs).map prC := by
    rw [List.map_map]
    exact List.map_congr_left fun i _ => av_kS i
  unfold ssetL
  rw [keysS_L]
  dsimp only
  have d : dedupS [] (xs.map kS) = (Ev.dedN [] xs).map kS := d
  rw [d]
  have k : okS ((Ev.dedN [] xs).map kS) = true := by
    unfold okS
    rw [pr, sortP_L cd, strictP_L cd.isort, ← e4, e2, Bool.and_true]
    refine allS_L fun i q => ?_
    rw [allS_L fun j z => by rw [da_kS, da_kS]; exact al_cc i (cd i q) j (cd j z), ne_kS, da_kS, dep_cc i (cd i q)]
    rfl
  rw [k, List.length_map, blt_tt.mpr e1]
  show alloc h (.lst ((sortP (((Ev.dedN [] xs).map kS).map prS)).map (·.1))) = _
  rw [pr, sortP_L cd, ← e4, List.map_map]
  rfl
end Ev
set_option Elab.async false
set_option linter.all false
set_option maxRecDepth 100000
set_option maxHeartbeats 200000
/-! the law's own closure: what it computes, by numbers -/
namespace Ev
open PySem PySem.Spec PyProof.Rows L2
/-- new objects alone -/
structure Ex (k : Nat) (h h' : AH) : Prop where
  n1 : h.n ≤ h'.n
  n2 : h'.n ≤ h.n + k
  ro : h'.ro = h.ro
  same : ∀ j, j < h.n → h'.get j = h.get j
section
variable {k k' : Nat} {h h1 h2 : AH}
theorem Ex.refl (h : AH) : Ex 0 h h := ⟨Nat.le_refl _, Nat.le_refl _, rfl, fun _ _ => rfl⟩
theorem Ex.trans (a : Ex k h h1) (b : Ex k' h1 h2) : Ex (k + k') h h2 := ⟨Nat.le_trans a.n1 b.n1, by have := a.n2; have := b.n2; omega, b.ro.trans a.ro, fun j q => (b.same j (Nat.lt_of_lt_of_le q a.n1)).trans (a.same j q)⟩
theorem Ex.mono (a : Ex k h h1) (q : k ≤ k') : Ex k' h h1 := ⟨a.n1, by have := a.n2; omega, a.ro, a.same⟩
theorem Ex.push (o : AO) : Ex 1 h (h.push o) := ⟨Nat.le_succ _, Nat.le_refl _, rfl, fun j q => AH.get_push_old (Nat.ne_of_lt q)⟩
theorem Ex.get (a : Ex k h h1) {n : Nat} {o : AO} (e : h.get n = some o) : h1.get n = some o := (a.same n (AH.get_lt e)).trans e
theorem Ex.setN (a : Ex k h h1) {j : Nat} (q : h.n ≤ j) (o : AO) : Ex k h (h1.set j o) := ⟨a.n1, a.n2, a.ro, fun i z => (AH.get_set_ne (by omega)).trans (a.same i z)⟩
theorem comp_pure {s : Src} {xs : List AV} {turn : AV → AH → R (List AV)} {f : AV → List AV} (at_ : ∀ i, s.at h i = some xs[i]?) (st : ∀ x ∈ xs, turn x h = .ok (f x) h) :
    ∀ (r : List AV) (i m : Nat), xs.drop i = r → r.length < m → compLoop s turn m i h = .ok (r.flatMap f) h
  | r, i, 0, e, q => absurd q (Nat.not_lt_zero _)
  | [], i, m + 1, e, q => by
    have : xs[i]? = none := by
      rw [List.getElem?_eq_none_iff]
      have := congrArg List.length e
      rw [List.length_drop] at this
      simp at this
      omega
    rw [compLoop, at_ i, this]
    rfl
  | x :: r, i, m + 1, e, q => by
    have hx : xs[i]? = some x := by
      have := congrArg (fun l => l[0]?) e
      simpa using this
    have hm : x ∈ xs := List.mem_of_getElem? hx
    have hd : xs.drop (i + 1) = r := by
      have := congrArg List.tail e
      simpa using this
    rw [compLoop, at_ i, hx]
    dsimp only
    rw [st x hm]
    dsimp only
    rw [comp_pure at_ st r (i + 1) m hd (by simp only [List.length_cons] at q; omega)]
    rfl
theorem at_ob {n : Nat} {xs : List AV} (g : h.get n = some (.lst xs)) (i : Nat) : Src.at (.ob n) h i = some xs[i]? := by
  show (match h.get n with | some (.lst xs) => some xs[i]? | _ => none) = _
  rw [g]
theorem comp_one {s : Src} {xs : List Nat} {turn : AV → AH → R (List AV)} {f : Nat → Nat} (at_ : ∀ i, s.at h i = some (L xs)[i]?) (st : ∀ i, turn (cc i) h = .ok [cc (f i)] h) (q : xs.length < 100000) : compLoop s turn turns 0 h = .ok (L (xs.map f)) h := by
  have key : ∀ (r : List Nat) (i m : Nat), (L xs).drop i = L r → r.length < m → compLoop s turn m i h = .ok (L (r.map f)) h := by
    intro r
    induction r with
    | nil =>
      intro i m e q
      cases m with
      | zero => exact absurd q (Nat.not_lt_zero _)
      | succ m =>
        have : (L xs)[i]? = none := by
          rw [List.getElem?_eq_none_iff]
          have := congrArg List.length e
          rw [List.length_drop] at this
          simp at this
          simp
          omega
        rw [compLoop, at_ i, this]
        rfl
    | cons x r ih =>
      intro i m e q
      cases m with
      | zero => exact absurd q (Nat.not_lt_zero _)
      | succ m =>
        have hx : (L xs)[i]? = some (cc x) := by
          have := congrArg (fun l => l[0]?) e
          simpa using this
        have hd : (L xs).drop (i + 1) = L r := by
          have := congrArg List.tail e
          simpa using this
        rw [compLoop, at_ i, hx]
        dsimp only
        rw [st x]
        dsimp only
        rw [ih (i + 1) m hd (by simp only [List.length_cons] at q; omega)]
        rfl
  exact key xs 0 turns rfl (by unfold turns; omega)
theorem for_tp {s : Src} {xs : List AV} {turn : AV → Loc' → AH → RS} {J : List AV → Loc' → AH → Prop} (at_ : ∀ h i, s.at h i = some xs[i]?) (step : ∀ x r l h, J (x :: r) l h → ∃ l' h', turn x l h = .nx l' h' ∧ J r l' h') :
    ∀ (r : List AV) (i m : Nat) (l : Loc') (h : AH), xs.drop i = r → r.length < m → J r l h → ∃ l' h', forLoop s turn m i l h = .nx l' h' ∧ J [] l' h'
  | r, i, 0, l, h, e, q, j => absurd q (Nat.not_lt_zero _)
  | [], i, m + 1, l, h, e, q, j => by
    have : xs[i]? = none := by
      rw [List.getElem?_eq_none_iff]
      have := congrArg List.length e
      rw [List.length_drop] at this
      simp at this
      omega
    refine ⟨l, h, ?_, j⟩
    rw [forLoop, at_ h i, this]
  | x :: r, i, m + 1, l, h, e, q, j => by
    have hx : xs[i]? = some x := by
      have := congrArg (fun l => l[0]?) e
      simpa using this
    have hd : xs.drop (i + 1) = r := by
      have := congrArg List.tail e
      simpa using this
    obtain ⟨l1, h1, e1, j1⟩ := step x r l h j
    obtain ⟨l2, h2, e2, j2⟩ := for_tp at_ step r (i + 1) m l1 h1 hd (by simp only [List.length_cons] at q; omega) j1
    refine ⟨l2, h2, ?_, j2⟩
    rw [forLoop, at_ h i, hx]
    dsimp only
    rw [e1]
    exact e2
end
/-! ### big steps -/
def turnF (mt : AV → Loc' → Option Loc') (mb : MS) : AV → Loc' → AH → RS := fun x l h => match mt x l with
  | some l1 => mb l1 h
  | none => .bad
section
variable {l l1 l2 : Loc'} {h h1 h2 h3 : AH} {v x y z : AV} {vs xs : List AV} {ma mb mc me : ME} {ms : Loc' → AH → R (List AV)} {r : R AV} {m1 m2 : MS} {t : RS} {i : Nat} {s : Src} {mt : AV → Loc' → Option Loc'} {mi : Loc' → AH → R Src} {F : Fn}
theorem toS_ok {α : Type} (a : α) (k : α → AH → RS) : (R.ok a h).toS k = k a h := rfl
theorem bind_ok {α β : Type} (a : α) (k : α → AH → R β) : (R.ok a h).bind k = k a h := rfl
theorem nx_ok (k : Loc' → AH → RS) : (RS.nx l h).bind k = k l h := rfl
theorem rt_ok (k : Loc' → AH → RS) : (RS.rt v h).bind k = .rt v h := rfl
theorem asB_ok (b : Bool) (k : Bool → AH → R AV) : asB (.ok (.bl b) h) k = k b h := rfl
theorem r_seq (a : m1 l h = .nx l1 h1) (b : m2 l1 h1 = t) : mSeq m1 m2 l h = t := by
  rw [mSeq, a, nx_ok, b]
theorem r_seqr (a : m1 l h = .rt v h1) : mSeq m1 m2 l h = .rt v h1 := by
  rw [mSeq, a, rt_ok]
theorem r_set (a : me l h = .ok v h1) : mSet i me l h = .nx (l.set i (some v)) h1 := by
  rw [mSet, a, toS_ok]
theorem r_par {j : Nat} (a : ma l h = .ok x h1) (b : mb l h1 = .ok y h2) : mPar i j ma mb l h = .nx ((l.set i (some x)).set j (some y)) h2 := by
  rw [mPar, a, toS_ok, b, toS_ok]
theorem r_ret (a : me l h = .ok v h1) : mRet me l h = .rt v h1 := by
  rw [mRet, a, toS_ok]
theorem r_ex (a : me l h = .ok v h1) : mEx me l h = .nx l h1 := by
  rw [mEx, a, toS_ok]
theorem r_as (a : me l h = .ok v h1) (b : mt v l = some l1) : mAs mt me l h = .nx l1 h1 := by
  rw [mAs, a, toS_ok, b]
theorem r_ift (a : mc l h = .ok (.bl true) h1) (b : m1 l h1 = t) : mIf mc m1 m2 l h = t := by
  rw [mIf, a, toS_ok]
  dsimp only
  exact b
theorem r_iff (a : mc l h = .ok (.bl false) h1) (b : m2 l h1 = t) : mIf mc m1 m2 l h = t := by
  rw [mIf, a, toS_ok]
  dsimp only
  exact b
theorem r_for (a : mi l h = .ok s h1) (b : forLoop s (turnF mt m1) turns 0 l h1 = t) : mFor mt mi m1 l h = t := by
  rw [mFor, a, toS_ok]
  exact b
theorem r_whl (b : whileLoop mc m1 turns l h = t) : mWhl mc m1 l h = t := by
  rw [mWhl, b]
theorem r_lc {ws : List Nat} (a : mi l h = .ok s h1) (b : compLoop s (turnL ws mt mc me l) turns 0 h1 = .ok xs h2) (q : xs.length ≤ 100000) (w : h2.n < top) : mLc ws mt mi mc me l h = .ok (.obj h2.n) (h2.push (.lst xs)) := by
  rw [mLc, a, bind_ok, b, bind_ok, limK q]
  exact alloc_ok w
theorem r_bin {op : Operator} (a : ma l h = .ok x h1) (b : mb l h1 = .ok y h2) (c : binA op x y h2 = r) : mBin op ma mb l h = r := by
  rw [mBin, a, bind_ok, b, bind_ok, c]
theorem r_cmp {op : CmpOp} (a : ma l h = .ok x h1) (b : mb l h1 = .ok y h2) (c : cmpA op x y h2 = r) : mCmp op ma mb l h = r := by
  rw [mCmp, a, bind_ok, b, bind_ok, c]
theorem r_sub (a : ma l h = .ok x h1) (b : mb l h1 = .ok y h2) (c : subA x y h2 = r) : mSub ma mb l h = r := by
  rw [mSub, a, bind_ok, b, bind_ok, c]
theorem r_v (e : l[i]?.join = some v) : mV i l h = .ok v h := by
  rw [mV, e]
  rfl
theorem r_aC (a : ma l h = .ok x h1) (b : ms l h1 = .ok xs h2) : aC ma ms l h = .ok (x :: xs) h2 := by
  rw [aC, a, bind_ok, b, bind_ok]
theorem r_call (a : ms l h = .ok vs h1) (b : F vs h1 = r) : mCall F ms l h = r := by
  rw [mCall, a, bind_ok, b]
theorem r_tup (a : ms l h = .ok vs h1) (q : vs.length ≤ 100000) : mTup ms l h = .ok (.tup vs) h1 := by
  rw [mTup, a, bind_ok, limK q]
theorem r_lst (a : ms l h = .ok vs h1) (q : vs.length ≤ 100000) (w : h1.n < top) : mLst ms l h = .ok (.obj h1.n) (h1.push (.lst vs)) := by
  rw [mLst, a, bind_ok, limK q]
  exact alloc_ok w
theorem r_b1 {g : List AV → AH → R AV} (a : ma l h = .ok v h1) (b : g [v] h1 = r) : mB1 g ma l h = r := by
  rw [mB1, a, bind_ok, b]
theorem r_bm {m : Bm} (a : ma l h = .ok x h1) (c : isLst x h1 = true) (b : ms l h1 = .ok vs h2) (d : bmA m x vs h2 = r) : mBm m ma ms l h = r := by
  rw [mBm, a, bind_ok, c]
  dsimp only
  rw [b, bind_ok, d]
theorem r_bm0 {m : Bm} (a : ma l h = .ok x h1) (c : isLst x h1 = true) (d : bmA m x [] h1 = r) : mBm0 m ma l h = r := by
  rw [mBm0, a, bind_ok, c]
  dsimp only
  exact d
theorem r_itet (a : mc l h = .ok (.bl true) h1) (b : ma l h1 = r) : mIte mc ma mb l h = r := by
  rw [mIte, a, asB_ok]
  dsimp only
  exact b
theorem r_itef (a : mc l h = .ok (.bl false) h1) (b : mb l h1 = r) : mIte mc ma mb l h = r := by
  rw [mIte, a, asB_ok]
  dsimp only
  exact b
theorem r_not {b : Bool} (a : ma l h = .ok (.bl b) h1) : mNot ma l h = .ok (.bl (!b)) h1 := by
  rw [mNot, a, asB_ok]
theorem r_orf (a : ma l h = .ok (.bl false) h1) (b : mb l h1 = r) : orM ma mb l h = r := by
  rw [orM, a, asB_ok]
  dsimp only
  exact b
theorem r_andt (a : ma l h = .ok (.bl true) h1) (b : mb l h1 = r) : andM ma mb l h = r := by
  rw [andM, a, asB_ok]
  dsimp only
  exact b
theorem r_fn {np n : Nat} {args : List AV} (e : Nat.beq args.length np = true) (a : m1 (args.map some ++ List.replicate (n - args.length) none) h = t) : fnM np n m1 args h = endF t := by
  rw [fnM, e]
  dsimp only
  rw [a]
theorem r_of (a : me l h = .ok v h1) (b : srcOf v h1 = some s) : miOf me l h = .ok s h1 := by
  rw [miOf, a, bind_ok, b]
  rfl
theorem isLst_ok {n : Nat} (g : h.get n = some (.lst xs)) : isLst (.obj n) h = true := by
  unfold isLst
  dsimp only
  rw [g]
theorem srcOf_ob {n : Nat} (g : h.get n = some (.lst xs)) : srcOf (.obj n) h = some (.ob n) := by
  unfold srcOf
  dsimp only
  rw [g]
theorem list_ob {n : Nat} (g : h.get n = some (.lst xs)) (w : h.n < top) : b1A .list (.obj n) h = .ok (.obj h.n) (h.push (.lst xs)) := by
  unfold b1A
  dsimp only
  rw [g]
  exact alloc_ok w
theorem tuple_ob {n : Nat} (g : h.get n = some (.lst xs)) : b1A .tuple (.obj n) h = .ok (.tup xs) h := by
  unfold b1A
  dsimp only
  rw [g]
theorem add_ob {n m : Nat} {ys : List AV} (g : h.get n = some (.lst xs)) (g' : h.get m = some (.lst ys)) (q : xs.length + ys.length ≤ 100000) (w : h.n < top) : binA .Add (.obj n) (.obj m) h = .ok (.obj h.n) (h.push (.lst (xs ++ ys))) := by
  unfold binA
  dsimp only
  rw [g, g']
  dsimp only
  rw [limK q]
  exact alloc_ok w
theorem app_ob {n : Nat} (g : h.get n = some (.lst xs)) (p : h.ro ≤ n) (q : xs.length ≤ 100000) : bmA .append (.obj n) [y] h = .ok .non (h.set n (.lst (xs ++ [y]))) := by
  unfold bmA
  dsimp only
  rw [g]
  dsimp only
  rw [Nat.ble_eq_true_of_le p]
  dsimp only
  rw [blt_tt.mpr (by omega)]
theorem pop_ob {n : Nat} (g : h.get n = some (.lst xs)) (p : h.ro ≤ n) (q : xs.getLast? = some y) : bmA .pop (.obj n) [] h = .ok y (h.set n (.lst xs.dropLast)) := by
  unfold bmA
  dsimp only
  rw [g]
  dsimp only
  rw [Nat.ble_eq_true_of_le p]
  dsimp only
  rw [q]
theorem ext_ob {n m : Nat} {ys : List AV} (g : h.get n = some (.lst xs)) (g' : h.get m = some (.lst ys)) (p : h.ro ≤ n) (ne : n ≠ m) (q : xs.length + ys.length ≤ 100000) : bmA .extend (.obj n) [.obj m] h = .ok .non (h.set n (.lst (xs ++ ys))) := by
  unfold bmA
  dsimp only
  rw [g]
  dsimp only
  rw [Nat.ble_eq_true_of_le p]
  dsimp only
  have : Nat.beq n m = false := by
    cases e : Nat.beq n m with
    | true => exact absurd (beq_tt e) ne
    | false => rfl
  rw [this]
  dsimp only
  rw [g']
  dsimp only
  rw [limK q]
end
/-! ### lines -/
def ww : Nat → Str
  | 0 => "old"
  | 1 => "both"
  | _ => "new"
def wr : Nat → Nat → Nat
  | c, 0 => (match c with
    | 0 => 0
    | 3 => 0
    | _ => 2)
  | _, 1 => 1
  | _, _ => 4
theorem wr_lt (c w : Nat) : wr c w < 6 := by
  match w with
  | 0 =>
    match c with
    | 0 => exact (by decide)
    | 1 => exact (by decide)
    | 2 => exact (by decide)
    | 3 => exact (by decide)
    | n + 4 => exact (show 2 < 6 by decide)
  | 1 => exact (show 1 < 6 by decide)
  | n + 2 => exact (show 4 < 6 by decide)
def lnP (ps : List (AV × Nat)) : List AV := ps.map fun p => AV.tup [p.1, .str (ww p.2)]
abbrev wds (ps : List (AV × Nat)) : List Nat := ps.map (·.2)
theorem c6_wr (w : Nat) (xs : List Nat) : C6 (xs.map (wr · w)) := fun i h => by
  obtain ⟨c, _, e⟩ := List.mem_map.mp h
  rw [← e]
  exact wr_lt c w
theorem write_ok (c w : Nat) (h : AH) : f__law_write [cc c, .str (ww w)] h = .ok (cc (wr c w)) h := by
  match w with
  | 0 =>
    match c with
    | 0 => kernel_rfl
    | 1 => kernel_rfl
    | 2 => kernel_rfl
    | 3 => kernel_rfl
    | 4 => kernel_rfl
    | n + 5 => kernel_rfl
  | 1 => kernel_rfl
  | n + 2 => kernel_rfl
theorem written_ok (c w : Nat) (h : AH) : f_written [cc c, .str (ww w)] h = .ok (cc (wr c w)) h := by
  match w with
  | 0 =>
    match c with
    | 0 => kernel_rfl
    | 1 => kernel_rfl
    | 2 => kernel_rfl
    | 3 => kernel_rfl
    | 4 => kernel_rfl
    | n + 5 => kernel_rfl
  | 1 =>
    match c with
    | 0 => kernel_rfl
    | 1 => kernel_rfl
    | 2 => kernel_rfl
    | 3 => kernel_rfl
    | 4 => kernel_rfl
    | n + 5 => kernel_rfl
  | n + 2 =>
    match c with
    | 0 => kernel_rfl
    | 1 => kernel_rfl
    | 2 => kernel_rfl
    | 3 => kernel_rfl
    | 4 => kernel_rfl
    | n + 5 => kernel_rfl
end Ev
set_option Elab.async false
set_option linter.all false
set_option maxRecDepth 100000
set_option maxHeartbeats 400000
/-! the law's own closure: what it computes, by numbers -/
namespace Ev
open PySem PySem.Spec PyProof.Rows L2
/-! ### _law_more -/
def moreN (ws S : List Nat) : Option (List Nat) := ssetN (S ++ ws.flatMap fun w => S.map (wr · w))
theorem c6_more (S : List Nat) : ∀ ws : List Nat, C6 (ws.flatMap fun w => S.map (wr · w))
  | [] => C6.nil
  | w :: r => (c6_wr w S).app (c6_more S r)
theorem more_turn {line : AV} {S F : List Nat} {n f w : Nat} {rd : AV} {o3 o4 : Option AV} {h : AH} (gn : h.get n = some (.lst (L S))) (gf : h.get f = some (.lst (L F))) (l1 : S.length < 64) (l2 : F.length ≤ 1000) (b : h.n + 2 ≤ top) :
    turnF (mtN 3) (mSet 2 (mBin .Add (mV 2) (mLc [4] (mtN 4) (miOf (mV 1)) mYes (mCall f__law_write (aC (mV 4) (aC (mSub (mV 3) (mC (.int 1))) a0)))))) (.tup [rd, .str (ww w)]) [some line, some (.obj n), some (.obj f), o3, o4] h =
      .nx [some line, some (.obj n), some (.obj (h.n + 1)), some (.tup [rd, .str (ww w)]), o4] ((h.push (.lst (L (S.map (wr · w))))).push (.lst (L (F ++ S.map (wr · w))))) := by
  refine r_set (r_bin (r_v rfl) (r_lc (r_of (r_v rfl) (srcOf_ob gn)) (comp_one (f := (wr · w)) (at_ob gn) (fun i => ?_) (by omega)) (by simp; omega) (by omega)) ?_)
  · show (mCall f__law_write (aC (mV 4) (aC (mSub (mV 3) (mC (.int 1))) a0)) [some line, some (.obj n), some (.obj f), some (.tup [rd, .str (ww w)]), some (cc i)] h).bind (fun v h4 => .ok [v] h4) = _
    have e : mCall f__law_write (aC (mV 4) (aC (mSub (mV 3) (mC (.int 1))) a0)) [some line, some (.obj n), some (.obj f), some (.tup [rd, .str (ww w)]), some (cc i)] h = .ok (cc (wr i w)) h := r_call (r_aC (r_v rfl) (r_aC (r_sub (r_v rfl) rfl rfl) rfl)) (write_ok i w h)
    rw [e]
    rfl
  · have hf := AH.get_lt gf
    have g1 : (h.push (.lst (L (S.map (wr · w))))).get f = some (.lst (L F)) := (AH.get_push_old (Nat.ne_of_lt hf)).trans gf
    have g2 : (h.push (.lst (L (S.map (wr · w))))).get h.n = some (.lst (L (S.map (wr · w)))) := AH.get_push_new (by omega)
    refine (add_ob g1 g2 (by simp; omega) (by show h.n + 1 < top; omega)).trans ?_
    rw [← List.map_append]
    rfl
theorem more_ok {ps : List (AV × Nat)} {S T : List Nat} {n : Nat} {h : AH} (g : h.get n = some (.lst (L S))) (a : C6 S) (l1 : S.length < 64) (l2 : ps.length ≤ 3) (e : moreN (wds ps) S = some T) (b : h.n + 8 ≤ top) :
    ∃ j h', f__law_more [.tup (lnP ps), .obj n] h = .ok (.obj j) h' ∧ h'.get j = some (.lst (L T)) ∧ Ex 8 h h' := by
  have hn := AH.get_lt g
  let J : List AV → Loc' → AH → Prop := fun r l h1 => ∃ (q : List (AV × Nat)) (f : Nat) (o3 o4 : Option AV) (F : List Nat), r = lnP q ∧ l = [some (.tup (lnP ps)), some (.obj n), some (.obj f), o3, o4] ∧ h1.get f = some (.lst (L F)) ∧ C6 F ∧ F.length + 64 * q.length ≤ 64 * 4 ∧
    h1.get n = some (.lst (L S)) ∧ F ++ ((wds q).flatMap fun w => S.map (wr · w)) = S ++ ((wds ps).flatMap fun w => S.map (wr · w)) ∧ ∃ k, Ex k h h1 ∧ k + 2 * q.length ≤ 7
  have step : ∀ x r l h1, J (x :: r) l h1 → ∃ l' h', turnF (mtN 3) (mSet 2 (mBin .Add (mV 2) (mLc [4] (mtN 4) (miOf (mV 1)) mYes (mCall f__law_write (aC (mV 4) (aC (mSub (mV 3) (mC (.int 1))) a0)))))) x l h1 = .nx l' h' ∧ J r l' h' := by
    rintro x r l h1 ⟨q, f, o3, o4, F, er, el, gf, cF, lF, gn, eq, k, X, bk⟩
    cases q with
    | nil => cases er
    | cons p q =>
      obtain ⟨rd, w⟩ := p
      cases er
      subst el
      have X2 := X.n2
      have X1 := X.n1
      simp only [List.length_cons] at bk lF
      have t2 : (h1.push (.lst (L (S.map (wr · w))))).n < top := by show h1.n + 1 < top; omega
      refine ⟨_, _, more_turn gn gf l1 (by omega) (by omega), q, h1.n + 1, _, _, F ++ S.map (wr · w), rfl, rfl, AH.get_push_new t2, cF.app (c6_wr w S), ?_, ?_, ?_, k + 2, (X.trans (Ex.push _)).trans (Ex.push _), by omega⟩
      · simp; omega
      · exact (AH.get_push_old (by show n ≠ h1.n + 1; have := AH.get_lt gn; omega)).trans ((AH.get_push_old (Nat.ne_of_lt (AH.get_lt gn))).trans gn)
      · rw [← eq]
        show F ++ S.map (wr · w) ++ _ = F ++ (S.map (wr · w) ++ _)
        rw [List.append_assoc]
        rfl
  have j0 : J (lnP ps) [some (.tup (lnP ps)), some (.obj n), some (.obj h.n), none, none] (h.push (.lst (L S))) :=
    ⟨ps, h.n, none, none, S, rfl, rfl, AH.get_push_new (by omega), a, by omega, (AH.get_push_old (Nat.ne_of_lt hn)).trans g, rfl, 1, Ex.push _, by omega⟩
  obtain ⟨l', h', ef, q, f, o3, o4, F, er, el, gf, cF, lF, gn, eq, k, X, bk⟩ := for_tp (s := .tp (lnP ps)) (xs := lnP ps) (J := J) (fun _ _ => rfl) step (lnP ps) 0 turns _ _ rfl (by simp [lnP, turns]; omega) j0
  cases q with
  | cons p q => cases er
  | nil =>
    have eq : F = S ++ ((wds ps).flatMap fun w => S.map (wr · w)) := by rw [← eq]; simp
    have X2 := X.n2
    have hs : ssetA (.obj f) h' = .ok (.obj h'.n) (h'.push (.lst (L T))) := by
      unfold ssetA
      dsimp only
      rw [gf]
      dsimp only
      rw [sset_L cF (by rw [eq]; exact e)]
      exact alloc_ok (by omega)
    subst el
    exact ⟨h'.n, h'.push (.lst (L T)), r_fn rfl (r_seq (r_set (r_b1 (r_v rfl) (list_ob g (by omega)))) (r_seq (r_for (r_of (r_v rfl) rfl) ef) (r_ret (r_b1 (r_v rfl) hs)))), AH.get_push_new (by omega), (X.trans (Ex.push _)).mono (by omega)⟩
/-! ### _law_grown -/
def lgW : Nat → List Nat → List Nat → List Nat → Option (List Nat)
  | 0, _, _, _ => none
  | n + 1, ws, f, b => (match beqL f b with
    | true => some f
    | false => (match moreN ws f with
      | some g => lgW n ws g f
      | none => none))
def lgN (ws xs : List Nat) : Option (List Nat) := match ssetN xs with
  | some f => lgW 12 ws f []
  | none => none
theorem wh_t {mc : ME} {m1 : MS} {l l1 : Loc'} {h h1 h2 : AH} {m : Nat} (a : mc l h = .ok (.bl true) h1) (b : m1 l h1 = .nx l1 h2) : whileLoop mc m1 (m + 1) l h = whileLoop mc m1 m l1 h2 := by
  rw [whileLoop, a, toS_ok]
  dsimp only
  rw [b, nx_ok]
theorem wh_f {mc : ME} {m1 : MS} {l : Loc'} {h h1 : AH} {m : Nat} (a : mc l h = .ok (.bl false) h1) : whileLoop mc m1 (m + 1) l h = .nx l h1 := by
  rw [whileLoop, a, toS_ok]
theorem ne_L {h : AH} {m n : Nat} {xs ys : List Nat} (p : h.get m = some (.lst (L xs))) (q : h.get n = some (.lst (L ys))) (a : C6 xs) (b : C6 ys) : cmpA .NotEq (.obj m) (.obj n) h = .ok (.bl (!beqL xs ys)) h := by
  show rOpt ((eqA h (.obj m) (.obj n)).map fun b => AV.bl (!b)) h = _
  rw [eq_L p q a b]
  rfl
theorem lg_while {ps : List (AV × Nat)} {out : List Nat} (l2 : ps.length ≤ 3) : ∀ (n m : Nat) (F B : List Nat) (o1 : Option AV) (f b : Nat) (h : AH), lgW n (wds ps) F B = some out → n ≤ m → h.get f = some (.lst (L F)) → h.get b = some (.lst (L B)) → C6 F → C6 B → F.length < 64 → h.n + 8 * n ≤ top →
    ∃ f' b' h', whileLoop (mCmp .NotEq (mV 2) (mV 3)) (mSeq (mSet 3 (mV 2)) (mSet 2 (mCall f__law_more (aC (mV 0) (aC (mV 2) a0))))) m [some (.tup (lnP ps)), o1, some (.obj f), some (.obj b)] h = .nx [some (.tup (lnP ps)), o1, some (.obj f'), some (.obj b')] h' ∧ h'.get f' = some (.lst (L out)) ∧ Ex (8 * n) h h' ∧ C6 out
  | 0, m, F, B, o1, f, b, h, e, _, _, _, _, _, _, _ => by cases e
  | n + 1, 0, F, B, o1, f, b, h, e, q, _, _, _, _, _, _ => absurd q (Nat.not_succ_le_zero _)
  | n + 1, m + 1, F, B, o1, f, b, h, e, q, gf, gb, cF, cB, lF, bd => by
    have c : (mCmp .NotEq (mV 2) (mV 3)) [some (.tup (lnP ps)), o1, some (.obj f), some (.obj b)] h = .ok (.bl (!beqL F B)) h := r_cmp (r_v rfl) (r_v rfl) (ne_L gf gb cF cB)
    have e : (match beqL F B with
      | true => some F
      | false => (match moreN (wds ps) F with
        | some g => lgW n (wds ps) g F
        | none => none)) = some out := e
    cases eb : beqL F B with
    | true =>
      rw [eb] at e c
      cases e
      exact ⟨f, b, h, wh_f c, gf, (Ex.refl h).mono (by omega), cF⟩
    | false =>
      rw [eb] at e c
      dsimp only at e
      cases em : moreN (wds ps) F with
      | none => rw [em] at e; cases e
      | some g =>
        rw [em] at e
        obtain ⟨j, h1, e1, g1, X1⟩ := more_ok gf cF lF l2 em (by omega)
        have cg : C6 g := C6.sset (cF.app (c6_more F (wds ps))) em
        obtain ⟨f', b', h2, e2, g2, X2, c2⟩ := lg_while l2 n m g F o1 j f h1 e (by omega) g1 (X1.get gf) cg cF (by have := (ssetN_at em).2.2.1; omega) (by have := X1.n2; omega)
        refine ⟨f', b', h2, ?_, g2, (X1.trans X2).mono (by omega), c2⟩
        rw [wh_t c (r_seq (r_set (r_v rfl)) (r_set (r_call (r_aC (r_v rfl) (r_aC (r_v rfl) rfl)) e1)))]
        exact e2
/-- a tuple or a list of contents -/
def IsL (h : AH) (a : AV) (xs : List Nat) : Prop := a = .tup (L xs) ∨ ∃ n, a = .obj n ∧ h.get n = some (.lst (L xs))
theorem sset_is {h : AH} {a : AV} {xs ys : List Nat} (i : IsL h a xs) (c : C6 xs) (e : ssetN xs = some ys) (b : h.n < top) : ssetA a h = .ok (.obj h.n) (h.push (.lst (L ys))) := by
  rcases i with i | ⟨n, i, g⟩
  · subst i
    exact (sset_L c e).trans (alloc_ok b)
  · subst i
    unfold ssetA
    dsimp only
    rw [g]
    dsimp only
    rw [sset_L c e]
    exact alloc_ok b
theorem lg_ok {ps : List (AV × Nat)} {xs out : List Nat} {a : AV} {h : AH} (i : IsL h a xs) (c : C6 xs) (l2 : ps.length ≤ 3) (e : lgN (wds ps) xs = some out) (b : h.n + 100 ≤ top) :
    ∃ h', f__law_grown [.tup (lnP ps), a] h = .ok (.tup (L out)) h' ∧ Ex 100 h h' ∧ C6 out := by
  unfold lgN at e
  cases es : ssetN xs with
  | none => rw [es] at e; cases e
  | some F =>
    rw [es] at e
    dsimp only at e
    have b2 : (h.push (.lst (L F))).n < top := by show h.n + 1 < top; omega
    have gf : ((h.push (.lst (L F))).push (.lst [])).get h.n = some (.lst (L F)) := (AH.get_push_old (by show h.n ≠ h.n + 1; omega)).trans (AH.get_push_new (by omega))
    have gb : ((h.push (.lst (L F))).push (.lst [])).get (h.n + 1) = some (.lst (L [])) := AH.get_push_new b2
    obtain ⟨f', b', h', ew, g', X, co⟩ := lg_while l2 12 turns F [] (some a) h.n (h.n + 1) _ e (by decide) gf gb (C6.sset c es) C6.nil (by have := (ssetN_at es).2.2.1; omega) (by show h.n + 1 + 1 + 8 * 12 ≤ top; omega)
    refine ⟨h', r_fn rfl (r_seq (r_par (r_b1 (r_v rfl) (sset_is i c es (by omega))) (r_lst rfl (by decide) b2)) (r_seq (r_whl ew) (r_ret (r_b1 (r_v rfl) (tuple_ob g'))))), (((Ex.push _).trans (Ex.push _)).trans X).mono (by omega), co⟩
end Ev
set_option Elab.async false
set_option linter.all false
set_option maxRecDepth 100000
set_option maxHeartbeats 400000
/-! the program's closure: what it computes, by numbers -/
namespace Ev
open PySem PySem.Spec PyProof.Rows L2
theorem turnF_eq {mt : AV → Loc' → Option Loc'} {mb : MS} {x : AV} {l l1 : Loc'} {h : AH} {t : RS} (e : mt x l = some l1) (b : mb l1 h = t) : turnF mt mb x l h = t := by
  rw [turnF, e]
  exact b
theorem comp_map {h : AH} {s : Src} {xs : List Nat} {turn : AV → AH → R (List AV)} {f : Nat → AV} (at_ : ∀ i, s.at h i = some (L xs)[i]?) (st : ∀ i, turn (cc i) h = .ok [f i] h) (q : xs.length < 100000) : compLoop s turn turns 0 h = .ok (xs.map f) h := by
  have key : ∀ (r : List Nat) (i m : Nat), (L xs).drop i = L r → r.length < m → compLoop s turn m i h = .ok (r.map f) h := by
    intro r
    induction r with
    | nil =>
      intro i m e q
      cases m with
      | zero => exact absurd q (Nat.not_lt_zero _)
      | succ m =>
        have : (L xs)[i]? = none := by
          rw [List.getElem?_eq_none_iff]
          have := congrArg List.length e
          rw [List.length_drop] at this
          simp at this
          simp
          omega
        rw [compLoop, at_ i, this]
        rfl
    | cons x r ih =>
      intro i m e q
      cases m with
      | zero => exact absurd q (Nat.not_lt_zero _)
      | succ m =>
        have hx : (L xs)[i]? = some (cc x) := by
          have := congrArg (fun l => l[0]?) e
          simpa using this
        have hd : (L xs).drop (i + 1) = L r := by
          have := congrArg List.tail e
          simpa using this
        rw [compLoop, at_ i, hx]
        dsimp only
        rw [st x]
        dsimp only
        rw [ih (i + 1) m hd (by simp only [List.length_cons] at q; omega)]
        rfl
  exact key xs 0 turns rfl (by unfold turns; omega)
theorem r_dc {vs : List Nat} {mt : AV → Loc' → Option Loc'} {mi : Loc' → AH → R Src} {mk mv : ME} {l : Loc'} {h h1 h2 : AH} {s : Src} {ps : List AV} {d : List (AV × AV)} (a : mi l h = .ok s h1) (b : compLoop s (turnD vs mt mk mv l) turns 0 (lockH s h1) = .ok ps h2) (c : dictOfL ps [] = some d) (q : ps.length ≤ 100000) (w : (freeH h1.ro h2).n < top) :
    mDc vs mt mi mk mv l h = .ok (.obj (freeH h1.ro h2).n) ((freeH h1.ro h2).push (.dct d)) := by
  rw [mDc, a, bind_ok, b, bind_ok, c, limK q]
  exact alloc_ok w
theorem r_k {i : Nat} {l : Loc'} {h : AH} {x : AV} {s : Src} (e : l[i]?.join = some x) (b : srcW x h = some s) : miK i l h = .ok s h := by
  rw [miK, e]
  show (R.ok x h).bind (fun x h1 => rOpt (srcW x h1) h1) = _
  rw [bind_ok, b]
  rfl
theorem turnD_cc {i : Nat} {vs : List Nat} {l l2 : Loc'} {h : AH} {v : Nat} (e : (mtN v) (cc i) (wipeL l vs) = some l2) (q : l2[v]?.join = some (cc i)) : turnD vs (mtN v) (mV v) (mC (.bl true)) l (cc i) h = .ok [.tup [cc i, .bl true]] h := by
  rw [turnD, e]
  dsimp only
  rw [r_v q, bind_ok]
  show (match AV.tkey (cc i) with | some _ => R.ok [AV.tup [cc i, .bl true]] h | none => .bad) = _
  rw [tkey_cc]
theorem dk_keys (ks : List Nat) : (dk ks).map (·.1) = L ks := by
  unfold dk
  rw [List.map_map]
  rfl
def voN (xs : List Nat) : List Nat := isort (addN [] xs)
theorem sorted_dct {h : AH} {n : Nat} {ks : List Nat} (g : h.get n = some (.dct (dk ks))) (c : C6 ks) (b : h.n < top) : b1A .sorted (.obj n) h = .ok (.obj h.n) (h.push (.lst (L (isort ks)))) := by
  unfold b1A
  dsimp only
  rw [g]
  dsimp only
  rw [dk_keys, sortA_L c]
  exact alloc_ok b
theorem list_dct {h : AH} {n : Nat} {ks : List Nat} (g : h.get n = some (.dct (dk ks))) (b : h.n < top) : b1A .list (.obj n) h = .ok (.obj h.n) (h.push (.lst (L ks))) := by
  unfold b1A
  dsimp only
  rw [g]
  dsimp only
  rw [dk_keys]
  exact alloc_ok b
theorem freeH_self (h : AH) : freeH h.ro h = h := rfl
/-- a list or a dict of contents -/
def IsK (h : AH) (n : Nat) (xs : List Nat) : Prop := h.get n = some (.lst (L xs)) ∨ (h.get n = some (.dct (dk xs)) ∧ h.ro ≤ n)
theorem dc_ok {v : Nat} {l : Loc'} {h : AH} {a : AV} {i : Nat} {xs : List Nat} (hv : ∀ x, ((wipeL l [v]).set v (some x))[v]?.join = some x) (e : l[i]?.join = some a) (k : a = .tup (L xs) ∨ ∃ n, a = .obj n ∧ IsK h n xs) (c : C6 xs) (q : xs.length < 100000) (w : h.n < top) :
    mDc [v] (mtN v) (miK i) (mV v) (mC (.bl true)) l h = .ok (.obj h.n) (h.push (.dct (dk (addN [] xs)))) := by
  have d : dictOfL (xs.map fun i => AV.tup [cc i, .bl true]) [] = some (dk (addN [] xs)) := dictOf_L xs [] c C6.nil
  have lq : (xs.map fun i => AV.tup [cc i, .bl true]).length ≤ 100000 := by simp; omega
  rcases k with k | ⟨n, k, k2⟩
  · subst k
    exact r_dc (h1 := h) (h2 := h) (s := .tp (L xs)) (r_k e rfl) (comp_map (fun _ => rfl) (fun i => turnD_cc rfl (hv _)) q) d lq w
  · subst k
    rcases k2 with k2 | ⟨k2, ro⟩
    · have s : srcW (.obj n) h = some (.ob n) := by
        unfold srcW
        dsimp only
        rw [k2]
        exact srcOf_ob k2
      exact r_dc (h1 := h) (h2 := h) (s := .ob n) (r_k e s) (comp_map (at_ob k2) (fun i => turnD_cc rfl (hv _)) q) d lq w
    · have s : srcW (.obj n) h = some (.dk n (L xs)) := by
        unfold srcW
        dsimp only
        rw [k2]
        dsimp only
        rw [Nat.ble_eq_true_of_le ro, dk_keys]
      exact r_dc (h1 := h) (h2 := lockH (.dk n (L xs)) h) (s := .dk n (L xs)) (r_k e s) (comp_map (fun _ => rfl) (fun i => turnD_cc rfl (hv _)) q) d lq w
theorem view_ok {h : AH} {n : Nat} {xs : List Nat} (k : IsK h n xs) (c : C6 xs) (q : xs.length < 100000) (b : h.n + 2 ≤ top) : ∃ h', f_view_of [.obj n] h = .ok (.tup (L (voN xs))) h' ∧ Ex 2 h h' := by
  have g : (h.push (.dct (dk (addN [] xs)))).get h.n = some (.dct (dk (addN [] xs))) := AH.get_push_new (by omega)
  have b2 : (h.push (.dct (dk (addN [] xs)))).n < top := by show h.n + 1 < top; omega
  exact ⟨_, r_fn rfl (r_ret (r_b1 (r_b1 (dc_ok (fun _ => rfl) rfl (.inr ⟨n, rfl, k⟩) c q (by omega)) (sorted_dct g (C6.nil.addN c) b2)) (tuple_ob (AH.get_push_new b2)))), (Ex.push _).trans (Ex.push _)⟩
/-! ### grown -/
def gFor (c : Nat) : List Nat → List Nat → List Nat → List Nat × List Nat
  | [], ks, ws => (ks, ws)
  | w :: r, ks, ws => (match hasN (wr c w) ks with
    | true => gFor c r ks ws
    | false => gFor c r (ks ++ [wr c w]) (ws ++ [wr c w]))
def gWh : Nat → List Nat → List Nat → List Nat → Option (List Nat)
  | 0, _, _, _ => none
  | n + 1, W, ks, ws => (match ws.getLast? with
    | none => some ks
    | some c => gWh n W (gFor c W ks ws.dropLast).1 (gFor c W ks ws.dropLast).2)
def grN (W V : List Nat) : Option (List Nat) := match gWh 14 W (addN [] V) (addN [] V) with
  | some ks => some (voN ks)
  | none => none
theorem has_dk {h : AH} {n x : Nat} {ks : List Nat} (g : h.get n = some (.dct (dk ks))) (hx : x < 6) (c : C6 ks) : cmpA .NotIn (cc x) (.obj n) h = .ok (.bl (!hasN x ks)) h := by
  have e : inA h (cc x) (.obj n) = some (hasN x ks) := by
    unfold inA
    dsimp only
    rw [g]
    dsimp only
    rw [tkey_cc]
    dsimp only
    rw [dhas_dk hx c]
  show rOpt ((inA h (cc x) (.obj n)).map fun b => AV.bl (!b)) h = _
  rw [e]
  rfl
theorem put_dk {h : AH} {n x : Nat} {ks : List Nat} (g : h.get n = some (.dct (dk ks))) (hx : x < 6) (c : C6 ks) (p : h.ro ≤ n) (q : ks.length ≤ 100000) (no : hasN x ks = false) : putD (.obj n) (cc x) (.bl true) h = .ok .non (h.set n (.dct (dk (ks ++ [x])))) := by
  unfold putD
  dsimp only
  rw [g]
  dsimp only
  rw [tkey_cc]
  dsimp only
  rw [Nat.ble_eq_true_of_le p, blt_tt.mpr (by simp [dk]; omega), dput_new hx c no]
  rfl
theorem r_put {md mk mv : ME} {l : Loc'} {h h1 h2 h3 h4 : AH} {v x y u : AV} (a : mv l h = .ok v h1) (b : md l h1 = .ok x h2) (c : mk l h2 = .ok y h3) (d : putD x y v h3 = .ok u h4) : mPut md mk mv l h = .nx l h4 := by
  rw [mPut, a, toS_ok, b, toS_ok, c, toS_ok, d, toS_ok]
structure GS (kd wt : Nat) (ks ws : List Nat) (h : AH) : Prop where
  gk : h.get kd = some (.dct (dk ks))
  gw : h.get wt = some (.lst (L ws))
  ck : C6 ks
  cw : C6 ws
  rk : h.ro ≤ kd
  rw : h.ro ≤ wt
  ne : kd ≠ wt
  nt : h.n ≤ top
def gBody : MS := mSeq (mSet 7 (mCall f_written (aC (mV 4) (aC (mV 6) a0)))) (mIf (mCmp .NotIn (mV 7) (mV 2)) (mSeq (mPut (mV 2) (mV 7) (mC (.bl true))) (mEx (mBm .append (mV 3) (aC (mV 7) a0)))) mNx)
theorem g_turn {kd wt c w : Nat} {ks ws : List Nat} {h h0 : AH} {k : Nat} {o0 o1 o5 o6 o7 : Option AV} {rd : AV} (G : GS kd wt ks ws h) (X : Ex k h0 h) (d1 : h0.n ≤ kd) (d2 : h0.n ≤ wt) (q1 : ks.length ≤ 10000) (q2 : ws.length ≤ 10000) :
    ∃ o7' ks' ws' h', turnF (mtT (mtC (mtN 5) (mtC (mtN 6) mt0))) gBody (.tup [rd, .str (ww w)]) [o0, o1, some (.obj kd), some (.obj wt), some (cc c), o5, o6, o7] h = .nx [o0, o1, some (.obj kd), some (.obj wt), some (cc c), some rd, some (.str (ww w)), o7'] h' ∧ GS kd wt ks' ws' h' ∧ Ex k h0 h' ∧ h'.n = h.n ∧
      ks'.length ≤ ks.length + 1 ∧ ws'.length ≤ ws.length + 1 ∧ ∀ r, gFor c (w :: r) ks ws = gFor c r ks' ws' := by
  have hx := wr_lt c w
  have s1 : (mSet 7 (mCall f_written (aC (mV 4) (aC (mV 6) a0)))) [o0, o1, some (.obj kd), some (.obj wt), some (cc c), some rd, some (.str (ww w)), o7] h = .nx [o0, o1, some (.obj kd), some (.obj wt), some (cc c), some rd, some (.str (ww w)), some (cc (wr c w))] h := r_set (r_call (r_aC (r_v rfl) (r_aC (r_v rfl) rfl)) (written_ok c w h))
  cases e : hasN (wr c w) ks with
  | true =>
    refine ⟨some (cc (wr c w)), ks, ws, h, turnF_eq (l1 := [o0, o1, some (.obj kd), some (.obj wt), some (cc c), some rd, some (.str (ww w)), o7]) rfl (r_seq s1 (r_iff (r_cmp (r_v rfl) (r_v rfl) ((has_dk G.gk hx G.ck).trans (by rw [e]; rfl))) rfl)), G, X, rfl, Nat.le_succ _, Nat.le_succ _, fun r => ?_⟩
    show (match hasN (wr c w) ks with | true => gFor c r ks ws | false => gFor c r (ks ++ [wr c w]) (ws ++ [wr c w])) = _
    rw [e]
  | false =>
    have lk := AH.get_lt G.gk
    have lw := AH.get_lt G.gw
    have g2 : (h.set kd (.dct (dk (ks ++ [wr c w])))).get wt = some (.lst (L ws)) := (AH.get_set_ne (Ne.symm G.ne)).trans G.gw
    have a : bmA .append (.obj wt) [cc (wr c w)] (h.set kd (.dct (dk (ks ++ [wr c w])))) = .ok .non ((h.set kd (.dct (dk (ks ++ [wr c w])))).set wt (.lst (L ws ++ [cc (wr c w)]))) := app_ob g2 G.rw (by simp; omega)
    refine ⟨some (cc (wr c w)), ks ++ [wr c w], ws ++ [wr c w], (h.set kd (.dct (dk (ks ++ [wr c w])))).set wt (.lst (L ws ++ [cc (wr c w)])), turnF_eq (l1 := [o0, o1, some (.obj kd), some (.obj wt), some (cc c), some rd, some (.str (ww w)), o7]) rfl (r_seq s1 (r_ift (r_cmp (r_v rfl) (r_v rfl) ((has_dk G.gk hx G.ck).trans (by rw [e]; rfl))) (r_seq (r_put rfl (r_v rfl) (r_v rfl) (put_dk G.gk hx G.ck G.rk (by omega) e)) (r_ex (r_bm (r_v rfl) (isLst_ok g2) (r_aC (r_v rfl) rfl) a))))), ?_, (X.setN d1 _).setN d2 _, rfl, by simp, by simp, fun r => ?_⟩
    · refine ⟨?_, ?_, G.ck.app (C6.cons hx C6.nil), G.cw.app (C6.cons hx C6.nil), G.rk, G.rw, G.ne, G.nt⟩
      · exact (AH.get_set_ne G.ne).trans (AH.get_set_same G.nt lk)
      · have z := AH.get_set_same (h := h.set kd (.dct (dk (ks ++ [wr c w])))) (o := .lst (L ws ++ [cc (wr c w)])) (k := wt) G.nt lw
        rw [z, L, L, List.map_append]
        rfl
    · show (match hasN (wr c w) ks with | true => gFor c r ks ws | false => gFor c r (ks ++ [wr c w]) (ws ++ [wr c w])) = _
      rw [e]
theorem g_for {kd wt c : Nat} {ps : List (AV × Nat)} {ks ws : List Nat} {h h0 : AH} {k : Nat} {o1 o5 o6 o7 : Option AV} (G : GS kd wt ks ws h) (X : Ex k h0 h) (d1 : h0.n ≤ kd) (d2 : h0.n ≤ wt) (q1 : ks.length ≤ 5000) (q2 : ws.length ≤ 5000) (q3 : ps.length ≤ 1000) :
    ∃ o5' o6' o7' h', mFor (mtT (mtC (mtN 5) (mtC (mtN 6) mt0))) (miOf (mV 0)) gBody [some (.tup (lnP ps)), o1, some (.obj kd), some (.obj wt), some (cc c), o5, o6, o7] h = .nx [some (.tup (lnP ps)), o1, some (.obj kd), some (.obj wt), some (cc c), o5', o6', o7'] h' ∧ GS kd wt (gFor c (wds ps) ks ws).1 (gFor c (wds ps) ks ws).2 h' ∧ Ex k h0 h' ∧ h'.n = h.n ∧
      (gFor c (wds ps) ks ws).1.length ≤ ks.length + ps.length ∧ (gFor c (wds ps) ks ws).2.length ≤ ws.length + ps.length := by
  let J : List AV → Loc' → AH → Prop := fun r l h1 => ∃ (q : List (AV × Nat)) (ks1 ws1 : List Nat) (o5 o6 o7 : Option AV), r = lnP q ∧ l = [some (.tup (lnP ps)), o1, some (.obj kd), some (.obj wt), some (cc c), o5, o6, o7] ∧ GS kd wt ks1 ws1 h1 ∧ Ex k h0 h1 ∧ h1.n = h.n ∧ ks1.length + q.length ≤ ks.length + ps.length ∧ ws1.length + q.length ≤ ws.length + ps.length ∧ gFor c (wds q) ks1 ws1 = gFor c (wds ps) ks ws
  have step : ∀ x r l h1, J (x :: r) l h1 → ∃ l' h', turnF (mtT (mtC (mtN 5) (mtC (mtN 6) mt0))) gBody x l h1 = .nx l' h' ∧ J r l' h' := by
    rintro x r l h1 ⟨q, ks1, ws1, p5, p6, p7, er, el, G1, X1, n1, b1, b2, eg⟩
    cases q with
    | nil => cases er
    | cons p q =>
      obtain ⟨rd, w⟩ := p
      cases er
      subst el
      simp only [List.length_cons] at b1 b2
      obtain ⟨o7', ks2, ws2, h2, e2, G2, X2, n2, c1, c2, eg2⟩ := g_turn (o0 := some (.tup (lnP ps))) (o1 := o1) (o5 := p5) (o6 := p6) (o7 := p7) (rd := rd) (c := c) (w := w) G1 X1 d1 d2 (by omega) (by omega)
      exact ⟨_, h2, e2, q, ks2, ws2, _, _, o7', rfl, rfl, G2, X2, n2.trans n1, by omega, by omega, (eg2 _).symm.trans eg⟩
  obtain ⟨l', h', ef, q, ks1, ws1, p5, p6, p7, er, el, G1, X1, n1, b1, b2, eg⟩ := for_tp (s := .tp (lnP ps)) (xs := lnP ps) (J := J) (fun _ _ => rfl) step (lnP ps) 0 turns [some (.tup (lnP ps)), o1, some (.obj kd), some (.obj wt), some (cc c), o5, o6, o7] h rfl (by simp [lnP, turns]; omega) ⟨ps, ks, ws, o5, o6, o7, rfl, rfl, G, X, rfl, Nat.le_refl _, Nat.le_refl _, rfl⟩
  cases q with
  | cons p q => cases er
  | nil =>
    have eg : (ks1, ws1) = gFor c (wds ps) ks ws := eg
    subst el
    rw [← eg]
    simp only [List.length_nil] at b1 b2
    exact ⟨p5, p6, p7, h', r_for (r_of (r_v rfl) rfl) ef, G1, X1, n1, b1, b2⟩
theorem last_L (ws : List Nat) : (L ws).getLast? = ws.getLast?.map cc := by
  rw [L, List.getLast?_map]
theorem g_while {ps : List (AV × Nat)} {out : List Nat} {kd wt : Nat} {h0 : AH} (q3 : ps.length ≤ 3) (d1 : h0.n ≤ kd) (d2 : h0.n ≤ wt) : ∀ (n m : Nat) (ks ws : List Nat) (o1 o4 o5 o6 o7 : Option AV) (h : AH) (k : Nat), gWh n (wds ps) ks ws = some out → n ≤ m → GS kd wt ks ws h → Ex k h0 h → ks.length + 3 * n ≤ 4000 → ws.length + 3 * n ≤ 4000 → h.n + n ≤ top →
    ∃ l' h', whileLoop (mCmp .NotEq (mV 3) (mLst a0)) (mSeq (mSet 4 (mBm0 .pop (mV 3))) (mFor (mtT (mtC (mtN 5) (mtC (mtN 6) mt0))) (miOf (mV 0)) gBody)) m [some (.tup (lnP ps)), o1, some (.obj kd), some (.obj wt), o4, o5, o6, o7] h = .nx l' h' ∧ l'[2]?.join = some (.obj kd) ∧ h'.get kd = some (.dct (dk out)) ∧ C6 out ∧ Ex (k + n) h0 h' ∧ out.length ≤ 4000
  | 0, m, ks, ws, o1, o4, o5, o6, o7, h, k, e, _, _, _, _, _, _ => by cases e
  | n + 1, 0, ks, ws, o1, o4, o5, o6, o7, h, k, e, q, _, _, _, _, _ => absurd q (Nat.not_succ_le_zero _)
  | n + 1, m + 1, ks, ws, o1, o4, o5, o6, o7, h, k, e, q, G, X, b1, b2, b3 => by
    have lk := AH.get_lt G.gk
    have lw := AH.get_lt G.gw
    have gw1 : (h.push (.lst [])).get wt = some (.lst (L ws)) := (AH.get_push_old (Nat.ne_of_lt lw)).trans G.gw
    have ge : (h.push (.lst [])).get h.n = some (.lst (L [])) := AH.get_push_new (by omega)
    have c : (mCmp .NotEq (mV 3) (mLst a0)) [some (.tup (lnP ps)), o1, some (.obj kd), some (.obj wt), o4, o5, o6, o7] h = .ok (.bl (!beqL ws [])) (h.push (.lst [])) := r_cmp (r_v rfl) (r_lst rfl (by decide) (by omega)) (ne_L gw1 ge G.cw C6.nil)
    have e : (match ws.getLast? with
      | none => some ks
      | some c => gWh n (wds ps) (gFor c (wds ps) ks ws.dropLast).1 (gFor c (wds ps) ks ws.dropLast).2) = some out := e
    cases ws with
    | nil =>
      cases e
      exact ⟨_, _, wh_f c, rfl, (AH.get_push_old (Nat.ne_of_lt lk)).trans G.gk, G.ck, (X.trans (Ex.push _)).mono (by omega), by omega⟩
    | cons w0 wr0 =>
      obtain ⟨c0, hc⟩ : ∃ c0, (w0 :: wr0).getLast? = some c0 := ⟨_, List.getLast?_eq_some_getLast (List.cons_ne_nil _ _)⟩
      rw [hc] at e
      dsimp only at e
      have hp : bmA .pop (.obj wt) [] (h.push (.lst [])) = .ok (cc c0) ((h.push (.lst [])).set wt (.lst (L (w0 :: wr0)).dropLast)) := pop_ob gw1 G.rw (by rw [last_L, hc]; rfl)
      have dl : (L (w0 :: wr0)).dropLast = L (w0 :: wr0).dropLast := by rw [L, L, List.map_dropLast]
      have G1 : GS kd wt ks (w0 :: wr0).dropLast ((h.push (.lst [])).set wt (.lst (L (w0 :: wr0)).dropLast)) := by
        refine ⟨(AH.get_set_ne G.ne).trans ((AH.get_push_old (Nat.ne_of_lt lk)).trans G.gk), ?_, G.ck, G.cw.sub fun i z => List.dropLast_subset _ z, G.rk, G.rw, G.ne, by show h.n + 1 ≤ top; omega⟩
        rw [dl]
        exact AH.get_set_same (by show h.n + 1 ≤ top; omega) (by show wt < h.n + 1; omega)
      have X1 : Ex (k + 1) h0 ((h.push (.lst [])).set wt (.lst (L (w0 :: wr0)).dropLast)) := (X.trans (Ex.push _)).setN d2 _
      have ld : (w0 :: wr0).dropLast.length + 1 = (w0 :: wr0).length := by simp
      obtain ⟨p5, p6, p7, h2, e2, G2, X2, n2, c1, c2⟩ := g_for (ps := ps) (c := c0) (o1 := o1) (o5 := o5) (o6 := o6) (o7 := o7) G1 X1 d1 d2 (by omega) (by omega) (by omega)
      obtain ⟨l', h3, e3, j1, j2, j3, X3, j4⟩ := g_while q3 d1 d2 n m _ _ o1 (some (cc c0)) p5 p6 p7 h2 (k + 1) e (by omega) G2 X2 (by omega) (by omega) (by rw [n2]; show h.n + 1 + n ≤ top; omega)
      refine ⟨l', h3, ?_, j1, j2, j3, X3.mono (by omega), j4⟩
      rw [wh_t c (r_seq (r_set (r_bm0 (r_v rfl) (isLst_ok gw1) hp)) e2)]
      exact e3
theorem grown_ok {ps : List (AV × Nat)} {V out : List Nat} {h : AH} (c : C6 V) (q : V.length ≤ 1000) (l2 : ps.length ≤ 3) (e : grN (wds ps) V = some out) (ro : h.ro ≤ h.n) (b : h.n + 20 ≤ top) :
    ∃ h', f_grown [.tup (lnP ps), .tup (L V)] h = .ok (.tup (L out)) h' ∧ Ex 20 h h' := by
  unfold grN at e
  cases eg : gWh 14 (wds ps) (addN [] V) (addN [] V) with
  | none => rw [eg] at e; cases e
  | some ks =>
    rw [eg] at e
    cases e
    have la := addN_len V []
    simp only [List.length_nil] at la
    have ca : C6 (addN [] V) := C6.nil.addN c
    have b2 : (h.push (.dct (dk (addN [] V)))).n < top := by show h.n + 1 < top; omega
    have g0 : (h.push (.dct (dk (addN [] V)))).get h.n = some (.dct (dk (addN [] V))) := AH.get_push_new (by omega)
    have G : GS h.n (h.n + 1) (addN [] V) (addN [] V) ((h.push (.dct (dk (addN [] V)))).push (.lst (L (addN [] V)))) :=
      ⟨(AH.get_push_old (by show h.n ≠ h.n + 1; omega)).trans g0, AH.get_push_new b2, ca, ca, ro, by show h.ro ≤ h.n + 1; omega, by omega, by show h.n + 1 + 1 ≤ top; omega⟩
    obtain ⟨l', h', ew, j1, j2, j3, X, j4⟩ := g_while (h0 := h) l2 (Nat.le_refl _) (Nat.le_succ _) 14 turns _ _ (some (.tup (L V))) none none none none _ 2 eg (by decide) G ((Ex.push _).trans (Ex.push _)) (by omega) (by omega) (by show h.n + 1 + 1 + 14 ≤ top; omega)
    obtain ⟨h2, e2, X2⟩ := view_ok (.inr ⟨j2, by rw [X.ro]; exact ro⟩) j3 (by omega) (by have := X.n2; omega)
    exact ⟨h2, r_fn rfl (r_seq (r_set (dc_ok (fun _ => rfl) rfl (.inl rfl) c (by omega) (by omega))) (r_seq (r_set (r_b1 (r_v rfl) (list_dct g0 b2))) (r_seq (r_whl ew) (r_ret (r_call (r_aC (r_v j1) rfl) e2))))), (X.trans X2).mono (by omega)⟩
end Ev
set_option Elab.async false
set_option linter.all false
set_option maxRecDepth 100000
set_option maxHeartbeats 400000
/-! copies: what they compute, by numbers -/
namespace Ev
open PySem PySem.Spec PyProof.Rows L2
mutual
def AV.beq : AV → AV → Bool
  | .non, y => (match y with | .non => true | _ => false)
  | .bl a, y => (match y with | .bl b => a == b | _ => false)
  | .int i, y => (match y with | .int j => decide (i = j) | _ => false)
  | .str x, y => (match y with | .str z => decide (x = z) | _ => false)
  | .tup xs, y => (match y with | .tup ys => AV.beqs xs ys | _ => false)
  | .obj a, y => (match y with | .obj b => Nat.beq a b | _ => false)
def AV.beqs : List AV → List AV → Bool
  | [], ys => (match ys with | [] => true | _ => false)
  | x :: xs, ys => (match ys with
    | y :: ys => (match AV.beq x y with
      | true => AV.beqs xs ys
      | false => false)
    | [] => false)
end
mutual
theorem AV.beq_eq : ∀ (x y : AV), AV.beq x y = true → x = y
  | .non, y, h => by cases y <;> first | rfl | cases h
  | .bl a, y, h => by
    cases y with
    | bl b => rw [eq_of_beq (show (a == b) = true from h)]
    | _ => cases h
  | .int i, y, h => by
    cases y with
    | int j => rw [of_decide_eq_true (show decide (i = j) = true from h)]
    | _ => cases h
  | .str x, y, h => by
    cases y with
    | str z => rw [of_decide_eq_true (show decide (x = z) = true from h)]
    | _ => cases h
  | .tup xs, y, h => by
    cases y with
    | tup ys => rw [AV.beqs_eq xs ys h]
    | _ => cases h
  | .obj a, y, h => by
    cases y with
    | obj b => rw [beq_tt (show Nat.beq a b = true from h)]
    | _ => cases h
theorem AV.beqs_eq : ∀ (xs ys : List AV), AV.beqs xs ys = true → xs = ys
  | [], ys, h => by
    cases ys with
    | nil => rfl
    | cons _ _ => cases h
  | x :: xs, ys, h => by
    cases ys with
    | nil => cases h
    | cons y ys =>
      have h : (match AV.beq x y with | true => AV.beqs xs ys | false => false) = true := h
      cases e : AV.beq x y with
      | true =>
        rw [e] at h
        rw [AV.beq_eq x y e, AV.beqs_eq xs ys h]
      | false => rw [e] at h; cases h
end
theorem comp_g {α : Type} {g f : α → AV} {h : AH} {s : Src} {xs : List α} {turn : AV → AH → R (List AV)} (at_ : ∀ i, s.at h i = some (xs.map g)[i]?) (st : ∀ i, turn (g i) h = .ok [f i] h) (q : xs.length < 100000) : compLoop s turn turns 0 h = .ok (xs.map f) h := by
  have key : ∀ (r : List α) (i m : Nat), (xs.map g).drop i = r.map g → r.length < m → compLoop s turn m i h = .ok (r.map f) h := by
    intro r
    induction r with
    | nil =>
      intro i m e q
      cases m with
      | zero => exact absurd q (Nat.not_lt_zero _)
      | succ m =>
        have : (xs.map g)[i]? = none := by
          rw [List.getElem?_eq_none_iff]
          have := congrArg List.length e
          rw [List.length_drop] at this
          simp at this
          simp
          omega
        rw [compLoop, at_ i, this]
        rfl
    | cons x r ih =>
      intro i m e q
      cases m with
      | zero => exact absurd q (Nat.not_lt_zero _)
      | succ m =>
        have hx : (xs.map g)[i]? = some (g x) := by
          have := congrArg (fun l => l[0]?) e
          simpa using this
        have hd : (xs.map g).drop (i + 1) = r.map g := by
          have := congrArg List.tail e
          simpa using this
        rw [compLoop, at_ i, hx]
        dsimp only
        rw [st x]
        dsimp only
        rw [ih (i + 1) m hd (by simp only [List.length_cons] at q; omega)]
        rfl
  exact key xs 0 turns rfl (by unfold turns; omega)
theorem pureX_lst {F : Fn} {h : AH} {s : Nat} {xs rest : List AV} (g : h.get s = some (.lst xs)) (c1 : AV.clns 0 rest = true) (c2 : AV.clns 0 xs = true) : pureX F (.obj s :: rest) h = outP h (F (.obj 0 :: rest) (hO (.lst xs))) := by
  show (match h.get s with
    | some o => (match AV.clns 0 rest && impO o with
      | true => outP h (F (.obj 0 :: rest) (hO o))
      | false => .bad)
    | none => .bad) = _
  rw [g]
  dsimp only
  rw [show (AV.clns 0 rest && impO (.lst xs)) = true by rw [c1, show impO (.lst xs) = true from c2]; rfl]
theorem pureX_tup {F : Fn} {h : AH} {xs rest : List AV} (c : AV.clns 0 (.tup xs :: rest) = true) : pureX F (.tup xs :: rest) h = outP h (F (.tup xs :: rest) hE) := by
  show (match AV.clns 0 (.tup xs :: rest) with
    | true => outP h (F (.tup xs :: rest) hE)
    | false => .bad) = _
  rw [c]
theorem pureX_str {F : Fn} {h : AH} {x : Str} {rest : List AV} (c : AV.clns 0 (.str x :: rest) = true) : pureX F (.str x :: rest) h = outP h (F (.str x :: rest) hE) := by
  show (match AV.clns 0 (.str x :: rest) with
    | true => outP h (F (.str x :: rest) hE)
    | false => .bad) = _
  rw [c]
theorem outP_tup {h h1 : AH} {xs : List AV} (c : AV.clns 0 xs = true) : outP h (.ok (.tup xs) h1) = .ok (.tup xs) h := by
  show (match AV.cln 0 (.tup xs) with | true => R.ok (AV.tup xs) h | false => .bad) = _
  rw [show AV.cln 0 (.tup xs) = true from c]
/-! ### what is put down -/
def cpS : Nat → Str
  | 0 => "plain"
  | 1 => "empty"
  | _ => "check"
def f0 : Nat → Str
  | 0 => "fresh"
  | 1 => "fresh"
  | 2 => "fresh"
  | _ => "stale"
def pF : Nat → Nat → Nat
  | 1, c => (match c with
    | 0 => 1
    | 3 => 5
    | c => c)
  | _, c => (match c with
    | 0 => 1
    | 1 => 1
    | 2 => 1
    | _ => 5)
def pS : Nat → Nat → Nat
  | 0, c => (match c with
    | 0 => 2
    | 1 => 2
    | 2 => 2
    | _ => 5)
  | 1, c => (match c with
    | 0 => 2
    | 3 => 5
    | c => c)
  | _, c => c
def tFi (c : Nat) : AV := .tup [cc c, .str (f0 c), .bl true]
def tSt (c : Nat) : AV := .tup [cc c, .str "stale", .bl false]
theorem pdF (k c : Nat) (h : AH) : pureX f_put_down [.str (cpS k), tFi c] h = .ok (cc (pF k c)) h := by
  match k with
  | 0 => exact six (P := fun c => pureX f_put_down [.str (cpS 0), tFi c] h = .ok (cc (pF 0 c)) h) (by kernel_rfl) (by kernel_rfl) (by kernel_rfl) (by kernel_rfl) (by kernel_rfl) (fun n => by kernel_rfl) c
  | 1 => exact six (P := fun c => pureX f_put_down [.str (cpS 1), tFi c] h = .ok (cc (pF 1 c)) h) (by kernel_rfl) (by kernel_rfl) (by kernel_rfl) (by kernel_rfl) (by kernel_rfl) (fun n => by kernel_rfl) c
  | k + 2 => exact six (P := fun c => pureX f_put_down [.str (cpS (k + 2)), tFi c] h = .ok (cc (pF (k + 2) c)) h) (by kernel_rfl) (by kernel_rfl) (by kernel_rfl) (by kernel_rfl) (by kernel_rfl) (fun n => by kernel_rfl) c
theorem pdS (k c : Nat) (h : AH) : pureX f_put_down [.str (cpS k), tSt c] h = .ok (cc (pS k c)) h := by
  match k with
  | 0 => exact six (P := fun c => pureX f_put_down [.str (cpS 0), tSt c] h = .ok (cc (pS 0 c)) h) (by kernel_rfl) (by kernel_rfl) (by kernel_rfl) (by kernel_rfl) (by kernel_rfl) (fun n => by kernel_rfl) c
  | 1 => exact six (P := fun c => pureX f_put_down [.str (cpS 1), tSt c] h = .ok (cc (pS 1 c)) h) (by kernel_rfl) (by kernel_rfl) (by kernel_rfl) (by kernel_rfl) (by kernel_rfl) (fun n => by kernel_rfl) c
  | k + 2 => exact six (P := fun c => pureX f_put_down [.str (cpS (k + 2)), tSt c] h = .ok (cc (pS (k + 2) c)) h) (by kernel_rfl) (by kernel_rfl) (by kernel_rfl) (by kernel_rfl) (by kernel_rfl) (fun n => by kernel_rfl) c
theorem puF (k c : Nat) (h : AH) : f__law_put [.str (cpS k), cc c, .str (f0 c), .bl true] h = .ok (cc (pF k c)) h := by
  match k with
  | 0 => exact six (P := fun c => f__law_put [.str (cpS 0), cc c, .str (f0 c), .bl true] h = .ok (cc (pF 0 c)) h) (by kernel_rfl) (by kernel_rfl) (by kernel_rfl) (by kernel_rfl) (by kernel_rfl) (fun n => by kernel_rfl) c
  | 1 => exact six (P := fun c => f__law_put [.str (cpS 1), cc c, .str (f0 c), .bl true] h = .ok (cc (pF 1 c)) h) (by kernel_rfl) (by kernel_rfl) (by kernel_rfl) (by kernel_rfl) (by kernel_rfl) (fun n => by kernel_rfl) c
  | k + 2 => exact six (P := fun c => f__law_put [.str (cpS (k + 2)), cc c, .str (f0 c), .bl true] h = .ok (cc (pF (k + 2) c)) h) (by kernel_rfl) (by kernel_rfl) (by kernel_rfl) (by kernel_rfl) (by kernel_rfl) (fun n => by kernel_rfl) c
theorem puS (k c : Nat) (h : AH) : f__law_put [.str (cpS k), cc c, .str "stale", .bl false] h = .ok (cc (pS k c)) h := by
  match k with
  | 0 => exact six (P := fun c => f__law_put [.str (cpS 0), cc c, .str "stale", .bl false] h = .ok (cc (pS 0 c)) h) (by kernel_rfl) (by kernel_rfl) (by kernel_rfl) (by kernel_rfl) (by kernel_rfl) (fun n => by kernel_rfl) c
  | 1 => exact six (P := fun c => f__law_put [.str (cpS 1), cc c, .str "stale", .bl false] h = .ok (cc (pS 1 c)) h) (by kernel_rfl) (by kernel_rfl) (by kernel_rfl) (by kernel_rfl) (by kernel_rfl) (fun n => by kernel_rfl) c
  | k + 2 => exact six (P := fun c => f__law_put [.str (cpS (k + 2)), cc c, .str "stale", .bl false] h = .ok (cc (pS (k + 2) c)) h) (by kernel_rfl) (by kernel_rfl) (by kernel_rfl) (by kernel_rfl) (by kernel_rfl) (fun n => by kernel_rfl) c
theorem sub_f0 (c : Nat) (h : AH) : subA (cc c) (.int 0) h = .ok (.str (f0 c)) h := six (P := fun c => subA (cc c) (.int 0) h = .ok (.str (f0 c)) h) rfl rfl rfl rfl rfl (fun _ => rfl) c
theorem pF_lt : ∀ k < 3, ∀ c < 6, pF k c < 6 := by decide
theorem pS_lt : ∀ k < 3, ∀ c < 6, pS k c < 6 := by decide
/-! ### hands -/
def hkT (W : List Nat) (c : Nat) : List Nat := match gWh 14 W (gFor c W [] []).1 (gFor c W [] []).2 with
  | some ks => ks
  | none => []
def ckH (line : AV) (W : List Nat) (c : Nat) : Bool := match f_hands_from [line, cc c] hE with
  | .ok (.obj n) h1 => Nat.ble h1.ro n && (match h1.get n with
    | some (.lst ts) => AV.clns 0 ts && AV.beqs ts (tFi c :: (hkT W c).map tSt)
    | _ => false)
  | _ => false
theorem ckH_1 (a : AV) : ([0, 1, 2].all fun w => [0, 1, 2, 3, 4, 5].all fun c => ckH (.tup (lnP [(a, w)])) [w] c) = true := by kernel_rfl
theorem ckH_2 (a b : AV) : ([0, 1, 2].all fun w => [0, 1, 2].all fun u => [0, 1, 2, 3, 4, 5].all fun c => ckH (.tup (lnP [(a, w), (b, u)])) [w, u] c) = true := by kernel_rfl
theorem ckH_3 (a b d : AV) : ([0, 1, 2].all fun w => [0, 1, 2].all fun u => [0, 1, 2].all fun v => [0, 1, 2, 3, 4, 5].all fun c => ckH (.tup (lnP [(a, w), (b, u), (d, v)])) [w, u, v] c) = true := by kernel_rfl
end Ev
set_option Elab.async false
set_option linter.all false
set_option maxRecDepth 100000
set_option maxHeartbeats 400000
/-! copies: the program's and the law's -/
namespace Ev
open PySem PySem.Spec PyProof.Rows L2
theorem all3 {P : Nat → Bool} (h : ([0, 1, 2].all P) = true) {w : Nat} (q : w < 3) : P w = true := by
  rw [List.all_eq_true] at h
  exact h w (by have : w = 0 ∨ w = 1 ∨ w = 2 := by omega
                rcases this with e | e | e <;> subst e <;> decide)
theorem all6 {P : Nat → Bool} (h : ([0, 1, 2, 3, 4, 5].all P) = true) {w : Nat} (q : w < 6) : P w = true := by
  rw [List.all_eq_true] at h
  exact h w (by have : w = 0 ∨ w = 1 ∨ w = 2 ∨ w = 3 ∨ w = 4 ∨ w = 5 := by omega
                rcases this with e | e | e | e | e | e <;> subst e <;> decide)
/-- a line: one to three servers, with words -/
structure Ln (ps : List (AV × Nat)) : Prop where
  l1 : 1 ≤ ps.length
  l2 : ps.length ≤ 3
  w : ∀ p ∈ ps, p.2 < 3
  c : ∀ p ∈ ps, AV.cln 0 p.1 = true
theorem ckH_all {ps : List (AV × Nat)} (n : Ln ps) {c : Nat} (hc : c < 6) : ckH (.tup (lnP ps)) (wds ps) c = true := by
  obtain ⟨l1, l2, w, _⟩ := n
  match ps, l1, l2, w with
  | [(a, w)], _, _, q => exact all6 (all3 (ckH_1 a) (q (a, w) (by simp))) hc
  | [(a, w), (b, u)], _, _, q => exact all6 (all3 (all3 (ckH_2 a b) (q (a, w) (by simp))) (q (b, u) (by simp))) hc
  | [(a, w), (b, u), (d, v)], _, _, q => exact all6 (all3 (all3 (all3 (ckH_3 a b d) (q (a, w) (by simp))) (q (b, u) (by simp))) (q (d, v) (by simp))) hc
  | [], l, _, _ => exact absurd l (by decide)
  | _ :: _ :: _ :: _ :: _, _, l, _ => exact absurd l (by simp)
theorem clns_lnP : ∀ {ps : List (AV × Nat)}, (∀ p ∈ ps, AV.cln 0 p.1 = true) → AV.clns 0 (lnP ps) = true
  | [], _ => rfl
  | (a, w) :: r, q => by
    show (match AV.cln 0 (.tup [a, .str (ww w)]) with | true => AV.clns 0 (lnP r) | false => false) = true
    have : AV.cln 0 (.tup [a, .str (ww w)]) = true := by
      show (match AV.cln 0 a with | true => AV.clns 0 [.str (ww w)] | false => false) = true
      rw [q (a, w) (by simp)]
      rfl
    rw [this]
    exact clns_lnP fun p z => q p (List.mem_cons_of_mem _ z)
theorem cln_line {ps : List (AV × Nat)} (n : Ln ps) (xs : List AV) (c : AV.clns 0 xs = true) : AV.clns 0 (.tup (lnP ps) :: xs) = true := by
  show (match AV.cln 0 (.tup (lnP ps)) with | true => AV.clns 0 xs | false => false) = true
  rw [show AV.cln 0 (.tup (lnP ps)) = true from clns_lnP n.c]
  exact c
theorem clns_cc (i : Nat) : AV.clns 0 [cc i] = true := six (P := fun i => AV.clns 0 [cc i] = true) rfl rfl rfl rfl rfl (fun _ => rfl) i
theorem hands_ok {ps : List (AV × Nat)} (n : Ln ps) {c : Nat} (hc : c < 6) {h : AH} (b : h.n < top) : pureX f_hands_from [.tup (lnP ps), cc c] h = .ok (.obj h.n) (h.push (.lst (tFi c :: (hkT (wds ps) c).map tSt))) := by
  rw [pureX_tup (cln_line n _ (clns_cc c))]
  have k := ckH_all n hc
  unfold ckH at k
  cases e : f_hands_from [.tup (lnP ps), cc c] hE with
  | bad => rw [e] at k; cases k
  | ex x h1 => rw [e] at k; cases k
  | ok v h1 =>
    rw [e] at k
    cases v with
    | obj m =>
      dsimp only at k
      obtain ⟨k1, k2⟩ := Bool.and_eq_true_iff.mp k
      cases g : h1.get m with
      | none => rw [g] at k2; cases k2
      | some o =>
        rw [g] at k2
        cases o with
        | lst ts =>
          dsimp only at k2
          obtain ⟨k2, k3⟩ := Bool.and_eq_true_iff.mp k2
          have k3 := AV.beqs_eq _ _ k3
          rw [← k3]
          show (match Nat.ble h1.ro m with
            | true => (match h1.get m with
              | some (.lst xs) => (match AV.clns 0 xs with
                | true => alloc h (.lst xs)
                | false => .bad)
              | _ => .bad)
            | false => .bad) = _
          rw [k1, g]
          dsimp only
          rw [k2]
          exact alloc_ok b
        | _ => cases k2
    | _ => cases k
/-! ### copied -/
def hdT (k : Nat) (W : List Nat) (c : Nat) : List Nat := pF k c :: (hkT W c).map (pS k)
def copN (k : Nat) (W V : List Nat) : List Nat := voN (V.flatMap (hdT k W))
/-- the hands are few -/
def okHk (W : List Nat) : Bool := [0, 1, 2, 3, 4, 5].all fun c => Nat.ble (hkT W c).length 6 && (hkT W c).all fun i => Nat.blt i 6
theorem hk_1 : ([0, 1, 2].all fun w => okHk [w]) = true := by decide +kernel
theorem hk_2 : ([0, 1, 2].all fun w => [0, 1, 2].all fun u => okHk [w, u]) = true := by decide +kernel
theorem hk_3 : ([0, 1, 2].all fun w => [0, 1, 2].all fun u => [0, 1, 2].all fun v => okHk [w, u, v]) = true := by decide +kernel
/-- a fact of all lists of words -/
theorem Ln.all {ps : List (AV × Nat)} (n : Ln ps) {P : List Nat → Bool} (h1 : ([0, 1, 2].all fun w => P [w]) = true) (h2 : ([0, 1, 2].all fun w => [0, 1, 2].all fun u => P [w, u]) = true) (h3 : ([0, 1, 2].all fun w => [0, 1, 2].all fun u => [0, 1, 2].all fun v => P [w, u, v]) = true) : P (wds ps) = true := by
  obtain ⟨l1, l2, w, _⟩ := n
  match ps, l1, l2, w with
  | [(a, w)], _, _, q => exact all3 h1 (q (a, w) (by simp))
  | [(a, w), (b, u)], _, _, q => exact all3 (all3 h2 (q (a, w) (by simp))) (q (b, u) (by simp))
  | [(a, w), (b, u), (d, v)], _, _, q => exact all3 (all3 (all3 h3 (q (a, w) (by simp))) (q (b, u) (by simp))) (q (d, v) (by simp))
  | [], l, _, _ => exact absurd l (by decide)
  | _ :: _ :: _ :: _ :: _, _, l, _ => exact absurd l (by simp)
theorem hk_ok {ps : List (AV × Nat)} (n : Ln ps) {c : Nat} (hc : c < 6) : (hkT (wds ps) c).length ≤ 6 ∧ C6 (hkT (wds ps) c) := by
  obtain ⟨a, b⟩ := Bool.and_eq_true_iff.mp (all6 (n.all hk_1 hk_2 hk_3) hc)
  refine ⟨Nat.le_of_ble_eq_true a, fun i q => ?_⟩
  rw [List.all_eq_true] at b
  exact blt_tt.mp (b i q)
theorem hd_ok {ps : List (AV × Nat)} (n : Ln ps) {k c : Nat} (hk : k < 3) (hc : c < 6) : (hdT k (wds ps) c).length ≤ 7 ∧ C6 (hdT k (wds ps) c) := by
  obtain ⟨a, b⟩ := hk_ok n hc
  refine ⟨by simp [hdT]; omega, C6.cons (pF_lt k hk c hc) fun i q => ?_⟩
  obtain ⟨j, q1, q2⟩ := List.mem_map.mp q
  rw [← q2]
  exact pS_lt k hk j (b j q1)
theorem r_attr {ma : ME} {alts : List (Nat × Nat)} {l : Loc'} {h h1 : AH} {x : AV} {r : R AV} (a : ma l h = .ok x h1) (b : attA x alts h1 = r) : mAttr ma alts l h = r := by
  rw [mAttr, a, bind_ok, b]
theorem att_ok {h : AH} {n c i : Nat} {fs : List (Option AV)} {v : AV} (g : h.get n = some (.ins c fs)) (e : fs[i]?.join = some v) : attA (.obj n) [(c, i)] h = .ok v h := by
  unfold attA insOf
  dsimp only
  rw [g]
  dsimp only
  have : altOf c [(c, i)] = some i := by
    show (match Nat.beq c c with | true => some i | false => none) = _
    rw [show Nat.beq c c = true by simp]
  rw [this]
  dsimp only
  rw [e]
  rfl
def cpBody : MS := mEx (mBm .extend (mV 3) (aC (mLc [5] (mtN 5) (miOf (mCall (pureX f_hands_from) (aC (mV 1) (aC (mV 4) a0)))) mYes (mCall (pureX f_put_down) (aC (mAttr (mV 0) [(0, 0)]) (aC (mV 5) a0)))) a0))
theorem at_map {α : Type} {g : α → AV} {h : AH} {n : Nat} {x : α} {r : List α} {y : AV} {ys : List AV} (e : h.get n = some (.lst ys)) (q : ys = (x :: r).map g) (i : Nat) : Src.at (.ob n) h i = some ((x :: r).map g)[i]? := by
  rw [← q]
  exact at_ob e i
theorem cp_turn {ps : List (AV × Nat)} (n : Ln ps) {k : Nat} (hk : k < 3) {a fd c : Nat} (hc : c < 6) {F : List Nat} {h : AH} {rest : List (Option AV)} {o2 o4 o5 : Option AV} (ga : h.get a = some (.ins 0 (some (.str (cpS k)) :: rest))) (gf : h.get fd = some (.lst (L F))) (q : F.length ≤ 1000) (ro : h.ro ≤ fd) (b : h.n + 2 ≤ top) :
    turnF (mtN 4) cpBody (cc c) [some (.obj a), some (.tup (lnP ps)), o2, some (.obj fd), o4, o5] h = .nx [some (.obj a), some (.tup (lnP ps)), o2, some (.obj fd), some (cc c), o5] (((h.push (.lst (tFi c :: (hkT (wds ps) c).map tSt))).push (.lst (L (hdT k (wds ps) c)))).set fd (.lst (L (F ++ hdT k (wds ps) c)))) := by
  have hl := hd_ok n hk hc
  have lf := AH.get_lt gf
  have la := AH.get_lt ga
  have b1 : (h.push (.lst (tFi c :: (hkT (wds ps) c).map tSt))).n < top := by show h.n + 1 < top; omega
  have g0 : (h.push (.lst (tFi c :: (hkT (wds ps) c).map tSt))).get h.n = some (.lst (tFi c :: (hkT (wds ps) c).map tSt)) := AH.get_push_new (by omega)
  have ga1 : (h.push (.lst (tFi c :: (hkT (wds ps) c).map tSt))).get a = some (.ins 0 (some (.str (cpS k)) :: rest)) := (AH.get_push_old (Nat.ne_of_lt la)).trans ga
  have gf1 : (h.push (.lst (tFi c :: (hkT (wds ps) c).map tSt))).get fd = some (.lst (L F)) := (AH.get_push_old (Nat.ne_of_lt lf)).trans gf
  let g : Option Nat → AV := fun o => match o with | none => tFi c | some i => tSt i
  let f : Option Nat → AV := fun o => match o with | none => cc (pF k c) | some i => cc (pS k i)
  have cm : compLoop (.ob h.n) (turnL [5] (mtN 5) mYes (mCall (pureX f_put_down) (aC (mAttr (mV 0) [(0, 0)]) (aC (mV 5) a0))) [some (.obj a), some (.tup (lnP ps)), o2, some (.obj fd), some (cc c), o5]) turns 0 (h.push (.lst (tFi c :: (hkT (wds ps) c).map tSt))) = .ok ((none :: (hkT (wds ps) c).map some).map f) (h.push (.lst (tFi c :: (hkT (wds ps) c).map tSt))) := by
    refine comp_g (g := g) (f := f) (xs := none :: (hkT (wds ps) c).map some) (fun i => ?_) (fun o => ?_) (by have := (hk_ok n hc).1; simp; omega)
    · rw [at_ob g0 i]
      congr 2
      show _ = tFi c :: ((hkT (wds ps) c).map some).map g
      rw [List.map_map]
      rfl
    · have e : (mCall (pureX f_put_down) (aC (mAttr (mV 0) [(0, 0)]) (aC (mV 5) a0))) [some (.obj a), some (.tup (lnP ps)), o2, some (.obj fd), some (cc c), some (g o)] (h.push (.lst (tFi c :: (hkT (wds ps) c).map tSt))) = .ok (f o) (h.push (.lst (tFi c :: (hkT (wds ps) c).map tSt))) := by
        refine r_call (r_aC (r_attr (r_v rfl) (att_ok ga1 rfl)) (r_aC (r_v rfl) rfl)) ?_
        cases o with
        | none => exact pdF k c _
        | some i => exact pdS k i _
      show ((mCall (pureX f_put_down) (aC (mAttr (mV 0) [(0, 0)]) (aC (mV 5) a0))) [some (.obj a), some (.tup (lnP ps)), o2, some (.obj fd), some (cc c), some (g o)] (h.push (.lst (tFi c :: (hkT (wds ps) c).map tSt)))).bind (fun v h4 => .ok [v] h4) = _
      rw [e]
      rfl
  have ef : (none :: (hkT (wds ps) c).map some).map f = L (hdT k (wds ps) c) := by
    show cc (pF k c) :: ((hkT (wds ps) c).map some).map f = cc (pF k c) :: ((hkT (wds ps) c).map (pS k)).map cc
    rw [List.map_map, List.map_map]
    rfl
  rw [ef] at cm
  have g2 : ((h.push (.lst (tFi c :: (hkT (wds ps) c).map tSt))).push (.lst (L (hdT k (wds ps) c)))).get fd = some (.lst (L F)) := (AH.get_push_old (by show fd ≠ h.n + 1; omega)).trans gf1
  have g3 : ((h.push (.lst (tFi c :: (hkT (wds ps) c).map tSt))).push (.lst (L (hdT k (wds ps) c)))).get (h.n + 1) = some (.lst (L (hdT k (wds ps) c))) := AH.get_push_new b1
  have ex := ext_ob g2 g3 ro (by omega) (by simp; omega)
  rw [show L F ++ L (hdT k (wds ps) c) = L (F ++ hdT k (wds ps) c) by rw [L, L, L, List.map_append]] at ex
  exact turnF_eq (l1 := [some (.obj a), some (.tup (lnP ps)), o2, some (.obj fd), some (cc c), o5]) rfl (r_ex (r_bm (r_v rfl) (isLst_ok gf) (r_aC (r_lc (r_of (r_call (r_aC (r_v rfl) (r_aC (r_v rfl) rfl)) (hands_ok n hc (by omega))) (srcOf_ob g0)) cm (by simp; omega) b1) rfl) ex))
theorem copied_ok {ps : List (AV × Nat)} (n : Ln ps) {k : Nat} (hk : k < 3) {a : Nat} {V : List Nat} (c : C6 V) (q : V.length ≤ 6) {h : AH} {rest : List (Option AV)} (ga : h.get a = some (.ins 0 (some (.str (cpS k)) :: rest))) (ro : h.ro ≤ h.n) (b : h.n + 20 ≤ top) :
    ∃ h', f_copied [.obj a, .tup (lnP ps), .tup (L V)] h = .ok (.tup (L (copN k (wds ps) V))) h' := by
  have la := AH.get_lt ga
  let J : List AV → Loc' → AH → Prop := fun r l h1 => ∃ (Q F : List Nat) (o4 o5 : Option AV), r = L Q ∧ l = [some (.obj a), some (.tup (lnP ps)), some (.tup (L V)), some (.obj h.n), o4, o5] ∧ h1.get a = some (.ins 0 (some (.str (cpS k)) :: rest)) ∧ h1.get h.n = some (.lst (L F)) ∧ C6 F ∧ C6 Q ∧ F.length + 7 * Q.length ≤ 42 ∧ h1.ro = h.ro ∧
    F ++ Q.flatMap (hdT k (wds ps)) = V.flatMap (hdT k (wds ps)) ∧ h1.n + 2 * Q.length ≤ h.n + 13
  have step : ∀ x r l h1, J (x :: r) l h1 → ∃ l' h', turnF (mtN 4) cpBody x l h1 = .nx l' h' ∧ J r l' h' := by
    rintro x r l h1 ⟨Q, F, o4, o5, er, el, g1, g2, cF, cQ, lF, ro1, ef, bn⟩
    cases Q with
    | nil => cases er
    | cons d Q =>
      cases er
      subst el
      simp only [List.length_cons] at bn lF
      have hd := hd_ok n hk cQ.hd
      have lt2 := AH.get_lt g2
      refine ⟨_, _, cp_turn n hk cQ.hd g1 g2 (by omega) (by rw [ro1]; exact ro) (by omega), Q, F ++ hdT k (wds ps) d, _, _, rfl, rfl, ?_, ?_, cF.app hd.2, cQ.tl, by simp; omega, ro1, ?_, ?_⟩
      · refine (AH.get_set_ne (by omega)).trans ((AH.get_push_old ?_).trans ((AH.get_push_old ?_).trans g1))
        · show a ≠ h1.n + 1; have := AH.get_lt g1; omega
        · have := AH.get_lt g1; omega
      · exact AH.get_set_same (by show h1.n + 1 + 1 ≤ top; omega) (by show h.n < h1.n + 1 + 1; omega)
      · rw [← ef, List.append_assoc]
        rfl
      · show h1.n + 1 + 1 + 2 * Q.length ≤ _
        omega
  have j0 : J (L V) [some (.obj a), some (.tup (lnP ps)), some (.tup (L V)), some (.obj h.n), none, none] (h.push (.lst [])) :=
    ⟨V, [], none, none, rfl, rfl, (AH.get_push_old (Nat.ne_of_lt la)).trans ga, AH.get_push_new (by omega), C6.nil, c, by simp; omega, rfl, rfl, by show h.n + 1 + 2 * V.length ≤ _; omega⟩
  obtain ⟨l', h', ef, Q, F, o4, o5, er, el, g1, g2, cF, cQ, lF, ro1, eF, bn⟩ := for_tp (s := .tp (L V)) (xs := L V) (J := J) (fun _ _ => rfl) step (L V) 0 turns _ _ rfl (by simp [turns]; omega) j0
  cases Q with
  | cons p Q => cases er
  | nil =>
    simp only [List.flatMap_nil, List.append_nil] at eF
    subst el
    obtain ⟨h2, e2, X2⟩ := view_ok (h := hO (.lst (L F))) (n := 0) (xs := F) (.inl rfl) cF (by simp only [List.length_nil] at lF; omega) (by show 1 + 2 ≤ top; decide)
    have e3 : pureX f_view_of [.obj h.n] h' = .ok (.tup (L (voN F))) h' := by
      rw [pureX_lst g2 rfl (clns_L F), e2]
      exact outP_tup (clns_L _)
    refine ⟨h', ?_⟩
    have e4 : voN F = copN k (wds ps) V := by rw [copN, eF]
    rw [← e4]
    exact r_fn rfl (r_seq (r_set (r_lst rfl (by decide) (by omega))) (r_seq (r_for (r_of (r_v rfl) rfl) ef) (r_ret (r_call (r_aC (r_v rfl) rfl) e3))))
/-! ### _law_copy -/
def lcT (k : Nat) (W : List Nat) (c : Nat) : List Nat := pF k c :: (match lgN W (W.map (wr c)) with
  | some g => g.map (pS k)
  | none => [])
def lcN (k : Nat) (W V : List Nat) : Option (List Nat) := ssetN (V.flatMap (lcT k W))
def okLg (W : List Nat) : Bool := [0, 1, 2, 3, 4, 5].all fun c => match lgN W (W.map (wr c)) with
  | some g => Nat.ble g.length 6
  | none => false
theorem lgk_1 : ([0, 1, 2].all fun w => okLg [w]) = true := by decide +kernel
theorem lgk_2 : ([0, 1, 2].all fun w => [0, 1, 2].all fun u => okLg [w, u]) = true := by decide +kernel
theorem lgk_3 : ([0, 1, 2].all fun w => [0, 1, 2].all fun u => [0, 1, 2].all fun v => okLg [w, u, v]) = true := by decide +kernel
theorem lgk_ok {ps : List (AV × Nat)} (n : Ln ps) {c : Nat} (hc : c < 6) : ∃ g, lgN (wds ps) ((wds ps).map (wr c)) = some g ∧ g.length ≤ 6 := by
  have h := all6 (n.all lgk_1 lgk_2 lgk_3) hc
  cases e : lgN (wds ps) ((wds ps).map (wr c)) with
  | none => rw [e] at h; cases h
  | some g =>
    rw [e] at h
    exact ⟨g, rfl, Nat.le_of_ble_eq_true h⟩
def lcBody : MS := mSeq (mEx (mBm .append (mV 3) (aC (mCall f__law_put (aC (mV 0) (aC (mV 4) (aC (mSub (mV 4) (mC (.int 0))) (aC (mC (.bl true)) a0))))) a0)))
  (mSeq (mSet 5 (mLc [6] (mtN 6) (miOf (mV 1)) mYes (mCall f__law_write (aC (mV 4) (aC (mSub (mV 6) (mC (.int 1))) a0)))))
  (mSet 3 (mBin .Add (mV 3) (mLc [7] (mtN 7) (miOf (mCall f__law_grown (aC (mV 1) (aC (mV 5) a0)))) mYes (mCall f__law_put (aC (mV 0) (aC (mV 7) (aC (mC (.str "stale")) (aC (mC (.bl false)) a0)))))))))
theorem lc_turn {ps : List (AV × Nat)} (n : Ln ps) {k : Nat} (hk : k < 3) {fd c : Nat} (hc : c < 6) {F : List Nat} {h : AH} {o2 o4 o5 o6 o7 : Option AV} (gf : h.get fd = some (.lst (L F))) (cF : C6 F) (q : F.length ≤ 1000) (ro : h.ro ≤ fd) (b : h.n + 110 ≤ top) {h0 : AH} {j : Nat} (X : Ex j h0 h) (df : h0.n ≤ fd) :
    ∃ fd' o5' h', turnF (mtN 4) lcBody (cc c) [some (.str (cpS k)), some (.tup (lnP ps)), o2, some (.obj fd), o4, o5, o6, o7] h = .nx [some (.str (cpS k)), some (.tup (lnP ps)), o2, some (.obj fd'), some (cc c), o5', o6, o7] h' ∧ h'.get fd' = some (.lst (L (F ++ lcT k (wds ps) c))) ∧ C6 (lcT k (wds ps) c) ∧ (lcT k (wds ps) c).length ≤ 7 ∧ Ex (j + 103) h0 h' ∧ h0.n ≤ fd' := by
  have lf := AH.get_lt gf
  obtain ⟨g, eg, lg⟩ := lgk_ok n hc
  have elc : lcT k (wds ps) c = pF k c :: g.map (pS k) := by rw [lcT, eg]
  -- the first
  have a1 : bmA .append (.obj fd) [cc (pF k c)] h = .ok .non (h.set fd (.lst (L F ++ [cc (pF k c)]))) := app_ob gf ro (by simp; omega)
  have s1 : (mEx (mBm .append (mV 3) (aC (mCall f__law_put (aC (mV 0) (aC (mV 4) (aC (mSub (mV 4) (mC (.int 0))) (aC (mC (.bl true)) a0))))) a0))) [some (.str (cpS k)), some (.tup (lnP ps)), o2, some (.obj fd), some (cc c), o5, o6, o7] h = .nx [some (.str (cpS k)), some (.tup (lnP ps)), o2, some (.obj fd), some (cc c), o5, o6, o7] (h.set fd (.lst (L F ++ [cc (pF k c)]))) :=
    r_ex (r_bm (r_v rfl) (isLst_ok gf) (r_aC (r_call (r_aC (r_v rfl) (r_aC (r_v rfl) (r_aC (r_sub (r_v rfl) rfl (sub_f0 c h)) rfl))) (puF k c h)) rfl) a1)
  obtain ⟨h1, eh1⟩ : ∃ h1, h1 = h.set fd (.lst (L F ++ [cc (pF k c)])) := ⟨_, rfl⟩
  rw [← eh1] at s1
  have n1 : h1.n = h.n := by rw [eh1]; rfl
  have g1 : h1.get fd = some (.lst (L (F ++ [pF k c]))) := by
    rw [eh1, AH.get_set_same (by omega) lf, L, L, List.map_append]
    rfl
  have X1 : Ex j h0 h1 := by rw [eh1]; exact X.setN df _
  -- the writes
  have cm : compLoop (.tp (lnP ps)) (turnL [6] (mtN 6) mYes (mCall f__law_write (aC (mV 4) (aC (mSub (mV 6) (mC (.int 1))) a0))) [some (.str (cpS k)), some (.tup (lnP ps)), o2, some (.obj fd), some (cc c), o5, o6, o7]) turns 0 h1 = .ok (ps.map fun p => cc (wr c p.2)) h1 := by
    refine comp_g (g := fun p : AV × Nat => AV.tup [p.1, .str (ww p.2)]) (f := fun p => cc (wr c p.2)) (fun i => rfl) (fun p => ?_) (by have := n.l2; omega)
    have e : (mCall f__law_write (aC (mV 4) (aC (mSub (mV 6) (mC (.int 1))) a0))) [some (.str (cpS k)), some (.tup (lnP ps)), o2, some (.obj fd), some (cc c), o5, some (.tup [p.1, .str (ww p.2)]), o7] h1 = .ok (cc (wr c p.2)) h1 := r_call (r_aC (r_v rfl) (r_aC (r_sub (r_v rfl) rfl rfl) rfl)) (write_ok c p.2 h1)
    show ((mCall f__law_write (aC (mV 4) (aC (mSub (mV 6) (mC (.int 1))) a0))) [some (.str (cpS k)), some (.tup (lnP ps)), o2, some (.obj fd), some (cc c), o5, some (.tup [p.1, .str (ww p.2)]), o7] h1).bind (fun v h4 => .ok [v] h4) = _
    rw [e]
    rfl
  have ew : (ps.map fun p => cc (wr c p.2)) = L ((wds ps).map (wr c)) := by
    rw [L, wds, List.map_map, List.map_map]
    rfl
  rw [ew] at cm
  have s2 : (mSet 5 (mLc [6] (mtN 6) (miOf (mV 1)) mYes (mCall f__law_write (aC (mV 4) (aC (mSub (mV 6) (mC (.int 1))) a0))))) [some (.str (cpS k)), some (.tup (lnP ps)), o2, some (.obj fd), some (cc c), o5, o6, o7] h1 = .nx [some (.str (cpS k)), some (.tup (lnP ps)), o2, some (.obj fd), some (cc c), some (.obj h1.n), o6, o7] (h1.push (.lst (L ((wds ps).map (wr c))))) :=
    r_set (r_lc (r_of (r_v rfl) rfl) cm (by have := n.l2; simp; omega) (by omega))
  have g2 : (h1.push (.lst (L ((wds ps).map (wr c))))).get h1.n = some (.lst (L ((wds ps).map (wr c)))) := AH.get_push_new (by omega)
  have cw : C6 ((wds ps).map (wr c)) := fun i z => by
    obtain ⟨w, _, e⟩ := List.mem_map.mp z
    rw [← e]
    exact wr_lt c w
  obtain ⟨h3, e3, X3, c3⟩ := lg_ok (a := .obj h1.n) (.inr ⟨h1.n, rfl, g2⟩) cw n.l2 eg (by show h1.n + 1 + 100 ≤ top; omega)
  have X13 : Ex 101 h1 h3 := ((Ex.push _).trans X3).mono (by omega)
  have n3 := X13.n2
  have cm3 : compLoop (.tp (L g)) (turnL [7] (mtN 7) mYes (mCall f__law_put (aC (mV 0) (aC (mV 7) (aC (mC (.str "stale")) (aC (mC (.bl false)) a0))))) [some (.str (cpS k)), some (.tup (lnP ps)), o2, some (.obj fd), some (cc c), some (.obj h1.n), o6, o7]) turns 0 h3 = .ok (L (g.map (pS k))) h3 := by
    refine comp_one (f := pS k) (fun i => rfl) (fun i => ?_) (by omega)
    have e : (mCall f__law_put (aC (mV 0) (aC (mV 7) (aC (mC (.str "stale")) (aC (mC (.bl false)) a0))))) [some (.str (cpS k)), some (.tup (lnP ps)), o2, some (.obj fd), some (cc c), some (.obj h1.n), o6, some (cc i)] h3 = .ok (cc (pS k i)) h3 := r_call (r_aC (r_v rfl) (r_aC (r_v rfl) rfl)) (puS k i h3)
    show ((mCall f__law_put (aC (mV 0) (aC (mV 7) (aC (mC (.str "stale")) (aC (mC (.bl false)) a0))))) [some (.str (cpS k)), some (.tup (lnP ps)), o2, some (.obj fd), some (cc c), some (.obj h1.n), o6, some (cc i)] h3).bind (fun v h4 => .ok [v] h4) = _
    rw [e]
    rfl
  have gf3 : h3.get fd = some (.lst (L (F ++ [pF k c]))) := X13.get g1
  have gf4 : (h3.push (.lst (L (g.map (pS k))))).get fd = some (.lst (L (F ++ [pF k c]))) := (AH.get_push_old (Nat.ne_of_lt (AH.get_lt gf3))).trans gf3
  have gn4 : (h3.push (.lst (L (g.map (pS k))))).get h3.n = some (.lst (L (g.map (pS k)))) := AH.get_push_new (by omega)
  have b4 : (h3.push (.lst (L (g.map (pS k))))).n < top := by show h3.n + 1 < top; omega
  have ea : L (F ++ [pF k c]) ++ L (g.map (pS k)) = L (F ++ lcT k (wds ps) c) := by
    rw [elc, L, L, L, ← List.map_append]
    simp
  have ad := add_ob gf4 gn4 (by simp; omega) b4
  rw [ea] at ad
  refine ⟨h3.n + 1, some (.obj h1.n), (h3.push (.lst (L (g.map (pS k))))).push (.lst (L (F ++ lcT k (wds ps) c))), turnF_eq (l1 := [some (.str (cpS k)), some (.tup (lnP ps)), o2, some (.obj fd), some (cc c), o5, o6, o7]) rfl (r_seq s1 (r_seq s2 (r_set (r_bin (r_v rfl) (r_lc (r_of (r_call (r_aC (r_v rfl) (r_aC (r_v rfl) rfl)) e3) rfl) cm3 (by simp; omega) (by omega)) ad)))), AH.get_push_new b4, ?_, by rw [elc]; simp; omega, (((X1.trans X13).trans (Ex.push _)).trans (Ex.push _)).mono (by omega), by have := X1.n1; have := X13.n1; omega⟩
  rw [elc]
  refine C6.cons (pF_lt k hk c hc) fun i z => ?_
  obtain ⟨w, z1, z2⟩ := List.mem_map.mp z
  rw [← z2]
  exact pS_lt k hk w (c3 w z1)
theorem copy_ok {ps : List (AV × Nat)} (n : Ln ps) {k : Nat} (hk : k < 3) {V D : List Nat} (c : C6 V) (q : V.length ≤ 6) (e : lcN k (wds ps) V = some D) {h : AH} (ro : h.ro ≤ h.n) (b : h.n + 800 ≤ top) :
    ∃ j h', f__law_copy [.str (cpS k), .tup (lnP ps), .tup (L V)] h = .ok (.obj j) h' ∧ h'.get j = some (.lst (L D)) ∧ Ex 700 h h' ∧ C6 D := by
  let J : List AV → Loc' → AH → Prop := fun r l h1 => ∃ (Q F : List Nat) (fd : Nat) (o4 o5 : Option AV), r = L Q ∧ l = [some (.str (cpS k)), some (.tup (lnP ps)), some (.tup (L V)), some (.obj fd), o4, o5, none, none] ∧ h1.get fd = some (.lst (L F)) ∧ C6 F ∧ C6 Q ∧ F.length + 7 * Q.length ≤ 42 ∧
    F ++ Q.flatMap (lcT k (wds ps)) = V.flatMap (lcT k (wds ps)) ∧ h.n ≤ fd ∧ ∃ j, Ex j h h1 ∧ j + 103 * Q.length ≤ 619
  have step : ∀ x r l h1, J (x :: r) l h1 → ∃ l' h', turnF (mtN 4) lcBody x l h1 = .nx l' h' ∧ J r l' h' := by
    rintro x r l h1 ⟨Q, F, fd, o4, o5, er, el, g2, cF, cQ, lF, ef, df, j, X, bj⟩
    cases Q with
    | nil => cases er
    | cons d Q =>
      cases er
      subst el
      simp only [List.length_cons] at bj lF
      have X2 := X.n2
      obtain ⟨fd', o5', h2, e2, g3, c3, l3, X3, df'⟩ := lc_turn (o2 := some (.tup (L V))) (o4 := o4) (o5 := o5) (o6 := none) (o7 := none) n hk cQ.hd g2 cF (by omega) (by rw [X.ro]; omega) (by omega) X df
      refine ⟨_, h2, e2, Q, F ++ lcT k (wds ps) d, fd', _, o5', rfl, rfl, g3, cF.app c3, cQ.tl, by simp; omega, ?_, df', j + 103, X3, by omega⟩
      rw [← ef, List.append_assoc]
      rfl
  have j0 : J (L V) [some (.str (cpS k)), some (.tup (lnP ps)), some (.tup (L V)), some (.obj h.n), none, none, none, none] (h.push (.lst [])) :=
    ⟨V, [], h.n, none, none, rfl, rfl, AH.get_push_new (by omega), C6.nil, c, by simp; omega, rfl, Nat.le_refl _, 1, Ex.push _, by omega⟩
  obtain ⟨l', h', ef, Q, F, fd, o4, o5, er, el, g2, cF, cQ, lF, eF, df, j, X, bj⟩ := for_tp (s := .tp (L V)) (xs := L V) (J := J) (fun _ _ => rfl) step (L V) 0 turns _ _ rfl (by simp [turns]; omega) j0
  cases Q with
  | cons p Q => cases er
  | nil =>
    simp only [List.flatMap_nil, List.append_nil] at eF
    subst el
    have X2 := X.n2
    have e2 : ssetN F = some D := by rw [eF]; exact e
    exact ⟨h'.n, h'.push (.lst (L D)), r_fn rfl (r_seq (r_set (r_lst rfl (by decide) (by omega))) (r_seq (r_for (r_of (r_v rfl) rfl) ef) (r_ret (r_b1 (r_v rfl) (sset_is (.inr ⟨fd, rfl, g2⟩) cF e2 (by omega)))))), AH.get_push_new (by omega), (X.trans (Ex.push _)).mono (by omega), C6.sset cF e2⟩
end Ev
set_option Elab.async false
set_option linter.all false
set_option maxRecDepth 100000
set_option maxHeartbeats 400000
/-! the program's answers on lines, views and steps, by numbers -/
namespace Ev
open PySem PySem.Spec PyProof.Rows L2
/-! ### views -/
def subsN : List Nat → List (List Nat)
  | [] => [[]]
  | c :: r => (subsN r).map (c :: ·) ++ subsN r
def isSubN (xs : List Nat) : List Nat → Bool
  | [] => (match xs with | [] => true | _ :: _ => false)
  | c :: r => (match xs with
    | [] => true
    | x :: t => (match Nat.beq x c with
      | true => isSubN t r
      | false => isSubN (x :: t) r))
theorem nil_subsN : ∀ cs : List Nat, [] ∈ subsN cs
  | [] => List.mem_singleton.mpr rfl
  | c :: r => List.mem_append.mpr (.inr (nil_subsN r))
theorem isSubN_mem : ∀ (cs xs : List Nat), isSubN xs cs = true → xs ∈ subsN cs
  | [], [], _ => List.mem_singleton.mpr rfl
  | [], _ :: _, h => by cases h
  | c :: r, [], _ => nil_subsN _
  | c :: r, x :: t, h => by
    have h : (match Nat.beq x c with | true => isSubN t r | false => isSubN (x :: t) r) = true := h
    cases e : Nat.beq x c with
    | true =>
      rw [e] at h
      rw [beq_tt e]
      exact List.mem_append.mpr (.inl (List.mem_map.mpr ⟨t, isSubN_mem r t h, rfl⟩))
    | false =>
      rw [e] at h
      exact List.mem_append.mpr (.inr (isSubN_mem r (x :: t) h))
theorem subN_mem {cs xs : List Nat} (s : xs.Sublist cs) : xs ∈ subsN cs := by
  induction s with
  | slnil => exact List.mem_singleton.mpr rfl
  | cons a s ih => exact List.mem_append.mpr (.inr ih)
  | cons_cons a s ih => exact List.mem_append.mpr (.inl (List.mem_map.mpr ⟨_, ih, rfl⟩))
def viewsN : List (List Nat) := (subsN [0, 1, 2, 3, 4, 5]).filter fun v => !v.isEmpty
def isVN (a : List Nat) : Bool := isSubN a [0, 1, 2, 3, 4, 5] && !a.isEmpty
theorem isVN_mem {a : List Nat} (h : isVN a = true) : a ∈ viewsN := by
  obtain ⟨h1, h2⟩ := Bool.and_eq_true_iff.mp h
  exact List.mem_filter.mpr ⟨isSubN_mem _ _ h1, h2⟩
theorem views_ok : (viewsN.all fun V => Nat.ble V.length 6 && V.all fun i => Nat.blt i 6) = true := by decide +kernel
theorem view_c6 {V : List Nat} (h : V ∈ viewsN) : C6 V ∧ V.length ≤ 6 := by
  have k := List.all_eq_true.mp views_ok V h
  obtain ⟨a, b⟩ := Bool.and_eq_true_iff.mp k
  exact ⟨fun i q => blt_tt.mp (List.all_eq_true.mp b i q), Nat.le_of_ble_eq_true a⟩
def ckT1 (W V : List Nat) : Bool := match grN W V with
  | some a => (match lgN W V with
    | some b => beqL a b && isVN a
    | none => false)
  | none => false
theorem t1_1 : ([0, 1, 2].all fun w => viewsN.all fun V => ckT1 [w] V) = true := by decide +kernel
theorem t1_2 : ([0, 1, 2].all fun w => [0, 1, 2].all fun u => viewsN.all fun V => ckT1 [w, u] V) = true := by decide +kernel
theorem t1_3 : ([0, 1, 2].all fun w => [0, 1, 2].all fun u => [0, 1, 2].all fun v => viewsN.all fun V => ckT1 [w, u, v] V) = true := by decide +kernel
theorem t1 {ps : List (AV × Nat)} (n : Ln ps) {V : List Nat} (hV : V ∈ viewsN) : ∃ X, grN (wds ps) V = some X ∧ lgN (wds ps) V = some X ∧ X ∈ viewsN := by
  have k := List.all_eq_true.mp (n.all (P := fun W => viewsN.all fun V => ckT1 W V) t1_1 t1_2 t1_3) V hV
  unfold ckT1 at k
  cases e1 : grN (wds ps) V with
  | none => rw [e1] at k; cases k
  | some a =>
    rw [e1] at k
    dsimp only at k
    cases e2 : lgN (wds ps) V with
    | none => rw [e2] at k; cases k
    | some b =>
      rw [e2] at k
      obtain ⟨k1, k2⟩ := Bool.and_eq_true_iff.mp k
      rw [beqL_eq k1] at k2 ⊢
      exact ⟨b, rfl, rfl, isVN_mem k2⟩
/-- closed views stay; and what a copy makes of them -/
def ckT2 (W V : List Nat) : Bool := match grN W V with
  | some a => (match grN W a with
    | some b => beqL a b
    | none => false)
  | none => false
def ckT3 (k : Nat) (W V : List Nat) : Bool := match grN W V with
  | some a => (match beqL a V with
    | true => (match lcN k W V with
      | some D => (match grN W (copN k W V) with
        | some X => (match lgN W D with
          | some Y => beqL X Y
          | none => false)
        | none => false)
      | none => false)
    | false => true)
  | none => false
theorem t2_1 : ([0, 1, 2].all fun w => viewsN.all fun V => ckT2 [w] V) = true := by decide +kernel
theorem t2_2 : ([0, 1, 2].all fun w => [0, 1, 2].all fun u => viewsN.all fun V => ckT2 [w, u] V) = true := by decide +kernel
theorem t2_3 : ([0, 1, 2].all fun w => [0, 1, 2].all fun u => [0, 1, 2].all fun v => viewsN.all fun V => ckT2 [w, u, v] V) = true := by decide +kernel
theorem t3_1 : ([0, 1, 2].all fun w => viewsN.all fun V => [0, 1, 2].all fun k => ckT3 k [w] V) = true := by decide +kernel
theorem t3_2 : ([0, 1, 2].all fun w => [0, 1, 2].all fun u => viewsN.all fun V => [0, 1, 2].all fun k => ckT3 k [w, u] V) = true := by decide +kernel
theorem t3_3 : ([0, 1, 2].all fun w => [0, 1, 2].all fun u => [0, 1, 2].all fun v => viewsN.all fun V => [0, 1, 2].all fun k => ckT3 k [w, u, v] V) = true := by decide +kernel
theorem t3 {ps : List (AV × Nat)} (n : Ln ps) {V X : List Nat} (hV : V ∈ viewsN) (e : grN (wds ps) V = some X) {k : Nat} (hk : k < 3) : ∃ D Y, lcN k (wds ps) X = some D ∧ grN (wds ps) (copN k (wds ps) X) = some Y ∧ lgN (wds ps) D = some Y := by
  obtain ⟨X', e', _, hX⟩ := t1 n hV
  rw [e] at e'
  cases e'
  have k2 := List.all_eq_true.mp (n.all (P := fun W => viewsN.all fun V => ckT2 W V) t2_1 t2_2 t2_3) V hV
  have k3 := all3 (List.all_eq_true.mp (n.all (P := fun W => viewsN.all fun V => [0, 1, 2].all fun k => ckT3 k W V) t3_1 t3_2 t3_3) X hX) hk
  unfold ckT2 at k2
  rw [e] at k2
  dsimp only at k2
  cases e1 : grN (wds ps) X with
  | none => rw [e1] at k2; cases k2
  | some b =>
    rw [e1] at k2
    have eb := beqL_eq k2
    subst eb
    unfold ckT3 at k3
    rw [e1] at k3
    dsimp only at k3
    have bb : beqL X X = true := k2
    rw [bb] at k3
    dsimp only at k3
    cases e2 : lcN k (wds ps) X with
    | none => rw [e2] at k3; cases k3
    | some D =>
      rw [e2] at k3
      dsimp only at k3
      cases e3 : grN (wds ps) (copN k (wds ps) X) with
      | none => rw [e3] at k3; cases k3
      | some Y =>
        rw [e3] at k3
        dsimp only at k3
        cases e4 : lgN (wds ps) D with
        | none => rw [e4] at k3; cases k3
        | some Y' =>
          rw [e4] at k3
          rw [beqL_eq k3]
          exact ⟨D, Y', rfl, rfl, e4⟩

end Ev
set_option Elab.async false
set_option linter.all false
set_option maxRecDepth 100000
set_option maxHeartbeats 400000
/-! the program's answers on lines, views and steps -/
namespace Ev
open PySem PySem.Spec PyProof.Rows L2
def valOf : R AV → Option AV
  | .ok v _ => some v
  | _ => none
theorem val_ok {r : R AV} {v : AV} (e : valOf r = some v) : ∃ h, r = .ok v h := by
  cases r with
  | ok u h => cases e; exact ⟨h, rfl⟩
  | ex x h => cases e
  | bad => cases e
/-! ### modes -/
def md : Nat → AV
  | 0 => .tup [.str "old", .str "old"]
  | 1 => .tup [.str "old", .str "both"]
  | 2 => .tup [.str "old", .str "new"]
  | 3 => .tup [.str "new", .str "old"]
  | 4 => .tup [.str "new", .str "both"]
  | _ => .tup [.str "new", .str "new"]
def mp : Nat → AV × Nat
  | 0 => (.str "old", 0)
  | 1 => (.str "old", 1)
  | 2 => (.str "old", 2)
  | 3 => (.str "new", 0)
  | 4 => (.str "new", 1)
  | _ => (.str "new", 2)
theorem md_mp (i : Nat) : AV.tup [(mp i).1, .str (ww (mp i).2)] = md i := six (P := fun i => AV.tup [(mp i).1, .str (ww (mp i).2)] = md i) rfl rfl rfl rfl rfl (fun _ => rfl) i
theorem mp_w (i : Nat) : (mp i).2 < 3 := six (P := fun i => (mp i).2 < 3) (by decide) (by decide) (by decide) (by decide) (by decide) (fun _ => show 2 < 3 by decide) i
theorem mp_c (i : Nat) : AV.cln 0 (mp i).1 = true := six (P := fun i => AV.cln 0 (mp i).1 = true) rfl rfl rfl rfl rfl (fun _ => rfl) i
theorem cln_md (i : Nat) : AV.cln 0 (md i) = true := six (P := fun i => AV.cln 0 (md i) = true) rfl rfl rfl rfl rfl (fun _ => rfl) i
abbrev M (ms : List Nat) : List AV := ms.map md
theorem clns_M : ∀ ms : List Nat, AV.clns 0 (M ms) = true
  | [] => rfl
  | i :: r => by
    show (match AV.cln 0 (md i) with | true => AV.clns 0 (M r) | false => false) = true
    rw [cln_md]
    exact clns_M r
theorem M_lnP (ms : List Nat) : lnP (ms.map mp) = M ms := by
  rw [lnP, List.map_map]
  exact List.map_congr_left fun i _ => md_mp i
/-- the modes of one to three servers -/
structure Ms (ms : List Nat) : Prop where
  l1 : 1 ≤ ms.length
  l2 : ms.length ≤ 3
  c : C6 ms
theorem Ms.ln {ms : List Nat} (m : Ms ms) : Ln (ms.map mp) := by
  refine ⟨by simp; exact m.l1, by simp; exact m.l2, fun p q => ?_, fun p q => ?_⟩
  · obtain ⟨i, _, e⟩ := List.mem_map.mp q
    rw [← e]; exact mp_w i
  · obtain ⟨i, _, e⟩ := List.mem_map.mp q
    rw [← e]; exact mp_c i
theorem Ms.all {ms : List Nat} (n : Ms ms) {P : List Nat → Bool} (h1 : ([0, 1, 2, 3, 4, 5].all fun w => P [w]) = true) (h2 : ([0, 1, 2, 3, 4, 5].all fun w => [0, 1, 2, 3, 4, 5].all fun u => P [w, u]) = true) (h3 : ([0, 1, 2, 3, 4, 5].all fun w => [0, 1, 2, 3, 4, 5].all fun u => [0, 1, 2, 3, 4, 5].all fun v => P [w, u, v]) = true) : P ms = true := by
  obtain ⟨l1, l2, c⟩ := n
  match ms, l1, l2, c with
  | [w], _, _, q => exact all6 h1 (q w (by simp))
  | [w, u], _, _, q => exact all6 (all6 h2 (q w (by simp))) (q u (by simp))
  | [w, u, v], _, _, q => exact all6 (all6 (all6 h3 (q w (by simp))) (q u (by simp))) (q v (by simp))
  | [], l, _, _ => exact absurd l (by decide)
  | _ :: _ :: _ :: _ :: _, _, l, _ => exact absurd l (by simp)
def isT (r : R AV) : Bool := match valOf r with
  | some (.bl true) => true
  | _ => false
theorem isT_ok {r : R AV} (h : isT r = true) : ∃ h', r = .ok (.bl true) h' := by
  unfold isT at h
  cases e : valOf r with
  | none => rw [e] at h; cases h
  | some v =>
    rw [e] at h
    cases v with
    | bl b =>
      cases b with
      | true => exact val_ok e
      | false => cases h
    | _ => cases h
def ckM (ms : List Nat) : Bool := isT (f_are_modes [.tup (M ms), .int ms.length] hE)
theorem am_1 : ([0, 1, 2, 3, 4, 5].all fun w => ckM [w]) = true := by decide +kernel
theorem am_2 : ([0, 1, 2, 3, 4, 5].all fun w => [0, 1, 2, 3, 4, 5].all fun u => ckM [w, u]) = true := by decide +kernel
theorem am_3 : ([0, 1, 2, 3, 4, 5].all fun w => [0, 1, 2, 3, 4, 5].all fun u => [0, 1, 2, 3, 4, 5].all fun v => ckM [w, u, v]) = true := by decide +kernel
theorem cons_cln {x : AV} {xs : List AV} (a : AV.cln 0 x = true) (b : AV.clns 0 xs = true) : AV.clns 0 (x :: xs) = true := by
  show (match AV.cln 0 x with | true => AV.clns 0 xs | false => false) = true
  rw [a]
  exact b
theorem cln_M (ms : List Nat) : AV.cln 0 (.tup (M ms)) = true := clns_M ms
theorem cln_L (xs : List Nat) : AV.cln 0 (.tup (L xs)) = true := clns_L xs
theorem are_ok {ms : List Nat} (m : Ms ms) (h : AH) : pureX f_are_modes [.tup (M ms), .int ms.length] h = .ok (.bl true) h := by
  obtain ⟨h', e⟩ := isT_ok (m.all (P := ckM) am_1 am_2 am_3)
  rw [pureX_tup (cons_cln (cln_M ms) rfl), e]
  rfl
theorem iv_all : (viewsN.all fun V => isT (f_is_view [.tup (L V)] hE)) = true := by decide +kernel
theorem isview_ok {V : List Nat} (hV : V ∈ viewsN) (h : AH) : pureX f_is_view [.tup (L V)] h = .ok (.bl true) h := by
  obtain ⟨h', e⟩ := isT_ok (List.all_eq_true.mp iv_all V hV)
  rw [pureX_tup (cons_cln (cln_L V) rfl), e]
  rfl
/-! ### the house -/
structure Hs (h : AH) (a k : Nat) (pr : AV) (bs : List AV) (n : Nat) : Prop where
  g : h.get a = some (.ins 0 [some (.str (cpS k)), some pr, some (.tup bs)])
  cp : AV.cln 0 pr = true
  cb : AV.clns 0 bs = true
  ln : bs.length = n
  l3 : n ≤ 3
theorem pureX_ins {F : Fn} {h : AH} {s c : Nat} {fs : List (Option AV)} {rest : List AV} (g : h.get s = some (.ins c fs)) (c1 : AV.clns 0 rest = true) (c2 : slotsC fs = true) : pureX F (.obj s :: rest) h = outP h (F (.obj 0 :: rest) (hO (.ins c fs))) := by
  show (match h.get s with
    | some o => (match AV.clns 0 rest && impO o with
      | true => outP h (F (.obj 0 :: rest) (hO o))
      | false => .bad)
    | none => .bad) = _
  rw [g]
  dsimp only
  rw [show (AV.clns 0 rest && impO (.ins c fs)) = true by rw [c1, show impO (.ins c fs) = true from c2]; rfl]
theorem Hs.sl {h : AH} {a k n : Nat} {pr : AV} {bs : List AV} (H : Hs h a k pr bs n) : slotsC [some (.str (cpS k)), some pr, some (.tup bs)] = true := by
  show (true && (AV.cln 0 pr && (AV.cln 0 (.tup bs) && true))) = true
  rw [H.cp, show AV.cln 0 (.tup bs) = true from H.cb]
  rfl
abbrev hH (k : Nat) (pr : AV) (bs : List AV) : AH := hO (.ins 0 [some (.str (cpS k)), some pr, some (.tup bs)])
theorem Hs.own {h : AH} {a k n : Nat} {pr : AV} {bs : List AV} (H : Hs h a k pr bs n) : Hs (hH k pr bs) 0 k pr bs n := ⟨rfl, H.cp, H.cb, H.ln, H.l3⟩
theorem Hs.run {F : Fn} {h : AH} {a k n : Nat} {pr : AV} {bs rest : List AV} (H : Hs h a k pr bs n) (c : AV.clns 0 rest = true) : pureX F (.obj a :: rest) h = outP h (F (.obj 0 :: rest) (hH k pr bs)) := pureX_ins H.g c H.sl
theorem chouse_ok {h : AH} {a k n : Nat} {pr : AV} {bs : List AV} (H : Hs h a k pr bs n) : pureX f_check_house [.obj a] h = .ok .non h := by
  rw [H.run rfl]
  rfl
theorem len_a {h : AH} {a k n : Nat} {pr : AV} {bs : List AV} (H : Hs h a k pr bs n) : f_House___len__ [.obj a] h = .ok (.int n) h := by
  refine (r_fn rfl (r_ret (v := .int n) (h1 := h) (r_b1 (r_attr (r_v rfl) (att_ok H.g rfl)) ?_))).trans rfl
  show R.ok (AV.int bs.length) h = _
  rw [H.ln]
theorem len_b {h : AH} {a : Nat} {c : Nat} {fs : List (Option AV)} {t : Tab} {i : Int} (g : h.get a = some (.ins c fs)) (e : t.fn 0 [.obj a] h = .ok (.int i) h) (q : 0 ≤ i ∧ i < 1000000) : lenK t [(c, 0)] (.obj a) h = .ok (.int i) h := by
  have i1 : insOf h (.obj a) = some (c, fs) := by
    unfold insOf
    dsimp only
    rw [g]
  have i2 : altOf c [(c, 0)] = some 0 := by
    show (match Nat.beq c c with | true => some 0 | false => none) = _
    rw [show Nat.beq c c = true by simp]
  rw [lenK, i1]
  dsimp only
  rw [i2]
  dsimp only
  rw [e, bind_ok]
  dsimp only
  rw [decide_eq_true q]
theorem len_ok {h : AH} {a k n : Nat} {pr : AV} {bs : List AV} (H : Hs h a k pr bs n) : lenK (tab1 f_House___len__) [(0, 0)] (.obj a) h = .ok (.int n) h := len_b H.g (len_a H) (by have := H.l3; omega)
theorem r_leno {t : Tab} {ma : ME} {alts : List (Nat × Nat)} {l : Loc'} {h h1 : AH} {x : AV} {r : R AV} (a : ma l h = .ok x h1) (b : lenK t alts x h1 = r) : mLenO t ma alts l h = r := by
  rw [mLenO, a, bind_ok, b]
theorem cmodes_ok {h : AH} {a k n : Nat} {pr : AV} {bs : List AV} (H : Hs h a k pr bs n) {ms : List Nat} (m : Ms ms) (e : ms.length = n) : pureX f_check_modes [.obj a, .tup (M ms)] h = .ok .non h := by
  rw [H.run (cons_cln (cln_M ms) rfl)]
  have e1 : f_check_modes [.obj 0, .tup (M ms)] (hH k pr bs) = .ok .non (hH k pr bs) := by
    refine r_fn rfl (r_seq (r_ex (r_call (r_aC (r_v rfl) rfl) (chouse_ok H.own))) (r_iff (r_not (b := true) (r_call (r_aC (r_v rfl) (r_aC (r_leno (r_v rfl) (len_ok H.own)) rfl)) ?_)) rfl))
    rw [← e]
    exact are_ok m _
  rw [e1]
  rfl
theorem cview_ok {h : AH} {a k n : Nat} {pr : AV} {bs : List AV} (H : Hs h a k pr bs n) {ms : List Nat} (m : Ms ms) (e : ms.length = n) {V : List Nat} (hV : V ∈ viewsN) : pureX f_check_view [.obj a, .tup (M ms), .tup (L V)] h = .ok .non h := by
  rw [H.run (cons_cln (cln_M ms) (cons_cln (cln_L V) rfl))]
  have e1 : f_check_view [.obj 0, .tup (M ms), .tup (L V)] (hH k pr bs) = .ok .non (hH k pr bs) :=
    r_fn rfl (r_seq (r_ex (r_call (r_aC (r_v rfl) (r_aC (r_v rfl) rfl)) (cmodes_ok H.own m e))) (r_iff (r_not (b := true) (r_call (r_aC (r_v rfl) rfl) (isview_ok hV _))) rfl))
  rw [e1]
  rfl
theorem pgrown {ms : List Nat} (m : Ms ms) {V X : List Nat} (c : C6 V) (q : V.length ≤ 1000) (e : grN (wds (ms.map mp)) V = some X) (h : AH) : pureX f_grown [.tup (M ms), .tup (L V)] h = .ok (.tup (L X)) h := by
  obtain ⟨h', e1, _⟩ := grown_ok (h := hE) c q m.ln.l2 e (Nat.le_refl _) (by decide)
  rw [M_lnP] at e1
  rw [pureX_tup (cons_cln (cln_M ms) (cons_cln (cln_L V) rfl)), e1]
  exact outP_tup (clns_L X)
theorem plgrown {ms : List Nat} (m : Ms ms) {V X : List Nat} (c : C6 V) (e : lgN (wds (ms.map mp)) V = some X) (h : AH) : pureX f__law_grown [.tup (M ms), .tup (L V)] h = .ok (.tup (L X)) h := by
  obtain ⟨h', e1, _⟩ := lg_ok (h := hE) (.inl rfl) c m.ln.l2 e (by decide)
  rw [M_lnP] at e1
  rw [pureX_tup (cons_cln (cln_M ms) (cons_cln (cln_L V) rfl)), e1]
  exact outP_tup (clns_L X)
theorem closed_ok {h : AH} {a k n : Nat} {pr : AV} {bs : List AV} (H : Hs h a k pr bs n) {ms : List Nat} (m : Ms ms) (e : ms.length = n) {V X : List Nat} (hV : V ∈ viewsN) (eg : grN (wds (ms.map mp)) V = some X) : pureX f_closed [.obj a, .tup (M ms), .tup (L V)] h = .ok (.tup (L X)) h := by
  obtain ⟨c, q⟩ := view_c6 hV
  rw [H.run (cons_cln (cln_M ms) (cons_cln (cln_L V) rfl))]
  have e1 : f_closed [.obj 0, .tup (M ms), .tup (L V)] (hH k pr bs) = .ok (.tup (L X)) (hH k pr bs) :=
    r_fn rfl (r_seq (r_ex (r_call (r_aC (r_v rfl) (r_aC (r_v rfl) (r_aC (r_v rfl) rfl))) (cview_ok H.own m e hV))) (r_ret (r_call (r_aC (r_v rfl) (r_aC (r_v rfl) rfl)) (pgrown m c (by omega) eg _))))
  rw [e1]
  exact outP_tup (clns_L X)
/-! ### whether reads are fine -/
def bOf (r : R AV) : Option Bool := match valOf r with
  | some (.bl b) => some b
  | _ => none
theorem bOf_ok {r : R AV} {b : Bool} (h : bOf r = some b) : ∃ h', r = .ok (.bl b) h' := by
  unfold bOf at h
  cases e : valOf r with
  | none => rw [e] at h; cases h
  | some v =>
    rw [e] at h
    cases v with
    | bl c => cases h; exact val_ok e
    | _ => cases h
def pl : Nat → Str
  | 0 => "old"
  | _ => "new"
def ckF (line : AV) (V : List Nat) : Bool := match bOf (f_is_safe [line, .tup (L V)] hE) with
  | some a => (match bOf (f__law_fine [line, .tup (L V)] hE) with
    | some b => a == b
    | none => false)
  | none => false
theorem fi_1 (x : AV) : ([0, 1].all fun w => viewsN.all fun V => ckF (.tup [.tup [.str (pl w), x]]) V) = true := by kernel_rfl
theorem fi_2 (x y : AV) : ([0, 1].all fun w => [0, 1].all fun u => viewsN.all fun V => ckF (.tup [.tup [.str (pl w), x], .tup [.str (pl u), y]]) V) = true := by kernel_rfl
theorem fi_3 (x y z : AV) : ([0, 1].all fun w => [0, 1].all fun u => [0, 1].all fun v => viewsN.all fun V => ckF (.tup [.tup [.str (pl w), x], .tup [.str (pl u), y], .tup [.str (pl v), z]]) V) = true := by kernel_rfl
theorem md_pl (i : Nat) : ∃ w x, w < 2 ∧ md i = .tup [.str (pl w), x] := six (P := fun i => ∃ w x, w < 2 ∧ md i = .tup [.str (pl w), x]) ⟨0, _, by decide, rfl⟩ ⟨0, _, by decide, rfl⟩ ⟨0, _, by decide, rfl⟩ ⟨1, _, by decide, rfl⟩ ⟨1, _, by decide, rfl⟩ (fun _ => ⟨1, _, by decide, rfl⟩) i
theorem all2 {P : Nat → Bool} (h : ([0, 1].all P) = true) {w : Nat} (q : w < 2) : P w = true := by
  rw [List.all_eq_true] at h
  exact h w (by have : w = 0 ∨ w = 1 := by omega
                rcases this with e | e <;> subst e <;> decide)
theorem ckF_all {ms : List Nat} (m : Ms ms) {V : List Nat} (hV : V ∈ viewsN) : ckF (.tup (M ms)) V = true := by
  obtain ⟨l1, l2, c⟩ := m
  match ms, l1, l2 with
  | [i], _, _ =>
    obtain ⟨w, x, hw, e⟩ := md_pl i
    show ckF (.tup [md i]) V = true
    rw [e]
    exact List.all_eq_true.mp (all2 (fi_1 x) hw) V hV
  | [i, j], _, _ =>
    obtain ⟨w, x, hw, e⟩ := md_pl i
    obtain ⟨u, y, hu, e'⟩ := md_pl j
    show ckF (.tup [md i, md j]) V = true
    rw [e, e']
    exact List.all_eq_true.mp (all2 (all2 (fi_2 x y) hw) hu) V hV
  | [i, j, l], _, _ =>
    obtain ⟨w, x, hw, e⟩ := md_pl i
    obtain ⟨u, y, hu, e'⟩ := md_pl j
    obtain ⟨v, z, hv, e''⟩ := md_pl l
    show ckF (.tup [md i, md j, md l]) V = true
    rw [e, e', e'']
    exact List.all_eq_true.mp (all2 (all2 (all2 (fi_3 x y z) hw) hu) hv) V hV
  | [], l, _ => exact absurd l (by decide)
  | _ :: _ :: _ :: _ :: _, _, l => exact absurd l (by simp)
theorem fine_ok {h : AH} {a k n : Nat} {pr : AV} {bs : List AV} (H : Hs h a k pr bs n) {ms : List Nat} (m : Ms ms) (e : ms.length = n) {V : List Nat} (hV : V ∈ viewsN) : ∃ b, pureX f_reads_fine [.obj a, .tup (M ms), .tup (L V)] h = .ok (.bl b) h ∧ ∀ h', pureX f__law_fine [.tup (M ms), .tup (L V)] h' = .ok (.bl b) h' := by
  have kf := ckF_all m hV
  unfold ckF at kf
  cases e1 : bOf (f_is_safe [.tup (M ms), .tup (L V)] hE) with
  | none => rw [e1] at kf; cases kf
  | some b =>
    rw [e1] at kf
    dsimp only at kf
    cases e2 : bOf (f__law_fine [.tup (M ms), .tup (L V)] hE) with
    | none => rw [e2] at kf; cases kf
    | some b' =>
      rw [e2] at kf
      have eb : b = b' := eq_of_beq kf
      subst eb
      obtain ⟨h1, e1⟩ := bOf_ok e1
      obtain ⟨h2, e2⟩ := bOf_ok e2
      have p1 : ∀ h', pureX f_is_safe [.tup (M ms), .tup (L V)] h' = .ok (.bl b) h' := fun h' => by
        rw [pureX_tup (cons_cln (cln_M ms) (cons_cln (cln_L V) rfl)), e1]
        rfl
      refine ⟨b, ?_, fun h' => ?_⟩
      · rw [H.run (cons_cln (cln_M ms) (cons_cln (cln_L V) rfl))]
        have e3 : f_reads_fine [.obj 0, .tup (M ms), .tup (L V)] (hH k pr bs) = .ok (.bl b) (hH k pr bs) :=
          r_fn rfl (r_seq (r_ex (r_call (r_aC (r_v rfl) (r_aC (r_v rfl) (r_aC (r_v rfl) rfl))) (cview_ok H.own m e hV))) (r_ret (r_call (r_aC (r_v rfl) (r_aC (r_v rfl) rfl)) (p1 _))))
        rw [e3]
        rfl
      · rw [pureX_tup (cons_cln (cln_M ms) (cons_cln (cln_L V) rfl)), e2]
        rfl
end Ev
set_option Elab.async false
set_option linter.all false
set_option maxRecDepth 100000
set_option maxHeartbeats 400000
/-! steps -/
namespace Ev
open PySem PySem.Spec PyProof.Rows L2
/-! ### what a step makes of a line -/
def cpy : AV := .tup [.str "copy"]
def chg (s m : Nat) : AV := .tup [.str "mode", .int s, md m]
theorem ma_c (x : AV) : valOf (f_modes_after [x, cpy] hE) = some x := by kernel_rfl
theorem to_c (x : AV) : valOf (f__law_told [x, cpy] hE) = some x := by kernel_rfl

theorem ma_10 (x : AV) (m : Nat) : valOf (f_modes_after [.tup [x], chg 0 m] hE) = some (.tup [md m]) := six (P := fun m => valOf (f_modes_after [.tup [x], chg 0 m] hE) = some (.tup [md m])) (by kernel_rfl) (by kernel_rfl) (by kernel_rfl) (by kernel_rfl) (by kernel_rfl) (fun n => by kernel_rfl) m
theorem to_10 (x : AV) (m : Nat) : valOf (f__law_told [.tup [x], chg 0 m] hE) = some (.tup [md m]) := six (P := fun m => valOf (f__law_told [.tup [x], chg 0 m] hE) = some (.tup [md m])) (by kernel_rfl) (by kernel_rfl) (by kernel_rfl) (by kernel_rfl) (by kernel_rfl) (fun n => by kernel_rfl) m
theorem ma_20 (x y : AV) (m : Nat) : valOf (f_modes_after [.tup [x, y], chg 0 m] hE) = some (.tup [md m, y]) := six (P := fun m => valOf (f_modes_after [.tup [x, y], chg 0 m] hE) = some (.tup [md m, y])) (by kernel_rfl) (by kernel_rfl) (by kernel_rfl) (by kernel_rfl) (by kernel_rfl) (fun n => by kernel_rfl) m
theorem to_20 (x y : AV) (m : Nat) : valOf (f__law_told [.tup [x, y], chg 0 m] hE) = some (.tup [md m, y]) := six (P := fun m => valOf (f__law_told [.tup [x, y], chg 0 m] hE) = some (.tup [md m, y])) (by kernel_rfl) (by kernel_rfl) (by kernel_rfl) (by kernel_rfl) (by kernel_rfl) (fun n => by kernel_rfl) m
theorem ma_21 (x y : AV) (m : Nat) : valOf (f_modes_after [.tup [x, y], chg 1 m] hE) = some (.tup [x, md m]) := six (P := fun m => valOf (f_modes_after [.tup [x, y], chg 1 m] hE) = some (.tup [x, md m])) (by kernel_rfl) (by kernel_rfl) (by kernel_rfl) (by kernel_rfl) (by kernel_rfl) (fun n => by kernel_rfl) m
theorem to_21 (x y : AV) (m : Nat) : valOf (f__law_told [.tup [x, y], chg 1 m] hE) = some (.tup [x, md m]) := six (P := fun m => valOf (f__law_told [.tup [x, y], chg 1 m] hE) = some (.tup [x, md m])) (by kernel_rfl) (by kernel_rfl) (by kernel_rfl) (by kernel_rfl) (by kernel_rfl) (fun n => by kernel_rfl) m
theorem ma_30 (x y z : AV) (m : Nat) : valOf (f_modes_after [.tup [x, y, z], chg 0 m] hE) = some (.tup [md m, y, z]) := six (P := fun m => valOf (f_modes_after [.tup [x, y, z], chg 0 m] hE) = some (.tup [md m, y, z])) (by kernel_rfl) (by kernel_rfl) (by kernel_rfl) (by kernel_rfl) (by kernel_rfl) (fun n => by kernel_rfl) m
theorem to_30 (x y z : AV) (m : Nat) : valOf (f__law_told [.tup [x, y, z], chg 0 m] hE) = some (.tup [md m, y, z]) := six (P := fun m => valOf (f__law_told [.tup [x, y, z], chg 0 m] hE) = some (.tup [md m, y, z])) (by kernel_rfl) (by kernel_rfl) (by kernel_rfl) (by kernel_rfl) (by kernel_rfl) (fun n => by kernel_rfl) m
theorem ma_31 (x y z : AV) (m : Nat) : valOf (f_modes_after [.tup [x, y, z], chg 1 m] hE) = some (.tup [x, md m, z]) := six (P := fun m => valOf (f_modes_after [.tup [x, y, z], chg 1 m] hE) = some (.tup [x, md m, z])) (by kernel_rfl) (by kernel_rfl) (by kernel_rfl) (by kernel_rfl) (by kernel_rfl) (fun n => by kernel_rfl) m
theorem to_31 (x y z : AV) (m : Nat) : valOf (f__law_told [.tup [x, y, z], chg 1 m] hE) = some (.tup [x, md m, z]) := six (P := fun m => valOf (f__law_told [.tup [x, y, z], chg 1 m] hE) = some (.tup [x, md m, z])) (by kernel_rfl) (by kernel_rfl) (by kernel_rfl) (by kernel_rfl) (by kernel_rfl) (fun n => by kernel_rfl) m
theorem ma_32 (x y z : AV) (m : Nat) : valOf (f_modes_after [.tup [x, y, z], chg 2 m] hE) = some (.tup [x, y, md m]) := six (P := fun m => valOf (f_modes_after [.tup [x, y, z], chg 2 m] hE) = some (.tup [x, y, md m])) (by kernel_rfl) (by kernel_rfl) (by kernel_rfl) (by kernel_rfl) (by kernel_rfl) (fun n => by kernel_rfl) m
theorem to_32 (x y z : AV) (m : Nat) : valOf (f__law_told [.tup [x, y, z], chg 2 m] hE) = some (.tup [x, y, md m]) := six (P := fun m => valOf (f__law_told [.tup [x, y, z], chg 2 m] hE) = some (.tup [x, y, md m])) (by kernel_rfl) (by kernel_rfl) (by kernel_rfl) (by kernel_rfl) (by kernel_rfl) (fun n => by kernel_rfl) m
theorem ma_ok {ms : List Nat} (q : Ms ms) {s : Nat} (hs : s < ms.length) (m : Nat) : ∃ h', f_modes_after [.tup (M ms), chg s m] hE = .ok (.tup (M (ms.set s m))) h' := by
  obtain ⟨l1, l2, c⟩ := q
  match ms, s, l1, l2, hs with
  | [i], 0, _, _, _ => exact val_ok (ma_10 (md i) m)
  | [i, j], 0, _, _, _ => exact val_ok (ma_20 (md i) (md j) m)
  | [i, j], 1, _, _, _ => exact val_ok (ma_21 (md i) (md j) m)
  | [i, j, l], 0, _, _, _ => exact val_ok (ma_30 (md i) (md j) (md l) m)
  | [i, j, l], 1, _, _, _ => exact val_ok (ma_31 (md i) (md j) (md l) m)
  | [i, j, l], 2, _, _, _ => exact val_ok (ma_32 (md i) (md j) (md l) m)
  | [], _, l, _, _ => exact absurd l (by decide)
  | [i], s + 1, _, _, h => simp at h
  | [i, j], s + 2, _, _, h => exact absurd h (by simp)
  | [i, j, l], s + 3, _, _, h => exact absurd h (by simp)
  | _ :: _ :: _ :: _ :: _, _, _, l, _ => exact absurd l (by simp)
theorem to_ok {ms : List Nat} (q : Ms ms) {s : Nat} (hs : s < ms.length) (m : Nat) : ∃ h', f__law_told [.tup (M ms), chg s m] hE = .ok (.tup (M (ms.set s m))) h' := by
  obtain ⟨l1, l2, c⟩ := q
  match ms, s, l1, l2, hs with
  | [i], 0, _, _, _ => exact val_ok (to_10 (md i) m)
  | [i, j], 0, _, _, _ => exact val_ok (to_20 (md i) (md j) m)
  | [i, j], 1, _, _, _ => exact val_ok (to_21 (md i) (md j) m)
  | [i, j, l], 0, _, _, _ => exact val_ok (to_30 (md i) (md j) (md l) m)
  | [i, j, l], 1, _, _, _ => exact val_ok (to_31 (md i) (md j) (md l) m)
  | [i, j, l], 2, _, _, _ => exact val_ok (to_32 (md i) (md j) (md l) m)
  | [], _, l, _, _ => exact absurd l (by decide)
  | [i], s + 1, _, _, h => simp at h
  | [i, j], s + 2, _, _, h => exact absurd h (by simp)
  | [i, j, l], s + 3, _, _, h => exact absurd h (by simp)
  | _ :: _ :: _ :: _ :: _, _, _, l, _ => exact absurd l (by simp)
theorem cln_cpy : AV.cln 0 cpy = true := rfl
theorem cln_chg (s m : Nat) : AV.cln 0 (chg s m) = true := by
  have a : AV.clns 0 [md m] = true := cons_cln (cln_md m) rfl
  have b : AV.clns 0 [.int s, md m] = true := cons_cln (x := .int s) rfl a
  exact cons_cln (x := .str "mode") (xs := [.int s, md m]) rfl b
theorem pma_c (ms : List Nat) (h : AH) : pureX f_modes_after [.tup (M ms), cpy] h = .ok (.tup (M ms)) h := by
  obtain ⟨h', e⟩ := val_ok (ma_c (.tup (M ms)))
  rw [pureX_tup (cons_cln (cln_M ms) rfl), e]
  exact outP_tup (clns_M ms)
theorem pto_c (ms : List Nat) (h : AH) : pureX f__law_told [.tup (M ms), cpy] h = .ok (.tup (M ms)) h := by
  obtain ⟨h', e⟩ := val_ok (to_c (.tup (M ms)))
  rw [pureX_tup (cons_cln (cln_M ms) rfl), e]
  exact outP_tup (clns_M ms)
theorem pma {ms : List Nat} (q : Ms ms) {s : Nat} (hs : s < ms.length) (m : Nat) (h : AH) : pureX f_modes_after [.tup (M ms), chg s m] h = .ok (.tup (M (ms.set s m))) h := by
  obtain ⟨h', e⟩ := ma_ok q hs m
  rw [pureX_tup (cons_cln (cln_M ms) (cons_cln (cln_chg s m) rfl)), e]
  exact outP_tup (clns_M _)
theorem pto {ms : List Nat} (q : Ms ms) {s : Nat} (hs : s < ms.length) (m : Nat) (h : AH) : pureX f__law_told [.tup (M ms), chg s m] h = .ok (.tup (M (ms.set s m))) h := by
  obtain ⟨h', e⟩ := to_ok q hs m
  rw [pureX_tup (cons_cln (cln_M ms) (cons_cln (cln_chg s m) rfl)), e]
  exact outP_tup (clns_M _)
theorem Ms.set {ms : List Nat} (q : Ms ms) (s : Nat) {m : Nat} (hm : m < 6) : Ms (ms.set s m) := ⟨by simp; exact q.l1, by simp; exact q.l2, fun i z => by
  rcases List.mem_or_eq_of_mem_set z with e | e
  · exact q.c i e
  · rw [e]; exact hm⟩
/-! ### whether it is a step -/
theorem st_c (k : Nat) (pr : AV) (bs : List AV) : valOf (f_is_step [.obj 0, cpy] (hH k pr bs)) = some (.bl true) := by kernel_rfl

theorem st_10 (k : Nat) (pr : AV) (x : AV) (m : Nat) : valOf (f_is_step [.obj 0, chg 0 m] (hH k pr [x])) = some (.bl true) := six (P := fun m => valOf (f_is_step [.obj 0, chg 0 m] (hH k pr [x])) = some (.bl true)) (by kernel_rfl) (by kernel_rfl) (by kernel_rfl) (by kernel_rfl) (by kernel_rfl) (fun n => by kernel_rfl) m
theorem st_20 (k : Nat) (pr : AV) (x y : AV) (m : Nat) : valOf (f_is_step [.obj 0, chg 0 m] (hH k pr [x, y])) = some (.bl true) := six (P := fun m => valOf (f_is_step [.obj 0, chg 0 m] (hH k pr [x, y])) = some (.bl true)) (by kernel_rfl) (by kernel_rfl) (by kernel_rfl) (by kernel_rfl) (by kernel_rfl) (fun n => by kernel_rfl) m
theorem st_21 (k : Nat) (pr : AV) (x y : AV) (m : Nat) : valOf (f_is_step [.obj 0, chg 1 m] (hH k pr [x, y])) = some (.bl true) := six (P := fun m => valOf (f_is_step [.obj 0, chg 1 m] (hH k pr [x, y])) = some (.bl true)) (by kernel_rfl) (by kernel_rfl) (by kernel_rfl) (by kernel_rfl) (by kernel_rfl) (fun n => by kernel_rfl) m
theorem st_30 (k : Nat) (pr : AV) (x y z : AV) (m : Nat) : valOf (f_is_step [.obj 0, chg 0 m] (hH k pr [x, y, z])) = some (.bl true) := six (P := fun m => valOf (f_is_step [.obj 0, chg 0 m] (hH k pr [x, y, z])) = some (.bl true)) (by kernel_rfl) (by kernel_rfl) (by kernel_rfl) (by kernel_rfl) (by kernel_rfl) (fun n => by kernel_rfl) m
theorem st_31 (k : Nat) (pr : AV) (x y z : AV) (m : Nat) : valOf (f_is_step [.obj 0, chg 1 m] (hH k pr [x, y, z])) = some (.bl true) := six (P := fun m => valOf (f_is_step [.obj 0, chg 1 m] (hH k pr [x, y, z])) = some (.bl true)) (by kernel_rfl) (by kernel_rfl) (by kernel_rfl) (by kernel_rfl) (by kernel_rfl) (fun n => by kernel_rfl) m
theorem st_32 (k : Nat) (pr : AV) (x y z : AV) (m : Nat) : valOf (f_is_step [.obj 0, chg 2 m] (hH k pr [x, y, z])) = some (.bl true) := six (P := fun m => valOf (f_is_step [.obj 0, chg 2 m] (hH k pr [x, y, z])) = some (.bl true)) (by kernel_rfl) (by kernel_rfl) (by kernel_rfl) (by kernel_rfl) (by kernel_rfl) (fun n => by kernel_rfl) m
theorem st_ok (k : Nat) (pr : AV) {bs : List AV} {s : Nat} (hs : s < bs.length) (l2 : bs.length ≤ 3) (m : Nat) : valOf (f_is_step [.obj 0, chg s m] (hH k pr bs)) = some (.bl true) := by
  match bs, s, l2, hs with
  | [i], 0, _, _ => exact st_10 k pr i m
  | [i, j], 0, _, _ => exact st_20 k pr i j m
  | [i, j], 1, _, _ => exact st_21 k pr i j m
  | [i, j, l], 0, _, _ => exact st_30 k pr i j l m
  | [i, j, l], 1, _, _ => exact st_31 k pr i j l m
  | [i, j, l], 2, _, _ => exact st_32 k pr i j l m
  | [], _, _, h => simp at h
  | [i], s + 1, _, h => simp at h
  | [i, j], s + 2, _, h => exact absurd h (by simp)
  | [i, j, l], s + 3, _, h => exact absurd h (by simp)
  | _ :: _ :: _ :: _ :: _, _, l, _ => exact absurd l (by simp)
theorem cstep {h : AH} {a k n : Nat} {pr : AV} {bs : List AV} (H : Hs h a k pr bs n) {st : AV} (c : AV.cln 0 st = true) (e : valOf (f_is_step [.obj 0, st] (hH k pr bs)) = some (.bl true)) : pureX f_check_step [.obj a, st] h = .ok .non h := by
  obtain ⟨h', e⟩ := val_ok e
  rw [H.run (cons_cln c rfl)]
  have e1 : pureX f_is_step [.obj 0, st] (hH k pr bs) = .ok (.bl true) (hH k pr bs) := by
    rw [H.own.run (cons_cln c rfl), e]
    rfl
  have e2 : f_check_step [.obj 0, st] (hH k pr bs) = .ok .non (hH k pr bs) := r_fn rfl (r_iff (r_not (b := true) (r_call (r_aC (r_v rfl) (r_aC (r_v rfl) rfl)) e1)) rfl)
  rw [e2]
  rfl
theorem eq_cc (h : AH) : cmpA .Eq cpy v_COPY h = .ok (.bl true) h := by kernel_rfl
theorem eq_ch (s m : Nat) (h : AH) : cmpA .Eq (chg s m) v_COPY h = .ok (.bl false) h := six (P := fun m => cmpA .Eq (chg s m) v_COPY h = .ok (.bl false) h) (by kernel_rfl) (by kernel_rfl) (by kernel_rfl) (by kernel_rfl) (by kernel_rfl) (fun n => by kernel_rfl) m
/-! ### after -/
theorem pcopied {h : AH} {a k n : Nat} {pr : AV} {bs : List AV} (H : Hs h a k pr bs n) (hk : k < 3) {ms : List Nat} (q : Ms ms) {V : List Nat} (hV : V ∈ viewsN) : pureX f_copied [.obj a, .tup (M ms), .tup (L V)] h = .ok (.tup (L (copN k (wds (ms.map mp)) V))) h := by
  obtain ⟨c, l⟩ := view_c6 hV
  obtain ⟨h', e⟩ := copied_ok (h := hH k pr bs) (a := 0) q.ln hk c l H.own.g (Nat.le_refl 1) (show 1 + 20 ≤ top by decide)
  rw [M_lnP] at e
  rw [H.run (cons_cln (cln_M ms) (cons_cln (cln_L V) rfl)), e]
  exact outP_tup (clns_L _)
theorem vafter_c {h : AH} {a k n : Nat} {pr : AV} {bs : List AV} (H : Hs h a k pr bs n) (hk : k < 3) {ms : List Nat} (q : Ms ms) {V Y : List Nat} (hV : V ∈ viewsN) (cq : C6 (copN k (wds (ms.map mp)) V) ∧ (copN k (wds (ms.map mp)) V).length ≤ 1000) (e : grN (wds (ms.map mp)) (copN k (wds (ms.map mp)) V) = some Y) : pureX f_view_after [.obj a, .tup (M ms), .tup (L V), cpy] h = .ok (.tup (L Y)) h := by
  rw [H.run (cons_cln (cln_M ms) (cons_cln (cln_L V) rfl))]
  have e1 : f_view_after [.obj 0, .tup (M ms), .tup (L V), cpy] (hH k pr bs) = .ok (.tup (L Y)) (hH k pr bs) :=
    r_fn rfl (r_seq (r_set (r_call (r_aC (r_v rfl) (r_aC (r_v rfl) rfl)) (pma_c ms _))) (r_ret (r_call (r_aC (r_v rfl) (r_aC (r_itet (r_cmp (r_v rfl) rfl (eq_cc _)) (r_call (r_aC (r_v rfl) (r_aC (r_v rfl) (r_aC (r_v rfl) rfl))) (pcopied H.own hk q hV))) rfl)) (pgrown q cq.1 cq.2 e _))))
  rw [e1]
  exact outP_tup (clns_L _)
theorem vafter_m {h : AH} {a k n : Nat} {pr : AV} {bs : List AV} (H : Hs h a k pr bs n) {ms : List Nat} (q : Ms ms) {s m : Nat} (hs : s < ms.length) (hm : m < 6) {V Y : List Nat} (hV : V ∈ viewsN) (e : grN (wds ((ms.set s m).map mp)) V = some Y) : pureX f_view_after [.obj a, .tup (M ms), .tup (L V), chg s m] h = .ok (.tup (L Y)) h := by
  obtain ⟨c, l⟩ := view_c6 hV
  rw [H.run (cons_cln (cln_M ms) (cons_cln (cln_L V) (cons_cln (cln_chg s m) rfl)))]
  have e1 : f_view_after [.obj 0, .tup (M ms), .tup (L V), chg s m] (hH k pr bs) = .ok (.tup (L Y)) (hH k pr bs) :=
    r_fn rfl (r_seq (r_set (r_call (r_aC (r_v rfl) (r_aC (r_v rfl) rfl)) (pma q hs m _))) (r_ret (r_call (r_aC (r_v rfl) (r_aC (r_itef (r_cmp (r_v rfl) rfl (eq_ch s m _)) (r_v rfl)) rfl)) (pgrown (q.set s hm) c (by omega) e _))))
  rw [e1]
  exact outP_tup (clns_L _)
theorem two_cln (ms X : List Nat) : AV.clns 0 [.tup (M ms), .tup (L X)] = true := cons_cln (cln_M ms) (cons_cln (cln_L X) rfl)
theorem after_c {h : AH} {a k n : Nat} {pr : AV} {bs : List AV} (H : Hs h a k pr bs n) (hk : k < 3) {ms : List Nat} (q : Ms ms) (hn : ms.length = n) {V X Y : List Nat} (hV : V ∈ viewsN) (e : grN (wds (ms.map mp)) V = some X) (hX : X ∈ viewsN) (cq : C6 (copN k (wds (ms.map mp)) X) ∧ (copN k (wds (ms.map mp)) X).length ≤ 1000) (e2 : grN (wds (ms.map mp)) (copN k (wds (ms.map mp)) X) = some Y) :
    pureX f_after [.obj a, .tup (M ms), .tup (L V), cpy] h = .ok (.tup [.tup (M ms), .tup (L Y)]) h := by
  obtain ⟨c, l⟩ := view_c6 hV
  rw [H.run (cons_cln (cln_M ms) (cons_cln (cln_L V) rfl))]
  have e1 : f_after [.obj 0, .tup (M ms), .tup (L V), cpy] (hH k pr bs) = .ok (.tup [.tup (M ms), .tup (L Y)]) (hH k pr bs) :=
    r_fn rfl (r_seq (r_ex (r_call (r_aC (r_v rfl) (r_aC (r_v rfl) (r_aC (r_v rfl) rfl))) (cview_ok H.own q hn hV))) (r_seq (r_ex (r_call (r_aC (r_v rfl) (r_aC (r_v rfl) rfl)) (cstep H.own rfl (st_c k pr bs))))
      (r_ret (r_tup (r_aC (r_call (r_aC (r_v rfl) (r_aC (r_v rfl) rfl)) (pma_c ms _)) (r_aC (r_call (r_aC (r_v rfl) (r_aC (r_v rfl) (r_aC (r_call (r_aC (r_v rfl) (r_aC (r_v rfl) rfl)) (pgrown q c (by omega) e _)) (r_aC (r_v rfl) rfl)))) (vafter_c H.own hk q hX cq e2)) rfl)) (by simp)))))
  rw [e1]
  exact outP_tup (two_cln ms Y)
theorem after_m {h : AH} {a k n : Nat} {pr : AV} {bs : List AV} (H : Hs h a k pr bs n) {ms : List Nat} (q : Ms ms) (hn : ms.length = n) {s m : Nat} (hs : s < ms.length) (hm : m < 6) {V X Y : List Nat} (hV : V ∈ viewsN) (e : grN (wds (ms.map mp)) V = some X) (hX : X ∈ viewsN) (e2 : grN (wds ((ms.set s m).map mp)) X = some Y) :
    pureX f_after [.obj a, .tup (M ms), .tup (L V), chg s m] h = .ok (.tup [.tup (M (ms.set s m)), .tup (L Y)]) h := by
  obtain ⟨c, l⟩ := view_c6 hV
  rw [H.run (cons_cln (cln_M ms) (cons_cln (cln_L V) (cons_cln (cln_chg s m) rfl)))]
  have e1 : f_after [.obj 0, .tup (M ms), .tup (L V), chg s m] (hH k pr bs) = .ok (.tup [.tup (M (ms.set s m)), .tup (L Y)]) (hH k pr bs) :=
    r_fn rfl (r_seq (r_ex (r_call (r_aC (r_v rfl) (r_aC (r_v rfl) (r_aC (r_v rfl) rfl))) (cview_ok H.own q hn hV))) (r_seq (r_ex (r_call (r_aC (r_v rfl) (r_aC (r_v rfl) rfl)) (cstep H.own (cln_chg s m) (st_ok k pr (by rw [H.ln, ← hn]; exact hs) (by rw [H.ln]; exact H.l3) m))))
      (r_ret (r_tup (r_aC (r_call (r_aC (r_v rfl) (r_aC (r_v rfl) rfl)) (pma q hs m _)) (r_aC (r_call (r_aC (r_v rfl) (r_aC (r_v rfl) (r_aC (r_call (r_aC (r_v rfl) (r_aC (r_v rfl) rfl)) (pgrown q c (by omega) e _)) (r_aC (r_v rfl) rfl)))) (vafter_m H.own q hs hm hX e2)) rfl)) (by simp)))))
  rw [e1]
  exact outP_tup (two_cln _ Y)
/-! ### the law's own -/
theorem eq_lc (h : AH) : cmpA .Eq cpy (.tup [.str "copy"]) h = .ok (.bl true) h := by kernel_rfl
theorem eq_lm (s m : Nat) (h : AH) : cmpA .Eq (chg s m) (.tup [.str "copy"]) h = .ok (.bl false) h := eq_ch s m h
theorem next_c {bs : List AV} {k : Nat} {pr : AV} (cb : AV.clns 0 bs = true) (cp : AV.cln 0 pr = true) (hk : k < 3) {ms : List Nat} (q : Ms ms) {X D Y : List Nat} (hX : X ∈ viewsN) (e1 : lcN k (wds (ms.map mp)) X = some D) (e2 : lgN (wds (ms.map mp)) D = some Y) (h : AH) :
    pureX f__law_next [.tup [.tup bs, .str (cpS k), pr], .tup (M ms), .tup (L X), cpy] h = .ok (.tup [.tup (M ms), .tup (L Y)]) h := by
  obtain ⟨c, l⟩ := view_c6 hX
  rw [pureX_tup (cons_cln (x := .tup [.tup bs, .str (cpS k), pr]) (cons_cln (x := .tup bs) cb (cons_cln (x := .str (cpS k)) rfl (cons_cln cp rfl))) (cons_cln (cln_M ms) (cons_cln (cln_L X) rfl)))]
  obtain ⟨j, h1, e3, g3, X3, c3⟩ := copy_ok (h := hE) q.ln hk c l e1 (Nat.le_refl _) (by decide)
  obtain ⟨h2, e4, X4, c4⟩ := lg_ok (h := h1) (a := .obj j) (.inr ⟨j, rfl, g3⟩) c3 q.ln.l2 e2 (by have := X3.n2; have : hE.n = 0 := rfl; have : top = 1000000 := rfl; omega)
  rw [M_lnP] at e3 e4
  have e5 : f__law_next [.tup [.tup bs, .str (cpS k), pr], .tup (M ms), .tup (L X), cpy] hE = .ok (.tup [.tup (M ms), .tup (L Y)]) h2 :=
    r_fn rfl (r_seq (r_set (r_call (r_aC (r_v rfl) (r_aC (r_v rfl) rfl)) (pto_c ms _))) (r_ret (r_tup (r_aC (r_v rfl) (r_aC (r_call (r_aC (r_v rfl) (r_aC (r_itet (r_cmp (r_v rfl) rfl (eq_lc _)) (r_call (r_aC (r_sub (r_v rfl) rfl rfl) (r_aC (r_v rfl) (r_aC (r_v rfl) rfl))) e3)) rfl)) e4) rfl)) (by simp))))
  rw [e5]
  exact outP_tup (two_cln ms Y)
theorem next_m {bs : List AV} {k : Nat} {pr : AV} (cb : AV.clns 0 bs = true) (cp : AV.cln 0 pr = true) {ms : List Nat} (q : Ms ms) {s m : Nat} (hs : s < ms.length) (hm : m < 6) {X Y : List Nat} (hX : X ∈ viewsN) (e2 : lgN (wds ((ms.set s m).map mp)) X = some Y) (h : AH) :
    pureX f__law_next [.tup [.tup bs, .str (cpS k), pr], .tup (M ms), .tup (L X), chg s m] h = .ok (.tup [.tup (M (ms.set s m)), .tup (L Y)]) h := by
  obtain ⟨c, l⟩ := view_c6 hX
  rw [pureX_tup (cons_cln (x := .tup [.tup bs, .str (cpS k), pr]) (cons_cln (x := .tup bs) cb (cons_cln (x := .str (cpS k)) rfl (cons_cln cp rfl))) (cons_cln (cln_M ms) (cons_cln (cln_L X) (cons_cln (cln_chg s m) rfl))))]
  obtain ⟨h2, e4, X4, c4⟩ := lg_ok (h := hE) (a := .tup (L X)) (.inl rfl) c (q.set s hm).ln.l2 e2 (by decide)
  rw [M_lnP] at e4
  have e5 : f__law_next [.tup [.tup bs, .str (cpS k), pr], .tup (M ms), .tup (L X), chg s m] hE = .ok (.tup [.tup (M (ms.set s m)), .tup (L Y)]) h2 :=
    r_fn rfl (r_seq (r_set (r_call (r_aC (r_v rfl) (r_aC (r_v rfl) rfl)) (pto q hs m _))) (r_ret (r_tup (r_aC (r_v rfl) (r_aC (r_call (r_aC (r_v rfl) (r_aC (r_itef (r_cmp (r_v rfl) rfl (eq_lm s m _)) (r_v rfl)) rfl)) e4) rfl)) (by simp))))
  rw [e5]
  exact outP_tup (two_cln _ Y)
theorem cop_ok {ms : List Nat} (q : Ms ms) {k : Nat} (hk : k < 3) {X : List Nat} (hX : X ∈ viewsN) : C6 (copN k (wds (ms.map mp)) X) ∧ (copN k (wds (ms.map mp)) X).length ≤ 1000 := by
  obtain ⟨c, l⟩ := view_c6 hX
  have key : ∀ X : List Nat, C6 X → C6 (X.flatMap (hdT k (wds (ms.map mp)))) ∧ (X.flatMap (hdT k (wds (ms.map mp)))).length ≤ 7 * X.length := by
    intro X
    induction X with
    | nil => exact fun _ => ⟨C6.nil, Nat.le_refl _⟩
    | cons x r ih =>
      intro c
      obtain ⟨a, b⟩ := hd_ok q.ln hk c.hd
      obtain ⟨a', b'⟩ := ih c.tl
      exact ⟨b.app a', by simp only [List.flatMap_cons, List.length_append, List.length_cons]; omega⟩
  obtain ⟨a, b⟩ := key X c
  have len_ins : ∀ (x : Nat) (r : List Nat), (insN x r).length = r.length + 1 := by
    intro x r
    induction r with
    | nil => rfl
    | cons y r ih =>
      unfold insN
      cases Nat.blt y x with
      | true => simp [ih]
      | false => rfl
  have len_sort : ∀ r : List Nat, (isort r).length = r.length := by
    intro r
    induction r with
    | nil => rfl
    | cons x r ih => show (insN x (isort r)).length = _; rw [len_ins, ih]; rfl
  refine ⟨(C6.nil.addN a).isort, ?_⟩
  show (isort (addN [] _)).length ≤ 1000
  rw [len_sort]
  have := addN_len (X.flatMap (hdT k (wds (ms.map mp)))) []
  simp only [List.length_nil] at this
  omega
/-- the two answers, for any step -/
theorem step_c {h : AH} {a k n : Nat} {pr : AV} {bs : List AV} (H : Hs h a k pr bs n) (hk : k < 3) {ms : List Nat} (q : Ms ms) (hn : ms.length = n) {V X : List Nat} (hV : V ∈ viewsN) (e : grN (wds (ms.map mp)) V = some X) (hX : X ∈ viewsN) :
    ∃ Y, (∃ h', h' = h ∧ pureX f_after [.obj a, .tup (M ms), .tup (L V), cpy] h = .ok (.tup [.tup (M ms), .tup (L Y)]) h') ∧ ∀ h', pureX f__law_next [.tup [.tup bs, .str (cpS k), pr], .tup (M ms), .tup (L X), cpy] h' = .ok (.tup [.tup (M ms), .tup (L Y)]) h' := by
  obtain ⟨D, Y, e1, e2, e3⟩ := t3 q.ln hV e hk
  exact ⟨Y, ⟨h, rfl, after_c H hk q hn hV e hX (cop_ok q hk hX) e2⟩, next_c H.cb H.cp hk q hX e1 e3⟩
theorem step_m {h : AH} {a k n : Nat} {pr : AV} {bs : List AV} (H : Hs h a k pr bs n) {ms : List Nat} (q : Ms ms) (hn : ms.length = n) {s m : Nat} (hs : s < ms.length) (hm : m < 6) {V X : List Nat} (hV : V ∈ viewsN) (e : grN (wds (ms.map mp)) V = some X) (hX : X ∈ viewsN) :
    ∃ Y, (∃ h', h' = h ∧ pureX f_after [.obj a, .tup (M ms), .tup (L V), chg s m] h = .ok (.tup [.tup (M (ms.set s m)), .tup (L Y)]) h') ∧ ∀ h', pureX f__law_next [.tup [.tup bs, .str (cpS k), pr], .tup (M ms), .tup (L X), chg s m] h' = .ok (.tup [.tup (M (ms.set s m)), .tup (L Y)]) h' := by
  obtain ⟨Y, e1, e2, _⟩ := t1 (q.set s hm).ln hX
  exact ⟨Y, ⟨h, rfl, after_m H q hn hs hm hV e hX e1⟩, next_m H.cb H.cp q hs hm hX e2⟩
end Ev
set_option Elab.async false
set_option linter.all false
set_option maxRecDepth 100000
set_option maxHeartbeats 400000
/-! the law's pool: a list of numbers -/
namespace Ev
open PySem PySem.Spec PyProof.Rows L2
theorem mul_r {i j : Int} {h : AH} (q : small j = true) : binA .Mult (.int i) (.int j) h = .ok (.int (i * j)) h := by
  show (match small i || small j || wide i j with | true => R.ok (AV.int (i * j)) h | false => .bad) = _
  rw [q, Bool.or_true, Bool.true_or]
theorem mul_l {i j : Int} {h : AH} (q : small i = true) : binA .Mult (.int i) (.int j) h = .ok (.int (i * j)) h := by
  show (match small i || small j || wide i j with | true => R.ok (AV.int (i * j)) h | false => .bad) = _
  rw [q, Bool.true_or, Bool.true_or]
theorem mul_w {i j : Int} {h : AH} (q : wide i j = true) : binA .Mult (.int i) (.int j) h = .ok (.int (i * j)) h := by
  show (match small i || small j || wide i j with | true => R.ok (AV.int (i * j)) h | false => .bad) = _
  rw [q, Bool.or_true]
theorem mod_ok {i j : Int} {h : AH} (q : 0 < j) : binA .Mod (.int i) (.int j) h = .ok (.int (i % j)) h := by
  show (match decide (0 < j) with | true => R.ok (AV.int (i % j)) h | false => .bad) = _
  rw [decide_eq_true q]
theorem div_ok {i j : Int} {h : AH} (q : 0 < j ∧ j < 1073741824) : binA .FloorDiv (.int i) (.int j) h = .ok (.int (i / j)) h := by
  show (match decide (0 < j ∧ j < 1073741824) with | true => R.ok (AV.int (i / j)) h | false => .bad) = _
  rw [decide_eq_true q]
def primesL : List AV := [.int 1000003, .int 1000033, .int 1000037, .int 1000039, .int 1000081, .int 1000099, .int 1000117, .int 1000121, .int 1000133, .int 1000151, .int 1000159, .int 1000171, .int 1000183, .int 1000187, .int 1000193, .int 1000199]
theorem prime_ok {j : Int} {h : AH} (a : 0 ≤ j) (b : j < 16) : ∃ p : Int, 0 < p ∧ subA (.tup primesL) (.int j) h = .ok (.int p) h := by
  have : j = 0 ∨ j = 1 ∨ j = 2 ∨ j = 3 ∨ j = 4 ∨ j = 5 ∨ j = 6 ∨ j = 7 ∨ j = 8 ∨ j = 9 ∨ j = 10 ∨ j = 11 ∨ j = 12 ∨ j = 13 ∨ j = 14 ∨ j = 15 := by omega
  rcases this with e | e | e | e | e | e | e | e | e | e | e | e | e | e | e | e <;> subst e <;> exact ⟨_, by decide, rfl⟩
theorem sm1 : small 48271 = true := by decide +kernel
theorem sm2 : small 69621 = true := by decide +kernel
theorem sm3 : small 7919 = true := by decide +kernel
theorem sm4 : small 977 = true := by decide +kernel
theorem sm5 : small 31 = true := by decide +kernel
theorem sm6 : small 1000003 = true := by decide +kernel
theorem draw_ok {c k m : Int} (hm : 0 < m) : ∃ r : Int, 0 ≤ r ∧ r < m ∧ ∀ h : AH, pureX f__law_draw [.int c, .int k, .int m] h = .ok (.int r) h := by
  obtain ⟨p, hp, ep⟩ := prime_ok (h := hE) (Int.emod_nonneg k (show (16 : Int) ≠ 0 by decide)) (Int.emod_lt_of_pos k (show (0 : Int) < 16 by decide))
  refine ⟨(c * 48271 + k * 69621) % p % m, Int.emod_nonneg _ (by omega), Int.emod_lt_of_pos _ hm, fun h => ?_⟩
  have e : f__law_draw [.int c, .int k, .int m] hE = .ok (.int ((c * 48271 + k * 69621) % p % m)) hE :=
    r_fn rfl (r_seq (r_set (r_tup (vs := primesL) rfl (by decide))) (r_ret (r_bin (r_bin (r_b1 (r_bin (r_bin (r_v rfl) rfl (mul_r sm1)) (r_bin (r_v rfl) rfl (mul_r sm2)) rfl) rfl) (r_sub (r_v rfl) (r_bin (r_v rfl) rfl (mod_ok (by decide))) ep) (mod_ok hp)) (r_v rfl) (mod_ok hm))))
  show outP h (f__law_draw [.int c, .int k, .int m] hE) = _
  rw [e]
  rfl
theorem abs_nn (i : Int) : 0 ≤ (if i < 0 then -i else i) := by split <;> omega
theorem intsOf_ints : ∀ is : List Int, intsOf (is.map AV.int) = some is
  | [] => rfl
  | i :: r => by
    show (intsOf (r.map AV.int)).map (i :: ·) = _
    rw [intsOf_ints r]
    rfl
theorem atI_nat {α : Type} {xs : List α} {k : Nat} {v : α} (h : xs[k]? = some v) : atI xs (k : Int) = some v := by
  have hk : k < xs.length := by
    rw [List.getElem?_eq_some_iff] at h
    exact h.1
  unfold atI ixN
  rw [if_pos (by omega), if_pos (by omega)]
  exact h
theorem lt_tt {i j : Int} {h : AH} (q : i < j) : cmpA .Lt (.int i) (.int j) h = .ok (.bl true) h := by
  show R.ok (AV.bl (decide (i < j))) h = _
  rw [decide_eq_true q]
theorem lt_ff {i j : Int} {h : AH} (q : ¬ i < j) : cmpA .Lt (.int i) (.int j) h = .ok (.bl false) h := by
  show R.ok (AV.bl (decide (i < j))) h = _
  rw [decide_eq_false q]
theorem gt_tt {i j : Int} {h : AH} (q : j < i) : cmpA .Gt (.int i) (.int j) h = .ok (.bl true) h := by
  show R.ok (AV.bl (decide (j < i))) h = _
  rw [decide_eq_true q]
theorem gt_ff {i j : Int} {h : AH} (q : ¬ j < i) : cmpA .Gt (.int i) (.int j) h = .ok (.bl false) h := by
  show R.ok (AV.bl (decide (j < i))) h = _
  rw [decide_eq_false q]
theorem cell_ok {ns : List Int} {h : AH} {s k : Nat} (g : h.get s = some (.lst (ns.map AV.int))) : ∃ c : Int, 0 ≤ c ∧ pureX f__law_cell_at [.obj s, .int k] h = .ok (.int c) h := by
  rw [pureX_lst g rfl (clns_ints ns)]
  have lc : g1 lenA [.obj 0] (hO (.lst (ns.map AV.int))) = .ok (.int ns.length) (hO (.lst (ns.map AV.int))) := by
    show R.ok (AV.int ((ns.map AV.int).length : Nat)) _ = _
    rw [List.length_map]
  by_cases hk : k < ns.length
  · obtain ⟨i, hi⟩ : ∃ i, ns[k]? = some i := ⟨_, List.getElem?_eq_getElem hk⟩
    refine ⟨if i < 0 then -i else i, abs_nn i, ?_⟩
    have es : subA (.obj 0) (.int k) (hO (.lst (ns.map AV.int))) = .ok (.int i) (hO (.lst (ns.map AV.int))) := by
      show rOpt (atI (ns.map AV.int) k) (hO (.lst (ns.map AV.int))) = _
      rw [atI_nat (v := .int i) (by rw [List.getElem?_map, hi]; rfl)]
      rfl
    have e : f__law_cell_at [.obj 0, .int k] (hO (.lst (ns.map AV.int))) = .ok (.int (if i < 0 then -i else i)) (hO (.lst (ns.map AV.int))) :=
      r_fn rfl (r_seqr (r_ift (r_cmp (r_v rfl) (r_b1 (r_v rfl) lc) (lt_tt (by omega))) (r_ret (r_b1 (r_sub (r_v rfl) (r_v rfl) es) rfl))))
    rw [e]
    rfl
  · obtain ⟨r, h0, h1, e⟩ := draw_ok (c := (if ns.sum < 0 then -ns.sum else ns.sum) + 7919 * k) (k := k) (m := 999983) (by decide)
    refine ⟨r, h0, ?_⟩
    have es : g1 (b1A .sum) [.obj 0] (hO (.lst (ns.map AV.int))) = .ok (.int ns.sum) (hO (.lst (ns.map AV.int))) := by
      show rOpt ((intsOf (ns.map AV.int)).map fun ns => AV.int ns.sum) (hO (.lst (ns.map AV.int))) = _
      rw [intsOf_ints]
      rfl
    have e : f__law_cell_at [.obj 0, .int k] (hO (.lst (ns.map AV.int))) = .ok (.int r) (hO (.lst (ns.map AV.int))) :=
      r_fn rfl (r_seq (r_iff (r_cmp (r_v rfl) (r_b1 (r_v rfl) lc) (lt_ff (by omega))) rfl) (r_ret (r_call (r_aC (r_bin (r_b1 (r_b1 (r_v rfl) es) rfl) (r_bin rfl (r_v rfl) (mul_l sm3)) rfl) (r_aC (r_v rfl) (r_aC rfl rfl))) (e _))))
    rw [e]
    rfl
/-! ### digits -/
def K (i : Nat) : Int := ((1000033 ^ i : Nat) : Int)
theorem K_pos (i : Nat) : 1 ≤ K i := by
  have : 1 ≤ 1000033 ^ i := Nat.one_le_pow _ _ (by decide)
  unfold K
  omega
theorem K_succ (i : Nat) : K (i + 1) = 1000033 * K i := by
  unfold K
  rw [Nat.pow_succ, Nat.mul_comm, Int.natCast_mul]
  rfl
theorem K_big : 1000000000000000000 + 1000033 ^ 150 + 1000000 ≤ 2 ^ 9000 := Nat.le_of_ble_eq_true (by kernel_rfl)
theorem K_top {i : Nat} (h : i ≤ 150) : K i ≤ ((1000033 ^ 150 : Nat) : Int) := by
  unfold K
  have : 1000033 ^ i ≤ 1000033 ^ 150 := Nat.pow_le_pow_right (by decide) h
  omega
theorem wide_ok {x y : Int} (a : 0 ≤ x) (b : x < 1000000000000000000 + ((1000033 ^ 150 : Nat) : Int) + 1000000) (c : 0 ≤ y) (d : y < 1000000000000000000 + ((1000033 ^ 150 : Nat) : Int) + 1000000) : wide x y = true := by
  have k := K_big
  unfold wide
  apply decide_eq_true
  generalize hT : 2 ^ 9000 = T at k ⊢
  generalize hS : 1000033 ^ 150 = S at k b d
  constructor <;> omega
def dgBody : MS := mIf (mCmp .Gt (mV 4) (mC (.int 0))) (mSeq (mEx (mBm .append (mV 7) (aC (mBin .Mod (mB1 (biA .int) (mV 4)) (mV 3)) a0)))
  (mSet 4 (mBin .FloorDiv (mV 4) (mV 3)))) (mSeq (mSet 8 (mCall (pureX f__law_draw) (aC (mBin .Mult (mBin .Add (mV 6) (mBin .Mult (mC (.int 977)) (mV 5))) (mBin .Add (mBin .Add (mV 6) (mBin .Mult (mC (.int 31)) (mV 5))) (mC (.int 5)))) (aC (mBin .Add (mBin .Mod (mV 5) (mC (.int 9))) (mC (.int 1))) (aC (mC (.int 999983)) a0)))))
  (mSeq (mSet 9 (mCall (pureX f__law_draw) (aC (mBin .Add (mBin .Mult (mBin .Add (mV 6) (mBin .Mult (mC (.int 31)) (mV 5))) (mBin .Add (mV 6) (mC (.int 7)))) (mBin .Mult (mC (.int 977)) (mV 5))) (aC (mBin .Add (mBin .Mod (mV 5) (mC (.int 7))) (mC (.int 2))) (aC (mC (.int 1000003)) a0)))))
  (mEx (mBm .append (mV 7) (aC (mBin .Mod (mB1 (biA .int) (mBin .Add (mBin .Mult (mV 8) (mC (.int 1000003))) (mV 9))) (mV 3)) a0)))))
theorem rem_step {rem b : Int} (h0 : 0 < rem) (h1 : 2 ≤ b) (h2 : b ≤ 1000033) : rem + 1 ≤ (rem / b + 1) * 1000033 := by
  have a : rem < (rem / b + 1) * b := Int.lt_ediv_add_one_mul_self rem (by omega)
  have c : 0 ≤ rem / b := Int.ediv_nonneg (by omega) (by omega)
  have d : (rem / b + 1) * b ≤ (rem / b + 1) * 1000033 := Int.mul_le_mul_of_nonneg_left h2 (by omega)
  omega
theorem dg_turn {i : Nat} (hi : i < 150) {o0 o1 o2 o5 o8 o9 : Option AV} {b rem cell : Int} {f : Nat} {ys : List Int} {h : AH} (h1 : 2 ≤ b) (h2 : b ≤ 1000033) (c0 : 0 ≤ cell) (inv : cell < 1000000000000000000 + (max rem 0 + 1) * K i) (g : h.get f = some (.lst (ys.map AV.int))) (ro : h.ro ≤ f) (nt : h.n ≤ top) (ly : ys.length ≤ i) :
    ∃ (rem' : Int) (o8' o9' : Option AV) (ys' : List Int) (h' : AH), turnF (mtN 5) dgBody (.int i) [o0, o1, o2, some (.int b), some (.int rem), o5, some (.int cell), some (.obj f), o8, o9] h = .nx [o0, o1, o2, some (.int b), some (.int rem'), some (.int i), some (.int cell), some (.obj f), o8', o9'] h' ∧ cell < 1000000000000000000 + (max rem' 0 + 1) * K (i + 1) ∧ h'.get f = some (.lst (ys'.map AV.int)) ∧ h'.ro = h.ro ∧ h'.n = h.n ∧ ys'.length ≤ i + 1 := by
  have lf := AH.get_lt g
  have kp := K_pos i
  by_cases hr : 0 < rem
  · refine ⟨rem / b, o8, o9, ys ++ [rem % b], h.set f (.lst (ys.map AV.int ++ [.int (rem % b)])), turnF_eq (l1 := [o0, o1, o2, some (.int b), some (.int rem), some (.int i), some (.int cell), some (.obj f), o8, o9]) rfl (r_ift (r_cmp (r_v rfl) rfl (gt_tt hr)) (r_seq (r_ex (r_bm (r_v rfl) (isLst_ok g) (r_aC (r_bin (r_b1 (r_v rfl) rfl) (r_v rfl) (mod_ok (by omega))) rfl) (app_ob g ro (by simp; omega)))) (r_set (r_bin (r_v rfl) (r_v rfl) (div_ok ⟨by omega, by omega⟩))))), ?_, ?_, rfl, rfl, by simp; omega⟩
    · have a := rem_step hr h1 h2
      have c : 0 ≤ rem / b := Int.ediv_nonneg (by omega) (by omega)
      have e1 : max rem 0 = rem := by omega
      have e2 : max (rem / b) 0 = rem / b := by omega
      rw [e1] at inv
      rw [e2, K_succ]
      have d : (rem + 1) * K i ≤ (rem / b + 1) * 1000033 * K i := Int.mul_le_mul_of_nonneg_right a (by omega)
      rw [Int.mul_assoc] at d
      omega
    · rw [AH.get_set_same nt lf, List.map_append]
      rfl
  · have e1 : max rem 0 = 0 := by omega
    have kt := K_top (i := i) (by omega)
    have ib : cell < 1000000000000000000 + ((1000033 ^ 150 : Nat) : Int) := by
      rw [e1] at inv
      omega
    obtain ⟨r1, _, _, d1⟩ := draw_ok (c := (cell + 977 * (i : Int)) * (cell + 31 * (i : Int) + 5)) (k := (i : Int) % 9 + 1) (m := 999983) (by decide)
    obtain ⟨r2, _, _, d2⟩ := draw_ok (c := (cell + 31 * (i : Int)) * (cell + 7) + 977 * (i : Int)) (k := (i : Int) % 7 + 2) (m := 1000003) (by decide)
    have w1 : wide (cell + 977 * (i : Int)) (cell + 31 * (i : Int) + 5) = true := wide_ok (by omega) (by omega) (by omega) (by omega)
    have w2 : wide (cell + 31 * (i : Int)) (cell + 7) = true := wide_ok (by omega) (by omega) (by omega) (by omega)
    refine ⟨rem, some (.int r1), some (.int r2), ys ++ [(r1 * 1000003 + r2) % b], h.set f (.lst (ys.map AV.int ++ [.int ((r1 * 1000003 + r2) % b)])), turnF_eq (l1 := [o0, o1, o2, some (.int b), some (.int rem), some (.int i), some (.int cell), some (.obj f), o8, o9]) rfl (r_iff (r_cmp (r_v rfl) rfl (gt_ff hr))
      (r_seq (r_set (r_call (r_aC (r_bin (r_bin (r_v rfl) (r_bin rfl (r_v rfl) (mul_l sm4)) rfl) (r_bin (r_bin (r_v rfl) (r_bin rfl (r_v rfl) (mul_l sm5)) rfl) rfl rfl) (mul_w w1)) (r_aC (r_bin (r_bin (r_v rfl) rfl (mod_ok (by decide))) rfl rfl) (r_aC rfl rfl))) (d1 h)))
      (r_seq (r_set (r_call (r_aC (r_bin (r_bin (r_bin (r_v rfl) (r_bin rfl (r_v rfl) (mul_l sm5)) rfl) (r_bin (r_v rfl) rfl rfl) (mul_w w2)) (r_bin rfl (r_v rfl) (mul_l sm4)) rfl) (r_aC (r_bin (r_bin (r_v rfl) rfl (mod_ok (by decide))) rfl rfl) (r_aC rfl rfl))) (d2 h)))
      (r_ex (r_bm (r_v rfl) (isLst_ok g) (r_aC (r_bin (r_b1 (r_bin (r_bin (r_v rfl) rfl (mul_r sm6)) (r_v rfl) rfl) rfl) (r_v rfl) (mod_ok (by omega))) rfl) (app_ob g ro (by simp; omega))))))), ?_, ?_, rfl, rfl, by simp; omega⟩
    · rw [e1, K_succ] 
      rw [e1] at inv
      omega
    · rw [AH.get_set_same nt lf, List.map_append]
      rfl
end Ev
set_option Elab.async false
set_option linter.all false
set_option maxRecDepth 100000
set_option maxHeartbeats 400000
/-! the law's pool and what it draws -/
namespace Ev
open PySem PySem.Spec PyProof.Rows L2
def rgA (x : AV) (h1 : AH) : R Src := match x with
  | .int i => (match decide (-(2 ^ 62) ≤ i ∧ i < 2 ^ 62) with
    | true => .ok (.rg i.toNat) h1
    | false => .bad)
  | _ => .bad
theorem rg_eq (ma : ME) (l : Loc') (h : AH) : miRg ma l h = (ma l h).bind rgA := rfl
theorem r_rg {ma : ME} {l : Loc'} {h h1 : AH} {x : AV} {s : Src} (b : rgA x h1 = .ok s h1) (a : ma l h = .ok x h1) : miRg ma l h = .ok s h1 := by
  rw [rg_eq, a, bind_ok, b]
theorem rg150 (h : AH) : rgA (.int 150) h = .ok (.rg 150) h := by kernel_rfl
theorem rg6 (h : AH) : rgA (.int 6) h = .ok (.rg 6) h := by kernel_rfl
theorem rg4 (h : AH) : rgA (.int 4) h = .ok (.rg 4) h := by kernel_rfl
theorem rg1 (h : AH) : rgA (.int 1) h = .ok (.rg 1) h := by kernel_rfl
theorem rg2 (h : AH) : rgA (.int 2) h = .ok (.rg 2) h := by kernel_rfl
theorem rg3 (h : AH) : rgA (.int 3) h = .ok (.rg 3) h := by kernel_rfl
theorem rgc {n : Nat} (a : 1 ≤ n) (b : n ≤ 3) (h : AH) : rgA (.int n) h = .ok (.rg n) h := by
  have : n = 1 ∨ n = 2 ∨ n = 3 := by omega
  rcases this with e | e | e <;> subst e
  · exact rg1 h
  · exact rg2 h
  · exact rg3 h
theorem r_en {me : ME} {l : Loc'} {h h1 : AH} {v : AV} {s : Src} (a : me l h = .ok v h1) (b : enOf v h1 = some s) : miEn me l h = .ok s h1 := by
  rw [miEn, a, bind_ok, b]
  rfl
theorem pow_ok (h : AH) : binA .Pow (.int 10) (.int 18) h = .ok (.int 1000000000000000000) h := by kernel_rfl
theorem out_lst {h h1 : AH} {n : Nat} {xs : List AV} (g : h1.get n = some (.lst xs)) (ro : h1.ro ≤ n) (c : AV.clns 0 xs = true) (b : h.n < top) : outP h (.ok (.obj n) h1) = .ok (.obj h.n) (h.push (.lst xs)) := by
  show outL h h1 n = _
  rw [outL, Nat.ble_eq_true_of_le ro]
  dsimp only
  rw [g]
  dsimp only
  rw [c]
  exact alloc_ok b
theorem digits_ok {ns : List Int} {h : AH} {s : Nat} {at_ : Nat} {b : Int} (g : h.get s = some (.lst (ns.map AV.int))) (h1 : 2 ≤ b) (h2 : b ≤ 1000033) (w : h.n < top) : ∃ ys : List Int, ys.length ≤ 150 ∧ pureX f__law_digits [.obj s, .int at_, .int 150, .int b] h = .ok (.obj h.n) (h.push (.lst (ys.map AV.int))) := by
  obtain ⟨H, eH⟩ : ∃ H, H = hO (.lst (ns.map AV.int)) := ⟨_, rfl⟩
  have gH : H.get 0 = some (.lst (ns.map AV.int)) := by rw [eH]; rfl
  have nH : H.n = 1 := by rw [eH]; rfl
  have rH : H.ro = 1 := by rw [eH]; rfl
  have tt : top = 1000000 := rfl
  obtain ⟨c, c0, ec⟩ := cell_ok (k := at_) gH
  have gf : (H.push (.lst [])).get 1 = some (.lst (([] : List Int).map AV.int)) := by
    rw [← nH]
    exact AH.get_push_new (by omega)
  let J : Nat → Loc' → AH → Prop := fun i l g => ∃ (rem : Int) (o5 o8 o9 : Option AV) (ys : List Int), l = [some (.obj 0), some (.int at_), some (.int 150), some (.int b), some (.int rem), o5, some (.int c), some (.obj 1), o8, o9] ∧ c < 1000000000000000000 + (max rem 0 + 1) * K i ∧ g.get 1 = some (.lst (ys.map AV.int)) ∧ g.ro = 1 ∧ g.n = 2 ∧ ys.length ≤ i
  have step : ∀ i l g, i < 150 → J i l g → ∃ l' g', turnF (mtN 5) dgBody (.int i) l g = .nx l' g' ∧ J (i + 1) l' g' := by
    rintro i l g hi ⟨rem, o5, o8, o9, ys, el, inv, gy, ro, nn, ly⟩
    subst el
    obtain ⟨rem', o8', o9', ys', g', e, inv', gy', ro', nn', ly'⟩ := dg_turn (o0 := some (.obj 0)) (o1 := some (.int at_)) (o2 := some (.int 150)) (o5 := o5) (o8 := o8) (o9 := o9) hi h1 h2 c0 inv gy (by omega) (by omega) ly
    exact ⟨_, g', e, rem', _, o8', o9', ys', rfl, inv', gy', ro'.trans ro, nn'.trans nn, ly'⟩
  have k0 : K 0 = 1 := rfl
  obtain ⟨l', g', ef, rem, o5, o8, o9, ys, el, inv, gy, ro, nn, ly⟩ := for_rg (J := J) step 150 0 turns [some (.obj 0), some (.int at_), some (.int 150), some (.int b), some (.int (c - 1000000000000000000)), none, some (.int c), some (.obj 1), none, none] (H.push (.lst [])) rfl (by decide)
    ⟨_, _, _, _, [], rfl, by rw [k0]; omega, gf, rH, by show H.n + 1 = 2; omega, Nat.le_refl _⟩
  subst el
  refine ⟨ys, ly, ?_⟩
  rw [pureX_lst g rfl (clns_ints ns), ← eH]
  have e : f__law_digits [.obj 0, .int at_, .int 150, .int b] H = .ok (.obj 1) g' := by
    have e0 : m__law_digits [some (.obj 0), some (.int at_), some (.int 150), some (.int b), none, none, none, none, none, none] H = .rt (.obj 1) g' := by
      refine r_seq (r_par (r_call (r_aC (r_v rfl) (r_aC (r_v rfl) rfl)) ec) (r_lst (vs := []) rfl (by decide) (by omega))) ?_
      rw [nH]
      exact r_seq (r_set (r_bin (r_v rfl) (r_bin rfl rfl (pow_ok _)) rfl)) (r_seq (r_for (r_rg (rg150 _) (r_v rfl)) ef) (r_ret (r_v rfl)))
    exact r_fn (np := 4) (n := 10) (args := [.obj 0, .int at_, .int 150, .int b]) rfl e0
  rw [e]
  exact out_lst gy (by omega) (clns_ints ys) w
theorem bs_at (h : AH) (i : Nat) : Src.at (.ent [.int 1009, .int 1013, .int 1000033]) h i = some ([AV.tup [.int 0, .int 1009], .tup [.int 1, .int 1013], .tup [.int 2, .int 1000033]])[i]? := by
  match i with
  | 0 => rfl
  | 1 => rfl
  | 2 => rfl
  | n + 3 => rfl
theorem pool_ok {ns : List Int} {h : AH} {s : Nat} (g : h.get s = some (.lst (ns.map AV.int))) (w : h.n < top) : ∃ ys : List Int, pureX f__law_pool [.obj s, .tup [.int 1009, .int 1013, .int 1000033]] h = .ok (.obj h.n) (h.push (.lst (ys.map AV.int))) := by
  obtain ⟨H, eH⟩ : ∃ H, H = hO (.lst (ns.map AV.int)) := ⟨_, rfl⟩
  have gH : H.get 0 = some (.lst (ns.map AV.int)) := by rw [eH]; rfl
  have nH : H.n = 1 := by rw [eH]; rfl
  have rH : H.ro = 1 := by rw [eH]; rfl
  have tt : top = 1000000 := rfl
  let J : List AV → Loc' → AH → Prop := fun r l g => ∃ (q : List (Nat × Int)) (f : Nat) (o3 o4 : Option AV) (ys : List Int), r = q.map (fun p => AV.tup [.int p.1, .int p.2]) ∧ (∀ p ∈ q, 2 ≤ p.2 ∧ p.2 ≤ 1000033) ∧ l = [some (.obj 0), some (.tup [.int 1009, .int 1013, .int 1000033]), some (.obj f), o3, o4] ∧ g.get f = some (.lst (ys.map AV.int)) ∧ g.get 0 = some (.lst (ns.map AV.int)) ∧ 1 ≤ f ∧ g.ro = 1 ∧ g.n + 2 * q.length ≤ 10 ∧ ys.length + 150 * q.length ≤ 450
  have step : ∀ x r l g, J (x :: r) l g → ∃ l' g', turnF (mtT (mtC (mtN 3) (mtC (mtN 4) mt0))) (mSet 2 (mBin .Add (mV 2) (mCall (pureX f__law_digits) (aC (mV 0) (aC (mV 3) (aC (mC (.int 150)) (aC (mV 4) a0))))))) x l g = .nx l' g' ∧ J r l' g' := by
    rintro x r l g1 ⟨q, f, o3, o4, ys, er, hq, el, gf, g0, hf, ro, nn, ly⟩
    cases q with
    | nil => cases er
    | cons p q =>
      obtain ⟨a, b⟩ := p
      cases er
      subst el
      simp only [List.length_cons] at nn ly
      obtain ⟨b1, b2⟩ := hq (a, b) List.mem_cons_self
      obtain ⟨zs, lz, ez⟩ := digits_ok (at_ := a) (b := b) g0 b1 b2 (by omega)
      have lf := AH.get_lt gf
      have l0 := AH.get_lt g0
      have t2 : (g1.push (.lst (zs.map AV.int))).n < top := by show g1.n + 1 < top; omega
      have ad := add_ob ((AH.get_push_old (Nat.ne_of_lt lf)).trans gf) (AH.get_push_new (h := g1) (o := .lst (zs.map AV.int)) (by omega)) (by simp; omega) t2
      rw [← List.map_append] at ad
      refine ⟨_, _, turnF_eq (l1 := [some (.obj 0), some (.tup [.int 1009, .int 1013, .int 1000033]), some (.obj f), some (.int a), some (.int b)]) rfl (r_set (r_bin (r_v rfl) (r_call (r_aC (r_v rfl) (r_aC (r_v rfl) (r_aC rfl (r_aC (r_v rfl) rfl)))) ez) ad)), q, g1.n + 1, _, _, ys ++ zs, rfl, fun p z => hq p (List.mem_cons_of_mem _ z), rfl, AH.get_push_new t2, ?_, by omega, ro, by show g1.n + 1 + 1 + _ ≤ 10; omega, by simp; omega⟩
      exact (AH.get_push_old (by show 0 ≠ g1.n + 1; omega)).trans ((AH.get_push_old (by omega)).trans g0)
  obtain ⟨l', g', ef, q, f, o3, o4, ys, er, hq, el, gf, g0, hf, ro, nn, ly⟩ := for_tp (J := J) (bs_at) step [AV.tup [.int 0, .int 1009], .tup [.int 1, .int 1013], .tup [.int 2, .int 1000033]] 0 turns [some (.obj 0), some (.tup [.int 1009, .int 1013, .int 1000033]), some (.obj 1), none, none] (H.push (.lst [])) rfl (by decide)
    ⟨[(0, 1009), (1, 1013), (2, 1000033)], 1, none, none, [], rfl, by intro p hp; simp at hp; rcases hp with e | e | e <;> subst e <;> decide, rfl, by rw [← nH]; exact AH.get_push_new (by omega), (AH.get_push_old (by omega)).trans gH, Nat.le_refl _, rH, by show H.n + 1 + 2 * 3 ≤ 10; omega, by decide⟩
  subst el
  refine ⟨ys, ?_⟩
  rw [pureX_lst g rfl (clns_ints ns), ← eH]
  have e : f__law_pool [.obj 0, .tup [.int 1009, .int 1013, .int 1000033]] H = .ok (.obj f) g' := by
    have e0 : m__law_pool [some (.obj 0), some (.tup [.int 1009, .int 1013, .int 1000033]), none, none, none] H = .rt (.obj f) g' := by
      refine r_seq (r_set (r_lst (vs := []) rfl (by decide) (by omega))) ?_
      rw [nH]
      exact r_seq (r_for (r_en (r_v rfl) rfl) ef) (r_ret (r_v rfl))
    exact r_fn (np := 2) (n := 5) (args := [.obj 0, .tup [.int 1009, .int 1013, .int 1000033]]) rfl e0
  rw [e]
  exact out_lst gf (by omega) (clns_ints ys) w
/-! ### what is drawn -/
theorem tk_ok {d : Nat} {h : AH} {m : Int} (D : Dr d h) (hm : 0 < m) (hn : h.n < top) : ∃ r h', f__law_take [.obj d, .int m] h = .ok (.int r) h' ∧ 0 ≤ r ∧ r < m ∧ Go d 1 h h' := take_ok D hm hn
theorem modes_lst (h : AH) : pureX f__law_all_modes [] h = alloc h (.lst (M [0, 1, 2, 3, 4, 5])) := by kernel_rfl
theorem mode_ok {d : Nat} {h : AH} (D : Dr d h) (hn : h.n + 2 ≤ top) : ∃ i h', f__law_mode [.obj d] h = .ok (md i) h' ∧ i < 6 ∧ Go d 2 h h' := by
  have G := Go.push D (.lst (M [0, 1, 2, 3, 4, 5]))
  obtain ⟨r, h', e, r0, r1, G'⟩ := tk_ok (m := 6) G.dr (by decide) (by show h.n + 1 < top; omega)
  have ld := D.lt
  have g : h'.get h.n = some (.lst (M [0, 1, 2, 3, 4, 5])) := (G'.same h.n (Nat.lt_succ_self _) (by omega)).trans (AH.get_push_new (by omega))
  obtain ⟨i, ei⟩ : ∃ i : Nat, r = i := ⟨r.toNat, by omega⟩
  subst ei
  have hi : i < 6 := by omega
  have es : subA (.obj h.n) (.int i) h' = .ok (md i) h' := by
    unfold subA
    dsimp only
    rw [g]
    dsimp only
    rw [atI_nat (v := md i)]
    · rfl
    · have : i = 0 ∨ i = 1 ∨ i = 2 ∨ i = 3 ∨ i = 4 ∨ i = 5 := by omega
      rcases this with e | e | e | e | e | e <;> subst e <;> rfl
  exact ⟨i, h', r_fn rfl (r_ret (r_sub ((modes_lst h).trans (alloc_ok (by omega))) (r_call (r_aC (r_v rfl) (r_aC rfl rfl)) e) es)), hi, G.trans G'⟩
theorem ofM : ∀ {ys : List AV}, (∀ y ∈ ys, ∃ i, i < 6 ∧ y = md i) → ∃ ms, ys = M ms ∧ C6 ms ∧ ms.length = ys.length
  | [], _ => ⟨[], rfl, C6.nil, rfl⟩
  | y :: r, h => by
    obtain ⟨i, hi, e⟩ := h y List.mem_cons_self
    obtain ⟨ms, e2, c, l⟩ := ofM (ys := r) fun z q => h z (List.mem_cons_of_mem _ q)
    exact ⟨i :: ms, by rw [e, e2]; rfl, C6.cons hi c, by simp [l]⟩
theorem cp_sub {r : Int} (h0 : 0 ≤ r) (h1 : r < 3) (h : AH) : ∃ k, k < 3 ∧ subA (.tup [.str "plain", .str "empty", .str "check"]) (.int r) h = .ok (.str (cpS k)) h := by
  have : r = 0 ∨ r = 1 ∨ r = 2 := by omega
  rcases this with e | e | e <;> subst e
  · exact ⟨0, by decide, rfl⟩
  · exact ⟨1, by decide, rfl⟩
  · exact ⟨2, by decide, rfl⟩
def nt (ms : List Nat) (k : Nat) (p q : Int) : AV := .tup [.tup (M ms), .str (cpS k), .tup [.int p, .int q]]
theorem net_ok {d : Nat} {h : AH} (D : Dr d h) (hn : h.n + 14 ≤ top) : ∃ ms k p q h', f__law_net [.obj d, .int 3] h = .ok (nt ms k p q) h' ∧ Ms ms ∧ k < 3 ∧ (1 ≤ p ∧ p ≤ 9) ∧ (1 ≤ q ∧ q ≤ 9) ∧ Go d 14 h h' := by
  obtain ⟨r1, h1, e1, a1, b1, G1⟩ := tk_ok (m := 3) D (by decide) (by omega)
  have n1 := G1.n2
  obtain ⟨cr, ecr⟩ : ∃ cr : Nat, 1 + r1 = cr := ⟨(1 + r1).toNat, by omega⟩
  have hc : 1 ≤ cr ∧ cr ≤ 3 := by omega
  have cm : ∃ ys h2, compLoop (.rg cr) (turnL [4] (mtN 4) mYes (mIte (mCmp .Gt (mCall f__law_take (aC (mV 0) (aC (mC (.int 4)) a0))) (mC (.int 0))) (mTup (aC (mC (.str "old")) (aC (mC (.str "old")) a0))) (mCall f__law_mode (aC (mV 0) a0))) [some (.obj d), some (.int 3), some (.int cr), none, none]) turns 0 h1 = .ok ys h2 ∧ Outs (fun _ ys => ∃ y, ys = [y] ∧ ∃ i, i < 6 ∧ y = md i) (rgL cr) ys ∧ Go d (cr * 3) h1 h2 := by
    refine comp_rg (fun x g Dg bg => ?_) (by unfold turns; omega) G1.dr (by omega)
    obtain ⟨r, g1, e, a, b, G⟩ := tk_ok (m := 4) Dg (by decide) (by omega)
    have ng := G.n2
    by_cases hr : 0 < r
    · refine ⟨[md 0], g1, ?_, ⟨md 0, rfl, 0, by decide, rfl⟩, G.mono (by decide)⟩
      have ev : (mIte (mCmp .Gt (mCall f__law_take (aC (mV 0) (aC (mC (.int 4)) a0))) (mC (.int 0))) (mTup (aC (mC (.str "old")) (aC (mC (.str "old")) a0))) (mCall f__law_mode (aC (mV 0) a0))) [some (.obj d), some (.int 3), some (.int cr), none, some x] g = .ok (md 0) g1 :=
        r_itet (r_cmp (r_call (r_aC (r_v rfl) (r_aC rfl rfl)) e) rfl (gt_tt hr)) (r_tup rfl (by decide))
      show ((mIte (mCmp .Gt (mCall f__law_take (aC (mV 0) (aC (mC (.int 4)) a0))) (mC (.int 0))) (mTup (aC (mC (.str "old")) (aC (mC (.str "old")) a0))) (mCall f__law_mode (aC (mV 0) a0))) [some (.obj d), some (.int 3), some (.int cr), none, some x] g).bind (fun v h4 => .ok [v] h4) = _
      rw [ev]
      rfl
    · obtain ⟨i, g2, e2, hi, G2⟩ := mode_ok G.dr (by omega)
      refine ⟨[md i], g2, ?_, ⟨md i, rfl, i, hi, rfl⟩, G.trans G2⟩
      have ev : (mIte (mCmp .Gt (mCall f__law_take (aC (mV 0) (aC (mC (.int 4)) a0))) (mC (.int 0))) (mTup (aC (mC (.str "old")) (aC (mC (.str "old")) a0))) (mCall f__law_mode (aC (mV 0) a0))) [some (.obj d), some (.int 3), some (.int cr), none, some x] g = .ok (md i) g2 :=
        r_itef (r_cmp (r_call (r_aC (r_v rfl) (r_aC rfl rfl)) e) rfl (gt_ff hr)) (r_call (r_aC (r_v rfl) rfl) e2)
      show ((mIte (mCmp .Gt (mCall f__law_take (aC (mV 0) (aC (mC (.int 4)) a0))) (mC (.int 0))) (mTup (aC (mC (.str "old")) (aC (mC (.str "old")) a0))) (mCall f__law_mode (aC (mV 0) a0))) [some (.obj d), some (.int 3), some (.int cr), none, some x] g).bind (fun v h4 => .ok [v] h4) = _
      rw [ev]
      rfl
  obtain ⟨ys, h2, e2, o2, G2⟩ := cm
  obtain ⟨ly, py⟩ := o2.each
  have lr : (rgL cr).length = cr := by simp [rgL]
  obtain ⟨ms, em, cms, lms⟩ := ofM py
  subst em
  have n2 := G2.n2
  have c9 : cr * 3 ≤ 9 := by omega
  have G3 := Go.push G2.dr (.lst (M ms))
  have t2 : h2.n < top := by omega
  obtain ⟨r4, h4, e4, a4, b4, G4⟩ := tk_ok (m := 3) G3.dr (by decide) (by show h2.n + 1 < top; omega)
  have n4 := G4.n2
  have n3 : (h2.push (.lst (M ms))).n = h2.n + 1 := rfl
  obtain ⟨r5, h5, e5, a5, b5, G5⟩ := tk_ok (m := 9) G4.dr (by decide) (by omega)
  have n5 := G5.n2
  obtain ⟨r6, h6, e6, a6, b6, G6⟩ := tk_ok (m := 9) G5.dr (by decide) (by omega)
  obtain ⟨k, hk, ek⟩ := cp_sub a4 b4 h4
  refine ⟨ms, k, 1 + r5, 1 + r6, h6, ?_, ⟨by omega, by omega, cms⟩, hk, ⟨by omega, by omega⟩, ⟨by omega, by omega⟩, (((((G1.trans G2).trans G3).trans G4).trans G5).trans G6).mono (by omega)⟩
  have s1 : (mSet 2 (mBin .Add (mC (.int 1)) (mCall f__law_take (aC (mV 0) (aC (mV 1) a0))))) [some (.obj d), some (.int 3), none, none, none] h = .nx [some (.obj d), some (.int 3), some (.int cr), none, none] h1 := by
    rw [← ecr]
    exact r_set (r_bin rfl (r_call (r_aC (r_v rfl) (r_aC (r_v rfl) rfl)) e1) rfl)
  exact r_fn rfl (r_seq s1 (r_seq (r_set (r_b1 (r_lc (r_rg (rgc hc.1 hc.2 _) (r_v rfl)) e2 (by omega) t2) (tuple_ob (AH.get_push_new t2)))) (r_ret (r_tup (r_aC (r_v rfl) (r_aC (r_sub (r_tup rfl (by decide)) (r_call (r_aC (r_v rfl) (r_aC rfl rfl)) e4) ek) (r_aC (r_tup (r_aC (r_bin rfl (r_call (r_aC (r_v rfl) (r_aC rfl rfl)) e5) rfl) (r_aC (r_bin rfl (r_call (r_aC (r_v rfl) (r_aC rfl rfl)) e6) rfl) rfl)) (by simp)) rfl))) (by simp)))))
end Ev
set_option Elab.async false
set_option linter.all false
set_option maxRecDepth 100000
set_option maxHeartbeats 400000
/-! houses: made and compared -/
namespace Ev
open PySem PySem.Spec PyProof.Rows L2
theorem lenM (ms : List Nat) (h : AH) : g1 lenA [.tup (M ms)] h = .ok (.int ms.length) h := by
  show R.ok (AV.int ((M ms).length : Nat)) h = _
  rw [M, List.length_map]
theorem le_tt {i j : Int} {h : AH} (q : i ≤ j) : cmpA .LtE (.int i) (.int j) h = .ok (.bl true) h := by
  show R.ok (AV.bl (decide (i ≤ j))) h = _
  rw [decide_eq_true q]
theorem r_chn {op op' : CmpOp} {ma mb mc : ME} {l : Loc'} {h h1 h2 h3 h4 : AH} {x y z : AV} {r : R AV} (a : ma l h = .ok x h1) (b : mb l h1 = .ok y h2) (c : cmpA op x y h2 = .ok (.bl true) h3) (d : mc l h3 = .ok z h4) (e : cmpA op' y z h4 = r) : mChn op op' ma mb mc l h = r := by
  rw [mChn, a, bind_ok, b, bind_ok, c, asB_ok]
  dsimp only
  rw [d, bind_ok, e]
theorem r_isi {ma : ME} {c : Cl} {l : Loc'} {h h1 : AH} {v : AV} {t : Bool} (a : ma l h = .ok v h1) (b : isiA v c h1 = some t) : mIsi ma c l h = .ok (.bl t) h1 := by
  rw [mIsi, a, bind_ok, b]
  rfl
theorem ci_ok (k : Nat) (h : AH) : cmpA .NotIn (.str (cpS k)) v_COPIERS h = .ok (.bl false) h := by
  match k with
  | 0 => kernel_rfl
  | 1 => kernel_rfl
  | k + 2 => kernel_rfl
theorem ii_ok {p : Int} (a : 1 ≤ p) (b : p ≤ 9) (h : AH) : pureX f_is_integer [.int p, .int 1, .int 9] h = .ok (.bl true) h := by
  have : p = 1 ∨ p = 2 ∨ p = 3 ∨ p = 4 ∨ p = 5 ∨ p = 6 ∨ p = 7 ∨ p = 8 ∨ p = 9 := by omega
  rcases this with e | e | e | e | e | e | e | e | e <;> subst e <;> kernel_rfl
theorem r_att {mo mv : ME} {alts : List (Nat × Nat)} {l : Loc'} {h h1 h2 h3 : AH} {v x u : AV} (a : mv l h = .ok v h1) (b : mo l h1 = .ok x h2) (c : setA x alts v h2 = .ok u h3) : mAtt mo alts mv l h = .nx l h3 := by
  rw [mAtt, a, toS_ok, b, toS_ok, c, toS_ok]
theorem alt_self (c i : Nat) : altOf c [(c, i)] = some i := by
  show (match Nat.beq c c with | true => some i | false => none) = _
  rw [show Nat.beq c c = true by simp]
theorem set_ok {h : AH} {n c i : Nat} {fs : List (Option AV)} {y : AV} (g : h.get n = some (.ins c fs)) (ro : h.ro ≤ n) : setA (.obj n) [(c, i)] y h = .ok .non (h.set n (.ins c (putS' i y fs))) := by
  unfold setA
  dsimp only
  rw [g]
  dsimp only
  rw [alt_self]
  dsimp only
  rw [Nat.ble_eq_true_of_le ro]
abbrev hsO (ms : List Nat) (k : Nat) (p q : Int) : AO := .ins 0 [some (.str (cpS k)), some (.tup [.int p, .int q]), some (.tup (M ms))]
theorem nq22 (p q : Int) (h : AH) : cmpA .NotEq (.int 2) (.int 2) h = .ok (.bl false) h := by kernel_rfl
theorem init_ok {ms : List Nat} {k n : Nat} {p q : Int} {h : AH} (m : Ms ms) (hp : 1 ≤ p ∧ p ≤ 9) (hq : 1 ≤ q ∧ q ≤ 9) (g : h.get n = some (.ins 0 [])) (ro : h.ro ≤ n) (w : h.n < top) :
    ∃ h', f_House___init__ [.obj n, .tup (M ms), .str (cpS k), .tup [.int p, .int q]] h = .ok .non h' ∧ h'.get n = some (hsO ms k p q) ∧ h'.n = h.n + 1 ∧ h'.ro = h.ro ∧ ∀ j, j < h.n → j ≠ n → h'.get j = h.get j := by
  have ln := AH.get_lt g
  have l1 := m.l1
  have l2 := m.l2
  have c1 : compLoop (.tp [.int p, .int q]) (turnL [4] (mtN 4) mYes (mCall (pureX f_is_integer) (aC (mV 4) (aC (mC (.int 1)) (aC (mC v_MAX_PRICE) a0)))) [some (.obj n), some (.tup (M ms)), some (.str (cpS k)), some (.tup [.int p, .int q]), none]) turns 0 h = .ok [.bl true, .bl true] h := by
    refine comp_pure (xs := [.int p, .int q]) (f := fun _ => [.bl true]) (fun _ => rfl) (fun x hx => ?_) [.int p, .int q] 0 turns rfl (by simp [turns])
    obtain ⟨i, e, hi⟩ : ∃ i : Int, x = .int i ∧ (1 ≤ i ∧ i ≤ 9) := by
      simp at hx
      rcases hx with e | e
      · exact ⟨p, e, hp⟩
      · exact ⟨q, e, hq⟩
    subst e
    have e : (mCall (pureX f_is_integer) (aC (mV 4) (aC (mC (.int 1)) (aC (mC v_MAX_PRICE) a0)))) [some (.obj n), some (.tup (M ms)), some (.str (cpS k)), some (.tup [.int p, .int q]), some (.int i)] h = .ok (.bl true) h := r_call (r_aC (r_v rfl) rfl) (ii_ok hi.1 hi.2 h)
    show ((mCall (pureX f_is_integer) (aC (mV 4) (aC (mC (.int 1)) (aC (mC v_MAX_PRICE) a0)))) [some (.obj n), some (.tup (M ms)), some (.str (cpS k)), some (.tup [.int p, .int q]), some (.int i)] h).bind (fun v h4 => .ok [v] h4) = _
    rw [e]
    rfl
  obtain ⟨h1, eh1⟩ : ∃ h1, h1 = h.push (.lst [.bl true, .bl true]) := ⟨_, rfl⟩
  have all1 : g1 (b1A .all) [.obj h.n] h1 = .ok (.bl true) h1 := by
    have gl : h1.get h.n = some (.lst [.bl true, .bl true]) := by rw [eh1]; exact AH.get_push_new w
    show b1A .all (.obj h.n) h1 = _
    unfold b1A
    dsimp only
    rw [gl]
    rfl
  have n1 : h1.n = h.n + 1 := by rw [eh1]; rfl
  have r1 : h1.ro = h.ro := by rw [eh1]; rfl
  have g1' : h1.get n = some (.ins 0 []) := by rw [eh1]; exact (AH.get_push_old (Nat.ne_of_lt ln)).trans g
  have t1 : h1.n ≤ top := by omega
  have p1 : setA (.obj n) [(0, 2)] (.tup (M ms)) h1 = .ok .non (h1.set n (.ins 0 [none, none, some (.tup (M ms))])) := set_ok g1' (by omega)
  obtain ⟨h2, eh2⟩ : ∃ h2, h2 = h1.set n (.ins 0 [none, none, some (.tup (M ms))]) := ⟨_, rfl⟩
  have g2 : h2.get n = some (.ins 0 [none, none, some (.tup (M ms))]) := by rw [eh2]; exact AH.get_set_same t1 (by omega)
  have n2 : h2.n = h1.n := by rw [eh2]; rfl
  have r2 : h2.ro = h1.ro := by rw [eh2]; rfl
  have p2 : setA (.obj n) [(0, 0)] (.str (cpS k)) h2 = .ok .non (h2.set n (.ins 0 [some (.str (cpS k)), none, some (.tup (M ms))])) := set_ok g2 (by omega)
  obtain ⟨h3, eh3⟩ : ∃ h3, h3 = h2.set n (.ins 0 [some (.str (cpS k)), none, some (.tup (M ms))]) := ⟨_, rfl⟩
  have g3 : h3.get n = some (.ins 0 [some (.str (cpS k)), none, some (.tup (M ms))]) := by rw [eh3]; exact AH.get_set_same (by omega) (by omega)
  have n3 : h3.n = h2.n := by rw [eh3]; rfl
  have r3 : h3.ro = h2.ro := by rw [eh3]; rfl
  have p3 : setA (.obj n) [(0, 1)] (.tup [.int p, .int q]) h3 = .ok .non (h3.set n (hsO ms k p q)) := set_ok g3 (by omega)
  rw [← eh2] at p1
  rw [← eh3] at p2
  refine ⟨h3.set n (hsO ms k p q), ?_, AH.get_set_same (by omega) (by omega), by show h3.n = _; omega, by show h3.ro = _; omega, fun j hj hne => ?_⟩
  · have s1 : (mIf (orM (mNot (mIsi (mV 1) (.ty .tuple))) (orM (mNot (mChn .LtE .LtE (mC (.int 1)) (mB1 (g1 lenA) (mV 1)) (mC v_MAX_SERVERS))) (mNot (mCall (pureX f_are_modes) (aC (mV 1) (aC (mB1 (g1 lenA) (mV 1)) a0)))))) mNever mNx) [some (.obj n), some (.tup (M ms)), some (.str (cpS k)), some (.tup [.int p, .int q]), none] h = .nx [some (.obj n), some (.tup (M ms)), some (.str (cpS k)), some (.tup [.int p, .int q]), none] h :=
      r_iff (r_orf (r_not (b := true) (r_isi (r_v rfl) rfl)) (r_orf (r_not (b := true) (r_chn rfl (r_b1 (r_v rfl) (lenM ms h)) (le_tt (by omega)) rfl (le_tt (by omega)))) (r_not (b := true) (r_call (r_aC (r_v rfl) (r_aC (r_b1 (r_v rfl) (lenM ms h)) rfl)) (are_ok m h))))) rfl
    have s2 : (mIf (orM (mNot (mIsi (mV 2) (.ty .str))) (mCmp .NotIn (mV 2) (mC v_COPIERS))) mNever mNx) [some (.obj n), some (.tup (M ms)), some (.str (cpS k)), some (.tup [.int p, .int q]), none] h = .nx [some (.obj n), some (.tup (M ms)), some (.str (cpS k)), some (.tup [.int p, .int q]), none] h :=
      r_iff (r_orf (r_not (b := true) (r_isi (r_v rfl) rfl)) (r_cmp (r_v rfl) rfl (ci_ok k h))) rfl
    have s3 : (mIf (orM (mNot (mIsi (mV 3) (.ty .tuple))) (mCmp .NotEq (mB1 (g1 lenA) (mV 3)) (mC (.int 2)))) mNever mNx) [some (.obj n), some (.tup (M ms)), some (.str (cpS k)), some (.tup [.int p, .int q]), none] h = .nx [some (.obj n), some (.tup (M ms)), some (.str (cpS k)), some (.tup [.int p, .int q]), none] h :=
      r_iff (r_orf (r_not (b := true) (r_isi (r_v rfl) rfl)) (r_cmp (r_b1 (r_v rfl) rfl) rfl (nq22 p q h))) rfl
    have s4 : (mIf (mNot (mB1 (g1 (b1A .all)) (mLc [4] (mtN 4) (miOf (mV 3)) mYes (mCall (pureX f_is_integer) (aC (mV 4) (aC (mC (.int 1)) (aC (mC v_MAX_PRICE) a0))))))) mNever mNx) [some (.obj n), some (.tup (M ms)), some (.str (cpS k)), some (.tup [.int p, .int q]), none] h = .nx [some (.obj n), some (.tup (M ms)), some (.str (cpS k)), some (.tup [.int p, .int q]), none] h1 := by
      refine r_iff (r_not (b := true) (r_b1 (r_lc (r_of (r_v rfl) rfl) c1 (by decide) w) ?_)) rfl
      rw [← eh1]
      exact all1
    exact r_fn rfl (r_seq s1 (r_seq s2 (r_seq s3 (r_seq s4 (r_seq (r_att (r_v rfl) (r_v rfl) p1) (r_seq (r_att (r_v rfl) (r_v rfl) p2) (r_att (r_v rfl) (r_v rfl) p3)))))))
  · rw [AH.get_set_ne hne, eh3, AH.get_set_ne hne, eh2, AH.get_set_ne hne, eh1]
    exact AH.get_push_old (Nat.ne_of_lt hj)
theorem r_new {c : Nat} {F : Fn} {ms : Loc' → AH → R (List AV)} {l : Loc'} {h h1 h3 : AH} {vs : List AV} (a : ms l h = .ok vs h1) (w : h1.n < top) (b : F (.obj h1.n :: vs) (h1.push (.ins c [])) = .ok .non h3) : newM c F ms l h = .ok (.obj h1.n) h3 := by
  rw [newM, a, bind_ok, alloc_ok w, bind_ok, b, bind_ok]
theorem new_ok {ms : List Nat} {k d : Nat} {p q : Int} {h : AH} (m : Ms ms) (hp : 1 ≤ p ∧ p ≤ 9) (hq : 1 ≤ q ∧ q ≤ 9) (D : Dr d h) (w : h.n + 2 ≤ top) :
    ∃ h', f_House___init__ [.obj h.n, .tup (M ms), .str (cpS k), .tup [.int p, .int q]] (h.push (.ins 0 [])) = .ok .non h' ∧ h'.get h.n = some (hsO ms k p q) ∧ Go d 2 h h' := by
  have ld := D.lt
  obtain ⟨h', e, g, n1, r1, sm⟩ := init_ok (k := k) (h := h.push (.ins 0 [])) (n := h.n) m hp hq (AH.get_push_new (by omega)) (by show h.ro ≤ h.n; have := D.w; omega) (by show h.n + 1 < top; omega)
  have n0 : (h.push (.ins 0 [])).n = h.n + 1 := rfl
  have sm' : ∀ j, j < h.n → h'.get j = h.get j := fun j hj => (sm j (by omega) (by omega)).trans (AH.get_push_old (by omega))
  refine ⟨h', e, g, by omega, by omega, r1, fun j hj _ => sm' j hj, ?_⟩
  obtain ⟨w1, is, gi⟩ := D
  refine ⟨?_, is, (sm' d ld).trans gi⟩
  rw [r1]
  exact w1
/-! ### equality -/
def mdd : Nat → PyData
  | 0 => .tuple [.str "old", .str "old"]
  | 1 => .tuple [.str "old", .str "both"]
  | 2 => .tuple [.str "old", .str "new"]
  | 3 => .tuple [.str "new", .str "old"]
  | 4 => .tuple [.str "new", .str "both"]
  | _ => .tuple [.str "new", .str "new"]
theorem dat_md (i : Nat) : (md i).dat = some (mdd i) := six (P := fun i => (md i).dat = some (mdd i)) rfl rfl rfl rfl rfl (fun _ => rfl) i
theorem eqv_md : ∀ i < 6, ∀ j < 6, PyData.eqv (mdd i) (mdd j) = Nat.beq i j := by decide +kernel
theorem lay_md : ∀ i < 6, PyData.canLay0 (mdd i) = true := by decide +kernel
theorem dep_md : ∀ i < 6, PyData.depth (mdd i) = 1 := by decide +kernel
theorem dats_M : ∀ xs : List Nat, AV.dats (M xs) = some (xs.map mdd)
  | [] => rfl
  | i :: r => by
    show (match AV.dat (md i) with | some d => (AV.dats (M r)).map (d :: ·) | none => none) = _
    rw [dat_md, dats_M r]
    rfl
theorem eqvAll_M : ∀ {xs ys : List Nat}, C6 xs → C6 ys → PyData.eqvAll (xs.map mdd) (ys.map mdd) = beqL xs ys
  | [], [], _, _ => rfl
  | x :: xs, y :: ys, a, b => by
    show (PyData.eqv (mdd x) (mdd y) && PyData.eqvAll (xs.map mdd) (ys.map mdd)) = _
    rw [eqv_md x a.hd y b.hd, eqvAll_M a.tl b.tl]
    rfl
  | [], _ :: _, _, _ => rfl
  | _ :: _, [], _, _ => rfl
theorem lay_M : ∀ {xs : List Nat}, C6 xs → PyData.canLayAll0 (xs.map mdd) = true
  | [], _ => rfl
  | x :: xs, a => by
    show (PyData.canLay0 (mdd x) && PyData.canLayAll0 (xs.map mdd)) = true
    rw [lay_md x a.hd, lay_M a.tl]
    rfl
theorem dep_M : ∀ {xs : List Nat}, C6 xs → PyData.depthAll (xs.map mdd) ≤ 1
  | [], _ => Nat.zero_le _
  | x :: xs, a => by
    show max (PyData.depth (mdd x)) (PyData.depthAll (xs.map mdd)) ≤ 1
    rw [dep_md x a.hd]
    have := dep_M a.tl
    omega
theorem beqL_refl : ∀ xs : List Nat, beqL xs xs = true
  | [] => rfl
  | x :: r => by
    show (Nat.beq x x && beqL r r) = true
    rw [beqL_refl r, show Nat.beq x x = true by simp]
    rfl
theorem lay_cp (k : Nat) : PyData.canLay0 (.str (cpS k)) = true := by
  match k with
  | 0 => kernel_rfl
  | 1 => kernel_rfl
  | k + 2 => kernel_rfl
def partsD (ms : List Nat) (k : Nat) (p q : Int) : List PyData := [.tuple (ms.map mdd), .str (cpS k), .tuple [.int p, .int q]]
theorem dats_parts (ms : List Nat) (k : Nat) (p q : Int) : AV.dats [.tup (M ms), .str (cpS k), .tup [.int p, .int q]] = some (partsD ms k p q) := by
  show (match (AV.dats (M ms)).map PyData.tuple with | some d => (AV.dats [.str (cpS k), .tup [.int p, .int q]]).map (d :: ·) | none => none) = _
  rw [dats_M]
  rfl
theorem shaped_parts {ms : List Nat} (c : C6 ms) (k : Nat) (p q : Int) : SeqAt.shaped (.list (partsD ms k p q)) = true := by
  show ((PyData.canLayAll0 (ms.map mdd) && (PyData.canLay0 (.str (cpS k)) && true)) && decide (max (PyData.depthAll (ms.map mdd) + 1) (max 0 (max 1 0)) + 1 ≤ 64)) = true
  have := dep_M c
  rw [lay_M c, lay_cp, decide_eq_true (by omega)]
  rfl
theorem parts_ok {h : AH} {a k : Nat} {ms : List Nat} {p q : Int} (g : h.get a = some (hsO ms k p q)) (w : h.n < top) : f_House_all_parts [.obj a] h = .ok (.obj h.n) (h.push (.lst [.tup (M ms), .str (cpS k), .tup [.int p, .int q]])) :=
  r_fn rfl (r_ret (r_lst (r_aC (r_attr (r_v rfl) (att_ok g rfl)) (r_aC (r_attr (r_v rfl) (att_ok g rfl)) (r_aC (r_attr (r_v rfl) (att_ok g rfl)) rfl))) (by simp) w))
theorem ins_ok {h : AH} {n c : Nat} {fs : List (Option AV)} (g : h.get n = some (.ins c fs)) : insOf h (.obj n) = some (c, fs) := by
  unfold insOf
  dsimp only
  rw [g]
theorem r_met0 {t : Tab} {ma : ME} {l : Loc'} {h h1 : AH} {n c k : Nat} {fs : List (Option AV)} {r : R AV} (a : ma l h = .ok (.obj n) h1) (g : h1.get n = some (.ins c fs)) (b : t.fn k [.obj n] h1 = r) : mMet0 t ma [(c, k)] l h = r := by
  rw [mMet0, a, bind_ok, ins_ok g]
  dsimp only
  rw [alt_self]
  exact b
theorem r_prp {t : Tab} {ma : ME} {l : Loc'} {h h1 h2 : AH} {n c k : Nat} {fs : List (Option AV)} {v : AV} (a : ma l h = .ok (.obj n) h1) (g : h1.get n = some (.ins c fs)) (b : t.fn k [.obj n] h1 = .ok v h2) : mPrp t ma [(c, k)] l h = .ok v h2 := by
  rw [mPrp, a, bind_ok, ins_ok g]
  dsimp only
  rw [alt_self]
  dsimp only
  rw [b]
  rfl
theorem eqH {h : AH} {a b k k' : Nat} {ms ms' : List Nat} {p q p' q' : Int} (ga : h.get a = some (hsO ms k p q)) (gb : h.get b = some (hsO ms' k' p' q')) (c : C6 ms) (c' : C6 ms') (w : h.n + 2 ≤ top) :
    f_House___eq__ [.obj a, .obj b] h = .ok (.bl (PyData.eqvAll (partsD ms k p q) (partsD ms' k' p' q'))) ((h.push (.lst [.tup (M ms), .str (cpS k), .tup [.int p, .int q]])).push (.lst [.tup (M ms'), .str (cpS k'), .tup [.int p', .int q']])) := by
  obtain ⟨h1, eh1⟩ : ∃ h1, h1 = h.push (.lst [.tup (M ms), .str (cpS k), .tup [.int p, .int q]]) := ⟨_, rfl⟩
  have gb1 : h1.get b = some (hsO ms' k' p' q') := by rw [eh1]; exact (AH.get_push_old (Nat.ne_of_lt (AH.get_lt gb))).trans gb
  have n1 : h1.n = h.n + 1 := by rw [eh1]; rfl
  have e1 := parts_ok ga (by omega)
  have e2 := parts_ok gb1 (by omega)
  rw [← eh1] at e1 ⊢
  obtain ⟨h2, eh2⟩ : ∃ h2, h2 = h1.push (.lst [.tup (M ms'), .str (cpS k'), .tup [.int p', .int q']]) := ⟨_, rfl⟩
  rw [← eh2] at e2 ⊢
  have i1 : isiA (.obj b) (.own 0 [0]) h = some true := by
    unfold isiA
    dsimp only
    rw [gb]
    rfl
  have g1 : h2.get h.n = some (.lst [.tup (M ms), .str (cpS k), .tup [.int p, .int q]]) := by
    rw [eh2, AH.get_push_old (by omega), eh1]
    exact AH.get_push_new (by omega)
  have g2 : h2.get h1.n = some (.lst [.tup (M ms'), .str (cpS k'), .tup [.int p', .int q']]) := by
    rw [eh2]
    exact AH.get_push_new (by omega)
  have d1 : datL h2 (.obj h.n) = some (.list (partsD ms k p q)) := by
    unfold datL
    dsimp only
    rw [g1]
    dsimp only
    rw [dats_parts]
    rfl
  have d2 : datL h2 (.obj h1.n) = some (.list (partsD ms' k' p' q')) := by
    unfold datL
    dsimp only
    rw [g2]
    dsimp only
    rw [dats_parts]
    rfl
  have ce : cmpA .Eq (.obj h.n) (.obj h1.n) h2 = .ok (.bl (PyData.eqvAll (partsD ms k p q) (partsD ms' k' p' q'))) h2 := by
    have e : eqA h2 (.obj h.n) (.obj h1.n) = some (PyData.eqvAll (partsD ms k p q) (partsD ms' k' p' q')) := by
      unfold eqA
      rw [d1, d2]
      dsimp only
      rw [shaped_parts c, shaped_parts c']
      rfl
    show rOpt ((eqA h2 (.obj h.n) (.obj h1.n)).map AV.bl) h2 = _
    rw [e]
    rfl
  exact r_fn rfl (r_ret (r_andt (r_isi (r_v rfl) i1) (r_cmp (r_met0 (r_v rfl) ga e1) (r_met0 (r_v rfl) gb1 e2) ce)))
theorem r_oeq {t : Tab} {ng r : Bool} {ma mb : ME} {l : Loc'} {h h1 h2 h3 : AH} {a b c k : Nat} {fs gs : List (Option AV)} (e1 : ma l h = .ok (.obj a) h1) (e2 : mb l h1 = .ok (.obj b) h2) (ga : h2.get a = some (.ins c fs)) (gb : h2.get b = some (.ins c gs)) (e3 : t.fn k [.obj a, .obj b] h2 = .ok (.bl r) h3) : mOeq t ng [(c, k)] ma mb l h = .ok (.bl (if ng then !r else r)) h3 := by
  rw [mOeq, e1, bind_ok, e2, bind_ok, eqK, ins_ok ga, ins_ok gb]
  dsimp only
  rw [show Nat.beq c c = true by simp]
  dsimp only
  rw [alt_self]
  dsimp only
  rw [e3, asB_ok]
theorem eqP (ms ms' : List Nat) (k k' : Nat) (p q p' q' : Int) (c : C6 ms) (c' : C6 ms') : PyData.eqvAll (partsD ms k p q) (partsD ms' k' p' q') = (beqL ms ms' && ((cpS k == cpS k') && (((p == p') && ((q == q') && true)) && true))) := by
  show (PyData.eqvAll (ms.map mdd) (ms'.map mdd) && _) = _
  rw [eqvAll_M c c']
  rfl
theorem eqP_same {ms : List Nat} (c : C6 ms) (k : Nat) (p q : Int) : PyData.eqvAll (partsD ms k p q) (partsD ms k p q) = true := by
  rw [eqP _ _ _ _ _ _ _ _ c c, beqL_refl]
  simp
theorem eqP_q {ms : List Nat} (c : C6 ms) (k : Nat) (p q q' : Int) (ne : q ≠ q') : PyData.eqvAll (partsD ms k p q) (partsD ms k p q') = false := by
  rw [eqP _ _ _ _ _ _ _ _ c c]
  simp [ne]
theorem eqP_k {ms : List Nat} (c : C6 ms) (k k' : Nat) (p q : Int) (ne : (cpS k == cpS k') = false) : PyData.eqvAll (partsD ms k p q) (partsD ms k' p q) = false := by
  rw [eqP _ _ _ _ _ _ _ _ c c, ne]
  simp
theorem eqP_m {ms ms' : List Nat} (c : C6 ms) (c' : C6 ms') (k : Nat) (p q : Int) (ne : beqL ms ms' = false) : PyData.eqvAll (partsD ms k p q) (partsD ms' k p q) = false := by
  rw [eqP _ _ _ _ _ _ _ _ c c', ne]
  rfl
end Ev
set_option Elab.async false
set_option linter.all false
set_option maxRecDepth 100000
set_option maxHeartbeats 400000
/-! the law itself (begun by genNl.py from the walk's text) -/
namespace Ev
open PySem PySem.Spec PyProof.Rows L2
def in1 : MS := (mSet 6 (mB1 (g1 (b1A .tuple)) (mLc [10] (mtN 10) (miOf (mSub (mV 3) (mC (.int 0)))) mYes (mCall f__law_mode (aC (mV 1) a0)))))
def in2 : MS := (mSet 7 (mB1 (g1 (b1A .tuple)) (mLc [11] (mtN 11) (miOf (mCall0 (pureX f__law_all_contents))) (mCmp .Eq (mCall f__law_take (aC (mV 1) (aC (mC (.int 3)) a0))) (mC (.int 0))) (mV 11))))
def in3 : MS := (mIf (mCmp .Eq (mV 7) (mTup a0)) (mSet 7 (mTup (aC (mTup (aC (mC (.str "fresh")) (aC (mC (.str "empty")) a0))) a0))) mNx)
def in4 : MS := (mSet 8 (mCall (pureX f__law_grown) (aC (mV 6) (aC (mV 7) a0))))
def in5 : MS := (mIf (orM (mCmp .NotEq (mCall (pureX f_closed) (aC (mV 4) (aC (mV 6) (aC (mV 7) a0)))) (mV 8)) (mCmp .NotEq (mCall (pureX f_reads_fine) (aC (mV 4) (aC (mV 6) (aC (mV 7) a0)))) (mCall (pureX f__law_fine) (aC (mV 6) (aC (mV 7) a0))))) (mRet (mC (.bl false))) mNx)
def in6 : MS := (mSet 9 (mIte (mCmp .Eq (mCall f__law_take (aC (mV 1) (aC (mC (.int 2)) a0))) (mC (.int 0))) (mTup (aC (mC (.str "copy")) a0)) (mTup (aC (mC (.str "mode")) (aC (mCall f__law_take (aC (mV 1) (aC (mB1 (g1 lenA) (mV 6)) a0))) (aC (mCall f__law_mode (aC (mV 1) a0)) a0))))))
def in7 : MS := (mIf (mCmp .NotEq (mCall (pureX f_after) (aC (mV 4) (aC (mV 6) (aC (mV 7) (aC (mV 9) a0))))) (mCall (pureX f__law_next) (aC (mV 3) (aC (mV 6) (aC (mV 8) (aC (mV 9) a0)))))) (mRet (mC (.bl false))) mNx)
def inB : MS := (mSeq in1 (mSeq in2 (mSeq in3 (mSeq in4 (mSeq in5 (mSeq in6 in7))))))
def out1 : MS := (mSet 3 (mCall f__law_net (aC (mV 1) (aC (mC (.int 3)) a0))))
def out2 : MS := (mSet 4 (newM 0 f_House___init__ (aC (mSub (mV 3) (mC (.int 0))) (aC (mSub (mV 3) (mC (.int 1))) (aC (mSub (mV 3) (mC (.int 2))) a0)))))
def out3 : MS := (mIf (orM (mCmp .NotEq (mPrp (tab1 f_House_modes) (mV 4) [(0, 0)]) (mSub (mV 3) (mC (.int 0)))) (orM (mCmp .NotEq (mPrp (tab1 f_House_copier) (mV 4) [(0, 0)]) (mSub (mV 3) (mC (.int 1)))) (orM (mCmp .NotEq (mPrp (tab1 f_House_prices) (mV 4) [(0, 0)]) (mSub (mV 3) (mC (.int 2)))) (mCmp .NotEq (mLenO (tab1 f_House___len__) (mV 4) [(0, 0)]) (mB1 (g1 lenA) (mSub (mV 3) (mC (.int 0)))))))) (mRet (mC (.bl false))) mNx)
def out4 : MS := (mIf (orM (mOeq (tab1 f_House___eq__) true [(0, 0)] (mV 4) (newM 0 f_House___init__ (aC (mSub (mV 3) (mC (.int 0))) (aC (mSub (mV 3) (mC (.int 1))) (aC (mSub (mV 3) (mC (.int 2))) a0))))) (mOeq (tab1 f_House___eq__) false [(0, 0)] (mV 4) (newM 0 f_House___init__ (aC (mSub (mV 3) (mC (.int 0))) (aC (mSub (mV 3) (mC (.int 1))) (aC (mTup (aC (mSub (mSub (mV 3) (mC (.int 2))) (mC (.int 0))) (aC (mBin .Add (mBin .Mod (mSub (mSub (mV 3) (mC (.int 2))) (mC (.int 1))) (mC (.int 9))) (mC (.int 1))) a0))) a0)))))) (mRet (mC (.bl false))) mNx)
def out5 : MS := (mIf (orM (mOeq (tab1 f_House___eq__) false [(0, 0)] (mV 4) (newM 0 f_House___init__ (aC (mSub (mV 3) (mC (.int 0))) (aC (mIte (mCmp .NotEq (mSub (mV 3) (mC (.int 1))) (mC (.str "plain"))) (mC (.str "plain")) (mC (.str "check"))) (aC (mSub (mV 3) (mC (.int 2))) a0))))) (mOeq (tab1 f_House___eq__) false [(0, 0)] (mV 4) (newM 0 f_House___init__ (aC (mBin .Add (mSl (mSub (mV 3) (mC (.int 0))) oN (oS (mNeg (mC (.int 1))))) (mTup (aC (mTup (aC (mSub (mSub (mSub (mV 3) (mC (.int 0))) (mNeg (mC (.int 1)))) (mC (.int 0))) (aC (mIte (mCmp .NotEq (mSub (mSub (mSub (mV 3) (mC (.int 0))) (mNeg (mC (.int 1)))) (mC (.int 1))) (mC (.str "both"))) (mC (.str "both")) (mC (.str "new"))) a0))) a0))) (aC (mSub (mV 3) (mC (.int 1))) (aC (mSub (mV 3) (mC (.int 2))) a0)))))) (mRet (mC (.bl false))) mNx)
def outB : MS := (mSeq out1 (mSeq out2 (mSeq out3 (mSeq out4 (mSeq out5 (mFor (mtN 5) (miRg (mC (.int 4))) inB))))))
def top3 : MS := (mIf (mCmp .NotEq (mB1 (g1 (b1A .list)) (mC v_MODES)) (mCall0 (pureX f__law_all_modes))) (mRet (mC (.bl false))) mNx)

theorem eq_int (i j : Int) (h : AH) : cmpA .Eq (.int i) (.int j) h = .ok (.bl (i == j)) h := rfl
theorem line_ok {o0 o2 o4 o5 o6 o7 o8 o9 o10 o11 : Option AV} {d k : Nat} {ms : List Nat} {p q : Int} {h : AH} (m : Ms ms) (D : Dr d h) (b : h.n + 7 ≤ top) : ∃ ls h1, in1 [o0, some (.obj d), o2, some (nt ms k p q), o4, o5, o6, o7, o8, o9, o10, o11] h = .nx [o0, some (.obj d), o2, some (nt ms k p q), o4, o5, some (.tup (M ls)), o7, o8, o9, o10, o11] h1 ∧ Ms ls ∧ ls.length = ms.length ∧ Go d 7 h h1 := by
  have l2 := m.l2
  have lM : (M ms).length = ms.length := by rw [M, List.length_map]
  have cm : ∃ ys h2, compLoop (.tp (M ms)) (turnL [10] (mtN 10) mYes (mCall f__law_mode (aC (mV 1) a0)) [o0, some (.obj d), o2, some (nt ms k p q), o4, o5, o6, o7, o8, o9, o10, o11]) turns 0 h = .ok ys h2 ∧ Outs (fun _ ys => ∃ y, ys = [y] ∧ ∃ i, i < 6 ∧ y = md i) (M ms) ys ∧ Go d ((M ms).length * 2) h h2 := by
    refine comp_tp (fun x g _ Dg bg => ?_) (by rw [lM]; unfold turns; omega) D (by rw [lM]; omega)
    obtain ⟨i, g2, e2, hi, G2⟩ := mode_ok Dg bg
    refine ⟨[md i], g2, ?_, ⟨md i, rfl, i, hi, rfl⟩, G2⟩
    have ev : (mCall f__law_mode (aC (mV 1) a0)) [o0, some (.obj d), o2, some (nt ms k p q), o4, o5, o6, o7, o8, o9, some x, o11] g = .ok (md i) g2 := r_call (r_aC (r_v rfl) rfl) e2
    show ((mCall f__law_mode (aC (mV 1) a0)) [o0, some (.obj d), o2, some (nt ms k p q), o4, o5, o6, o7, o8, o9, some x, o11] g).bind (fun v h4 => .ok [v] h4) = _
    rw [ev]
    rfl
  obtain ⟨ys, h2, e2, o2, G2⟩ := cm
  obtain ⟨ly, py⟩ := o2.each
  obtain ⟨ls, em, cms, lms⟩ := ofM py
  subst em
  have n2 := G2.n2
  rw [lM] at n2 ly
  have l1 := m.l1
  have t2 : h2.n < top := by omega
  refine ⟨ls, h2.push (.lst (M ls)), r_set (r_b1 (r_lc (r_of (r_sub (r_v rfl) rfl rfl) rfl) e2 (by omega) t2) (tuple_ob (AH.get_push_new t2))), ⟨by omega, by omega, cms⟩, by omega, (G2.trans (Go.push G2.dr _)).mono (by rw [lM]; omega)⟩
theorem conts_lst (h : AH) : pureX f__law_all_contents [] h = alloc h (.lst (L [0, 1, 2, 3, 4, 5])) := by kernel_rfl
theorem drawn_view {o0 o2 o3 o4 o5 o6 o7 o8 o9 o10 o11 : Option AV} {d : Nat} {h : AH} (D : Dr d h) (b : h.n + 8 ≤ top) : ∃ V h1, in2 [o0, some (.obj d), o2, o3, o4, o5, o6, o7, o8, o9, o10, o11] h = .nx [o0, some (.obj d), o2, o3, o4, o5, o6, some (.tup (L V)), o8, o9, o10, o11] h1 ∧ V.Sublist [0, 1, 2, 3, 4, 5] ∧ Go d 8 h h1 := by
  have ld := D.lt
  have G := Go.push D (.lst (L [0, 1, 2, 3, 4, 5]))
  have n0 : (h.push (.lst (L [0, 1, 2, 3, 4, 5]))).n = h.n + 1 := rfl
  have g0 : (h.push (.lst (L [0, 1, 2, 3, 4, 5]))).get h.n = some (.lst (L [0, 1, 2, 3, 4, 5])) := AH.get_push_new (by omega)
  have cm : ∃ ys h2, compLoop (.ob h.n) (turnL [11] (mtN 11) (mCmp .Eq (mCall f__law_take (aC (mV 1) (aC (mC (.int 3)) a0))) (mC (.int 0))) (mV 11) [o0, some (.obj d), o2, o3, o4, o5, o6, o7, o8, o9, o10, o11]) turns 0 (h.push (.lst (L [0, 1, 2, 3, 4, 5]))) = .ok ys h2 ∧ Outs (fun x ys => ys = [x] ∨ ys = []) (L [0, 1, 2, 3, 4, 5]) ys ∧ Go d ((L [0, 1, 2, 3, 4, 5]).length * 1) (h.push (.lst (L [0, 1, 2, 3, 4, 5]))) h2 := by
    refine comp_ob (by omega) g0 (fun x g _ Dg bg => ?_) (by decide) G.dr (by show h.n + 1 + 6 * 1 ≤ top; omega)
    obtain ⟨r, g2, e2, a2, b2, G2⟩ := tk_ok (m := 3) Dg (by decide) (by omega)
    have ev : (mCmp .Eq (mCall f__law_take (aC (mV 1) (aC (mC (.int 3)) a0))) (mC (.int 0))) [o0, some (.obj d), o2, o3, o4, o5, o6, o7, o8, o9, o10, some x] g = .ok (.bl (r == 0)) g2 := r_cmp (r_call (r_aC (r_v rfl) (r_aC rfl rfl)) e2) rfl (eq_int r 0 g2)
    cases hr : (r == 0) with
    | true =>
      refine ⟨[x], g2, ?_, .inl rfl, G2⟩
      show ((mCmp .Eq (mCall f__law_take (aC (mV 1) (aC (mC (.int 3)) a0))) (mC (.int 0))) [o0, some (.obj d), o2, o3, o4, o5, o6, o7, o8, o9, o10, some x] g).bind (fun b h3 => match b with | .bl true => (mV 11 [o0, some (.obj d), o2, o3, o4, o5, o6, o7, o8, o9, o10, some x] h3).bind fun v h4 => .ok [v] h4 | .bl false => .ok [] h3 | _ => .bad) = _
      rw [ev, hr]
      rfl
    | false =>
      refine ⟨[], g2, ?_, .inr rfl, G2⟩
      show ((mCmp .Eq (mCall f__law_take (aC (mV 1) (aC (mC (.int 3)) a0))) (mC (.int 0))) [o0, some (.obj d), o2, o3, o4, o5, o6, o7, o8, o9, o10, some x] g).bind (fun b h3 => match b with | .bl true => (mV 11 [o0, some (.obj d), o2, o3, o4, o5, o6, o7, o8, o9, o10, some x] h3).bind fun v h4 => .ok [v] h4 | .bl false => .ok [] h3 | _ => .bad) = _
      rw [ev, hr]
      rfl
  obtain ⟨ys, h2, e2, o2, G2⟩ := cm
  have sl := o2.some
  obtain ⟨V, sV, eV⟩ := List.sublist_map_iff.mp sl
  subst eV
  have lV := sV.length_le
  have n2 := G2.n2
  have n1 : (L [0, 1, 2, 3, 4, 5]).length * 1 = 6 := rfl
  have t2 : h2.n < top := by omega
  exact ⟨V, h2.push (.lst (L V)), r_set (r_b1 (r_lc (r_of ((conts_lst h).trans (alloc_ok (by omega))) (srcOf_ob g0)) e2 (by simp at lV ⊢; omega) t2) (tuple_ob (AH.get_push_new t2))), sV, ((G.trans G2).trans (Go.push G2.dr _)).mono (by omega)⟩
theorem shapedT_L {xs : List Nat} (a : C6 xs) : SeqAt.shaped (.tuple (xs.map ccd)) = true := shaped_L a
theorem empty_ok {V : List Nat} (c : C6 V) (h : AH) : cmpA .Eq (.tup (L V)) (.tup []) h = .ok (.bl (beqL V [])) h := by
  have p1 : datL h (.tup (L V)) = some (.tuple (V.map ccd)) := by
    show (AV.dats (L V)).map PyData.tuple = _
    rw [dats_L]
    rfl
  have p2 : datL h (.tup []) = some (.tuple []) := rfl
  have e : eqA h (.tup (L V)) (.tup []) = some (beqL V []) := by
    unfold eqA
    rw [p1, p2]
    dsimp only
    rw [shapedT_L c]
    show some (PyData.eqvAll (V.map ccd) (([] : List Nat).map ccd)) = _
    rw [eqvAll_L c C6.nil]
  show rOpt ((eqA h (.tup (L V)) (.tup [])).map AV.bl) h = _
  rw [e]
  rfl
theorem sub_c6 {V : List Nat} (s : V.Sublist [0, 1, 2, 3, 4, 5]) : C6 V := fun i h => by
  have := s.subset h
  simp at this
  omega
theorem view3 {d : Nat} {o0 o2 o3 o4 o5 o6 o8 o9 o10 o11 : Option AV} {V : List Nat} (s : V.Sublist [0, 1, 2, 3, 4, 5]) (h : AH) : ∃ V', in3 [o0, some (.obj d), o2, o3, o4, o5, o6, some (.tup (L V)), o8, o9, o10, o11] h = .nx [o0, some (.obj d), o2, o3, o4, o5, o6, some (.tup (L V')), o8, o9, o10, o11] h ∧ V' ∈ viewsN := by
  have c := sub_c6 s
  cases V with
  | nil => exact ⟨[0], r_ift (r_cmp (r_v rfl) (r_tup rfl (by decide)) (empty_ok c h)) (r_set (r_tup rfl (by decide))), by decide⟩
  | cons v r => exact ⟨v :: r, r_iff (r_cmp (r_v rfl) (r_tup rfl (by decide)) (empty_ok c h)) rfl, List.mem_filter.mpr ⟨subN_mem s, rfl⟩⟩
theorem okD_L {xs : List Nat} (a : C6 xs) : okD (.tup (L xs)) = true := by
  have p1 : (AV.tup (L xs)).dat = some (.tuple (xs.map ccd)) := by
    show (AV.dats (L xs)).map PyData.tuple = _
    rw [dats_L]
    rfl
  unfold okD
  rw [p1]
  exact shapedT_L a
theorem okD_M {ms : List Nat} (c : C6 ms) : okD (.tup (M ms)) = true := by
  have p1 : (AV.tup (M ms)).dat = some (.tuple (ms.map mdd)) := by
    show (AV.dats (M ms)).map PyData.tuple = _
    rw [dats_M]
    rfl
  unfold okD
  rw [p1]
  show (PyData.canLayAll0 (ms.map mdd) && decide (PyData.depthAll (ms.map mdd) + 1 ≤ 64)) = true
  have := dep_M c
  rw [lay_M c, decide_eq_true (by omega)]
  rfl
theorem okD_ML {ms xs : List Nat} (c : C6 ms) (a : C6 xs) : okD (.tup [.tup (M ms), .tup (L xs)]) = true := by
  have p1 : (AV.tup [.tup (M ms), .tup (L xs)]).dat = some (.tuple [.tuple (ms.map mdd), .tuple (xs.map ccd)]) := by
    show (match (AV.dats (M ms)).map PyData.tuple with | some d => ((match (AV.dats (L xs)).map PyData.tuple with | some d => some [d] | none => none)).map (d :: ·) | none => none).map PyData.tuple = _
    rw [dats_M, dats_L]
    rfl
  unfold okD
  rw [p1]
  show ((PyData.canLayAll0 (ms.map mdd) && (PyData.canLayAll0 (xs.map ccd) && true)) && decide (max (PyData.depthAll (ms.map mdd) + 1) (max (PyData.depthAll (xs.map ccd) + 1) 0) + 1 ≤ 64)) = true
  have := dep_M c
  have := dep_L a
  rw [lay_M c, lay_L a, decide_eq_true (by omega)]
  rfl
theorem lg_c6 {ms : List Nat} (m : Ms ms) {X Y : List Nat} (c : C6 X) (e : lgN (wds (ms.map mp)) X = some Y) : C6 Y := by
  obtain ⟨_, _, _, r⟩ := lg_ok (h := hE) (a := .tup (L X)) (.inl rfl) c m.ln.l2 e (by decide)
  exact r
theorem lc_c6 {ms : List Nat} (m : Ms ms) {k : Nat} (hk : k < 3) {X D : List Nat} (hX : X ∈ viewsN) (e : lcN k (wds (ms.map mp)) X = some D) : C6 D := by
  obtain ⟨c, l⟩ := view_c6 hX
  obtain ⟨_, _, _, _, _, r⟩ := copy_ok (h := hE) m.ln hk c l e (Nat.le_refl _) (by decide)
  exact r
theorem Hs.go {d n h1 h2 : _} {a k : Nat} {pr : AV} {bs : List AV} {m : Nat} (H : Hs h1 a k pr bs m) (G : Go d n h1 h2) (ne : a ≠ d) : Hs h2 a k pr bs m := ⟨(G.same a (AH.get_lt H.g) ne).trans H.g, H.cp, H.cb, H.ln, H.l3⟩
theorem step_ok {o0 o2 o3 o4 o5 o7 o8 o9 o10 o11 : Option AV} {d : Nat} {ls : List Nat} {h : AH} (m : Ms ls) (D : Dr d h) (b : h.n + 4 ≤ top) : ∃ st h1, in6 [o0, some (.obj d), o2, o3, o4, o5, some (.tup (M ls)), o7, o8, o9, o10, o11] h = .nx [o0, some (.obj d), o2, o3, o4, o5, some (.tup (M ls)), o7, o8, some st, o10, o11] h1 ∧ (st = cpy ∨ ∃ s i, s < ls.length ∧ i < 6 ∧ st = chg s i) ∧ Go d 4 h h1 := by
  obtain ⟨r, g2, e2, a2, b2, G2⟩ := tk_ok (m := 2) D (by decide) (by omega)
  have n2 := G2.n2
  have l1 := m.l1
  have ec : (mCmp .Eq (mCall f__law_take (aC (mV 1) (aC (mC (.int 2)) a0))) (mC (.int 0))) [o0, some (.obj d), o2, o3, o4, o5, some (.tup (M ls)), o7, o8, o9, o10, o11] h = .ok (.bl (r == 0)) g2 := r_cmp (r_call (r_aC (r_v rfl) (r_aC rfl rfl)) e2) rfl (eq_int r 0 g2)
  cases hr : (r == 0) with
  | true =>
    rw [hr] at ec
    exact ⟨cpy, g2, r_set (r_itet ec (r_tup rfl (by decide))), .inl rfl, G2.mono (by omega)⟩
  | false =>
    rw [hr] at ec
    obtain ⟨r3, g3, e3, a3, b3, G3⟩ := tk_ok (m := ls.length) G2.dr (by omega) (by omega)
    have n3 := G3.n2
    obtain ⟨i, g4, e4, hi, G4⟩ := mode_ok G3.dr (by omega)
    obtain ⟨s, es⟩ : ∃ s : Nat, r3 = s := ⟨r3.toNat, by omega⟩
    subst es
    exact ⟨chg s i, g4, r_set (r_itef ec (r_tup (r_aC rfl (r_aC (r_call (r_aC (r_v rfl) (r_aC (r_b1 (r_v rfl) (lenM ls g2)) rfl)) e3) (r_aC (r_call (r_aC (r_v rfl) rfl) e4) rfl))) (by simp))), .inr ⟨s, i, by omega, hi, rfl⟩, ((G2.trans G3).trans G4).mono (by omega)⟩

theorem in_turn {o0 o2 o5 o6 o7 o8 o9 o10 o11 : Option AV} {x : AV} {d hs k : Nat} {ms : List Nat} {p q : Int} {h : AH} (m : Ms ms) (hk : k < 3) (D : Dr d h) (Hh : Hs h hs k (.tup [.int p, .int q]) (M ms) ms.length) (ne : hs ≠ d) (b : h.n + 30 ≤ top) :
    ∃ p6 p7 p8 p9 h', turnF (mtN 5) inB x [o0, some (.obj d), o2, some (nt ms k p q), some (.obj hs), o5, o6, o7, o8, o9, o10, o11] h = .nx [o0, some (.obj d), o2, some (nt ms k p q), some (.obj hs), some x, p6, p7, p8, p9, o10, o11] h' ∧ Go d 30 h h' := by
  obtain ⟨ls, h1, e1, m1, l1, G1⟩ := line_ok (o0 := o0) (o2 := o2) (o4 := some (.obj hs)) (o5 := some x) (o6 := o6) (o7 := o7) (o8 := o8) (o9 := o9) (o10 := o10) (o11 := o11) (k := k) (p := p) (q := q) m D (by omega)
  have n1 := G1.n2
  obtain ⟨V0, h2, e2, s2, G2⟩ := drawn_view (o0 := o0) (o2 := o2) (o3 := some (nt ms k p q)) (o4 := some (.obj hs)) (o5 := some x) (o6 := some (.tup (M ls))) (o7 := o7) (o8 := o8) (o9 := o9) (o10 := o10) (o11 := o11) G1.dr (by omega)
  have n2 := G2.n2
  obtain ⟨V, e3, hV⟩ := view3 (d := d) (o0 := o0) (o2 := o2) (o3 := some (nt ms k p q)) (o4 := some (.obj hs)) (o5 := some x) (o6 := some (.tup (M ls))) (o8 := o8) (o9 := o9) (o10 := o10) (o11 := o11) s2 h2
  obtain ⟨cV, lV⟩ := view_c6 hV
  obtain ⟨X, eg, el, hX⟩ := t1 m1.ln hV
  obtain ⟨cX, lX⟩ := view_c6 hX
  have H2 : Hs h2 hs k (.tup [.int p, .int q]) (M ms) ms.length := (Hh.go G1 ne).go G2 ne
  have e4 : in4 [o0, some (.obj d), o2, some (nt ms k p q), some (.obj hs), some x, some (.tup (M ls)), some (.tup (L V)), o8, o9, o10, o11] h2 = .nx [o0, some (.obj d), o2, some (nt ms k p q), some (.obj hs), some x, some (.tup (M ls)), some (.tup (L V)), some (.tup (L X)), o9, o10, o11] h2 := r_set (r_call (r_aC (r_v rfl) (r_aC (r_v rfl) rfl)) (plgrown m1 cV el h2))
  obtain ⟨bb, f1, f2⟩ := fine_ok H2 m1 l1 hV
  have ob : okD (.bl bb) = true := by cases bb <;> rfl
  have e5 : in5 [o0, some (.obj d), o2, some (nt ms k p q), some (.obj hs), some x, some (.tup (M ls)), some (.tup (L V)), some (.tup (L X)), o9, o10, o11] h2 = .nx [o0, some (.obj d), o2, some (nt ms k p q), some (.obj hs), some x, some (.tup (M ls)), some (.tup (L V)), some (.tup (L X)), o9, o10, o11] h2 :=
    r_iff (r_orf (r_cmp (r_call (r_aC (r_v rfl) (r_aC (r_v rfl) (r_aC (r_v rfl) rfl))) (closed_ok H2 m1 l1 hV eg)) (r_v rfl) (ne_self (okD_L cX))) (r_cmp (r_call (r_aC (r_v rfl) (r_aC (r_v rfl) (r_aC (r_v rfl) rfl))) f1) (r_call (r_aC (r_v rfl) (r_aC (r_v rfl) rfl)) (f2 h2)) (ne_self ob))) rfl
  obtain ⟨st, h3, e6, hst, G3⟩ := step_ok (o0 := o0) (o2 := o2) (o3 := some (nt ms k p q)) (o4 := some (.obj hs)) (o5 := some x) (o7 := some (.tup (L V))) (o8 := some (.tup (L X))) (o9 := o9) (o10 := o10) (o11 := o11) m1 G2.dr (by omega)
  have H3 : Hs h3 hs k (.tup [.int p, .int q]) (M ms) ms.length := H2.go G3 ne
  have e7 : in7 [o0, some (.obj d), o2, some (nt ms k p q), some (.obj hs), some x, some (.tup (M ls)), some (.tup (L V)), some (.tup (L X)), some st, o10, o11] h3 = .nx [o0, some (.obj d), o2, some (nt ms k p q), some (.obj hs), some x, some (.tup (M ls)), some (.tup (L V)), some (.tup (L X)), some st, o10, o11] h3 := by
    rcases hst with est | ⟨s, i, hs1, hi, est⟩
    · subst est
      obtain ⟨D, Y, y1, y2, y3⟩ := t3 m1.ln hV eg hk
      exact r_iff (r_cmp (r_call (r_aC (r_v rfl) (r_aC (r_v rfl) (r_aC (r_v rfl) (r_aC (r_v rfl) rfl)))) (after_c H3 hk m1 l1 hV eg hX (cop_ok m1 hk hX) y2)) (r_call (r_aC (r_v rfl) (r_aC (r_v rfl) (r_aC (r_v rfl) (r_aC (r_v rfl) rfl)))) (next_c (clns_M ms) H3.cp hk m1 hX y1 y3 h3)) (ne_self (okD_ML m1.c (lg_c6 m1 (lc_c6 m1 hk hX y1) y3)))) rfl
    · subst est
      obtain ⟨Y, y1, y2, _⟩ := t1 (m1.set s hi).ln hX
      exact r_iff (r_cmp (r_call (r_aC (r_v rfl) (r_aC (r_v rfl) (r_aC (r_v rfl) (r_aC (r_v rfl) rfl)))) (after_m H3 m1 l1 hs1 hi hV eg hX y1)) (r_call (r_aC (r_v rfl) (r_aC (r_v rfl) (r_aC (r_v rfl) (r_aC (r_v rfl) rfl)))) (next_m (clns_M ms) H3.cp m1 hs1 hi hX y2 h3)) (ne_self (okD_ML (m1.set s hi).c (lg_c6 (m1.set s hi) cX y2)))) rfl
  exact ⟨_, _, _, _, h3, turnF_eq (l1 := [o0, some (.obj d), o2, some (nt ms k p q), some (.obj hs), some x, o6, o7, o8, o9, o10, o11]) rfl (r_seq e1 (r_seq e2 (r_seq e3 (r_seq e4 (r_seq e5 (r_seq e6 e7)))))), ((G1.trans G2).trans G3).mono (by omega)⟩

end Ev
set_option Elab.async false
set_option linter.all false
set_option maxRecDepth 100000
set_option maxHeartbeats 400000
/-! the law's end (begun by genNm.py from the walk's text) -/
namespace Ev
open PySem PySem.Spec PyProof.Rows L2
def ocE : ME := (mIte (mCmp .NotEq (mSub (mV 3) (mC (.int 1))) (mC (.str "plain"))) (mC (.str "plain")) (mC (.str "check")))
def cbE : ME := (mBin .Add (mSl (mSub (mV 3) (mC (.int 0))) oN (oS (mNeg (mC (.int 1))))) (mTup (aC (mTup (aC (mSub (mSub (mSub (mV 3) (mC (.int 0))) (mNeg (mC (.int 1)))) (mC (.int 0))) (aC (mIte (mCmp .NotEq (mSub (mSub (mSub (mV 3) (mC (.int 0))) (mNeg (mC (.int 1)))) (mC (.int 1))) (mC (.str "both"))) (mC (.str "both")) (mC (.str "new"))) a0))) a0)))
def prE : ME := (mTup (aC (mSub (mSub (mV 3) (mC (.int 2))) (mC (.int 0))) (aC (mBin .Add (mBin .Mod (mSub (mSub (mV 3) (mC (.int 2))) (mC (.int 1))) (mC (.int 9))) (mC (.int 1))) a0)))
def mch : Nat → Nat
  | 0 => 1
  | 1 => 2
  | 2 => 1
  | 3 => 4
  | 4 => 5
  | _ => 4
def oc : Nat → Nat
  | 0 => 2
  | _ => 0
theorem cb1 {o0 o1 o2 o4 o5 o6 o7 o8 o9 o10 o11 : Option AV} (u v : AV) (i : Nat) (h : AH) : cbE [o0, o1, o2, some (.tup [.tup [md i], u, v]), o4, o5, o6, o7, o8, o9, o10, o11] h = .ok (.tup [md (mch i)]) h := six (P := fun i => cbE [o0, o1, o2, some (.tup [.tup [md i], u, v]), o4, o5, o6, o7, o8, o9, o10, o11] h = .ok (.tup [md (mch i)]) h) (by kernel_rfl) (by kernel_rfl) (by kernel_rfl) (by kernel_rfl) (by kernel_rfl) (fun n => by kernel_rfl) i
theorem cb2 {o0 o1 o2 o4 o5 o6 o7 o8 o9 o10 o11 : Option AV} (x u v : AV) (i : Nat) (h : AH) : cbE [o0, o1, o2, some (.tup [.tup [x, md i], u, v]), o4, o5, o6, o7, o8, o9, o10, o11] h = .ok (.tup [x, md (mch i)]) h := six (P := fun i => cbE [o0, o1, o2, some (.tup [.tup [x, md i], u, v]), o4, o5, o6, o7, o8, o9, o10, o11] h = .ok (.tup [x, md (mch i)]) h) (by kernel_rfl) (by kernel_rfl) (by kernel_rfl) (by kernel_rfl) (by kernel_rfl) (fun n => by kernel_rfl) i
theorem cb3 {o0 o1 o2 o4 o5 o6 o7 o8 o9 o10 o11 : Option AV} (x y u v : AV) (i : Nat) (h : AH) : cbE [o0, o1, o2, some (.tup [.tup [x, y, md i], u, v]), o4, o5, o6, o7, o8, o9, o10, o11] h = .ok (.tup [x, y, md (mch i)]) h := six (P := fun i => cbE [o0, o1, o2, some (.tup [.tup [x, y, md i], u, v]), o4, o5, o6, o7, o8, o9, o10, o11] h = .ok (.tup [x, y, md (mch i)]) h) (by kernel_rfl) (by kernel_rfl) (by kernel_rfl) (by kernel_rfl) (by kernel_rfl) (fun n => by kernel_rfl) i
theorem oc_ok {o0 o1 o2 o4 o5 o6 o7 o8 o9 o10 o11 : Option AV} (u v : AV) (k : Nat) (h : AH) : ocE [o0, o1, o2, some (.tup [u, .str (cpS k), v]), o4, o5, o6, o7, o8, o9, o10, o11] h = .ok (.str (cpS (oc k))) h := by
  match k with
  | 0 => kernel_rfl
  | 1 => kernel_rfl
  | k + 2 => kernel_rfl
theorem oc_ne (k : Nat) : (cpS k == cpS (oc k)) = false := by
  match k with
  | 0 => kernel_rfl
  | 1 => kernel_rfl
  | k + 2 => kernel_rfl
theorem okD_cp (k : Nat) : okD (.str (cpS k)) = true := by
  match k with
  | 0 => kernel_rfl
  | 1 => kernel_rfl
  | k + 2 => kernel_rfl
theorem mch_lt (i : Nat) : mch i < 6 := six (P := fun i => mch i < 6) (by decide) (by decide) (by decide) (by decide) (by decide) (fun _ => show 4 < 6 by decide) i
theorem mch_ne : ∀ i < 6, Nat.beq i (mch i) = false := by decide
theorem pr_ok {o0 o1 o2 o4 o5 o6 o7 o8 o9 o10 o11 : Option AV} (u v : AV) (p q : Int) (h : AH) : prE [o0, o1, o2, some (.tup [u, v, .tup [.int p, .int q]]), o4, o5, o6, o7, o8, o9, o10, o11] h = .ok (.tup [.int p, .int (q % 9 + 1)]) h :=
  r_tup (r_aC (r_sub (r_sub (r_v rfl) rfl rfl) rfl rfl) (r_aC (r_bin (r_bin (r_sub (r_sub (r_v rfl) rfl rfl) rfl rfl) rfl (mod_ok (by decide))) rfl rfl) rfl)) (by simp)
theorem cb_ok {o0 o1 o2 o4 o5 o6 o7 o8 o9 o10 o11 : Option AV} {ms : List Nat} (m : Ms ms) (u v : AV) (h : AH) : ∃ ms', cbE [o0, o1, o2, some (.tup [.tup (M ms), u, v]), o4, o5, o6, o7, o8, o9, o10, o11] h = .ok (.tup (M ms')) h ∧ Ms ms' ∧ beqL ms ms' = false := by
  obtain ⟨l1, l2, c⟩ := m
  match ms, l1, l2, c with
  | [i], _, _, c => exact ⟨[mch i], cb1 u v i h, ⟨by simp, by simp, C6.cons (mch_lt i) C6.nil⟩, by show (Nat.beq i (mch i) && _) = false; rw [mch_ne i c.hd]; rfl⟩
  | [i, j], _, _, c => exact ⟨[i, mch j], cb2 (md i) u v j h, ⟨by simp, by simp, C6.cons c.hd (C6.cons (mch_lt j) C6.nil)⟩, by show (Nat.beq i i && (Nat.beq j (mch j) && _)) = false; rw [mch_ne j c.tl.hd, Bool.false_and, Bool.and_false]⟩
  | [i, j, l], _, _, c => exact ⟨[i, j, mch l], cb3 (md i) (md j) u v l h, ⟨by simp, by simp, C6.cons c.hd (C6.cons c.tl.hd (C6.cons (mch_lt l) C6.nil))⟩, by show (Nat.beq i i && (Nat.beq j j && (Nat.beq l (mch l) && _))) = false; rw [mch_ne l c.tl.tl.hd, Bool.false_and, Bool.and_false, Bool.and_false]⟩
  | [], l, _, _ => exact absurd l (by decide)
  | _ :: _ :: _ :: _ :: _, _, l, _ => exact absurd l (by simp)
theorem oeq_ok {l : Loc'} {as_ : Loc' → AH → R (List AV)} {d hs k k' : Nat} {ms ms' : List Nat} {p q p' q' : Int} {h : AH} (ng : Bool) (D : Dr d h) (hl : l[4]?.join = some (.obj hs)) (g : h.get hs = some (hsO ms k p q)) (ne : hs ≠ d) (c : C6 ms) (m' : Ms ms') (hp : 1 ≤ p' ∧ p' ≤ 9) (hq : 1 ≤ q' ∧ q' ≤ 9) (ea : as_ l h = .ok [.tup (M ms'), .str (cpS k'), .tup [.int p', .int q']] h) (w : h.n + 4 ≤ top) :
    ∃ h', mOeq (tab1 f_House___eq__) ng [(0, 0)] (mV 4) (newM 0 f_House___init__ as_) l h = .ok (.bl (if ng then !(PyData.eqvAll (partsD ms k p q) (partsD ms' k' p' q')) else PyData.eqvAll (partsD ms k p q) (partsD ms' k' p' q'))) h' ∧ Go d 4 h h' := by
  obtain ⟨h2, e2, g2, G2⟩ := new_ok (k := k') m' hp hq D (by omega)
  have n2 := G2.n2
  have ga : h2.get hs = some (hsO ms k p q) := (G2.same hs (AH.get_lt g) ne).trans g
  have e3 := eqH ga g2 c m'.c (by omega)
  refine ⟨_, r_oeq (r_v hl) (r_new ea (by omega) e2) ga g2 e3, ((G2.trans (Go.push G2.dr _)).trans (Go.push (Go.push G2.dr _).dr _)).mono (by omega)⟩
theorem h_modes {h : AH} {a k : Nat} {ms : List Nat} {p q : Int} (g : h.get a = some (hsO ms k p q)) : f_House_modes [.obj a] h = .ok (.tup (M ms)) h := r_fn rfl (r_ret (r_attr (r_v rfl) (att_ok g rfl)))
theorem h_copier {h : AH} {a k : Nat} {ms : List Nat} {p q : Int} (g : h.get a = some (hsO ms k p q)) : f_House_copier [.obj a] h = .ok (.str (cpS k)) h := r_fn rfl (r_ret (r_attr (r_v rfl) (att_ok g rfl)))
theorem h_prices {h : AH} {a k : Nat} {ms : List Nat} {p q : Int} (g : h.get a = some (hsO ms k p q)) : f_House_prices [.obj a] h = .ok (.tup [.int p, .int q]) h := r_fn rfl (r_ret (r_attr (r_v rfl) (att_ok g rfl)))
theorem out3_ok {o0 o1 o2 o5 o6 o7 o8 o9 o10 o11 : Option AV} {hs k : Nat} {ms : List Nat} {p q : Int} {h : AH} (m : Ms ms) (g : h.get hs = some (hsO ms k p q)) (H : Hs h hs k (.tup [.int p, .int q]) (M ms) ms.length) : out3 [o0, o1, o2, some (nt ms k p q), some (.obj hs), o5, o6, o7, o8, o9, o10, o11] h = .nx [o0, o1, o2, some (nt ms k p q), some (.obj hs), o5, o6, o7, o8, o9, o10, o11] h :=
  r_iff (r_orf (r_cmp (r_prp (r_v rfl) g (h_modes g)) (r_sub (r_v rfl) rfl rfl) (ne_self (okD_M m.c))) (r_orf (r_cmp (r_prp (r_v rfl) g (h_copier g)) (r_sub (r_v rfl) rfl rfl) (ne_self (okD_cp k))) (r_orf (r_cmp (r_prp (r_v rfl) g (h_prices g)) (r_sub (r_v rfl) rfl rfl) (ne_self rfl)) (r_cmp (r_leno (r_v rfl) (len_ok H)) (r_b1 (r_sub (r_v rfl) rfl rfl) (lenM ms h)) (ne_self rfl))))) rfl
theorem out_turn {o0 o2 o3 o4 o5 o6 o7 o8 o9 o10 o11 : Option AV} {x : AV} {d : Nat} {h : AH} (D : Dr d h) (b : h.n + 200 ≤ top) : ∃ p3 p4 p5 p6 p7 p8 p9 h', turnF (mtN 2) outB x [o0, some (.obj d), o2, o3, o4, o5, o6, o7, o8, o9, o10, o11] h = .nx [o0, some (.obj d), some x, p3, p4, p5, p6, p7, p8, p9, o10, o11] h' ∧ Go d 200 h h' := by
  obtain ⟨ms, k, p, q, h1, e1, m, hk, hp, hq, G1⟩ := net_ok D (by omega)
  have n1 := G1.n2
  have n1' := G1.n1
  have ld := D.lt
  obtain ⟨h2, e2, g2, G2⟩ := new_ok (k := k) m hp hq G1.dr (by omega)
  have n2 := G2.n2
  have ne : h1.n ≠ d := by omega
  have l3 := m.l2
  have H2 : Hs h2 h1.n k (.tup [.int p, .int q]) (M ms) ms.length := ⟨g2, rfl, clns_M ms, by rw [M, List.length_map], l3⟩
  have f1 : out1 [o0, some (.obj d), some x, o3, o4, o5, o6, o7, o8, o9, o10, o11] h = .nx [o0, some (.obj d), some x, some (nt ms k p q), o4, o5, o6, o7, o8, o9, o10, o11] h1 := r_set (r_call (r_aC (r_v rfl) (r_aC rfl rfl)) e1)
  have f2 : out2 [o0, some (.obj d), some x, some (nt ms k p q), o4, o5, o6, o7, o8, o9, o10, o11] h1 = .nx [o0, some (.obj d), some x, some (nt ms k p q), some (.obj h1.n), o5, o6, o7, o8, o9, o10, o11] h2 := r_set (r_new (r_aC (r_sub (r_v rfl) rfl rfl) (r_aC (r_sub (r_v rfl) rfl rfl) (r_aC (r_sub (r_v rfl) rfl rfl) rfl))) (by omega) e2)
  have f3 := out3_ok (o0 := o0) (o1 := some (.obj d)) (o2 := some x) (o5 := o5) (o6 := o6) (o7 := o7) (o8 := o8) (o9 := o9) (o10 := o10) (o11 := o11) m g2 H2
  obtain ⟨h3, e3, G3⟩ := oeq_ok (l := [o0, some (.obj d), some x, some (nt ms k p q), some (.obj h1.n), o5, o6, o7, o8, o9, o10, o11]) (as_ := (aC (mSub (mV 3) (mC (.int 0))) (aC (mSub (mV 3) (mC (.int 1))) (aC (mSub (mV 3) (mC (.int 2))) a0)))) (k' := k) true G2.dr rfl g2 ne m.c m hp hq (r_aC (r_sub (r_v rfl) rfl rfl) (r_aC (r_sub (r_v rfl) rfl rfl) (r_aC (r_sub (r_v rfl) rfl rfl) rfl))) (by omega)
  rw [eqP_same m.c] at e3
  have n3 := G3.n2
  have g3 : h3.get h1.n = some (hsO ms k p q) := (G3.same _ (AH.get_lt g2) ne).trans g2
  obtain ⟨h4, e4, G4⟩ := oeq_ok (l := [o0, some (.obj d), some x, some (nt ms k p q), some (.obj h1.n), o5, o6, o7, o8, o9, o10, o11]) (as_ := (aC (mSub (mV 3) (mC (.int 0))) (aC (mSub (mV 3) (mC (.int 1))) (aC prE a0)))) (k' := k) (p' := p) (q' := q % 9 + 1) false G3.dr rfl g3 ne m.c m hp (by omega) (r_aC (r_sub (r_v rfl) rfl rfl) (r_aC (r_sub (r_v rfl) rfl rfl) (r_aC (pr_ok _ _ p q h3) rfl))) (by omega)
  rw [eqP_q m.c k p q (q % 9 + 1) (by omega)] at e4
  have n4 := G4.n2
  have g4 : h4.get h1.n = some (hsO ms k p q) := (G4.same _ (AH.get_lt g3) ne).trans g3
  obtain ⟨h5, e5, G5⟩ := oeq_ok (l := [o0, some (.obj d), some x, some (nt ms k p q), some (.obj h1.n), o5, o6, o7, o8, o9, o10, o11]) (as_ := (aC (mSub (mV 3) (mC (.int 0))) (aC ocE (aC (mSub (mV 3) (mC (.int 2))) a0)))) (k' := oc k) (p' := p) (q' := q) false G4.dr rfl g4 ne m.c m hp hq (r_aC (r_sub (r_v rfl) rfl rfl) (r_aC (oc_ok _ _ k h4) (r_aC (r_sub (r_v rfl) rfl rfl) rfl))) (by omega)
  rw [eqP_k m.c k (oc k) p q (oc_ne k)] at e5
  have n5 := G5.n2
  have g5 : h5.get h1.n = some (hsO ms k p q) := (G5.same _ (AH.get_lt g4) ne).trans g4
  obtain ⟨ms', ec, m', hne⟩ := cb_ok (o0 := o0) (o1 := some (.obj d)) (o2 := some x) (o4 := some (.obj h1.n)) (o5 := o5) (o6 := o6) (o7 := o7) (o8 := o8) (o9 := o9) (o10 := o10) (o11 := o11) m (.str (cpS k)) (.tup [.int p, .int q]) h5
  obtain ⟨h6, e6, G6⟩ := oeq_ok (l := [o0, some (.obj d), some x, some (nt ms k p q), some (.obj h1.n), o5, o6, o7, o8, o9, o10, o11]) (as_ := (aC cbE (aC (mSub (mV 3) (mC (.int 1))) (aC (mSub (mV 3) (mC (.int 2))) a0)))) (k' := k) (p' := p) (q' := q) false G5.dr rfl g5 ne m.c m' hp hq (r_aC ec (r_aC (r_sub (r_v rfl) rfl rfl) (r_aC (r_sub (r_v rfl) rfl rfl) rfl))) (by omega)
  rw [eqP_m m.c m'.c k p q hne] at e6
  have n6 := G6.n2
  have g6 : h6.get h1.n = some (hsO ms k p q) := (G6.same _ (AH.get_lt g5) ne).trans g5
  have H6 : Hs h6 h1.n k (.tup [.int p, .int q]) (M ms) ms.length := ⟨g6, rfl, clns_M ms, by rw [M, List.length_map], l3⟩
  have f4 : out4 [o0, some (.obj d), some x, some (nt ms k p q), some (.obj h1.n), o5, o6, o7, o8, o9, o10, o11] h2 = .nx [o0, some (.obj d), some x, some (nt ms k p q), some (.obj h1.n), o5, o6, o7, o8, o9, o10, o11] h4 := r_iff (r_orf e3 e4) rfl
  have f5 : out5 [o0, some (.obj d), some x, some (nt ms k p q), some (.obj h1.n), o5, o6, o7, o8, o9, o10, o11] h4 = .nx [o0, some (.obj d), some x, some (nt ms k p q), some (.obj h1.n), o5, o6, o7, o8, o9, o10, o11] h6 := r_iff (r_orf e5 e6) rfl
  let J : Nat → Loc' → AH → Prop := fun i l g => ∃ p5 p6 p7 p8 p9, l = [o0, some (.obj d), some x, some (nt ms k p q), some (.obj h1.n), p5, p6, p7, p8, p9, o10, o11] ∧ Go d (30 * i) h6 g
  have step : ∀ i l g, i < 4 → J i l g → ∃ l' g', turnF (mtN 5) inB (.int i) l g = .nx l' g' ∧ J (i + 1) l' g' := by
    rintro i l g hi ⟨p5, p6, p7, p8, p9, el, G⟩
    subst el
    have ng := G.n2
    obtain ⟨r6, r7, r8, r9, g', e', G'⟩ := in_turn (o0 := o0) (o2 := some x) (o5 := p5) (o6 := p6) (o7 := p7) (o8 := p8) (o9 := p9) (o10 := o10) (o11 := o11) (x := .int i) m hk G.dr (H6.go G ne) ne (by omega)
    exact ⟨_, g', e', _, r6, r7, r8, r9, rfl, (G.trans G').mono (by omega)⟩
  obtain ⟨l', h7, ef, p5, p6, p7, p8, p9, el, G7⟩ := for_rg (J := J) step 4 0 turns [o0, some (.obj d), some x, some (nt ms k p q), some (.obj h1.n), o5, o6, o7, o8, o9, o10, o11] h6 rfl (by decide) ⟨o5, o6, o7, o8, o9, rfl, Go.refl G6.dr⟩
  subst el
  exact ⟨_, _, p5, p6, p7, p8, p9, h7, turnF_eq (l1 := [o0, some (.obj d), some x, o3, o4, o5, o6, o7, o8, o9, o10, o11]) rfl (r_seq f1 (r_seq f2 (r_seq f3 (r_seq f4 (r_seq f5 (r_for (r_rg (rg4 _) rfl) ef)))))), ((((((G1.trans G2).trans G3).trans G4).trans G5).trans G6).trans G7).mono (by omega)⟩
theorem r_sl {ma : ME} {ml mh : Loc' → AH → R (Option Int)} {l : Loc'} {h h1 h2 h3 : AH} {x : AV} {v u : Option Int} {r : R AV} (a : ma l h = .ok x h1) (b : ml l h1 = .ok v h2) (c : mh l h2 = .ok u h3) (d : slA x v u h3 = r) : mSl ma ml mh l h = r := by
  rw [mSl, a, bind_ok, b, bind_ok, c, bind_ok, d]
theorem shaped_modes : SeqAt.shaped (.list ([0, 1, 2, 3, 4, 5].map mdd)) = true := by decide +kernel
theorem modes_ne {h : AH} {a b : Nat} (ga : h.get a = some (.lst (M [0, 1, 2, 3, 4, 5]))) (gb : h.get b = some (.lst (M [0, 1, 2, 3, 4, 5]))) : cmpA .NotEq (.obj a) (.obj b) h = .ok (.bl false) h := by
  have d1 : datL h (.obj a) = some (.list ([0, 1, 2, 3, 4, 5].map mdd)) := by
    unfold datL
    dsimp only
    rw [ga]
    dsimp only
    rw [dats_M]
    rfl
  have d2 : datL h (.obj b) = some (.list ([0, 1, 2, 3, 4, 5].map mdd)) := by
    unfold datL
    dsimp only
    rw [gb]
    dsimp only
    rw [dats_M]
    rfl
  have c : C6 [0, 1, 2, 3, 4, 5] := fun i z => by simp at z; omega
  have e : eqA h (.obj a) (.obj b) = some true := by
    unfold eqA
    rw [d1, d2]
    dsimp only
    rw [shaped_modes]
    show some (PyData.eqvAll ([0, 1, 2, 3, 4, 5].map mdd) ([0, 1, 2, 3, 4, 5].map mdd)) = _
    rw [eqvAll_M c c, beqL_refl]
  show rOpt ((eqA h (.obj a) (.obj b)).map fun b => AV.bl (!b)) h = _
  rw [e]
  rfl
theorem law_ok (ns : List Int) : ∃ h', f_law [.obj 0] (hO (.fz ns)) = .ok (.bl true) h' := by
  obtain ⟨h, eh⟩ : ∃ h, h = hO (.fz ns) := ⟨_, rfl⟩
  have nh : h.n = 1 := by rw [eh]; rfl
  have rh : h.ro = 1 := by rw [eh]; rfl
  have gh : h.get 0 = some (.fz ns) := by rw [eh]; rfl
  have tt : top = 1000000 := rfl
  rw [← eh]
  obtain ⟨zs, ez⟩ : ∃ zs : List Int, zs = cutA ns none (some 63) := ⟨_, rfl⟩
  have s0 : slA (.obj 0) none (some 63) h = .ok (.obj h.n) (h.push (.lst (zs.map AV.int))) := by
    unfold slA
    dsimp only
    rw [gh]
    dsimp only
    rw [← ez]
    exact alloc_ok (by omega)
  obtain ⟨h1, e1⟩ : ∃ h1, h1 = h.push (.lst (zs.map AV.int)) := ⟨_, rfl⟩
  have n1 : h1.n = 2 := by rw [e1]; show h.n + 1 = 2; omega
  have r1 : h1.ro = 1 := by rw [e1]; exact rh
  have gz : h1.get 1 = some (.lst (zs.map AV.int)) := by rw [e1, ← nh]; exact AH.get_push_new (by omega)
  rw [← e1, nh] at s0
  obtain ⟨ys, ep⟩ := pool_ok gz (by omega)
  obtain ⟨h2, e2⟩ : ∃ h2, h2 = h1.push (.lst (ys.map AV.int)) := ⟨_, rfl⟩
  have n2 : h2.n = 3 := by rw [e2]; show h1.n + 1 = 3; omega
  have r2 : h2.ro = 1 := by rw [e2]; exact r1
  have g2 : h2.get 2 = some (.lst (ys.map AV.int)) := by rw [e2, ← n1]; exact AH.get_push_new (by omega)
  rw [← e2, n1] at ep
  have D2 : Dr 2 h2 := ⟨by omega, ys, g2⟩
  have G3 := Go.push D2 (.lst (M [0, 1, 2, 3, 4, 5]))
  obtain ⟨h3, e3⟩ : ∃ h3, h3 = h2.push (.lst (M [0, 1, 2, 3, 4, 5])) := ⟨_, rfl⟩
  have n3 : h3.n = 4 := by rw [e3]; show h2.n + 1 = 4; omega
  rw [← e3] at G3
  have g3 : h3.get 3 = some (.lst (M [0, 1, 2, 3, 4, 5])) := by rw [e3, ← n2]; exact AH.get_push_new (by omega)
  have G4 := Go.push G3.dr (.lst (M [0, 1, 2, 3, 4, 5]))
  obtain ⟨h4, e4⟩ : ∃ h4, h4 = h3.push (.lst (M [0, 1, 2, 3, 4, 5])) := ⟨_, rfl⟩
  have n4 : h4.n = 5 := by rw [e4]; show h3.n + 1 = 5; omega
  rw [← e4] at G4
  have g4 : h4.get 4 = some (.lst (M [0, 1, 2, 3, 4, 5])) := by rw [e4, ← n3]; exact AH.get_push_new (by omega)
  have g4' : h4.get 3 = some (.lst (M [0, 1, 2, 3, 4, 5])) := by rw [e4]; exact (AH.get_push_old (by omega)).trans g3
  have a3 : g1 (b1A .list) [v_MODES] h2 = .ok (.obj 3) h3 := by
    show alloc h2 (.lst (M [0, 1, 2, 3, 4, 5])) = _
    rw [alloc_ok (by omega), n2, ← e3]
  have a4 : pureX f__law_all_modes [] h3 = .ok (.obj 4) h4 := by
    rw [modes_lst, alloc_ok (by omega), n3, ← e4]
  have t3 : top3 [some (.obj 1), some (.obj 2), none, none, none, none, none, none, none, none, none, none] h2 = .nx [some (.obj 1), some (.obj 2), none, none, none, none, none, none, none, none, none, none] h4 := r_iff (r_cmp (r_b1 rfl a3) a4 (modes_ne g4' g4)) rfl
  let J : Nat → Loc' → AH → Prop := fun i l g => ∃ o2 o3 o4 o5 o6 o7 o8 o9, l = [some (.obj 1), some (.obj 2), o2, o3, o4, o5, o6, o7, o8, o9, none, none] ∧ Go 2 (200 * i) h4 g
  have step : ∀ i l g, i < 6 → J i l g → ∃ l' g', turnF (mtN 2) outB (.int i) l g = .nx l' g' ∧ J (i + 1) l' g' := by
    rintro i l g hi ⟨o2, o3, o4, o5, o6, o7, o8, o9, el, G⟩
    subst el
    have ng := G.n2
    obtain ⟨p3, p4, p5, p6, p7, p8, p9, g', e', G'⟩ := out_turn (o0 := some (.obj 1)) (o2 := o2) (o3 := o3) (o4 := o4) (o5 := o5) (o6 := o6) (o7 := o7) (o8 := o8) (o9 := o9) (o10 := none) (o11 := none) (x := .int i) G.dr (by omega)
    exact ⟨_, g', e', _, p3, p4, p5, p6, p7, p8, p9, rfl, (G.trans G').mono (by omega)⟩
  obtain ⟨l', h5, ef, o2, o3, o4, o5, o6, o7, o8, o9, el, G5⟩ := for_rg (J := J) step 6 0 turns _ h4 rfl (by decide) ⟨none, none, none, none, none, none, none, none, rfl, Go.refl G4.dr⟩
  refine ⟨h5, ?_⟩
  have e0 : m_law [some (.obj 0), none, none, none, none, none, none, none, none, none, none, none] h = .rt (.bl true) h5 :=
    r_seq (r_set (r_sl (r_v rfl) rfl rfl s0)) (r_seq (r_set (r_call (r_aC (r_v rfl) (r_aC (r_tup rfl (by decide)) rfl)) ep)) (r_seq t3 (r_seq (r_for (r_rg (rg6 _) rfl) ef) (r_ret rfl))))
  exact r_fn (np := 1) (n := 12) (args := [.obj 0]) rfl e0
end Ev

theorem PySem.Challenge.cw_shelfmove_k01_whole_views_holds : PySem.Challenge.rw_shelfmove_k01_whole_views.Holds :=
  Ev.holds_of fun ns _ => Ev.law_ok ns
