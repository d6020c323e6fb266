import PyProof.Rows.All
import Wide.All
import OpenK.AllK
import Wide.FinOn
import HandS.ForMost
import HandS.ForExc
import PyProof.P3Statements
import KE.KDictKeyed
import KE.SortData
import HandS.Slots
import HandS.SlotsVar
import HandS.SlotsOwn
import HandS.Lambda
import HandS.Deep
import HandS.TupLe
import HandS.TupAny
import KE.DataCmp
import HandS.Wide
import HandS.IsInst
import HandS.Conv
import HandS.ExcCtx
import HandS.Star
import HandS.WordsExc
import HandS.TupLen
import KE.KDictSum
import KE.KDictWalk
import KE.GoesEnum
import HandS.Zip
import HandS.DictComp
import KE.KDictDisplayH
import HandS.Iter
import HandS.Defaults
import HandS.HeadHook2
import HandS.Head0
import HandS.Head1
import HandS.Head2
import HandS.HeadEnd
import HandS.HeadHook1
import HandS.ExcInit
import KE.KExcSuper
import HandS.ExcField
import HandS.IterVal
import HandS.HeadHook4
import HandS.EndTab
import HandS.HeadWalk
import KE.KUnpackStar
import HandS.Text
import HandS.FStr
import HandS.Replace
import HandS.Zip0
import HandS.HotCalls
import HandS.Comp
import HandS.ExcIs
import HandS.TupMul
import HandS.More
import HandS.ExcOwn
import HandS.Style
import PyProof.ExcBaseAll.ValueError
import HandS.OwnIter
import HandS.IterNext
import HandS.GenOver
import PyProof.GenQ
import PyProof.CodeObjX
import HandS.GenList
import PySem.Challenge.RW_shelfmove_k04_refused
set_option Elab.async false
set_option linter.all false
set_option maxRecDepth 100000
set_option maxHeartbeats 4000000
/-! the abstract machine: values, heap, results -/
namespace Ev
open PySem PySem.Spec PyProof.Rows L2

inductive AV where
  | non | bl (b : Bool) | int (i : Int) | str (x : Str) | tup (xs : List AV) | obj (n : Nat)
instance : Inhabited AV := ⟨.non⟩

inductive AO where
  | lst (xs : List AV)
  | fz (ns : List Int)
  | dct (kvs : List (AV × AV))
  | ins (c : Nat) (fs : List (Option AV))
  | odd

/-! ### the heap: a tree by binary places -/
inductive Tr where
  | nil
  | node (v : Option AO) (l r : Tr)
def Tr.get : Tr → Nat → Option AO
  | .nil, _ => none
  | .node v l r, n => match n with
    | 0 => v
    | m + 1 => match Nat.beq (m % 2) 0 with
      | true => l.get (m / 2)
      | false => r.get (m / 2)
def Tr.put : Nat → Tr → Nat → AO → Tr
  | 0, t, _, _ => t
  | d + 1, t, n, o =>
    match t with
    | .nil => (match n with
      | 0 => .node (some o) .nil .nil
      | m + 1 => match Nat.beq (m % 2) 0 with
        | true => .node none (Tr.put d .nil (m / 2) o) .nil
        | false => .node none .nil (Tr.put d .nil (m / 2) o))
    | .node v l r => (match n with
      | 0 => .node (some o) l r
      | m + 1 => match Nat.beq (m % 2) 0 with
        | true => .node v (Tr.put d l (m / 2) o) r
        | false => .node v l (Tr.put d r (m / 2) o))
theorem beq_ff {a b : Nat} (h : Nat.beq a b = false) : a ≠ b := Nat.ne_of_beq_eq_false h
theorem beq_tt {a b : Nat} (h : Nat.beq a b = true) : a = b := Nat.eq_of_beq_eq_true h
theorem Tr.get_nil (n : Nat) : Tr.get .nil n = none := rfl
theorem Tr.get_put_same : ∀ (d : Nat) (t : Tr) (n : Nat) (o : AO), n + 1 < 2 ^ d → (Tr.put d t n o).get n = some o
  | 0, _, n, _, h => by simp at h
  | d + 1, t, n, o, h => by
    cases t with
    | nil =>
      cases n with
      | zero => rfl
      | succ m =>
        have hm : m / 2 + 1 < 2 ^ d := by rw [Nat.pow_succ] at h; omega
        show (match Nat.beq (m % 2) 0 with
          | true => Tr.node none (Tr.put d .nil (m / 2) o) .nil
          | false => Tr.node none .nil (Tr.put d .nil (m / 2) o)).get (m + 1) = _
        cases hb : Nat.beq (m % 2) 0 with
        | true => show (match Nat.beq (m % 2) 0 with | true => (Tr.put d .nil (m / 2) o).get (m / 2) | false => Tr.get .nil (m / 2)) = _; rw [hb]; exact Tr.get_put_same d .nil _ o hm
        | false => show (match Nat.beq (m % 2) 0 with | true => Tr.get .nil (m / 2) | false => (Tr.put d .nil (m / 2) o).get (m / 2)) = _; rw [hb]; exact Tr.get_put_same d .nil _ o hm
    | node v l r =>
      cases n with
      | zero => rfl
      | succ m =>
        have hm : m / 2 + 1 < 2 ^ d := by rw [Nat.pow_succ] at h; omega
        show (match Nat.beq (m % 2) 0 with
          | true => Tr.node v (Tr.put d l (m / 2) o) r
          | false => Tr.node v l (Tr.put d r (m / 2) o)).get (m + 1) = _
        cases hb : Nat.beq (m % 2) 0 with
        | true => show (match Nat.beq (m % 2) 0 with | true => (Tr.put d l (m / 2) o).get (m / 2) | false => r.get (m / 2)) = _; rw [hb]; exact Tr.get_put_same d l _ o hm
        | false => show (match Nat.beq (m % 2) 0 with | true => l.get (m / 2) | false => (Tr.put d r (m / 2) o).get (m / 2)) = _; rw [hb]; exact Tr.get_put_same d r _ o hm
theorem Tr.get_put_ne : ∀ (d : Nat) (t : Tr) (n k : Nat) (o : AO), k ≠ n → (Tr.put d t n o).get k = t.get k
  | 0, _, n, _, _, h => rfl
  | d + 1, t, n, k, o, h => by
    cases t with
    | nil =>
      cases n with
      | zero =>
        cases k with
        | zero => exact absurd rfl h
        | succ j => show (match Nat.beq (j % 2) 0 with | true => Tr.get .nil (j / 2) | false => Tr.get .nil (j / 2)) = none; cases Nat.beq (j % 2) 0 <;> rfl
      | succ m =>
        show (match Nat.beq (m % 2) 0 with
          | true => Tr.node none (Tr.put d .nil (m / 2) o) .nil
          | false => Tr.node none .nil (Tr.put d .nil (m / 2) o)).get k = none
        cases hb : Nat.beq (m % 2) 0 with
        | true =>
          cases k with
          | zero => rfl
          | succ j =>
            show (match Nat.beq (j % 2) 0 with | true => (Tr.put d .nil (m / 2) o).get (j / 2) | false => Tr.get .nil (j / 2)) = none
            cases hj : Nat.beq (j % 2) 0 with
            | true =>
              have h1 := beq_tt hb
              have h2 := beq_tt hj
              exact Tr.get_put_ne d .nil _ _ o (by omega)
            | false => rfl
        | false =>
          cases k with
          | zero => rfl
          | succ j =>
            show (match Nat.beq (j % 2) 0 with | true => Tr.get .nil (j / 2) | false => (Tr.put d .nil (m / 2) o).get (j / 2)) = none
            cases hj : Nat.beq (j % 2) 0 with
            | true => rfl
            | false =>
              have h1 := beq_ff hb
              have h2 := beq_ff hj
              exact Tr.get_put_ne d .nil _ _ o (by omega)
    | node v l r =>
      cases n with
      | zero =>
        cases k with
        | zero => exact absurd rfl h
        | succ j => rfl
      | succ m =>
        show (match Nat.beq (m % 2) 0 with
          | true => Tr.node v (Tr.put d l (m / 2) o) r
          | false => Tr.node v l (Tr.put d r (m / 2) o)).get k = _
        cases hb : Nat.beq (m % 2) 0 with
        | true =>
          cases k with
          | zero => rfl
          | succ j =>
            show (match Nat.beq (j % 2) 0 with | true => (Tr.put d l (m / 2) o).get (j / 2) | false => r.get (j / 2)) = (match Nat.beq (j % 2) 0 with | true => l.get (j / 2) | false => r.get (j / 2))
            cases hj : Nat.beq (j % 2) 0 with
            | true =>
              have h1 := beq_tt hb
              have h2 := beq_tt hj
              exact Tr.get_put_ne d l _ _ o (by omega)
            | false => rfl
        | false =>
          cases k with
          | zero => rfl
          | succ j =>
            show (match Nat.beq (j % 2) 0 with | true => l.get (j / 2) | false => (Tr.put d r (m / 2) o).get (j / 2)) = (match Nat.beq (j % 2) 0 with | true => l.get (j / 2) | false => r.get (j / 2))
            cases hj : Nat.beq (j % 2) 0 with
            | true => rfl
            | false =>
              have h1 := beq_ff hb
              have h2 := beq_ff hj
              exact Tr.get_put_ne d r _ _ o (by omega)

/-- the heap: n objects; those below ro are read alone -/
structure AH where
  t : Tr
  n : Nat
  ro : Nat
def AH.get (h : AH) (k : Nat) : Option AO := match Nat.blt k h.n with
  | true => h.t.get k
  | false => none
def top : Nat := 1000000
def AH.push (h : AH) (o : AO) : AH := ⟨Tr.put 24 h.t h.n o, h.n + 1, h.ro⟩
def AH.set (h : AH) (k : Nat) (o : AO) : AH := ⟨Tr.put 24 h.t k o, h.n, h.ro⟩
theorem blt_tt {a b : Nat} : Nat.blt a b = true ↔ a < b := ⟨fun h => Nat.le_of_ble_eq_true h, fun h => Nat.ble_eq_true_of_le h⟩
theorem blt_ff {a b : Nat} : Nat.blt a b = false ↔ b ≤ a := by
  constructor
  · intro h
    apply Nat.le_of_not_lt
    intro q
    rw [blt_tt.mpr q] at h; cases h
  · intro h
    cases e : Nat.blt a b with
    | false => rfl
    | true => exact absurd (blt_tt.mp e) (Nat.not_lt.mpr h)
theorem AH.get_lt {h : AH} {k : Nat} {o : AO} (e : h.get k = some o) : k < h.n := by
  unfold AH.get at e
  cases q : Nat.blt k h.n with
  | true => exact blt_tt.mp q
  | false => rw [q] at e; cases e
theorem AH.get_push_new {h : AH} {o : AO} (hn : h.n < top) : (h.push o).get h.n = some o := by
  unfold AH.get AH.push
  show (match Nat.blt h.n (h.n + 1) with | true => (Tr.put 24 h.t h.n o).get h.n | false => none) = some o
  rw [blt_tt.mpr (Nat.lt_succ_self _)]
  exact Tr.get_put_same 24 _ _ _ (by unfold top at hn; have : (2 : Nat) ^ 24 = 16777216 := by decide
                                     omega)
theorem AH.get_push_old {h : AH} {o : AO} {k : Nat} (hk : k ≠ h.n) : (h.push o).get k = h.get k := by
  unfold AH.get AH.push
  show (match Nat.blt k (h.n + 1) with | true => (Tr.put 24 h.t h.n o).get k | false => none) = (match Nat.blt k h.n with | true => h.t.get k | false => none)
  rw [Tr.get_put_ne 24 _ _ _ _ hk]
  cases e : Nat.blt k h.n with
  | true => rw [blt_tt.mpr (Nat.lt_succ_of_lt (blt_tt.mp e))]
  | false => rw [blt_ff.mpr (by have := blt_ff.mp e; omega)]
theorem AH.get_set_same {h : AH} {o : AO} {k : Nat} (hn : h.n ≤ top) (hk : k < h.n) : (h.set k o).get k = some o := by
  unfold AH.get AH.set
  show (match Nat.blt k h.n with | true => (Tr.put 24 h.t k o).get k | false => none) = some o
  rw [blt_tt.mpr hk]
  exact Tr.get_put_same 24 _ _ _ (by unfold top at hn; have : (2 : Nat) ^ 24 = 16777216 := by decide
                                     omega)
theorem AH.get_set_ne {h : AH} {o : AO} {k j : Nat} (hk : j ≠ k) : (h.set k o).get j = h.get j := by
  unfold AH.get AH.set
  show (match Nat.blt j h.n with | true => (Tr.put 24 h.t k o).get j | false => none) = _
  rw [Tr.get_put_ne 24 _ _ _ _ hk]

/-! ### results -/
/-- an exception: its class, its one field -/
structure AX where
  c : Nat
  f : Option (Str × AV)
inductive R (α : Type) where
  | ok (a : α) (h : AH)
  | ex (x : AX) (h : AH)
  | bad
def R.bind {α β : Type} (r : R α) (k : α → AH → R β) : R β := match r with
  | .ok a h => k a h
  | .ex x h => .ex x h
  | .bad => .bad
end Ev
set_option Elab.async false
set_option linter.all false
set_option maxRecDepth 100000
set_option maxHeartbeats 4000000
/-! the abstract machine: operations, syntax, evaluation -/
namespace Ev
open PySem PySem.Spec PyProof.Rows L2

/-! ### data -/
mutual
def AV.dat : AV → Option PyData
  | .non => some .none
  | .bl b => some (.bool b)
  | .int i => some (.int i)
  | .str x => some (.str x)
  | .tup xs => (AV.dats xs).map .tuple
  | .obj _ => none
def AV.dats : List AV → Option (List PyData)
  | [] => some []
  | x :: xs => match AV.dat x with
    | some d => (AV.dats xs).map (d :: ·)
    | none => none
end
mutual
/-- no object from n on -/
def AV.cln (n : Nat) : AV → Bool
  | .non => true
  | .bl _ => true
  | .int _ => true
  | .str _ => true
  | .tup xs => AV.clns n xs
  | .obj k => Nat.blt k n
def AV.clns (n : Nat) : List AV → Bool
  | [] => true
  | x :: xs => match AV.cln n x with
    | true => AV.clns n xs
    | false => false
end
mutual
def AV.key : AV → Option NestedKey
  | .non => some .none
  | .bl b => some (.num (if b then 1 else 0))
  | .int i => some (.num i)
  | .str x => some (.text x)
  | .tup xs => (AV.keys xs).map .tup
  | .obj _ => none
def AV.keys : List AV → Option (List NestedKey)
  | [] => some []
  | x :: xs => match AV.key x with
    | some d => (AV.keys xs).map (d :: ·)
    | none => none
end
/-- a dict's key: a tuple, not too deep -/
def AV.tkey : AV → Option NestedKey
  | .tup xs => match AV.keys xs with
    | some ks => (match Nat.ble (NestedKey.depth (.tup ks)) 8 with
      | true => some (.tup ks)
      | false => none)
    | none => none
  | _ => none
/-- data, a list's items too -/
def datL (h : AH) (v : AV) : Option PyData := match v with
  | .obj n => (match h.get n with
    | some (.lst xs) => (AV.dats xs).map .list
    | some (.fz ns) => some (.list (ns.map .int))
    | _ => none)
  | v => v.dat
def eqA (h : AH) (x y : AV) : Option Bool := match datL h x, datL h y with
  | some d, some e => (match SeqAt.shaped d && SeqAt.shaped e with
    | true => some (PyData.eqv d e)
    | false => none)
  | _, _ => none
/-! ### dicts -/
def dfind (k : NestedKey) : List (AV × AV) → Option AV
  | [] => none
  | (a, v) :: r => match AV.tkey a with
    | some k' => (match decide (k' = k) with
      | true => some v
      | false => dfind k r)
    | none => none
def dhas (k : NestedKey) : List (AV × AV) → Bool
  | [] => false
  | (a, _) :: r => match AV.tkey a with
    | some k' => (match decide (k' = k) with
      | true => true
      | false => dhas k r)
    | none => false
def dput (k : NestedKey) (kv v : AV) : List (AV × AV) → List (AV × AV)
  | [] => [(kv, v)]
  | (a, u) :: r => match AV.tkey a with
    | some k' => (match decide (k' = k) with
      | true => (a, v) :: r
      | false => (a, u) :: dput k kv v r)
    | none => (a, u) :: r
/-! ### results, small words -/
def rOpt {α : Type} (o : Option α) (h : AH) : R α := match o with
  | some a => .ok a h
  | none => .bad
def lim (n : Nat) : Bool := Nat.ble n 16777216
def alloc (h : AH) (o : AO) : R AV := match Nat.blt h.n top with
  | true => .ok (.obj h.n) (h.push o)
  | false => .bad
def small (i : Int) : Bool := decide (-(2 ^ 64) < i ∧ i < 2 ^ 64)
/-- great factors -/
def wide (i j : Int) : Bool := decide (i.natAbs < 2 ^ 9000 ∧ j.natAbs < 2 ^ 9000)
def binA (op : Operator) (x y : AV) (h : AH) : R AV := match op, x, y with
  | .Add, .int i, .int j => .ok (.int (i + j)) h
  | .Add, .tup xs, .tup ys => (match lim (xs.length + ys.length) with
    | true => .ok (.tup (xs ++ ys)) h
    | false => .bad)
  | .Add, .obj a, .obj b => (match h.get a, h.get b with
    | some (.lst xs), some (.lst ys) => (match lim (xs.length + ys.length) with
      | true => alloc h (.lst (xs ++ ys))
      | false => .bad)
    | _, _ => .bad)
  | .Sub, .int i, .int j => .ok (.int (i - j)) h
  | .Mult, .int i, .int j => (match small i || small j || wide i j with
    | true => .ok (.int (i * j)) h
    | false => .bad)
  | .FloorDiv, .int i, .int j => (match decide (0 < j ∧ j < 1073741824) with
    | true => .ok (.int (i / j)) h
    | false => .bad)
  | .Mod, .int i, .int j => (match decide (0 < j) with
    | true => .ok (.int (i % j)) h
    | false => .bad)
  | .Pow, .int i, .int j => (match decide (0 ≤ j ∧ j ≤ 1000000 ∧ i.natAbs < 2 ^ 64) with
    | true => .ok (.int (i ^ j.toNat)) h
    | false => .bad)
  | _, _, _ => .bad
def itemsIn (h : AH) (v : AV) : Option (List AV) := match v with
  | .tup xs => some xs
  | .obj n => (match h.get n with
    | some (.lst xs) => some xs
    | _ => none)
  | _ => none
def hasA (d : PyData) : List PyData → Bool
  | [] => false
  | e :: r => match PyData.eqv e d with
    | true => true
    | false => hasA d r
def inA (h : AH) (x y : AV) : Option Bool := match y with
  | .tup ys => (match x.dat, AV.dats ys with
    | some d, some ds => (match SeqAt.shaped d && SeqAt.shaped (.tuple ds) with
      | true => some (hasA d ds)
      | false => none)
    | _, _ => none)
  | .obj n => (match h.get n with
    | some (.lst ys) => (match x.dat, AV.dats ys with
      | some d, some ds => (match SeqAt.shaped d && SeqAt.shaped (.list ds) with
        | true => some (hasA d ds)
        | false => none)
      | _, _ => none)
    | some (.dct kvs) => (match AV.tkey x with
      | some k => some (dhas k kvs)
      | none => none)
    | _ => none)
  | _ => none
def cmpA (op : CmpOp) (x y : AV) (h : AH) : R AV := match op with
  | .Eq => rOpt ((eqA h x y).map .bl) h
  | .NotEq => rOpt ((eqA h x y).map fun b => .bl (!b)) h
  | .In => rOpt ((inA h x y).map .bl) h
  | .NotIn => rOpt ((inA h x y).map fun b => .bl (!b)) h
  | .Lt => (match x, y with
    | .int i, .int j => .ok (.bl (decide (i < j))) h
    | .tup xs, .tup ys => (match AV.dats xs, AV.dats ys with
      | some d, some e => (match PySem.W.alike (.tuple d) (.tuple e) && (SeqAt.shaped (.tuple d) && SeqAt.shaped (.tuple e)) with
        | true => .ok (.bl (PySem.W.dataLt (.tuple d) (.tuple e))) h
        | false => .bad)
      | _, _ => .bad)
    | _, _ => .bad)
  | .LtE => (match x, y with
    | .int i, .int j => .ok (.bl (decide (i ≤ j))) h
    | _, _ => .bad)
  | .Gt => (match x, y with
    | .int i, .int j => .ok (.bl (decide (j < i))) h
    | _, _ => .bad)
  | .GtE => (match x, y with
    | .int i, .int j => .ok (.bl (decide (j ≤ i))) h
    | _, _ => .bad)
  | .Is => (match x, y with
    | .non, .non => .ok (.bl true) h
    | .bl a, .bl b => .ok (.bl (a == b)) h
    | _, .non => .ok (.bl false) h
    | _, _ => .bad)
  | .IsNot => (match x, y with
    | .non, .non => .ok (.bl false) h
    | .bl a, .bl b => .ok (.bl (!(a == b))) h
    | _, .non => .ok (.bl true) h
    | _, _ => .bad)
def subA (x y : AV) (h : AH) : R AV := match x, y with
  | .tup xs, .int i => rOpt (atI xs i) h
  | .obj n, .int i => (match h.get n with
    | some (.lst xs) => rOpt (atI xs i) h
    | some (.fz ns) => rOpt ((atI ns i).map .int) h
    | _ => .bad)
  | .obj n, .tup ks => (match h.get n, AV.tkey (.tup ks) with
    | some (.dct kvs), some k => rOpt (dfind k kvs) h
    | _, _ => .bad)
  | _, _ => .bad
end Ev
set_option Elab.async false
set_option linter.all false
set_option maxRecDepth 100000
set_option maxHeartbeats 4000000
/-! the abstract machine: syntax, evaluation -/
namespace Ev
open PySem PySem.Spec PyProof.Rows L2

abbrev Loc' := List (Option AV)
abbrev Fn := List AV → AH → R AV
/-- the defs, the module's constants -/
structure Tab where
  fn : Nat → Fn
  gl : Nat → AV

inductive Bi where
  | abs | int | max2 | min2 | str
  deriving DecidableEq
inductive Bl where
  | all | any | sum | tuple | list | sorted | sset
  deriving DecidableEq
inductive Bm where
  | append | pop | pop0 | extend
  deriving DecidableEq
/-- built-in types -/
inductive Ty where
  | nt | bool | int | str | tuple | list | dict
  deriving DecidableEq
def Ty.eq : Ty → Ty → Bool
  | .nt, .nt => true | .bool, .bool => true | .int, .int => true | .str, .str => true | .tuple, .tuple => true | .list, .list => true | .dict, .dict => true
  | _, _ => false
def Ty.sub : Ty → Ty → Bool
  | .bool, .int => true
  | a, b => Ty.eq a b
def Ty.name : Ty → String
  | .nt => "NoneType" | .bool => "bool" | .int => "int" | .str => "str" | .tuple => "tuple" | .list => "list" | .dict => "dict"
/-- the classes that isinstance asks for -/
inductive Cl where
  | ty (n : Ty)
  | tys (n m : Ty)
  | own (c : Nat) (cs : List Nat)

mutual
inductive E where
  | var (i : Nat)
  | non
  | bl (b : Bool)
  | int (i : Int)
  | str (x : Str)
  | gl (i : Nat)
  | tup (es : Es)
  | mk (es : Es)
  | lc (own : List (Str × Nat)) (t : T) (it : It) (ifs : O) (e : E)
  | lc2 (own : List (Str × Nat)) (vs1 : List Nat) (t : T) (it : It) (t1 : T) (it1 : It) (e : E)
  | dct0
  | dct1 (k v : E)
  | dc (own : List (Str × Nat)) (t : T) (it : It) (k v : E)
  | bin (op : Operator) (a b : E)
  | neg (a : E)
  | cmp (op : CmpOp) (a b : E)
  | oeq (ng : Bool) (alts : List (Nat × Nat)) (a b : E)
  | chain (op op' : CmpOp) (a b c : E)
  | and (a b : E)
  | or (a b : E)
  | not (a : E)
  | ite (c a b : E)
  | sub (a i : E)
  | sl (a : E) (lo hi : O)
  | att (a : E) (alts : List (Nat × Nat))
  | prop (a : E) (alts : List (Nat × Nat))
  | call (k : Nat) (es : Es)
  | meth (o : E) (alts : List (Nat × Nat)) (es : Es)
  | new (c k : Nat) (es : Es)
  | len (a : E)
  | lenO (a : E) (alts : List (Nat × Nat))
  | bi (b : Bi) (es : Es)
  | b1 (b : Bl) (a : E)
  | bm (m : Bm) (o : E) (es : Es)
  | isi (a : E) (c : Cl)
inductive Es where
  | nil
  | cons (e : E) (r : Es)
  | star (e : E) (r : Es)
inductive O where
  | none
  | some (e : E)
inductive It where
  | of (e : E)
  | key (i : Nat)
  | enum (e : E)
  | zip (a b : E)
  | rng (a : E)
inductive T where
  | nm (i : Nat)
  | tp (ts : Ts)
inductive Ts where
  | nil
  | cons (t : T) (r : Ts)
end
mutual
inductive S where
  | expr (e : E)
  | asg (t : T) (e : E)
  | par (i j : Nat) (a b : E)
  | att (o : E) (alts : List (Nat × Nat)) (e : E)
  | put (d k v : E)
  | ite (c : E) (a b : Ss)
  | whl (c : E) (b : Ss)
  | for_ (t : T) (it : It) (b : Ss)
  | ret (e : E)
  | pass
  | never
inductive Ss where
  | nil
  | cons (s : S) (r : Ss)
end

/-! ### what is walked -/
inductive Src where
  | tp (xs : List AV)
  | ob (n : Nat)
  | ent (xs : List AV)
  | enl (n : Nat)
  | zpt (xs ys : List AV)
  | zpl (n m : Nat)
  | rg (n : Nat)
  | dk (n : Nat) (ks : List AV)
def Src.at : Src → AH → Nat → Option (Option AV)
  | .tp xs, _, i => some xs[i]?
  | .ob n, h, i => (match h.get n with
    | some (.lst xs) => some xs[i]?
    | _ => none)
  | .ent xs, h, i => (match xs[i]? with
    | some x => some (some (.tup [.int i, x]))
    | none => some none)
  | .enl n, h, i => (match h.get n with
    | some (.lst xs) => (match xs[i]? with
      | some x => some (some (.tup [.int i, x]))
      | none => some none)
    | _ => none)
  | .zpt xs ys, h, i => (match xs[i]?, ys[i]? with
    | some x, some y => some (some (.tup [x, y]))
    | _, _ => some none)
  | .zpl n m, h, i => (match h.get n, h.get m with
    | some (.lst xs), some (.lst ys) => (match xs[i]?, ys[i]? with
      | some x, some y => some (some (.tup [x, y]))
      | _, _ => some none)
    | _, _ => none)
  | .rg n, _, i => (match Nat.blt i n with
    | true => some (some (.int i))
    | false => some none)
  | .dk _ ks, _, i => some ks[i]?
def srcOf (v : AV) (h : AH) : Option Src := match v with
  | .tup xs => some (.tp xs)
  | .obj n => (match h.get n with
    | some (.lst _) => some (.ob n)
    | _ => none)
  | _ => none
/-- .. or a dict's keys -/
def srcK (v : AV) (h : AH) : Option Src := match v with
  | .obj n => (match h.get n with
    | some (.dct kvs) => some (.dk n (kvs.map (·.1)))
    | _ => srcOf v h)
  | v => srcOf v h
/-- while a dict is walked nothing that stood is written -/
def lockH (s : Src) (h : AH) : AH := match s with
  | .dk _ _ => ⟨h.t, h.n, h.n⟩
  | _ => h
def freeH (ro : Nat) (h : AH) : AH := ⟨h.t, h.n, ro⟩
def enOf (v : AV) (h : AH) : Option Src := match v with
  | .tup xs => some (.ent xs)
  | .obj n => (match h.get n with
    | some (.lst _) => some (.enl n)
    | _ => none)
  | _ => none
def zpOf (v w : AV) (h : AH) : Option Src := match v, w with
  | .tup xs, .tup ys => some (.zpt xs ys)
  | .obj n, .obj m => (match h.get n, h.get m with
    | some (.lst _), some (.lst _) => some (.zpl n m)
    | _, _ => none)
  | _, _ => none
def turns : Nat := 1000000
/-- a turn gives something, or nothing (its tests) -/
def compLoop (s : Src) (turn : AV → AH → R (List AV)) : Nat → Nat → AH → R (List AV)
  | 0, _, _ => .bad
  | m + 1, i, h => match s.at h i with
    | some (some x) => (match turn x h with
      | .ok ys h1 => (match compLoop s turn m (i + 1) h1 with
        | .ok r h2 => .ok (ys ++ r) h2
        | _ => .bad)
      | _ => .bad)
    | some none => .ok [] h
    | none => .bad
inductive RS where
  | nx (l : Loc') (h : AH)
  | rt (v : AV) (h : AH)
  | ex (x : AX) (h : AH)
  | bad
def RS.bind (r : RS) (k : Loc' → AH → RS) : RS := match r with
  | .nx l h => k l h
  | .rt v h => .rt v h
  | .ex x h => .ex x h
  | .bad => .bad
def R.toS {α : Type} (r : R α) (k : α → AH → RS) : RS := match r with
  | .ok a h => k a h
  | .ex x h => .ex x h
  | .bad => .bad
def forLoop (s : Src) (turn : AV → Loc' → AH → RS) : Nat → Nat → Loc' → AH → RS
  | 0, _, _, _ => .bad
  | m + 1, i, l, h => match s.at h i with
    | some (some x) => (turn x l h).bind fun l1 h1 => forLoop s turn m (i + 1) l1 h1
    | some none => .nx l h
    | none => .bad
def whileLoop (c : Loc' → AH → R AV) (b : Loc' → AH → RS) : Nat → Loc' → AH → RS
  | 0, _, _ => .bad
  | m + 1, l, h => (c l h).toS fun v h1 => match v with
    | .bl true => (b l h1).bind fun l2 h2 => whileLoop c b m l2 h2
    | .bl false => .nx l h1
    | _ => .bad

/-! ### targets -/
mutual
def asgT : T → AV → Loc' → Option Loc'
  | .nm i, v, l => some (l.set i (some v))
  | .tp ts, v, l => (match v with
    | .tup xs => asgTs ts xs l
    | _ => none)
def asgTs : Ts → List AV → Loc' → Option Loc'
  | .nil, [], l => some l
  | .cons t r, x :: xs, l => (match asgT t x l with
    | some l1 => asgTs r xs l1
    | none => none)
  | .nil, _ :: _, _ => none
  | .cons _ _, [], _ => none
end
def wipeL (l : Loc') : List Nat → Loc'
  | [] => l
  | v :: vs => (wipeL l vs).set v none
def cutA {α : Type} (xs : List α) (lo hi : Option Int) : List α := (xs.drop (HT.sIx xs.length 0 lo)).take (HT.sIx xs.length xs.length hi - HT.sIx xs.length 0 lo)
def slA (x : AV) (lo hi : Option Int) (h : AH) : R AV := match x with
  | .tup xs => .ok (.tup (cutA xs lo hi)) h
  | .obj n => (match h.get n with
    | some (.lst xs) => alloc h (.lst (cutA xs lo hi))
    | some (.fz ns) => alloc h (.lst ((cutA ns lo hi).map .int))
    | _ => .bad)
  | _ => .bad
def insOf (h : AH) (v : AV) : Option (Nat × List (Option AV)) := match v with
  | .obj n => (match h.get n with
    | some (.ins c fs) => some (c, fs)
    | _ => none)
  | _ => none
def altOf {α : Type} (c : Nat) : List (Nat × α) → Option α
  | [] => none
  | (k, a) :: r => match Nat.beq k c with
    | true => some a
    | false => altOf c r
def attA (v : AV) (alts : List (Nat × Nat)) (h : AH) : R AV := match insOf h v with
  | some (c, fs) => (match altOf c alts with
    | some i => rOpt (fs[i]?.join) h
    | none => .bad)
  | none => .bad
def putS' (i : Nat) (v : AV) (vs : List (Option AV)) : List (Option AV) := (vs ++ List.replicate (i + 1 - vs.length) Option.none).set i (some v)
def setA (v : AV) (alts : List (Nat × Nat)) (y : AV) (h : AH) : R AV := match v with
  | .obj n => (match h.get n with
    | some (.ins c fs) => (match altOf c alts with
      | some i => (match Nat.ble h.ro n with
        | true => .ok .non (h.set n (.ins c (putS' i y fs)))
        | false => .bad)
      | none => .bad)
    | _ => .bad)
  | _ => .bad
def lenA (v : AV) (h : AH) : R AV := match v with
  | .tup xs => .ok (.int xs.length) h
  | .str x => (match lim x.length with
    | true => .ok (.int x.length) h
    | false => .bad)
  | .obj n => (match h.get n with
    | some (.lst xs) => .ok (.int xs.length) h
    | some (.fz ns) => .ok (.int ns.length) h
    | some (.dct kvs) => .ok (.int kvs.length) h
    | _ => .bad)
  | _ => .bad
def biA (b : Bi) (vs : List AV) (h : AH) : R AV := match b, vs with
  | .abs, [.int i] => .ok (.int (if i < 0 then -i else i)) h
  | .int, [.int i] => .ok (.int i) h
  | .max2, [.int i, .int j] => .ok (.int (if j > i then j else i)) h
  | .min2, [.int i, .int j] => .ok (.int (if j < i then j else i)) h
  | _, _ => .bad
def blsOf : List AV → Option (List Bool)
  | [] => some []
  | .bl b :: r => (blsOf r).map (b :: ·)
  | _ :: _ => none
def intsOf : List AV → Option (List Int)
  | [] => some []
  | .int b :: r => (intsOf r).map (b :: ·)
  | _ :: _ => none
/-- put in order, the first of equals first -/
def insA (x : AV × PyData) : List (AV × PyData) → List (AV × PyData)
  | [] => [x]
  | y :: r => match PySem.W.dataLt y.2 x.2 with
    | true => y :: insA x r
    | false => x :: y :: r
def sortP : List (AV × PyData) → List (AV × PyData)
  | [] => []
  | x :: r => insA x (sortP r)
def allAlike : List PyData → Bool
  | [] => true
  | d :: r => r.all (fun e => PySem.W.alike d e && PySem.W.alike e d) && allAlike r
def tupsOk : List PyData → Bool
  | [] => true
  | .tuple (_ :: _) :: r => tupsOk r
  | _ :: _ => false
def sortA (xs : List AV) : Option (List AV) := match AV.dats xs with
  | some ds => (match allAlike ds && (ds.all fun d => PySem.W.alike d d) && tupsOk ds && (ds.all fun d => Nat.ble d.depth 50) with
    | true => some ((sortP (xs.zip ds)).map (·.1))
    | false => none)
  | none => none
/-- the first of each key -/
def dedup (ks : List NestedKey) : List AV → Option (List AV)
  | [] => some []
  | x :: r => match AV.tkey x with
    | some k => (match ks.any fun k' => decide (k' = k) with
      | true => dedup ks r
      | false => (dedup (k :: ks) r).map (x :: ·))
    | none => none
def b1A (b : Bl) (a : AV) (h : AH) : R AV := match a with
  | .tup xs => (match b with
    | .tuple => .ok (.tup xs) h
    | .list => alloc h (.lst xs)
    | _ => .bad)
  | .obj n => (match h.get n with
    | some (.lst xs) => (match b with
      | .all => rOpt ((blsOf xs).map fun bs => .bl (bs.all id)) h
      | .any => rOpt ((blsOf xs).map fun bs => .bl (bs.any id)) h
      | .sum => rOpt ((intsOf xs).map fun ns => .int ns.sum) h
      | .tuple => .ok (.tup xs) h
      | .list => alloc h (.lst xs)
      | .sorted => (match sortA xs with
        | some ys => alloc h (.lst ys)
        | none => .bad)
      | .sset => (match dedup [] xs with
        | some zs => (match sortA zs with
          | some ys => alloc h (.lst ys)
          | none => .bad)
        | none => .bad))
    | some (.fz ns) => (match b with
      | .sum => .ok (.int ns.sum) h
      | .list => alloc h (.lst (ns.map .int))
      | _ => .bad)
    | some (.dct kvs) => (match b with
      | .list => alloc h (.lst (kvs.map (·.1)))
      | .sorted => (match sortA (kvs.map (·.1)) with
        | some ys => alloc h (.lst ys)
        | none => .bad)
      | _ => .bad)
    | _ => .bad)
  | _ => .bad
def isLst (v : AV) (h : AH) : Bool := match v with
  | .obj n => (match h.get n with
    | some (.lst _) => true
    | _ => false)
  | _ => false
def bmA (m : Bm) (o : AV) (vs : List AV) (h : AH) : R AV := match o with
  | .obj n => (match h.get n with
    | some (.lst xs) => (match Nat.ble h.ro n with
      | true => (match m, vs with
        | .append, [y] => (match Nat.blt xs.length 16777216 with
          | true => .ok .non (h.set n (.lst (xs ++ [y])))
          | false => .bad)
        | .pop, [] => (match xs.getLast? with
          | some y => .ok y (h.set n (.lst xs.dropLast))
          | none => .bad)
        | .pop0, [.int 0] => (match xs with
          | y :: r => .ok y (h.set n (.lst r))
          | [] => .bad)
        | .extend, [.obj m] => (match Nat.beq n m with
          | true => .bad
          | false => (match h.get m with
            | some (.lst ys) => (match lim (xs.length + ys.length) with
              | true => .ok .non (h.set n (.lst (xs ++ ys)))
              | false => .bad)
            | _ => .bad))
        | _, _ => .bad)
      | false => .bad)
    | _ => .bad)
  | _ => .bad
def tyIs (v : AV) (h : AH) : Option Ty := match v with
  | .non => some .nt
  | .bl _ => some .bool
  | .int _ => some .int
  | .str _ => some .str
  | .tup _ => some .tuple
  | .obj k => (match h.get k with
    | some (.lst _) => some .list
    | some (.fz _) => some .list
    | some (.dct _) => some .dict
    | some .odd => some .dict
    | _ => none)
def isiA (v : AV) (c : Cl) (h : AH) : Option Bool := match c with
  | .ty n => (tyIs v h).map fun t => Ty.sub t n
  | .tys n m => (tyIs v h).map fun t => Ty.sub t n || Ty.sub t m
  | .own c cs => (match v with
    | .obj k => (match h.get k with
      | some (.ins c' _) => (match cs.any (Nat.beq c') with
        | true => some (Nat.beq c' c)
        | false => none)
      | _ => (tyIs v h).map fun _ => false)
    | _ => some false)
def putD (d k v : AV) (h : AH) : R AV := match d with
  | .obj n => (match h.get n with
    | some (.dct kvs) => (match AV.tkey k with
      | some q => (match Nat.ble h.ro n && Nat.blt kvs.length 16777216 with
        | true => .ok .non (h.set n (.dct (dput q k v kvs)))
        | false => .bad)
      | none => .bad)
    | _ => .bad)
  | _ => .bad
/-- a list of keys and values, put one behind another -/
def dictOfL : List AV → List (AV × AV) → Option (List (AV × AV))
  | [], acc => some acc
  | .tup [k, v] :: r, acc => (match AV.tkey k with
    | some q => dictOfL r (dput q k v acc)
    | none => none)
  | _ :: _, _ => none
/-- no exception -/
def R.nox {α : Type} (r : R α) : R α := match r with
  | .ex _ _ => .bad
  | r => r
def asB (r : R AV) (k : Bool → AH → R AV) : R AV := r.bind fun v h => match v with
  | .bl b => k b h
  | _ => .bad
section
variable (τ : Tab)
mutual
def evE : E → Loc' → AH → R AV
  | .var i, l, h => rOpt (l[i]?.join) h
  | .non, _, h => .ok .non h
  | .bl b, _, h => .ok (.bl b) h
  | .int i, _, h => .ok (.int i) h
  | .str x, _, h => .ok (.str x) h
  | .gl i, _, h => .ok (τ.gl i) h
  | .tup es, l, h => (evEs es l h).bind fun vs h1 => (match lim vs.length with
    | true => .ok (.tup vs) h1
    | false => .bad)
  | .mk es, l, h => (evEs es l h).bind fun vs h1 => (match lim vs.length with
    | true => alloc h1 (.lst vs)
    | false => .bad)
  | .lc own t it ifs e, l, h => (evIt it l h).bind fun s h1 => (compLoop s (fun x h2 => match asgT t x (wipeL l (own.map (·.2))) with
    | some l2 => (match ifs with
      | .none => (evE e l2 h2).bind fun v h4 => .ok [v] h4
      | .some c => (evE c l2 h2).bind fun b h3 => (match b with
        | .bl true => (evE e l2 h3).bind fun v h4 => .ok [v] h4
        | .bl false => .ok [] h3
        | _ => .bad))
    | none => .bad) turns 0 (lockH s h1)).bind fun xs h5 => (match lim xs.length with
      | true => alloc (freeH h1.ro h5) (.lst xs)
      | false => .bad)
  | .lc2 own vs1 t it t1 it1 e, l, h => (evIt it l h).bind fun s h1 => (compLoop s (fun x h2 => match asgT t x (wipeL l (own.map (·.2))) with
    | some l2 => (evIt it1 l2 h2).bind fun s1 h3 => compLoop s1 (fun y h4 => match asgT t1 y (wipeL l2 vs1) with
      | some l3 => (evE e l3 h4).bind fun v h5 => .ok [v] h5
      | none => .bad) turns 0 h3
    | none => .bad) turns 0 (lockH s h1)).bind fun xs h5 => (match lim xs.length with
      | true => alloc (freeH h1.ro h5) (.lst xs)
      | false => .bad)
  | .dct0, _, h => alloc h (.dct [])
  | .dct1 k v, l, h => (evE k l h).bind fun a h1 => (evE v l h1).bind fun b h2 => (match AV.tkey a with
    | some _ => alloc h2 (.dct [(a, b)])
    | none => .bad)
  | .dc own t it k v, l, h => (evIt it l h).bind fun s h1 => (compLoop s (fun x h2 => match asgT t x (wipeL l (own.map (·.2))) with
    | some l2 => (evE k l2 h2).bind fun a h3 => (evE v l2 h3).bind fun b h4 => .ok [.tup [a, b]] h4
    | none => .bad) turns 0 (lockH s h1)).bind fun ps h5 => (match dictOfL ps [], lim ps.length with
      | some d, true => alloc (freeH h1.ro h5) (.dct d)
      | _, _ => .bad)
  | .bin op a b, l, h => (evE a l h).bind fun x h1 => (evE b l h1).bind fun y h2 => binA op x y h2
  | .neg a, l, h => (evE a l h).bind fun x h1 => (match x with
    | .int i => .ok (.int (-i)) h1
    | _ => .bad)
  | .cmp op a b, l, h => (evE a l h).bind fun x h1 => (evE b l h1).bind fun y h2 => cmpA op x y h2
  | .oeq ng alts a b, l, h => (evE a l h).bind fun x h1 => (evE b l h1).bind fun y h2 => (match insOf h2 x, insOf h2 y with
    | some (c, _), some (c', _) => (match Nat.beq c c' with
      | true => (match altOf c alts with
        | some k => asB (τ.fn k [x, y] h2) fun r h3 => .ok (.bl (if ng then !r else r)) h3
        | none => .bad)
      | false => .bad)
    | _, _ => .bad)
  | .chain op op' a b c, l, h => (evE a l h).bind fun x h1 => (evE b l h1).bind fun y h2 => asB (cmpA op x y h2) fun r h3 => (match r with
    | true => (evE c l h3).bind fun z h4 => cmpA op' y z h4
    | false => .ok (.bl false) h3)
  | .and a b, l, h => asB (evE a l h) fun r h1 => (match r with
    | true => evE b l h1
    | false => .ok (.bl false) h1)
  | .or a b, l, h => asB (evE a l h) fun r h1 => (match r with
    | true => .ok (.bl true) h1
    | false => evE b l h1)
  | .not a, l, h => asB (evE a l h) fun r h1 => .ok (.bl (!r)) h1
  | .ite c a b, l, h => asB (evE c l h) fun r h1 => (match r with
    | true => evE a l h1
    | false => evE b l h1)
  | .sub a i, l, h => (evE a l h).bind fun x h1 => (evE i l h1).bind fun y h2 => subA x y h2
  | .sl a lo hi, l, h => (evE a l h).bind fun x h1 => (evO lo l h1).bind fun p h2 => (evO hi l h2).bind fun q h3 => slA x p q h3
  | .att a alts, l, h => (evE a l h).bind fun x h1 => attA x alts h1
  | .prop a alts, l, h => (evE a l h).bind fun x h1 => (match insOf h1 x with
    | some (c, _) => (match altOf c alts with
      | some k => (τ.fn k [x] h1).nox
      | none => .bad)
    | none => .bad)
  | .call k es, l, h => (evEs es l h).bind fun vs h1 => τ.fn k vs h1
  | .meth o alts es, l, h => (evE o l h).bind fun x h1 => (match insOf h1 x with
    | some (c, _) => (match altOf c alts with
      | some k => (evEs es l h1).bind fun vs h2 => τ.fn k (x :: vs) h2
      | none => .bad)
    | none => .bad)
  | .new c k es, l, h => (evEs es l h).bind fun vs h1 => (alloc h1 (.ins c [])).bind fun o h2 => (τ.fn k (o :: vs) h2).bind fun r h3 => (match r with
    | .non => .ok o h3
    | _ => .bad)
  | .len a, l, h => (evE a l h).bind fun x h1 => lenA x h1
  | .lenO a alts, l, h => (evE a l h).bind fun x h1 => (match insOf h1 x with
    | some (c, _) => (match altOf c alts with
      | some k => (τ.fn k [x] h1).bind fun n h2 => (match n with
        | .int i => (match decide (0 ≤ i ∧ i < 1000000) with
          | true => .ok (.int i) h2
          | false => .bad)
        | _ => .bad)
      | none => .bad)
    | none => .bad)
  | .bi b es, l, h => (evEs es l h).bind fun vs h1 => biA b vs h1
  | .b1 b a, l, h => (evE a l h).bind fun x h1 => b1A b x h1
  | .bm m o es, l, h => (evE o l h).bind fun x h1 => (match isLst x h1 with
    | true => (evEs es l h1).bind fun vs h2 => bmA m x vs h2
    | false => .bad)
  | .isi a c, l, h => (evE a l h).bind fun x h1 => rOpt ((isiA x c h1).map .bl) h1
def evEs : Es → Loc' → AH → R (List AV)
  | .nil, _, h => .ok [] h
  | .cons e r, l, h => (evE e l h).bind fun x h1 => (evEs r l h1).bind fun xs h2 => .ok (x :: xs) h2
  | .star e r, l, h => (evE e l h).bind fun x h1 => (match itemsIn h1 x with
    | some ys => (evEs r l h1).bind fun xs h2 => .ok (ys ++ xs) h2
    | none => .bad)
def evO : O → Loc' → AH → R (Option Int)
  | .none, _, h => .ok none h
  | .some e, l, h => (evE e l h).bind fun x h1 => (match x with
    | .int i => .ok (some i) h1
    | _ => .bad)
def evIt : It → Loc' → AH → R Src
  | .of e, l, h => (evE e l h).bind fun x h1 => rOpt (srcOf x h1) h1
  | .key i, l, h => (match l[i]?.join with
    | some x => rOpt (srcK x h) h
    | none => .bad)
  | .enum e, l, h => (evE e l h).bind fun x h1 => rOpt (enOf x h1) h1
  | .zip a b, l, h => (evE a l h).bind fun x h1 => (evE b l h1).bind fun y h2 => rOpt (zpOf x y h2) h2
  | .rng a, l, h => (evE a l h).bind fun x h1 => (match x with
    | .int i => (match decide (-(2 ^ 62) ≤ i ∧ i < 2 ^ 62) with
      | true => .ok (.rg i.toNat) h1
      | false => .bad)
    | _ => .bad)
end
mutual
def evS : S → Loc' → AH → RS
  | .expr e, l, h => (evE τ e l h).toS fun _ h1 => .nx l h1
  | .asg t e, l, h => (evE τ e l h).toS fun v h1 => (match asgT t v l with
    | some l1 => .nx l1 h1
    | none => .bad)
  | .par i j a b, l, h => (evE τ a l h).toS fun v h1 => (evE τ b l h1).toS fun u h2 => .nx ((l.set i (some v)).set j (some u)) h2
  | .att o alts e, l, h => (evE τ e l h).toS fun v h1 => (evE τ o l h1).toS fun x h2 => (setA x alts v h2).toS fun _ h3 => .nx l h3
  | .put d k e, l, h => (evE τ e l h).toS fun v h1 => (evE τ d l h1).toS fun x h2 => (evE τ k l h2).toS fun y h3 => (putD x y v h3).toS fun _ h4 => .nx l h4
  | .ite c a b, l, h => (evE τ c l h).toS fun v h1 => (match v with
    | .bl true => evSs a l h1
    | .bl false => evSs b l h1
    | _ => .bad)
  | .whl c b, l, h => whileLoop (evE τ c) (evSs b) turns l h
  | .for_ t it b, l, h => (evIt τ it l h).toS fun s h1 => forLoop s (fun x l h => match asgT t x l with
    | some l1 => evSs b l1 h
    | none => .bad) turns 0 l h1
  | .ret e, l, h => (evE τ e l h).toS fun v h1 => .rt v h1
  | .pass, l, h => .nx l h
  | .never, _, _ => .bad
def evSs : Ss → Loc' → AH → RS
  | .nil, l, h => .nx l h
  | .cons s r, l, h => (evS s l h).bind fun l1 h1 => evSs r l1 h1
end
end
/-- a def of so many names -/
def fnA (τ : Tab) (n : Nat) (body : Ss) : Fn := fun args h => match evSs τ body (args.map some ++ List.replicate (n - args.length) none) h with
  | .nx _ h1 => .ok .non h1
  | .rt v h1 => .ok v h1
  | .ex x h1 => .ex x h1
  | .bad => .bad
example (τ : Tab) (h : AH) : evE τ (.bin .Add (.int 2) (.int 3)) [] h = .ok (.int 5) h := rfl

end Ev
set_option Elab.async false
set_option linter.all false
set_option maxRecDepth 100000
set_option maxHeartbeats 4000000
/-! the abstract machine and the layer: how they stand to each other -/
namespace Ev
open PySem PySem.Spec PyProof.Rows L2

abbrev Mu := Nat → Option Addr

mutual
inductive Den (K : PySem.W.Frag) (μ : Mu) (H : Hp) : AV → V → Prop
  | non : Den K μ H .non .non
  | bl (b : Bool) : Den K μ H (.bl b) (.bl b)
  | int (i : Int) : Den K μ H (.int i) (.int i)
  | str (x : Str) : Den K μ H (.str x) (.str x)
  | tup {a : Addr} {vs : List V} {xs : List AV} : SqT K H a vs → DenL K μ H xs vs → Den K μ H (.tup xs) (.ref a)
  | obj {n : Nat} {a : Addr} : μ n = some a → Den K μ H (.obj n) (.ref a)
inductive DenL (K : PySem.W.Frag) (μ : Mu) (H : Hp) : List AV → List V → Prop
  | nil : DenL K μ H [] []
  | cons {x : AV} {v : V} {xs : List AV} {vs : List V} : Den K μ H x v → DenL K μ H xs vs → DenL K μ H (x :: xs) (v :: vs)
end
section
variable {K : PySem.W.Frag} {μ μ' : Mu} {H H' : Hp}
theorem DenL.length : ∀ {xs : List AV} {vs : List V}, DenL K μ H xs vs → xs.length = vs.length
  | _, _, .nil => rfl
  | _, _, .cons _ r => congrArg Nat.succ (DenL.length r)
theorem DenL.get : ∀ {xs : List AV} {vs : List V} {i : Nat} {x : AV}, DenL K μ H xs vs → xs[i]? = some x → ∃ v, vs[i]? = some v ∧ Den K μ H x v
  | _, _, _, _, .nil, e => by simp at e
  | _, _, 0, _, .cons d _, e => by simp at e; subst e; exact ⟨_, rfl, d⟩
  | _, _, i + 1, x, .cons _ r, e => by
    obtain ⟨v, h1, h2⟩ := DenL.get (i := i) (x := x) r (by simpa using e)
    exact ⟨v, by simpa using h1, h2⟩
theorem DenL.append : ∀ {xs ys : List AV} {vs ws : List V}, DenL K μ H xs vs → DenL K μ H ys ws → DenL K μ H (xs ++ ys) (vs ++ ws)
  | _, _, _, _, .nil, q => q
  | _, _, _, _, .cons d r, q => .cons d (DenL.append r q)
theorem DenL.drop : ∀ {xs : List AV} {vs : List V} (n : Nat), DenL K μ H xs vs → DenL K μ H (xs.drop n) (vs.drop n)
  | _, _, 0, r => r
  | _, _, _ + 1, .nil => .nil
  | _, _, n + 1, .cons _ r => DenL.drop n r
theorem DenL.take : ∀ {xs : List AV} {vs : List V} (n : Nat), DenL K μ H xs vs → DenL K μ H (xs.take n) (vs.take n)
  | _, _, 0, _ => .nil
  | _, _, _ + 1, .nil => .nil
  | _, _, n + 1, .cons d r => .cons d (DenL.take n r)
theorem DenL.mem : ∀ {xs : List AV} {vs : List V} {v : V}, DenL K μ H xs vs → v ∈ vs → ∃ x, x ∈ xs ∧ Den K μ H x v
  | _, _, _, .nil, e => by cases e
  | _, _, v, .cons d r, e => by
    rcases List.mem_cons.mp e with e | e
    · subst e; exact ⟨_, List.mem_cons_self, d⟩
    · obtain ⟨x, h1, h2⟩ := DenL.mem r e
      exact ⟨x, List.mem_cons_of_mem _ h1, h2⟩
/-! what is meant by a value stays meant -/
mutual
theorem Den.mono (e : ∀ n a, μ n = some a → μ' n = some a) (t : ∀ a xs, SqT K H a xs → SqT K H' a xs) : ∀ {x : AV} {v : V}, Den K μ H x v → Den K μ' H' x v
  | _, _, .non => .non
  | _, _, .bl b => .bl b
  | _, _, .int i => .int i
  | _, _, .str x => .str x
  | _, _, .tup s r => .tup (t _ _ s) (DenL.mono e t r)
  | _, _, .obj q => .obj (e _ _ q)
theorem DenL.mono (e : ∀ n a, μ n = some a → μ' n = some a) (t : ∀ a xs, SqT K H a xs → SqT K H' a xs) : ∀ {xs : List AV} {vs : List V}, DenL K μ H xs vs → DenL K μ' H' xs vs
  | _, _, .nil => .nil
  | _, _, .cons d r => .cons (Den.mono e t d) (DenL.mono e t r)
end
/-! a clean value is meant where the younger objects are forgotten -/
mutual
theorem Den.clean {n : Nat} (e : ∀ k a, k < n → μ k = some a → μ' k = some a) : ∀ {x : AV} {v : V}, Den K μ H x v → AV.cln n x = true → Den K μ' H x v
  | _, _, .non, _ => .non
  | _, _, .bl b, _ => .bl b
  | _, _, .int i, _ => .int i
  | _, _, .str x, _ => .str x
  | _, _, .tup s r, c => .tup s (DenL.clean e r (by unfold AV.cln at c; exact c))
  | _, _, .obj q, c => .obj (e _ _ (by unfold AV.cln at c; exact blt_tt.mp c) q)
theorem DenL.clean {n : Nat} (e : ∀ k a, k < n → μ k = some a → μ' k = some a) : ∀ {xs : List AV} {vs : List V}, DenL K μ H xs vs → AV.clns n xs = true → DenL K μ' H xs vs
  | _, _, .nil, _ => .nil
  | _, _, @DenL.cons _ _ _ x v xs vs d r, c => by
    have c' : (match AV.cln n x with | true => AV.clns n xs | false => false) = true := by unfold AV.clns at c; exact c
    cases q : AV.cln n x with
    | false => rw [q] at c'; cases c'
    | true => rw [q] at c'; exact .cons (Den.clean e d q) (DenL.clean e r c')
end
end

/-! ### objects -/
/-- a dict with tuple keys, told by its entries -/
def DO (P : Program) (w : World) (a : Addr) (xs : List (NestedKey × Addr × Value)) : HO := .ext fun h => ∃ o es ep, h.get? a = some o ∧ o.ExactDict ∧ o.data = .dict es ep ∧ es.toList = xs.map (entryOfKey (nestedKind P w)) ∧ (xs.map (·.1)).Nodup
def RelKv (K : PySem.W.Frag) (μ : Mu) (H : Hp) (p : AV × AV) (x : NestedKey × Addr × Value) : Prop := AV.tkey p.1 = some x.1 ∧ Den K μ H p.1 (.ref x.2.1) ∧ ∃ w, RelV w x.2.2 ∧ Den K μ H p.2 w
/-- the classes' places -/
structure Ca where
  at_ : Nat → Addr
  T : List (Addr × Str)
instance : CoeFun Ca (fun _ => Nat → Addr) := ⟨Ca.at_⟩
def RelO (P : Program) (w : World) (K : PySem.W.Frag) (ca : Ca) (rw : Bool) (μ : Mu) (H : Hp) (a : Addr) : AO → Prop
  | .lst xs => xs.length ≤ sizeLine ∧ ∃ vs, H a = some (.lst vs) ∧ DenL K μ H xs vs
  | .fz ns => ∃ o, H a = some (.frz o (.lst (ns.map V.int)))
  | .dct kvs => (a == sysModules) = false ∧ kvs.length ≤ sizeLine ∧ ∃ xs, (H a = some (DO P w a xs) ∨ (rw = false ∧ ∃ o, H a = some (.frz o (DO P w a xs)))) ∧ Paired (RelKv K μ H) kvs xs
  | .ins c fs => ∃ dx vs, H a = some (SlX.SlO a (ca c) dx vs) ∧ H dx = some (.xd []) ∧ ∀ (i : Nat) v, fs[i]? = some (some v) → ∃ u, vs[i]? = some (some u) ∧ Den K μ H v u
  | .odd => ∃ kvs, H a = some (.dK kvs)

/-- the world of a proof: program, world, written part, classes -/
structure Wd where
  P : Program
  w : World
  K : PySem.W.Frag
  ca : Ca
  E : XK
/-- may be written -/
def rwOf (ro n : Nat) : Bool := Nat.ble ro n
structure RelH (W : Wd) (ro : Nat) (μ : Mu) (h : AH) (H : Hp) : Prop where
  lim : h.n ≤ top
  rol : ro ≤ h.n
  roe : h.ro = ro
  inj : ∀ n m a, μ n = some a → μ m = some a → n = m
  obj : ∀ n o, h.get n = some o → ∃ a, μ n = some a ∧ RelO W.P W.w W.K W.ca (rwOf ro n) μ H a o
  back : ∀ n a, μ n = some a → ∃ o, h.get n = some o
  full : ∀ n, n < h.n → ∃ o, h.get n = some o
  tabs : LamX.Tabs W.ca.T H
/-- how the layer's heap goes on -/
structure Step (ro : Nat) (μ : Mu) (H : Hp) (μ' : Mu) (H' : Hp) : Prop where
  ext : ∀ n a, μ n = some a → μ' n = some a
  new : ∀ n b, μ' n = some b → μ n = some b ∨ H b = none
  frm : ∀ b o, (∀ n, ro ≤ n → μ n ≠ some b) → (∀ ps, o ≠ .tbl ps) → H b = some o → H' b = some o
  kep : ∀ b o, H b = some o → ∃ o', H' b = some o'
theorem Step.refl {ro : Nat} {μ : Mu} {H : Hp} : Step ro μ H μ H := ⟨fun _ _ e => e, fun _ _ e => .inl e, fun _ _ _ _ e => e, fun _ o e => ⟨o, e⟩⟩
theorem Step.trans {ro : Nat} {μ μ1 μ2 : Mu} {H H1 H2 : Hp} (a : Step ro μ H μ1 H1) (b : Step ro μ1 H1 μ2 H2) : Step ro μ H μ2 H2 where
  ext := fun n x e => b.ext n x (a.ext n x e)
  new := fun n x e => by
    rcases b.new n x e with q | q
    · exact a.new n x q
    · right
      cases r : H x with
      | none => rfl
      | some o =>
        obtain ⟨o', z⟩ := a.kep x o r
        rw [q] at z; cases z
  frm := fun x o f nt e => b.frm x o (fun n hn q => by
    rcases a.new n x q with z | z
    · exact f n hn z
    · rw [e] at z; cases z) nt (a.frm x o f nt e)
  kep := fun x o e => by
    obtain ⟨o1, e1⟩ := a.kep x o e
    exact b.kep x o1 e1
section
variable {W : Wd} {ro : Nat} {μ μ' : Mu} {h h' : AH} {H H' : Hp}
theorem RelO.is {P : Program} {w : World} {K : PySem.W.Frag} {ca : Ca} {rw : Bool} {a : Addr} {o : AO} (r : RelO P w K ca rw μ H a o) : ∃ u, H a = some u ∧ (∀ xs, u ≠ .tup xs) ∧ ∀ q xs, u ≠ .frz q (.tup xs) := by
  cases o with
  | lst xs => obtain ⟨_, vs, e, _⟩ := r; exact ⟨_, e, fun _ z => (by cases z), fun _ _ z => (by cases z)⟩
  | fz ns => obtain ⟨q, e⟩ := r; exact ⟨_, e, fun _ z => (by cases z), fun _ _ z => (by cases z)⟩
  | dct kvs =>
    obtain ⟨_, _, xs, e | ⟨_, q, e⟩, _⟩ := r
    · exact ⟨_, e, fun _ z => (by unfold DO at z; cases z), fun _ _ z => (by unfold DO at z; cases z)⟩
    · exact ⟨_, e, fun _ z => (by cases z), fun _ _ z => (by unfold DO at z; cases z)⟩
  | ins c fs => obtain ⟨dx, vs, e, _⟩ := r; exact ⟨_, e, fun _ z => (by unfold SlX.SlO at z; cases z), fun _ _ z => (by unfold SlX.SlO at z; cases z)⟩
  | odd => obtain ⟨kvs, e⟩ := r; exact ⟨_, e, fun _ z => (by cases z), fun _ _ z => (by cases z)⟩
/-- a heap that has this at a -/
theorem heap_at (a : Addr) (o : Obj) (ho : o.isFreed = false) : ∃ h : Heap, h.get? a = some o := by
  refine ⟨(Heap.mk (Array.replicate a o) default).push o, ?_⟩
  have e := Heap.get?_push_size (Heap.mk (Array.replicate a o) default) (o := o) ho
  have z : (Heap.mk (Array.replicate a o) default).objs.size = a := Array.size_replicate
  rw [z] at e
  exact e
def codeLike (q : Str) : Obj := { cls := .none, data := .fields #[.none, .str q 0] }
theorem code_do {P : Program} {w : World} {a c : Addr} {q : Str} {xs : List (NestedKey × Addr × Value)} : DO P w a xs ≠ LamX.CodeO a q := fun z => by
  obtain ⟨h, e⟩ := heap_at a (codeLike q) rfl
  unfold DO LamX.CodeO at z
  injection z with z
  have z2 := congrFun z h
  have k : ∃ (oc : Obj) (vs : Array Value) (t : Tok), h.get? a = some oc ∧ oc.data = .fields vs ∧ vs[1]? = some (.str q t) := ⟨_, _, _, e, rfl, rfl⟩
  rw [← z2] at k
  obtain ⟨o, es, ep, h1, _, h3, _⟩ := k
  rw [e] at h1; cases h1
  cases h3
theorem code_sl {a C dx : Addr} {q : Str} {vs : List (Option V)} : SlX.SlO a C dx vs ≠ LamX.CodeO a q := fun z => by
  obtain ⟨h, e⟩ := heap_at a (codeLike q) rfl
  unfold SlX.SlO LamX.CodeO at z
  injection z with z
  have z2 := congrFun z h
  have k : ∃ (oc : Obj) (vs : Array Value) (t : Tok), h.get? a = some oc ∧ oc.data = .fields vs ∧ vs[1]? = some (.str q t) := ⟨_, _, _, e, rfl, rfl⟩
  rw [← z2] at k
  obtain ⟨sl, h1, _⟩ := k
  rw [e] at h1
  have h2 := Option.some.inj h1
  have h3 := congrArg Obj.data h2
  cases h3
/-- no table, no code object stands at a -/
def NoCode (H : Hp) (a : Addr) : Prop := ∀ u, H a = some u → (∀ ps, u ≠ .tbl ps) ∧ ∀ q, u ≠ LamX.CodeO a q
theorem tabs_upd {T : List (Addr × Str)} {a : Addr} {u : HO} (t : LamX.Tabs T H) (n : NoCode H a) : LamX.Tabs T (upd H a u) := fun p hp => by
  obtain ⟨ps, h1, h2, h3⟩ := t p hp
  refine ⟨ps, by rw [upd_ne (fun z => (n _ (by rw [← z]; exact h1)).1 ps rfl)]; exact h1, h2, fun pos cv e => ?_⟩
  obtain ⟨c, e1, e2⟩ := h3 pos cv e
  refine ⟨c, e1, ?_⟩
  by_cases z : c = a
  · subst z; exact absurd rfl ((n _ e2).2 p.2)
  · rw [upd_ne z]; exact e2
theorem nocode_lst {a : Addr} {vs : List V} (e : H a = some (.lst vs)) : NoCode H a := fun u q => by
  rw [e] at q; cases q
  exact ⟨fun ps z => (by cases z), fun q z => (by unfold LamX.CodeO at z; cases z)⟩
theorem nocode_do {P : Program} {w : World} {a : Addr} {xs : List (NestedKey × Addr × Value)} (e : H a = some (DO P w a xs)) : NoCode H a := fun u q => by
  rw [e] at q; cases q
  exact ⟨fun ps z => (by unfold DO at z; cases z), fun q => code_do (c := a)⟩
theorem nocode_frz {a : Addr} {o : Obj} {u : HO} (e : H a = some (.frz o u)) : NoCode H a := fun u q => by
  rw [e] at q; cases q
  exact ⟨fun ps z => (by cases z), fun q z => (by unfold LamX.CodeO at z; cases z)⟩
theorem RelO.nocode {P : Program} {w : World} {K : PySem.W.Frag} {ca : Ca} {rw : Bool} {a : Addr} {o : AO} (r : RelO P w K ca rw μ H a o) : NoCode H a := by
  cases o with
  | lst xs => obtain ⟨_, vs, e, _⟩ := r; exact nocode_lst e
  | fz ns => obtain ⟨q, e⟩ := r; exact nocode_frz e
  | dct kvs =>
    obtain ⟨_, _, xs, e | ⟨_, q, e⟩, _⟩ := r
    · exact nocode_do e
    · exact nocode_frz e
  | ins c fs =>
    obtain ⟨dx, vs, e, _⟩ := r
    intro u q
    rw [e] at q; cases q
    exact ⟨fun ps z => (by unfold SlX.SlO at z; cases z), fun q => code_sl⟩
  | odd =>
    obtain ⟨kvs, e⟩ := r
    intro u q
    rw [e] at q; cases q
    exact ⟨fun ps z => (by cases z), fun q z => (by unfold LamX.CodeO at z; cases z)⟩
theorem RelH.there (R : RelH W ro μ h H) {n : Nat} {a : Addr} (e : μ n = some a) : ∃ o, h.get n = some o ∧ RelO W.P W.w W.K W.ca (rwOf ro n) μ H a o := by
  obtain ⟨o, q⟩ := R.back n a e
  obtain ⟨b, e', r⟩ := R.obj n o q
  rw [e] at e'; cases e'
  exact ⟨o, q, r⟩
/-- tuples are never the machine's own objects -/
theorem RelH.sq (R : RelH W ro μ h H) (st : Step ro μ H μ' H') {a : Addr} {xs : List V} (s : SqT W.K H a xs) : SqT W.K H' a xs := by
  rcases s with s | s
  · left
    rcases s with s | ⟨o, s⟩
    · exact .inl (st.frm a _ (fun n _ e => by
        obtain ⟨o, _, r⟩ := R.there e
        obtain ⟨u, e1, e2, _⟩ := r.is
        rw [s] at e1; cases e1
        exact e2 _ rfl) (fun ps z => by cases z) s)
    · exact .inr ⟨o, st.frm a _ (fun n _ e => by
        obtain ⟨o', _, r⟩ := R.there e
        obtain ⟨u, e1, _, e2⟩ := r.is
        rw [s] at e1; cases e1
        exact e2 _ _ rfl) (fun ps z => by cases z) s⟩
  · exact .inr s
theorem RelH.den (R : RelH W ro μ h H) (st : Step ro μ H μ' H') {x : AV} {v : V} (d : Den W.K μ H x v) : Den W.K μ' H' x v := d.mono st.ext fun _ _ => R.sq st
theorem RelH.denL (R : RelH W ro μ h H) (st : Step ro μ H μ' H') {x : List AV} {v : List V} (d : DenL W.K μ H x v) : DenL W.K μ' H' x v := d.mono st.ext fun _ _ => R.sq st
theorem Paired.mono' {α β : Type} {F G : α → β → Prop} : ∀ {l₁ : List α} {l₂ : List β}, Paired F l₁ l₂ → (∀ a b, F a b → G a b) → Paired G l₁ l₂
  | _, _, .nil, _ => .nil
  | _, _, .cons r t, f => .cons (f _ _ r) (Paired.mono' t f)
/-- an object that is left as it is -/
theorem RelO.keep {P : Program} {w : World} {K : PySem.W.Frag} {ca : Ca} {rw : Bool} {a : Addr} {o : AO} (d : ∀ x v, Den K μ H x v → Den K μ' H' x v) (ka : ∀ u, H a = some u → H' a = some u)
    (kx : ∀ b, H b = some (.xd []) → H' b = some (.xd [])) (r : RelO P w K ca rw μ H a o) : RelO P w K ca rw μ' H' a o := by
  have dl : ∀ xs vs, DenL K μ H xs vs → DenL K μ' H' xs vs := by
    intro xs
    induction xs with
    | nil => intro vs q; cases q; exact .nil
    | cons x xs ih => intro vs q; cases q with | cons q1 q2 => exact .cons (d _ _ q1) (ih _ q2)
  cases o with
  | lst xs => obtain ⟨z, vs, e, q⟩ := r; exact ⟨z, vs, ka _ e, dl _ _ q⟩
  | fz ns => obtain ⟨q, e⟩ := r; exact ⟨q, ka _ e⟩
  | dct kvs =>
    obtain ⟨s, z, xs, e, q⟩ := r
    exact ⟨s, z, xs, e.imp (ka _) fun ⟨q, o, e⟩ => ⟨q, o, ka _ e⟩, Paired.mono' q fun p x ⟨q1, q2, u, q3, q4⟩ => ⟨q1, d _ _ q2, u, q3, d _ _ q4⟩⟩
  | ins c fs =>
    obtain ⟨dx, vs, e1, e2, q⟩ := r
    exact ⟨dx, vs, ka _ e1, kx _ e2, fun i v hi => by
      obtain ⟨u, h1, h2⟩ := q i v hi
      exact ⟨u, h1, d _ _ h2⟩⟩
  | odd => obtain ⟨kvs, e⟩ := r; exact ⟨kvs, ka _ e⟩
end

/-! ### what is wanted behind an expression -/
/-- an exception as the layer sees it -/
def XRel (W : Wd) (μ : Mu) (H : Hp) (x : AX) (cls : Value) (d : Option Addr) : Prop := cls = .ref (W.ca x.c) ∧ match x.f with
  | none => d = none
  | some (n, v) => ∃ a u, d = some a ∧ H a = some (.xd [(n, u)]) ∧ Den W.K μ H v u
def postG {α β : Type} (D : Mu → Hp → α → β → Prop) (W : Wd) (ro : Nat) (μ : Mu) (H : Hp) (r : R α) (Q : β → Hp → Prop) : Prop := match r with
  | .ok v h' => ∀ μ' u H', Step ro μ H μ' H' → RelH W ro μ' h' H' → D μ' H' v u → Q u H'
  | .ex x h' => ∀ μ' H' cls d, Step ro μ H μ' H' → RelH W ro μ' h' H' → XRel W μ' H' x cls d → W.E cls d H'
  | .bad => False
abbrev post (W : Wd) (ro : Nat) (μ : Mu) (H : Hp) (r : R AV) (Q : VK) : Prop := postG (fun μ H => Den W.K μ H) W ro μ H r Q
abbrev postL (W : Wd) (ro : Nat) (μ : Mu) (H : Hp) (r : R (List AV)) (Q : List V → Hp → Prop) : Prop := postG (fun μ H => DenL W.K μ H) W ro μ H r Q
def RelL (K : PySem.W.Frag) (μ : Mu) (H : Hp) (l : Loc') (σ : L2.St) : Prop := l.length = σ.length ∧ ∀ (i : Nat) v, l[i]? = some (some v) → ∃ u, σ[i]? = some (some u) ∧ Den K μ H v u
def trE (W : Wd) (m : Loc' → AH → R AV) : TE := fun σ H Q => ∃ ro μ l h, RelL W.K μ H l σ ∧ RelH W ro μ h H ∧ post W ro μ H (m l h) Q
theorem RelL.step {W : Wd} {ro : Nat} {μ μ' : Mu} {h : AH} {H H' : Hp} {l : Loc'} {σ : L2.St} (R : RelH W ro μ h H) (st : Step ro μ H μ' H') (r : RelL W.K μ H l σ) : RelL W.K μ' H' l σ :=
  ⟨r.1, fun i v e => by
    obtain ⟨u, h1, h2⟩ := r.2 i v e
    exact ⟨u, h1, R.den st h2⟩⟩
/-- the wish behind a bind -/
theorem postG.bind {α β γ δ : Type} {D : Mu → Hp → α → β → Prop} {D' : Mu → Hp → γ → δ → Prop} {W : Wd} {ro : Nat} {μ : Mu} {H : Hp} {r : R α} {k : α → AH → R γ} {Q : δ → Hp → Prop} (p : postG D' W ro μ H (r.bind k) Q) :
    postG D W ro μ H r fun u H1 => ∃ μ1 v h1, Step ro μ H μ1 H1 ∧ RelH W ro μ1 h1 H1 ∧ D μ1 H1 v u ∧ r = .ok v h1 ∧ postG D' W ro μ1 H1 (k v h1) Q := by
  cases r with
  | ok v h1 =>
    intro μ1 u H1 st R d
    refine ⟨μ1, v, h1, st, R, d, rfl, ?_⟩
    have p' : postG D' W ro μ H (k v h1) Q := p
    cases e : k v h1 with
    | ok v2 h2 =>
      rw [e] at p'
      intro μ2 u2 H2 st2 R2 d2
      exact p' μ2 u2 H2 (st.trans st2) R2 d2
    | ex x h2 => rw [e] at p'; exact fun μ2 H2 c d st2 => p' μ2 H2 c d (st.trans st2)
    | bad => rw [e] at p'; exact p'
  | ex x h1 => exact p
  | bad => exact p
theorem postG.imp {α β : Type} {D : Mu → Hp → α → β → Prop} {W : Wd} {ro : Nat} {μ : Mu} {H : Hp} {r : R α} {Q Q' : β → Hp → Prop} (p : postG D W ro μ H r Q) (h : ∀ u H', Q u H' → Q' u H') : postG D W ro μ H r Q' := by
  cases r with
  | ok v h1 => exact fun μ1 u H1 st R d => h _ _ (p μ1 u H1 st R d)
  | ex x h1 => exact p
  | bad => exact p
/-- from a later place on -/
theorem postG.later {α β : Type} {D : Mu → Hp → α → β → Prop} {W : Wd} {ro : Nat} {μ μ1 : Mu} {H H1 : Hp} {r : R α} {Q : β → Hp → Prop} (p : postG D W ro μ H r Q) (st : Step ro μ H μ1 H1) : postG D W ro μ1 H1 r Q := by
  cases r with
  | ok v h1 => exact fun μ2 u H2 st2 R d => p μ2 u H2 (st.trans st2) R d
  | ex x h1 => exact fun μ2 H2 c d st2 => p μ2 H2 c d (st.trans st2)
  | bad => exact p
theorem PE.weaken {X : Cx} {e : Expr} {t t' : TE} (p : PE X e t) (h : ∀ σ H Q, t' σ H Q → t σ H Q) : PE X e t' := ⟨fun pins s σ H Q I q => p.run pins s σ H Q I (h σ H Q q)⟩
theorem PT.weaken {X : Cx} {e : Expr} {t t' : TT} (p : PT X e t) (h : ∀ σ H Q, t' σ H Q → t σ H Q) : PT X e t' := ⟨fun pins s σ H Q I q => p.run pins s σ H Q I (h σ H Q q)⟩

/-! ### new objects, changed ones -/
section
variable {W : Wd} {ro : Nat} {μ : Mu} {h : AH} {H : Hp}
def muPut (μ : Mu) (n : Nat) (a : Addr) : Mu := fun k => if k = n then some a else μ k
theorem RelH.dom (R : RelH W ro μ h H) {n : Nat} (hn : h.n ≤ n) : μ n = none := by
  cases e : μ n with
  | none => rfl
  | some a =>
    obtain ⟨o, q⟩ := R.back n a e
    exact absurd (AH.get_lt q) (by omega)
theorem RelH.fresh (R : RelH W ro μ h H) {p : Addr} (hp : H p = none) (n : Nat) : μ n ≠ some p := fun e => by
  obtain ⟨o, _, r⟩ := R.there e
  obtain ⟨u, q, _⟩ := r.is
  rw [hp] at q; cases q
/-- something new in the layer's heap that is not the machine's -/
theorem Step.laid {p : Addr} {u : HO} (hp : H p = none) : Step ro μ H μ (upd H p u) :=
  ⟨fun _ _ e => e, fun _ _ e => .inl e, fun b o _ _ e => by rw [upd_ne (fun z => by rw [z, hp] at e; cases e)]; exact e, fun b o e => ⟨o, by rw [upd_ne (fun z => by rw [z, hp] at e; cases e)]; exact e⟩⟩
theorem sq_upd {K : PySem.W.Frag} {p : Addr} {u : HO} {a : Addr} {xs : List V} (n1 : ∀ ys, H p ≠ some (.tup ys)) (n2 : ∀ o ys, H p ≠ some (.frz o (.tup ys))) (s : SqT K H a xs) : SqT K (upd H p u) a xs := by
  rcases s with s | s
  · left
    rcases s with s | ⟨o, s⟩
    · exact .inl (by rw [upd_ne (fun z => by rw [z] at s; exact n1 _ s)]; exact s)
    · exact .inr ⟨o, by rw [upd_ne (fun z => by rw [z] at s; exact n2 _ _ s)]; exact s⟩
  · exact .inr s
theorem RelH.laid (R : RelH W ro μ h H) {p : Addr} {u : HO} (hp : H p = none) : RelH W ro μ h (upd H p u) where
  lim := R.lim
  rol := R.rol
  roe := R.roe
  inj := R.inj
  obj := fun n o e => by
    obtain ⟨a, e1, r⟩ := R.obj n o e
    refine ⟨a, e1, r.keep (fun x v d => R.den (Step.laid hp) d) (fun v q => ?_) fun b q => ?_⟩
    · rw [upd_ne (fun z => by rw [z, hp] at q; cases q)]; exact q
    · rw [upd_ne (fun z => by rw [z, hp] at q; cases q)]; exact q
  back := R.back
  full := R.full
  tabs := R.tabs.ext fun b o q => by rw [upd_ne (fun z => by rw [z, hp] at q; cases q)]; exact q
/-- a new object of the machine's, already in the layer's heap -/
theorem RelH.own (R : RelH W ro μ h H) {p : Addr} {o : AO} (hn : h.n < top) (hf : ∀ n, μ n ≠ some p) (r : RelO W.P W.w W.K W.ca true μ H p o) : RelH W ro (muPut μ h.n p) (h.push o) H := by
  have ext : ∀ n a, μ n = some a → muPut μ h.n p n = some a := fun n a e => by
    unfold muPut
    have : n ≠ h.n := fun z => by rw [R.dom (Nat.le_of_eq z.symm)] at e; cases e
    rw [if_neg this]; exact e
  have dn : ∀ x v, Den W.K μ H x v → Den W.K (muPut μ h.n p) H x v := fun x v d => d.mono ext fun _ _ q => q
  refine ⟨by show h.n + 1 ≤ top; omega, by have := R.rol; show ro ≤ h.n + 1; omega, R.roe, fun n m a e1 e2 => ?_, fun n o' e => ?_, fun n a e => ?_, fun n e => ?_, R.tabs⟩
  · unfold muPut at e1 e2
    by_cases h1 : n = h.n
    · by_cases h2 : m = h.n
      · omega
      · rw [if_pos h1] at e1; rw [if_neg h2] at e2; cases e1; exact absurd e2 (hf m)
    · by_cases h2 : m = h.n
      · rw [if_neg h1] at e1; rw [if_pos h2] at e2; cases e2; exact absurd e1 (hf n)
      · rw [if_neg h1] at e1; rw [if_neg h2] at e2; exact R.inj n m a e1 e2
  · by_cases h1 : n = h.n
    · subst h1
      rw [AH.get_push_new hn] at e; cases e
      refine ⟨p, by unfold muPut; rw [if_pos rfl], ?_⟩
      rw [show rwOf ro h.n = true from Nat.ble_eq_true_of_le R.rol]
      exact r.keep dn (fun _ q => q) fun _ q => q
    · rw [AH.get_push_old h1] at e
      obtain ⟨a, e1, r1⟩ := R.obj n o' e
      exact ⟨a, ext n a e1, r1.keep dn (fun _ q => q) fun _ q => q⟩
  · unfold muPut at e
    by_cases h1 : n = h.n
    · subst h1; exact ⟨o, AH.get_push_new hn⟩
    · rw [if_neg h1] at e
      obtain ⟨o', q⟩ := R.back n a e
      exact ⟨o', by rw [AH.get_push_old h1]; exact q⟩
  · have e : n < h.n + 1 := e
    by_cases h1 : n = h.n
    · subst h1; exact ⟨o, AH.get_push_new hn⟩
    · obtain ⟨o', q⟩ := R.full n (by omega)
      exact ⟨o', by rw [AH.get_push_old h1]; exact q⟩
theorem Step.own (R : RelH W ro μ h H) {p : Addr} {u : HO} (hp : H p = none) : Step ro μ H (muPut μ h.n p) (upd H p u) where
  ext := fun n a e => by
    unfold muPut
    have : n ≠ h.n := fun z => by rw [R.dom (Nat.le_of_eq z.symm)] at e; cases e
    rw [if_neg this]; exact e
  new := fun n b e => by
    unfold muPut at e
    by_cases h1 : n = h.n
    · rw [if_pos h1] at e; cases e; exact .inr hp
    · rw [if_neg h1] at e; exact .inl e
  frm := (Step.laid (μ := μ) (ro := ro) hp).frm
  kep := (Step.laid (μ := μ) (ro := ro) hp).kep
/-- an object is changed -/
theorem Step.write {n : Nat} {a : Addr} {u : HO} (e : μ n = some a) (hn : ro ≤ n) : Step ro μ H μ (upd H a u) where
  ext := fun _ _ e => e
  new := fun _ _ e => .inl e
  frm := fun b o f _ q => by rw [upd_ne (fun z => f n hn (by rw [z]; exact e))]; exact q
  kep := fun b o q => by
    by_cases z : b = a
    · exact ⟨u, by rw [z, upd_same]⟩
    · exact ⟨o, by rw [upd_ne z]; exact q⟩
theorem RelH.write (R : RelH W ro μ h H) {n : Nat} {a : Addr} {u : HO} {o o' : AO} (e : μ n = some a) (hn : ro ≤ n) (ho : h.get n = some o) (hx : H a ≠ some (.xd [])) (r : RelO W.P W.w W.K W.ca true μ (upd H a u) a o') : RelH W ro μ (h.set n o') (upd H a u) where
  lim := R.lim
  rol := R.rol
  roe := R.roe
  inj := R.inj
  obj := fun k x q => by
    by_cases hk : k = n
    · subst hk
      rw [AH.get_set_same R.lim (AH.get_lt ho)] at q; cases q
      refine ⟨a, e, ?_⟩
      rw [show rwOf ro k = true from Nat.ble_eq_true_of_le hn]
      exact r
    · rw [AH.get_set_ne hk] at q
      obtain ⟨b, e1, r1⟩ := R.obj k x q
      have hb : b ≠ a := fun z => hk (R.inj k n b e1 (by rw [z]; exact e))
      refine ⟨b, e1, r1.keep (fun x v d => R.den (Step.write e hn) d) (fun v q => by rw [upd_ne hb]; exact q) fun c q => ?_⟩
      rw [upd_ne (fun z => hx (by rw [← z]; exact q))]; exact q
  back := fun k b q => by
    by_cases hk : k = n
    · subst hk; exact ⟨o', AH.get_set_same R.lim (AH.get_lt ho)⟩
    · obtain ⟨x, e1⟩ := R.back k b q
      exact ⟨x, by rw [AH.get_set_ne hk]; exact e1⟩
  full := fun k q => by
    by_cases hk : k = n
    · subst hk; exact ⟨o', AH.get_set_same R.lim (AH.get_lt ho)⟩
    · obtain ⟨x, e1⟩ := R.full k q
      exact ⟨x, by rw [AH.get_set_ne hk]; exact e1⟩
  tabs := by
    obtain ⟨oo, _, r1⟩ := R.there e
    exact tabs_upd R.tabs r1.nocode
end
end Ev
set_option Elab.async false
set_option linter.all false
set_option maxRecDepth 100000
set_option maxHeartbeats 4000000
/-! the machine's operations are the layer's -/
namespace Ev
open PySem PySem.Spec PyProof.Rows L2

abbrev wd (X : Cx) (ca : Ca) (E : XK) : Wd := ⟨X.prog, X.w, X.K, ca, E⟩
def trOp2 (W : Wd) (f : AV → AV → AH → R AV) : R2 := fun x y H Q => ∃ ro μ h ax ay, RelH W ro μ h H ∧ Den W.K μ H ax x ∧ Den W.K μ H ay y ∧ post W ro μ H (f ax ay h) Q
section
variable {W : Wd} {ro : Nat} {μ : Mu} {h : AH} {H : Hp} {Q : VK}
theorem postG.val {α β : Type} {D : Mu → Hp → α → β → Prop} {Q : β → Hp → Prop} {v : α} (R : RelH W ro μ h H) (p : postG D W ro μ H (.ok v h) Q) {u : β} (d : D μ H v u) : Q u H := p μ u H Step.refl R d
theorem postG.opt {α β : Type} {D : Mu → Hp → α → β → Prop} {Q : β → Hp → Prop} {o : Option α} (p : postG D W ro μ H (rOpt o h) Q) : ∃ v, o = some v ∧ postG D W ro μ H (.ok v h) Q := by
  cases o with
  | none => exact False.elim p
  | some v => exact ⟨v, rfl, p⟩
theorem postG.alloc {o : AO} (R : RelH W ro μ h H) (p : post W ro μ H (alloc h o) Q) : h.n < top ∧ ∀ a u, H a = none → RelO W.P W.w W.K W.ca true μ (upd H a u) a o → Q (.ref a) (upd H a u) := by
  unfold Ev.alloc at p
  cases e : Nat.blt h.n top with
  | false => rw [e] at p; exact False.elim p
  | true =>
    rw [e] at p
    have hn := blt_tt.mp e
    refine ⟨hn, fun a u ha r => p (muPut μ h.n a) (.ref a) (upd H a u) (Step.own R ha) ((R.laid ha).own hn (fun n => R.fresh ha n) r) (.obj ?_)⟩
    unfold muPut
    rw [if_pos rfl]
theorem lim_le {n : Nat} (e : lim n = true) : n ≤ sizeLine := by
  rw [sizeLine_eq]
  exact Nat.le_of_ble_eq_true e
/-! data -/
mutual
theorem den_dp : ∀ {x : AV} {v : V} {d : PyData}, Den W.K μ H x v → AV.dat x = some d → Dp W.K H v d
  | _, _, _, .non, e => by unfold AV.dat at e; cases e; exact .non
  | _, _, _, .bl b, e => by unfold AV.dat at e; cases e; exact .bl b
  | _, _, _, .int i, e => by unfold AV.dat at e; cases e; exact .int i
  | _, _, _, .str x, e => by unfold AV.dat at e; cases e; exact .str x
  | _, _, _, @Den.tup _ _ _ a vs xs s r, e => by
    unfold AV.dat at e
    cases q : AV.dats xs with
    | none => rw [q] at e; cases e
    | some ds => rw [q] at e; cases e; exact .tup s (den_dps r q)
  | _, _, _, .obj _, e => by unfold AV.dat at e; cases e
theorem den_dps : ∀ {xs : List AV} {vs : List V} {ds : List PyData}, DenL W.K μ H xs vs → AV.dats xs = some ds → DpAll W.K H vs ds
  | _, _, _, .nil, e => by unfold AV.dats at e; cases e; exact .nil
  | _, _, _, @DenL.cons _ _ _ x v xs vs d r, e => by
    unfold AV.dats at e
    cases q : AV.dat x with
    | none => rw [q] at e; cases e
    | some dx =>
      rw [q] at e
      cases q2 : AV.dats xs with
      | none => rw [q2] at e; cases e
      | some ds => rw [q2] at e; cases e; exact .cons (den_dp d q) (den_dps r q2)
end
theorem dp_ints : ∀ (ns : List Int), DpAll W.K H (ns.map V.int) (ns.map .int)
  | [] => .nil
  | n :: r => .cons (.int n) (dp_ints r)
theorem den_dpL (R : RelH W ro μ h H) {x : AV} {v : V} {d : PyData} (q : Den W.K μ H x v) (e : datL h x = some d) : Dp W.K H v d := by
  cases q with
  | non => exact den_dp (.non (μ := μ)) e
  | bl b => exact den_dp (.bl (μ := μ) b) e
  | int i => exact den_dp (.int (μ := μ) i) e
  | str x => exact den_dp (.str (μ := μ) x) e
  | tup s r => exact den_dp (.tup s r) e
  | @obj n a hm =>
    unfold datL at e
    obtain ⟨o, ho, r⟩ := R.there hm
    dsimp only at e
    rw [ho] at e
    cases o with
    | lst xs =>
      dsimp only at e
      obtain ⟨_, vs, hv, dl⟩ := r
      cases q2 : AV.dats xs with
      | none => rw [q2] at e; cases e
      | some ds => rw [q2] at e; cases e; exact .lst (SqL.of hv) (den_dps dl q2)
    | fz ns =>
      dsimp only at e
      obtain ⟨ob, hv⟩ := r
      cases e
      exact .lst (.inl (.inr ⟨ob, hv⟩)) (dp_ints ns)
    | dct kvs => cases e
    | ins c fs => cases e
    | odd => cases e
end
section
variable {X : Cx} {ca : Ca} {E : XK}
theorem eqA_ok (hu : X.A.units + 64 < cLine) : OpR X (compareOp .Eq) (trOp2 (wd X ca E) (cmpA .Eq)) := by
  intro pins s σ H x y v u Q I rx ry ⟨ro, μ, h, ax, ay, R, dx, dy, p⟩
  obtain ⟨z, e, p⟩ := postG.opt (show post (wd X ca E) ro μ H (rOpt ((eqA h ax ay).map .bl) h) Q from p)
  unfold eqA at e
  cases q1 : datL h ax with
  | none => rw [q1] at e; simp at e
  | some d =>
    cases q2 : datL h ay with
    | none => rw [q1, q2] at e; simp at e
    | some d2 =>
      rw [q1, q2] at e
      simp only at e
      cases q3 : (SeqAt.shaped d && SeqAt.shaped d2) with
      | false => rw [q3] at e; simp at e
      | true =>
        rw [q3] at e
        simp only [Option.map_some, Option.some.injEq] at e
        obtain ⟨s1, s2⟩ := Bool.and_eq_true_iff.mp q3
        subst e
        exact op_eqD hu pins s σ H x y v u Q I rx ry ⟨d, d2, den_dpL R dx q1, den_dpL R dy q2, s1, s2, p.val R (.bl _)⟩
theorem neA_ok (hu : X.A.units + 64 < cLine) : OpR X (compareOp .NotEq) (trOp2 (wd X ca E) (cmpA .NotEq)) := by
  intro pins s σ H x y v u Q I rx ry ⟨ro, μ, h, ax, ay, R, dx, dy, p⟩
  obtain ⟨z, e, p⟩ := postG.opt (show post (wd X ca E) ro μ H (rOpt ((eqA h ax ay).map fun b => .bl (!b)) h) Q from p)
  unfold eqA at e
  cases q1 : datL h ax with
  | none => rw [q1] at e; simp at e
  | some d =>
    cases q2 : datL h ay with
    | none => rw [q1, q2] at e; simp at e
    | some d2 =>
      rw [q1, q2] at e
      simp only at e
      cases q3 : (SeqAt.shaped d && SeqAt.shaped d2) with
      | false => rw [q3] at e; simp at e
      | true =>
        rw [q3] at e
        simp only [Option.map_some, Option.some.injEq] at e
        obtain ⟨s1, s2⟩ := Bool.and_eq_true_iff.mp q3
        subst e
        exact op_neD hu pins s σ H x y v u Q I rx ry ⟨d, d2, den_dpL R dx q1, den_dpL R dy q2, s1, s2, p.val R (.bl _)⟩
theorem hasA_any (d : PyData) : ∀ ds : List PyData, hasA d ds = ds.any fun z => PyData.eqv z d
  | [] => rfl
  | e :: r => by
    show (match PyData.eqv e d with | true => true | false => hasA d r) = _
    rw [List.any_cons]
    cases PyData.eqv e d with
    | true => rfl
    | false => exact hasA_any d r
/-! keys -/
section
variable {K : PySem.W.Frag} {μ : Mu} {H : Hp} {hp : Heap} (hT : ∀ a xs, SqT K H a xs → ∃ its : List Value, Vals xs its ∧ IsTup hp a its.toArray)
include hT
mutual
theorem nest_of : ∀ {x : AV} {v : V} {k : NestedKey} {u : Value}, Den K μ H x v → AV.key x = some k → RelV v u → NestedIs hp k u
  | _, _, _, _, .non, e, r => by unfold AV.key at e; cases e; cases r; exact NestedIs.none
  | _, _, _, _, .bl b, e, r => by unfold AV.key at e; cases e; cases r; exact NestedIs.bool rfl
  | _, _, _, _, .int i, e, r => by unfold AV.key at e; cases e; obtain ⟨t, rfl⟩ := r; exact NestedIs.int _ _
  | _, _, _, _, .str y, e, r => by unfold AV.key at e; cases e; obtain ⟨t, rfl⟩ := r; exact NestedIs.text _ _
  | _, _, _, _, @Den.tup _ _ _ a vs xs s dl, e, r => by
    cases r
    unfold AV.key at e
    cases q : AV.keys xs with
    | none => rw [q] at e; cases e
    | some ks =>
      rw [q] at e; cases e
      obtain ⟨its, rv, o, ho, hc, n, hd⟩ := hT _ _ s
      exact NestedIs.tup ho hc hd (nests_of dl q rv)
  | _, _, _, _, .obj _, e, r => by unfold AV.key at e; cases e
theorem nests_of : ∀ {xs : List AV} {vs : List V} {ks : List NestedKey} {us : List Value}, DenL K μ H xs vs → AV.keys xs = some ks → Vals vs us → NestedAll hp ks us
  | _, _, _, _, .nil, e, r => by unfold AV.keys at e; cases e; cases r; exact NestedAll.nil
  | _, _, _, _, @DenL.cons _ _ _ x v xs vs d1 d2, e, r => by
    cases r with
    | cons r1 r2 =>
      unfold AV.keys at e
      cases q : AV.key x with
      | none => rw [q] at e; cases e
      | some k =>
        rw [q] at e
        cases q2 : AV.keys xs with
        | none => rw [q2] at e; cases e
        | some ks' => rw [q2] at e; cases e; exact NestedAll.cons (nest_of d1 q r1) (nests_of d2 q2 r2)
end
end

theorem Inv.tupT {pins : List (Addr × Obj)} {σ : L2.St} {H : Hp} {s : Shared} (I : Inv X pins σ H s) : ∀ a xs, SqT X.K H a xs → ∃ its : List Value, Vals xs its ∧ IsTup s.heap a its.toArray := fun a xs q =>
  let ⟨its, r, p, _⟩ := I.tuple q
  ⟨its, r, p⟩
/-- a key of a dict -/
theorem tkey_is {pins : List (Addr × Obj)} {σ : L2.St} {H : Hp} {s : Shared} {μ : Mu} {x : AV} {v : V} {k : NestedKey} {u : Value} (I : Inv X pins σ H s) (d : Den X.K μ H x v) (e : AV.tkey x = some k) (r : RelV v u) : ∃ a, u = .ref a ∧ (nestedKind X.prog X.w).is s.heap k a := by
  cases d with
  | @tup a vs xs sq dl =>
    cases r
    unfold AV.tkey at e
    dsimp only at e
    cases q : AV.keys xs with
    | none => rw [q] at e; cases e
    | some ks =>
      rw [q] at e
      dsimp only at e
      cases q2 : Nat.ble (NestedKey.depth (.tup ks)) 8 with
      | false => rw [q2] at e; cases e
      | true =>
        rw [q2] at e
        cases e
        refine ⟨a, rfl, nest_of (Inv.tupT I) (x := .tup xs) (.tup sq dl) (by unfold AV.key; rw [q]; rfl) rfl, Nat.le_of_ble_eq_true q2⟩
  | _ => unfold AV.tkey at e; cases e
theorem Paired.mem2 {α β : Type} {F : α → β → Prop} : ∀ {l₁ : List α} {l₂ : List β} {b : β}, Paired F l₁ l₂ → b ∈ l₂ → ∃ a, a ∈ l₁ ∧ F a b
  | _, _, _, .nil, h => by cases h
  | _, _, b, .cons r t, h => by
    rcases List.mem_cons.mp h with h | h
    · subst h; exact ⟨_, List.mem_cons_self, r⟩
    · obtain ⟨a, h1, h2⟩ := Paired.mem2 t h
      exact ⟨a, List.mem_cons_of_mem _ h1, h2⟩
/-- a dict of ours is one of the library's -/
theorem dict_is {pins : List (Addr × Obj)} {σ : L2.St} {H : Hp} {s : Shared} {μ : Mu} {a : Addr} {kvs : List (AV × AV)} {xs : List (NestedKey × Addr × Value)} (I : Inv X pins σ H s) {rw : Bool} (e : H a = some (DO X.prog X.w a xs) ∨ (rw = false ∧ ∃ o, H a = some (.frz o (DO X.prog X.w a xs)))) (p : Paired (RelKv X.K μ H) kvs xs) :
    s.heap.DictOfH (nestedKind X.prog X.w) a xs := by
  have k : ObjOk X.prog X.w H s.heap a (DO X.prog X.w a xs) := by
    rcases e with e | ⟨_, q, e⟩
    · exact I.hok a _ e
    · exact (I.hok a _ e).2
  obtain ⟨⟨o, es, ep, h1, h2, h3, h4, h5⟩, _, _⟩ := k
  refine ⟨o, es, ep, h1, h2, h3, h4, fun x hx => ?_, h5⟩
  obtain ⟨kv, _, q1, q2, _⟩ := Paired.mem2 p hx
  obtain ⟨b, e1, e2⟩ := tkey_is I q2 q1 (u := .ref x.2.1) rfl
  cases e1
  exact e2
theorem dfind_at {K : PySem.W.Frag} {μ : Mu} {H : Hp} {k : NestedKey} : ∀ {kvs : List (AV × AV)} {xs : List (NestedKey × Addr × Value)}, Paired (RelKv K μ H) kvs xs → ∀ v, dfind k kvs = some v → ∃ b u w, atKey xs k = some (b, u) ∧ RelV w u ∧ Den K μ H v w
  | _, _, .nil, v, e => by cases e
  | _, _, @Paired.cons _ _ _ p x kvs xs ⟨q1, q2, w, q3, q4⟩ t, v, e => by
    obtain ⟨a, av⟩ := p
    obtain ⟨k', b, u⟩ := x
    have e' : (match AV.tkey a with | some k' => (match decide (k' = k) with | true => some av | false => dfind k kvs) | none => none) = some v := e
    dsimp only at q1
    rw [q1] at e'
    dsimp only at e'
    by_cases h : k' = k
    · rw [decide_eq_true h] at e'
      cases e'
      exact ⟨b, u, w, by simp [atKey, h], q3, q4⟩
    · rw [decide_eq_false h] at e'
      obtain ⟨b2, u2, w2, z1, z2⟩ := dfind_at t v e'
      refine ⟨b2, u2, w2, ?_, z2⟩
      simp only [atKey, List.find?_cons, decide_eq_false h] at z1 ⊢
      exact z1
theorem dhas_at {K : PySem.W.Frag} {μ : Mu} {H : Hp} {k : NestedKey} : ∀ {kvs : List (AV × AV)} {xs : List (NestedKey × Addr × Value)}, Paired (RelKv K μ H) kvs xs → dhas k kvs = (atKey xs k).isSome
  | _, _, .nil => rfl
  | _, _, @Paired.cons _ _ _ p x kvs xs ⟨q1, q2, w, q3, q4⟩ t => by
    obtain ⟨a, av⟩ := p
    obtain ⟨k', b, u⟩ := x
    show (match AV.tkey a with | some k' => (match decide (k' = k) with | true => true | false => dhas k kvs) | none => false) = _
    dsimp only at q1
    rw [q1]
    dsimp only
    by_cases h : k' = k
    · rw [decide_eq_true h]
      simp [atKey, h]
    · rw [decide_eq_false h]
      dsimp only
      rw [dhas_at t]
      simp only [atKey, List.find?_cons, decide_eq_false h]
theorem kin_ok (hu : X.A.units + 65 < cLine) {neg : Bool} : OpR X (compareOp (if neg then .NotIn else .In)) (trOp2 (wd X ca E) (cmpA (if neg then .NotIn else .In))) := by
  intro pins s σ H x y v u Q I rx ry ⟨ro, μ, h, ax, ay, R, dx, dy, p⟩
  have p : ∃ b, inA h ax ay = some b ∧ post (wd X ca E) ro μ H (.ok (.bl (if neg then !b else b)) h) Q := by
    cases neg with
    | true =>
      obtain ⟨z, e, p⟩ := postG.opt (show post (wd X ca E) ro μ H (rOpt ((inA h ax ay).map fun b => .bl (!b)) h) Q from p)
      cases q : inA h ax ay with
      | none => rw [q] at e; cases e
      | some b => rw [q] at e; cases e; exact ⟨b, rfl, p⟩
    | false =>
      obtain ⟨z, e, p⟩ := postG.opt (show post (wd X ca E) ro μ H (rOpt ((inA h ax ay).map .bl) h) Q from p)
      cases q : inA h ax ay with
      | none => rw [q] at e; cases e
      | some b => rw [q] at e; cases e; exact ⟨b, rfl, p⟩
  obtain ⟨b, e, p⟩ := p
  have q := p.val R (.bl _)
  unfold inA at e
  cases dy with
  | @tup a vs ys sq dl =>
    dsimp only at e
    cases q1 : AV.dat ax with
    | none => rw [q1] at e; cases e
    | some d =>
      cases q2 : AV.dats ys with
      | none => rw [q1, q2] at e; cases e
      | some ds =>
        rw [q1, q2] at e
        dsimp only at e
        cases q3 : (SeqAt.shaped d && SeqAt.shaped (.tuple ds)) with
        | false => rw [q3] at e; cases e
        | true =>
          rw [q3] at e
          cases e
          obtain ⟨s1, s2⟩ := Bool.and_eq_true_iff.mp q3
          obtain ⟨as, r1⟩ := Dp.reads I d x v (den_dp (W := wd X ca E) dx q1) rx
          obtain ⟨bs, r2⟩ := Dp.reads I (.tuple ds) (.ref a) u (.tup sq (den_dps (W := wd X ca E) dl q2)) ry
          have hr : X.A.units + 1 + min (PyData.depthAll ds) d.depth < cLine := by
            have := SeqAt.depth_of_shaped s1
            have : min (PyData.depthAll ds) d.depth ≤ d.depth := Nat.min_le_right _ _
            omega
          rw [hasA_any] at q
          cases neg with
          | true => exact SeqAt.notIn_tuple_reads r2 r1 (SeqAt.canLay_of_shaped s2) (SeqAt.canLay_of_shaped s1) hr ⟨.bl _, H, I, rfl, q⟩
          | false => exact SeqAt.in_tuple_reads r2 r1 (SeqAt.canLay_of_shaped s2) (SeqAt.canLay_of_shaped s1) hr ⟨.bl _, H, I, rfl, q⟩
  | @obj n a hm =>
    dsimp only at e
    obtain ⟨o, ho, r⟩ := R.there hm
    rw [ho] at e
    cases ry
    cases o with
    | lst ys =>
      dsimp only at e
      obtain ⟨_, vs, hv, dl⟩ := r
      cases q1 : AV.dat ax with
      | none => rw [q1] at e; cases e
      | some d =>
        cases q2 : AV.dats ys with
        | none => rw [q1, q2] at e; cases e
        | some ds =>
          rw [q1, q2] at e
          dsimp only at e
          cases q3 : (SeqAt.shaped d && SeqAt.shaped (.list ds)) with
          | false => rw [q3] at e; cases e
          | true =>
            rw [q3] at e
            cases e
            obtain ⟨s1, s2⟩ := Bool.and_eq_true_iff.mp q3
            rw [hasA_any] at q
            have d1 := den_dp (W := wd X ca E) dx q1
            have d2 : Dp X.K H (.ref a) (.list ds) := .lst (SqL.of hv) (den_dps (W := wd X ca E) dl q2)
            cases neg with
            | true => exact op_notInD hu pins s σ H x (.ref a) v (.ref a) Q I rx rfl ⟨d, ds, d1, d2, s1, s2, q⟩
            | false => exact op_inD hu pins s σ H x (.ref a) v (.ref a) Q I rx rfl ⟨d, ds, d1, d2, s1, s2, q⟩
    | dct kvs =>
      dsimp only at e
      obtain ⟨hS, _, xs, hv, pk⟩ := r
      cases q1 : AV.tkey ax with
      | none => rw [q1] at e; cases e
      | some k =>
        rw [q1] at e
        cases e
        obtain ⟨b, eb, kb⟩ := tkey_is I dx q1 rx
        subst eb
        have dm := dict_is I hv pk
        rw [dhas_at pk] at q
        have hroom : (nestedKind X.prog X.w).room X.A.in1 := by show X.A.units + 1 + 8 < cLine; omega
        cases neg with
        | true => exact notIn_keyed hroom kb hS ⟨xs, dm, rfl⟩ ⟨.bl _, H, I.tok _, by rw [valueAt_pairsH, Option.isSome_map]; rfl, q⟩
        | false => exact in_keyed hroom kb hS ⟨xs, dm, rfl⟩ ⟨.bl _, H, I.tok _, by rw [valueAt_pairsH, Option.isSome_map]; rfl, q⟩
    | fz ns => cases e
    | ins c fs => cases e
    | odd => cases e
  | _ => cases e
end
end Ev
set_option Elab.async false
set_option linter.all false
set_option maxRecDepth 100000
set_option maxHeartbeats 4000000
namespace Ev
open PySem PySem.Spec PyProof.Rows L2
section
variable {X : Cx} {ca : Ca} {E : XK}
theorem cmpI {op : CmpOp} {g : Int → Int → Bool} (hr : OpR X (compareOp op) (rI0 fun i j => .bl (g i j))) {f : AV → AV → AH → R AV}
    (hf : ∀ ax ay h, (∃ i j, ax = .int i ∧ ay = .int j ∧ f ax ay h = .ok (.bl (g i j)) h) ∨ f ax ay h = .bad) : OpR X (compareOp op) (trOp2 (wd X ca E) f) := by
  intro pins s σ H x y v u Q I rx ry ⟨ro, μ, h, ax, ay, R, dx, dy, p⟩
  rcases hf ax ay h with ⟨i, j, rfl, rfl, e⟩ | e
  · rw [e] at p
    cases dx
    cases dy
    exact hr pins s σ H _ _ v u Q I rx ry ⟨i, j, rfl, rfl, p.val R (.bl _)⟩
  · rw [e] at p
    exact False.elim p
theorem le_ok : OpR X (compareOp .LtE) (trOp2 (wd X ca E) (cmpA .LtE)) := cmpI op_le fun ax ay h => by
  cases ax <;> cases ay <;> first | exact .inl ⟨_, _, rfl, rfl, rfl⟩ | exact .inr rfl
theorem gt_ok : OpR X (compareOp .Gt) (trOp2 (wd X ca E) (cmpA .Gt)) := cmpI op_gt fun ax ay h => by
  cases ax <;> cases ay <;> first | exact .inl ⟨_, _, rfl, rfl, rfl⟩ | exact .inr rfl
theorem ge_ok : OpR X (compareOp .GtE) (trOp2 (wd X ca E) (cmpA .GtE)) := cmpI op_ge fun ax ay h => by
  cases ax <;> cases ay <;> first | exact .inl ⟨_, _, rfl, rfl, rfl⟩ | exact .inr rfl
theorem lt_ok (hu : X.A.units + 65 < cLine) : OpR X (compareOp .Lt) (trOp2 (wd X ca E) (cmpA .Lt)) := by
  intro pins s σ H x y v u Q I rx ry ⟨ro, μ, h, ax, ay, R, dx, dy, p⟩
  cases ax with
  | int i =>
    cases ay with
    | int j =>
      cases dx
      cases dy
      exact op_lt pins s σ H _ _ v u Q I rx ry ⟨i, j, rfl, rfl, postG.val R (show post _ _ _ _ (.ok (.bl (decide (i < j))) h) _ from p) (.bl _)⟩
    | _ => exact False.elim p
  | tup xs =>
    cases ay with
    | tup ys =>
      unfold cmpA at p
      dsimp only at p
      cases q1 : AV.dats xs with
      | none => rw [q1] at p; exact False.elim p
      | some d =>
        cases q2 : AV.dats ys with
        | none => rw [q1, q2] at p; exact False.elim p
        | some e =>
          rw [q1, q2] at p
          dsimp only at p
          cases q3 : (PySem.W.alike (.tuple d) (.tuple e) && (SeqAt.shaped (.tuple d) && SeqAt.shaped (.tuple e))) with
          | false => rw [q3] at p; exact False.elim p
          | true =>
            rw [q3] at p
            obtain ⟨a1, a2⟩ := Bool.and_eq_true_iff.mp q3
            obtain ⟨s1, s2⟩ := Bool.and_eq_true_iff.mp a2
            cases dx with
            | tup sx dlx =>
              cases dy with
              | tup sy dly =>
                obtain ⟨as, r1⟩ := Dp.reads I (.tuple d) _ v (.tup sx (den_dps (W := wd X ca E) dlx q1)) rx
                obtain ⟨bs, r2⟩ := Dp.reads I (.tuple e) _ u (.tup sy (den_dps (W := wd X ca E) dly q2)) ry
                have hr : X.A.units + min (PyData.depth (.tuple d)) (PyData.depth (.tuple e)) < cLine := by
                  have := SeqAt.depth_of_shaped s1
                  have : min (PyData.depth (.tuple d)) (PyData.depth (.tuple e)) ≤ PyData.depth (.tuple d) := Nat.min_le_left _ _
                  omega
                exact PySem.W.rcLt_alike (.tuple d) (.tuple e) X.A s v u as bs r1 r2 a1 (fun z => by cases z) hr X.prog X.w X.xe _ ⟨.bl _, H, I, rfl, postG.val R p (.bl _)⟩
    | _ => exact False.elim p
  | _ => exact False.elim p
theorem RelV.non_iff {x : V} : decide (x = V.non) = true ↔ x = .non := by simp
theorem den_non {K : PySem.W.Frag} {μ : Mu} {H : Hp} {a : AV} {x : V} (d : Den K μ H a x) : (x = .non ↔ a = .non) := by
  cases d <;> simp
theorem is_ok : OpR X (compareOp .Is) (trOp2 (wd X ca E) (cmpA .Is)) := by
  intro pins s σ H x y v u Q I rx ry ⟨ro, μ, h, ax, ay, R, dx, dy, p⟩
  cases ay with
  | non =>
    cases dy
    refine op_isN pins s σ H x .non v u Q I rx ry ⟨rfl, ?_⟩
    cases dx with
    | non => exact postG.val R (show post _ _ _ _ (.ok (.bl true) h) _ from p) (.bl _)
    | bl b => exact postG.val R (show post _ _ _ _ (.ok (.bl false) h) _ from p) (.bl _)
    | int b => exact postG.val R (show post _ _ _ _ (.ok (.bl false) h) _ from p) (.bl _)
    | str b => exact postG.val R (show post _ _ _ _ (.ok (.bl false) h) _ from p) (.bl _)
    | tup _ _ => exact postG.val R (show post _ _ _ _ (.ok (.bl false) h) _ from p) (.bl _)
    | obj _ => exact postG.val R (show post _ _ _ _ (.ok (.bl false) h) _ from p) (.bl _)
  | bl b =>
    cases ax with
    | bl a =>
      cases dx
      cases dy
      refine op_is_bl pins s σ H _ _ v u Q I rx ry ⟨a, b, rfl, rfl, ?_⟩
      have q := postG.val R (show post _ _ _ _ (.ok (.bl (a == b)) h) _ from p) (.bl _)
      rw [Bool.beq_eq_decide_eq] at q
      exact q
    | _ => exact False.elim p
  | _ => cases ax <;> exact False.elim p
theorem isnot_ok : OpR X (compareOp .IsNot) (trOp2 (wd X ca E) (cmpA .IsNot)) := by
  intro pins s σ H x y v u Q I rx ry ⟨ro, μ, h, ax, ay, R, dx, dy, p⟩
  cases ay with
  | non =>
    cases dy
    refine op_notN pins s σ H x .non v u Q I rx ry ⟨rfl, ?_⟩
    cases dx with
    | non => exact postG.val R (show post _ _ _ _ (.ok (.bl false) h) _ from p) (.bl _)
    | bl b => exact postG.val R (show post _ _ _ _ (.ok (.bl true) h) _ from p) (.bl _)
    | int b => exact postG.val R (show post _ _ _ _ (.ok (.bl true) h) _ from p) (.bl _)
    | str b => exact postG.val R (show post _ _ _ _ (.ok (.bl true) h) _ from p) (.bl _)
    | tup _ _ => exact postG.val R (show post _ _ _ _ (.ok (.bl true) h) _ from p) (.bl _)
    | obj _ => exact postG.val R (show post _ _ _ _ (.ok (.bl true) h) _ from p) (.bl _)
  | bl b =>
    cases ax with
    | bl a =>
      cases dx
      cases dy
      refine op_isnot_bl pins s σ H _ _ v u Q I rx ry ⟨a, b, rfl, rfl, ?_⟩
      have q := postG.val R (show post _ _ _ _ (.ok (.bl (!(a == b))) h) _ from p) (.bl _)
      rw [Bool.beq_eq_decide_eq] at q
      exact q
    | _ => exact False.elim p
  | _ => cases ax <;> exact False.elim p
theorem cmp_ok (hu : X.A.units + 65 < cLine) : ∀ op, OpR X (compareOp op) (trOp2 (wd X ca E) (cmpA op))
  | .Eq => eqA_ok (by omega)
  | .NotEq => neA_ok (by omega)
  | .Lt => lt_ok hu
  | .LtE => le_ok
  | .Gt => gt_ok
  | .GtE => ge_ok
  | .Is => is_ok
  | .IsNot => isnot_ok
  | .In => kin_ok (neg := false) hu
  | .NotIn => kin_ok (neg := true) hu
theorem bin_ok : ∀ op, OpR X (binaryOp op) (trOp2 (wd X ca E) (binA op)) := by
  intro op pins s σ H x y v u Q I rx ry ⟨ro, μ, h, ax, ay, R, dx, dy, p⟩
  cases op with
  | Add =>
    cases ax with
    | int i =>
      cases ay with
      | int j =>
        cases dx
        cases dy
        exact op_add pins s σ H _ _ v u Q I rx ry ⟨i, j, rfl, rfl, postG.val R (show post _ _ _ _ (.ok (.int (i + j)) h) _ from p) (.int _)⟩
      | _ => exact False.elim p
    | tup xs =>
      cases ay with
      | tup ys =>
        unfold binA at p
        dsimp only at p
        cases e : lim (xs.length + ys.length) with
        | false => rw [e] at p; exact False.elim p
        | true =>
          rw [e] at p
          dsimp only at p
          have hz := lim_le e
          cases dx with
          | @tup a vs _ sx dlx =>
            cases dy with
            | @tup b ws _ sy dly =>
              refine op_catA pins s σ H _ _ v u Q I rx ry ⟨a, b, vs, ws, rfl, rfl, sx, sy, by rw [← dlx.length, ← dly.length]; exact hz, fun e1 => ?_, fun e1 e2 => ?_, fun e1 e2 c hc => ?_⟩
              · subst e1
                cases dlx
                exact postG.val R p (.tup sy dly)
              · subst e2
                cases dly
                rw [List.append_nil] at p; exact postG.val R p (.tup sx dlx)
              · exact p μ _ _ (Step.laid hc) (R.laid hc) (.tup (SqT.of upd_same) ((R.denL (Step.laid hc) dlx).append (R.denL (Step.laid hc) dly)))
      | _ => exact False.elim p
    | obj n =>
      cases ay with
      | obj m =>
        cases dx with
        | @obj _ a hn =>
          cases dy with
          | @obj _ b hm =>
            obtain ⟨o1, ho1, r1⟩ := R.there hn
            obtain ⟨o2, ho2, r2⟩ := R.there hm
            unfold binA at p
            dsimp only at p
            rw [ho1, ho2] at p
            cases o1 with
            | lst xs =>
              cases o2 with
              | lst ys =>
                dsimp only at p
                cases e : lim (xs.length + ys.length) with
                | false => rw [e] at p; exact False.elim p
                | true =>
                  rw [e] at p
                  dsimp only at p
                  have hz := lim_le e
                  obtain ⟨hn, q⟩ := postG.alloc R p
                  obtain ⟨_, vs, hv, dl⟩ := r1
                  obtain ⟨_, ws, hw, dl2⟩ := r2
                  refine op_cat pins s σ H _ _ v u Q I rx ry ⟨a, b, vs, ws, rfl, rfl, hv, hw, by rw [← dl.length, ← dl2.length]; exact hz, fun c hc => q c _ hc ⟨by rw [List.length_append]; exact hz, _, upd_same, (R.denL (Step.laid hc) dl).append (R.denL (Step.laid hc) dl2)⟩⟩
              | _ => exact False.elim p
            | _ => cases o2 <;> exact False.elim p
      | _ => exact False.elim p
    | _ => cases ay <;> exact False.elim p
  | Sub =>
    cases ax with
    | int i =>
      cases ay with
      | int j =>
        cases dx
        cases dy
        exact op_sub pins s σ H _ _ v u Q I rx ry ⟨i, j, rfl, rfl, postG.val R (show post _ _ _ _ (.ok (.int (i - j)) h) _ from p) (.int _)⟩
      | _ => exact False.elim p
    | _ => cases ay <;> exact False.elim p
  | Mult =>
    cases ax with
    | int i =>
      cases ay with
      | int j =>
        cases dx
        cases dy
        unfold binA at p
        dsimp only at p
        cases e : (small i || small j || wide i j) with
        | false => rw [e] at p; exact False.elim p
        | true =>
          rw [e] at p
          rcases Bool.or_eq_true_iff.mp e with e | e
          · refine op_mul pins s σ H _ _ v u Q I rx ry ⟨i, j, rfl, rfl, ?_, postG.val R p (.int _)⟩
            rcases Bool.or_eq_true_iff.mp e with e | e
            · exact .inl (of_decide_eq_true e)
            · exact .inr (of_decide_eq_true e)
          · have e' := of_decide_eq_true e
            exact op_mulW pins s σ H _ _ v u Q I rx ry ⟨i, j, rfl, rfl, wide_mul e'.1 e'.2 (by decide) (by decide) (by decide), postG.val R p (.int _)⟩
      | _ => exact False.elim p
    | _ => cases ay <;> exact False.elim p
  | FloorDiv =>
    cases ax with
    | int i =>
      cases ay with
      | int j =>
        cases dx
        cases dy
        unfold binA at p
        dsimp only at p
        cases e : decide (0 < j ∧ j < 1073741824) with
        | false => rw [e] at p; exact False.elim p
        | true =>
          rw [e] at p
          have e' := of_decide_eq_true e
          exact op_fdiv pins s σ H _ _ v u Q I rx ry ⟨i, j, rfl, rfl, e', postG.val R p (.int _)⟩
      | _ => exact False.elim p
    | _ => cases ay <;> exact False.elim p
  | Mod =>
    cases ax with
    | int i =>
      cases ay with
      | int j =>
        cases dx
        cases dy
        unfold binA at p
        dsimp only at p
        cases e : decide (0 < j) with
        | false => rw [e] at p; exact False.elim p
        | true =>
          rw [e] at p
          exact op_mod pins s σ H _ _ v u Q I rx ry ⟨i, j, rfl, rfl, of_decide_eq_true e, postG.val R p (.int _)⟩
      | _ => exact False.elim p
    | _ => cases ay <;> exact False.elim p
  | Pow =>
    cases ax with
    | int i =>
      cases ay with
      | int j =>
        cases dx
        cases dy
        unfold binA at p
        dsimp only at p
        cases e : decide (0 ≤ j ∧ j ≤ 1000000 ∧ i.natAbs < 2 ^ 64) with
        | false => rw [e] at p; exact False.elim p
        | true =>
          rw [e] at p
          have e' := of_decide_eq_true e
          exact op_pow pins s σ H _ _ v u Q I rx ry ⟨i, j, rfl, rfl, e', postG.val R p (.int _)⟩
      | _ => exact False.elim p
    | _ => cases ay <;> exact False.elim p
  | _ => cases ax <;> cases ay <;> exact False.elim p
/-! subscripts -/
theorem den_atI {K : PySem.W.Frag} {μ : Mu} {H : Hp} {xs : List AV} {vs : List V} {i : Int} {x : AV} (d : DenL K μ H xs vs) (e : atI xs i = some x) : ∃ v, atI vs i = some v ∧ Den K μ H x v := by
  unfold atI at e ⊢
  rw [← d.length]
  cases q : L2.ixN xs.length i with
  | none => rw [q] at e; cases e
  | some j =>
    rw [q] at e
    exact d.get e
theorem atI_map {α β : Type} (f : α → β) (xs : List α) (i : Int) : atI (xs.map f) i = (atI xs i).map f := by
  unfold atI
  rw [List.length_map]
  cases L2.ixN xs.length i with
  | none => rfl
  | some j => exact List.getElem?_map
theorem sub_ok (hu : X.A.units + 65 < cLine) : IxR X (trOp2 (wd X ca E) subA) := by
  intro value slice pins s σ H x y v u Q I rx ry ⟨ro, μ, h, ax, ay, R, dx, dy, p⟩ hs
  cases ax with
  | tup xs =>
    cases ay with
    | int i =>
      cases dx with
      | @tup a vs _ sx dl =>
        cases dy
        obtain ⟨z, e, p⟩ := postG.opt (show post (wd X ca E) ro μ H (rOpt (atI xs i) h) Q from p)
        obtain ⟨w', e1, d1⟩ := den_atI dl e
        exact ix_tup value slice pins s σ H _ _ v u Q I rx ry ⟨a, vs, i, w', rfl, rfl, sx, e1, p.val R d1⟩ hs
    | _ => exact False.elim p
  | obj n =>
    cases dx with
    | @obj _ a hn =>
      obtain ⟨o, ho, r⟩ := R.there hn
      cases ay with
      | int i =>
        cases dy
        unfold subA at p
        dsimp only at p
        rw [ho] at p
        cases o with
        | lst xs =>
          obtain ⟨z, e, p⟩ := postG.opt (show post (wd X ca E) ro μ H (rOpt (atI xs i) h) Q from p)
          obtain ⟨_, vs, hv, dl⟩ := r
          obtain ⟨w', e1, d1⟩ := den_atI dl e
          exact ix_list value slice pins s σ H _ _ v u Q I rx ry ⟨a, vs, i, w', rfl, rfl, SqL.of hv, e1, p.val R d1⟩ hs
        | fz ns =>
          obtain ⟨z, e, p⟩ := postG.opt (show post (wd X ca E) ro μ H (rOpt ((atI ns i).map .int) h) Q from p)
          obtain ⟨ob, hv⟩ := r
          cases q : atI ns i with
          | none => rw [q] at e; cases e
          | some k =>
            rw [q] at e; cases e
            exact ix_list value slice pins s σ H _ _ v u Q I rx ry ⟨a, ns.map V.int, i, .int k, rfl, rfl, .inl (.inr ⟨ob, hv⟩), by rw [atI_map, q]; rfl, p.val R (.int k)⟩ hs
        | dct kvs => exact False.elim p
        | ins c fs => exact False.elim p
        | odd => exact False.elim p
      | tup ks =>
        unfold subA at p
        dsimp only at p
        rw [ho] at p
        cases o with
        | dct kvs =>
          cases q1 : AV.tkey (.tup ks) with
          | none => rw [q1] at p; exact False.elim p
          | some k =>
            rw [q1] at p
            obtain ⟨z, e, p⟩ := postG.opt (show post (wd X ca E) ro μ H (rOpt (dfind k kvs) h) Q from p)
            obtain ⟨hS, _, xs, hv, pk⟩ := r
            obtain ⟨b, eb, kb⟩ := tkey_is I dy q1 ry
            subst eb
            cases rx
            have dm := dict_is I hv pk
            obtain ⟨b2, u2, w2, z1, z2, z3⟩ := dfind_at pk z e
            have hroom : (nestedKind X.prog X.w).room X.A.in1 := by show X.A.units + 1 + 8 < cLine; omega
            refine tail_any dm.typeIs F.slot_dict_getitem.lookup (getItem_keyed hroom kb ⟨xs, dm, rfl⟩ (v := u2) (by rw [valueAt_pairsH, z1]; rfl) ⟨w2, H, I.tok _, z2, p.val R z3⟩) hs
        | _ => cases q1 : AV.tkey (.tup ks) <;> (rw [q1] at p; exact False.elim p)
      | _ => exact False.elim p
  | _ => cases ay <;> exact False.elim p
end
end Ev
set_option Elab.async false
set_option linter.all false
set_option maxRecDepth 100000
set_option maxHeartbeats 4000000
/-! the machine's expressions are the layer's -/
namespace Ev
open PySem PySem.Spec PyProof.Rows L2

/-- the machine and the layer at one place -/
structure At (W : Wd) (ro : Nat) (μ : Mu) (l : Loc') (h : AH) (σ : L2.St) (H : Hp) : Prop where
  L : RelL W.K μ H l σ
  R : RelH W ro μ h H
abbrev dV (W : Wd) : Mu → Hp → AV → V → Prop := fun μ H => Den W.K μ H
abbrev dL (W : Wd) : Mu → Hp → List AV → List V → Prop := fun μ H => DenL W.K μ H
def dB : Mu → Hp → Bool → Bool → Prop := fun _ _ v b => v = b
/-- a bool, or nothing -/
def toB (r : R AV) : R Bool := r.bind fun v h => match v with
  | .bl b => .ok b h
  | _ => .bad
theorem asB_eq (r : R AV) (k : Bool → AH → R AV) : asB r k = (toB r).bind k := by
  cases r with
  | ok v h => cases v <;> rfl
  | ex x h => rfl
  | bad => rfl
def tE (W : Wd) (m : Loc' → AH → R AV) : TE := fun σ H Q => ∃ ro μ l h, At W ro μ l h σ H ∧ postG (dV W) W ro μ H (m l h) Q
def tT (W : Wd) (m : Loc' → AH → R AV) : TT := fun σ H Q => ∃ ro μ l h, At W ro μ l h σ H ∧ postG dB W ro μ H (toB (m l h)) Q
def tA (W : Wd) (m : Loc' → AH → R (List AV)) : TA := fun σ H Q => ∃ ro μ l h, At W ro μ l h σ H ∧ postG (dL W) W ro μ H (m l h) Q
section
variable {W : Wd} {ro : Nat} {μ : Mu} {l : Loc'} {h : AH} {σ : L2.St} {H : Hp}
theorem bindP {α β γ δ : Type} (D : Mu → Hp → α → β → Prop) {D' : Mu → Hp → γ → δ → Prop} {r : R α} {k : α → AH → R γ} {Q : δ → Hp → Prop} (A : At W ro μ l h σ H) (p : postG D' W ro μ H (r.bind k) Q) :
    postG D W ro μ H r fun u H1 => ∃ μ1 v h1, At W ro μ1 l h1 σ H1 ∧ D μ1 H1 v u ∧ Step ro μ H μ1 H1 ∧ postG D' W ro μ1 H1 (k v h1) Q :=
  (postG.bind (D := D) p).imp fun u H1 ⟨μ1, v, h1, st, R1, d, _, q⟩ => ⟨μ1, v, h1, ⟨A.L.step A.R st, R1⟩, d, st, q⟩
/-- an expression, then the rest -/
theorem goE {β : Type} {D' : Mu → Hp → AV → β → Prop} {m : Loc' → AH → R AV} {k : AV → AH → R AV} {Q : β → Hp → Prop} (A : At W ro μ l h σ H) (p : postG D' W ro μ H ((m l h).bind k) Q) :
    tE W m σ H fun u H1 => ∃ μ1 v h1, At W ro μ1 l h1 σ H1 ∧ Den W.K μ1 H1 v u ∧ Step ro μ H μ1 H1 ∧ postG D' W ro μ1 H1 (k v h1) Q := ⟨ro, μ, l, h, A, bindP (dV W) A p⟩
theorem goL {β : Type} {D' : Mu → Hp → AV → β → Prop} {m : Loc' → AH → R (List AV)} {k : List AV → AH → R AV} {Q : β → Hp → Prop} (A : At W ro μ l h σ H) (p : postG D' W ro μ H ((m l h).bind k) Q) :
    tA W m σ H fun u H1 => ∃ μ1 v h1, At W ro μ1 l h1 σ H1 ∧ DenL W.K μ1 H1 v u ∧ Step ro μ H μ1 H1 ∧ postG D' W ro μ1 H1 (k v h1) Q := ⟨ro, μ, l, h, A, bindP (dL W) A p⟩
/-- two expressions, then an operation -/
theorem go2 {ma mb : Loc' → AH → R AV} {f : AV → AV → AH → R AV} {Q : VK} (A : At W ro μ l h σ H) (p : postG (dV W) W ro μ H ((ma l h).bind fun x h1 => (mb l h1).bind fun y h2 => f x y h2) Q) :
    tE W ma σ H fun x H1 => tE W mb σ H1 fun y H2 => trOp2 W f x y H2 Q :=
  ⟨ro, μ, l, h, A, (bindP (dV W) A p).imp fun x H1 ⟨μ1, v, h1, A1, d1, st1, p1⟩ =>
    ⟨ro, μ1, l, h1, A1, (bindP (dV W) A1 p1).imp fun y H2 ⟨μ2, u, h2, A2, d2, st2, p2⟩ => ⟨ro, μ2, h2, v, u, A2.R, A1.R.den st2 d1, d2, p2⟩⟩⟩
/-- a test -/
theorem asB_bool {β : Type} {D' : Mu → Hp → AV → β → Prop} {r : R AV} {k : Bool → AH → R AV} {Q : β → Hp → Prop} (A : At W ro μ l h σ H) (p : postG D' W ro μ H (asB r k) Q) :
    postG dB W ro μ H (toB r) fun b H1 => ∃ μ1 h1, At W ro μ1 l h1 σ H1 ∧ Step ro μ H μ1 H1 ∧ postG D' W ro μ1 H1 (k b h1) Q := by
  rw [asB_eq] at p
  refine (bindP (D := dB) A p).imp fun b H1 ⟨μ1, v, h1, A1, d, st, q⟩ => ?_
  cases d
  exact ⟨μ1, h1, A1, st, q⟩
theorem asB_val {β : Type} {D' : Mu → Hp → AV → β → Prop} {r : R AV} {k : Bool → AH → R AV} {Q : β → Hp → Prop} (A : At W ro μ l h σ H) (p : postG D' W ro μ H (asB r k) Q) :
    postG (dV W) W ro μ H r fun u H1 => ∃ b μ1 h1, u = .bl b ∧ At W ro μ1 l h1 σ H1 ∧ Step ro μ H μ1 H1 ∧ postG D' W ro μ1 H1 (k b h1) Q := by
  refine (bindP (D := dV W) A p).imp fun u H1 ⟨μ1, v, h1, A1, d, st, q⟩ => ?_
  cases v with
  | bl b => cases d; exact ⟨b, μ1, h1, rfl, A1, st, q⟩
  | _ => exact False.elim q
/-- what is a bool, as a value -/
theorem bool_of {r : R AV} {Q : Bool → Hp → Prop} (p : postG dB W ro μ H (toB r) Q) : postG (dV W) W ro μ H r fun u H1 => ∃ k, u = .bl k ∧ Q k H1 := by
  cases r with
  | ok v h1 =>
    intro μ1 u H1 st R d
    cases v with
    | bl b => cases d; exact ⟨b, rfl, p μ1 b H1 st R rfl⟩
    | _ => exact False.elim p
  | ex x h1 => exact p
  | bad => exact p
end

abbrev SimE (X : Cx) (W : Wd) (e : Expr) (m : Loc' → AH → R AV) : Prop := PE X e (tE W m)
abbrev SimT (X : Cx) (W : Wd) (e : Expr) (m : Loc' → AH → R AV) : Prop := PT X e (tT W m)
abbrev SimA (X : Cx) (W : Wd) (es : List Expr) (m : Loc' → AH → R (List AV)) : Prop := PA X es (tA W m)
theorem PA.weaken {X : Cx} {es : List Expr} {t t' : TA} (p : PA X es t) (h : ∀ σ H Q, t' σ H Q → t σ H Q) : PA X es t' := ⟨fun pos pins s σ H Q I q => p.run pos pins s σ H Q I (h σ H Q q)⟩
theorem PE.either {X : Cx} {e : Expr} {t u : TE} (p : PE X e t) (q : PE X e u) : PE X e (fun σ H Q => t σ H Q ∨ u σ H Q) := ⟨fun pins s σ H Q I w => w.elim (p.run pins s σ H Q I) (q.run pins s σ H Q I)⟩
section
variable {X : Cx} {ca : Ca} {E : XK} {a b c : Expr} {es : List Expr} {ma mb mc : Loc' → AH → R AV} {ms : Loc' → AH → R (List AV)} {pos : Pos}
theorem sim_var {i : Nat} {x : Str} (hN : X.N[i]? = some x) (hv : Vis X.env.scope x) (hd : (x == ("__debug__" : Str)) = false) (hc : (x == ("__classdict__" : Str)) = false) : SimE X (wd X ca E) (.Name x pos) (fun l h => rOpt (l[i]?.join) h) :=
  PE.weaken (pe_var (i := i) hN hv hd hc) fun σ H Q ⟨ro, μ, l, h, A, p⟩ => by
    obtain ⟨v, e, p⟩ := postG.opt p
    cases q : l[i]? with
    | none => rw [q] at e; cases e
    | some o =>
      rw [q] at e
      have e' : o = some v := e
      subst e'
      obtain ⟨u, h1, h2⟩ := A.L.2 i v q
      exact ⟨u, h1, p.val A.R h2⟩
theorem sim_c {e : Expr} {v : V} {x : AV} (p : PE X e (tC v)) (d : ∀ μ H, Den X.K μ H x v) : SimE X (wd X ca E) e (fun _ h => .ok x h) :=
  PE.weaken p fun σ H Q ⟨ro, μ, l, h, A, p⟩ => p.val A.R (d μ H)
theorem sim_nil : SimA X (wd X ca E) [] (fun _ h => .ok [] h) := PA.weaken pa_nil fun σ H Q ⟨ro, μ, l, h, A, p⟩ => p.val A.R .nil
theorem sim_cons (ha : SimE X (wd X ca E) a ma) (hr : SimA X (wd X ca E) es ms) (hs : starEach (a :: es) X.env = (false, eval a X.env) :: starEach es X.env) :
    SimA X (wd X ca E) (a :: es) (fun l h => (ma l h).bind fun x h1 => (ms l h1).bind fun xs h2 => .ok (x :: xs) h2) :=
  PA.weaken (pa_cons ha hr hs) fun σ H Q ⟨ro, μ, l, h, A, p⟩ => ⟨ro, μ, l, h, A, (bindP (dV _) A p).imp fun x H1 ⟨μ1, v, h1, A1, d1, st1, p1⟩ =>
    ⟨ro, μ1, l, h1, A1, (bindP (dL _) A1 p1).imp fun y H2 ⟨μ2, u, h2, A2, d2, st2, p2⟩ => p2.val A2.R (.cons (A1.R.den st2 d1) d2)⟩⟩
theorem sim_tup {k : Nat} (ha : SimA X (wd X ca E) es ms) : SimE X (wd X ca E) (.Tuple es k pos) (fun l h => (ms l h).bind fun vs h1 => match lim vs.length with | true => .ok (.tup vs) h1 | false => .bad) :=
  PE.weaken (pe_tup ha) fun σ H Q ⟨ro, μ, l, h, A, p⟩ => ⟨ro, μ, l, h, A, (bindP (dL _) A p).imp fun xs H1 ⟨μ1, v, h1, A1, d1, st1, p1⟩ => by
    cases e : lim v.length with
    | false => rw [e] at p1; exact False.elim p1
    | true =>
      rw [e] at p1
      exact ⟨by rw [← d1.length]; exact lim_le e, fun q hq => p1 μ1 _ _ (Step.laid hq) (A1.R.laid hq) (.tup (SqT.of upd_same) (A1.R.denL (Step.laid hq) d1))⟩⟩
theorem sim_mk (ha : SimA X (wd X ca E) es ms) : SimE X (wd X ca E) (.List es pos) (fun l h => (ms l h).bind fun vs h1 => match lim vs.length with | true => alloc h1 (.lst vs) | false => .bad) :=
  PE.weaken (pe_lst ha) fun σ H Q ⟨ro, μ, l, h, A, p⟩ => ⟨ro, μ, l, h, A, (bindP (dL _) A p).imp fun xs H1 ⟨μ1, v, h1, A1, d1, st1, p1⟩ => by
    cases e : lim v.length with
    | false => rw [e] at p1; exact False.elim p1
    | true =>
      rw [e] at p1
      have z := lim_le e
      obtain ⟨_, q⟩ := postG.alloc A1.R p1
      exact ⟨by rw [← d1.length]; exact z, fun c hc => q c _ hc ⟨z, _, upd_same, A1.R.denL (Step.laid hc) d1⟩⟩⟩
theorem sim_bin {op : Operator} (ha : SimE X (wd X ca E) a ma) (hb : SimE X (wd X ca E) b mb) : SimE X (wd X ca E) (.BinOp a op b pos) (fun l h => (ma l h).bind fun x h1 => (mb l h1).bind fun y h2 => binA op x y h2) :=
  PE.weaken (pe_op (bin_ok op) ha hb) fun σ H Q ⟨ro, μ, l, h, A, p⟩ => go2 A p
theorem sim_neg (ha : SimE X (wd X ca E) a ma) : SimE X (wd X ca E) (.UnaryOp .USub a pos) (fun l h => (ma l h).bind fun x h1 => match x with | .int i => .ok (.int (-i)) h1 | _ => .bad) :=
  PE.weaken (pe_un un_neg ha) fun σ H Q ⟨ro, μ, l, h, A, p⟩ => ⟨ro, μ, l, h, A, (bindP (dV _) A p).imp fun x H1 ⟨μ1, v, h1, A1, d1, st1, p1⟩ => by
    cases v with
    | int i => cases d1; exact ⟨i, rfl, p1.val A1.R (.int _)⟩
    | _ => exact False.elim p1⟩
theorem sim_cmp {op : CmpOp} (hu : X.A.units + 65 < cLine) (ha : SimE X (wd X ca E) a ma) (hb : SimE X (wd X ca E) b mb) (hm : behindInMarks op b = false) :
    SimE X (wd X ca E) (.Compare a [op] [b] pos) (fun l h => (ma l h).bind fun x h1 => (mb l h1).bind fun y h2 => cmpA op x y h2) :=
  PE.weaken (pe_cmpR (cmp_ok hu op) ha hb hm) fun σ H Q ⟨ro, μ, l, h, A, p⟩ => go2 A p
/-- a test by its value -/
theorem sim_pt (p : SimE X (wd X ca E) a ma) (he : ∀ whole, isTrue a X.env whole = (do let v ← whole; standAt a.pos; holding [v] (truthy v))) : SimT X (wd X ca E) a ma :=
  PT.weaken (pt_val p he) fun σ H Q ⟨ro, μ, l, h, A, p⟩ => ⟨ro, μ, l, h, A, bool_of p⟩
theorem simt_cmp {op : CmpOp} (hu : X.A.units + 65 < cLine) (ha : SimE X (wd X ca E) a ma) (hb : SimE X (wd X ca E) b mb) (hm : behindInMarks op b = false) :
    SimT X (wd X ca E) (.Compare a [op] [b] pos) (fun l h => (ma l h).bind fun x h1 => (mb l h1).bind fun y h2 => cmpA op x y h2) :=
  PT.weaken (pt_cmpR (cmp_ok hu op) ha hb hm) fun σ H Q ⟨ro, μ, l, h, A, p⟩ => go2 A (bool_of p)
theorem go3 {W : Wd} {ro : Nat} {μ : Mu} {l : Loc'} {h : AH} {σ : L2.St} {H : Hp} {op op' : CmpOp} {Q : VK} (A : At W ro μ l h σ H)
    (p : postG (dV W) W ro μ H ((ma l h).bind fun x h1 => (mb l h1).bind fun y h2 => asB (cmpA op x y h2) fun r h3 => match r with | true => (mc l h3).bind fun z h4 => cmpA op' y z h4 | false => .ok (.bl false) h3) Q) :
    tChain (trOp2 W (cmpA op)) (trOp2 W (cmpA op')) (tE W ma) (tE W mb) (tE W mc) σ H Q :=
  ⟨ro, μ, l, h, A, (bindP (dV W) A p).imp fun x H1 ⟨μ1, v, h1, A1, d1, st1, p1⟩ =>
    ⟨ro, μ1, l, h1, A1, (bindP (dV W) A1 p1).imp fun y H2 ⟨μ2, u, h2, A2, d2, st2, p2⟩ => ⟨ro, μ2, h2, v, u, A2.R, A1.R.den st2 d1, d2,
      (asB_val A2 p2).imp fun z H3 ⟨k, μ3, h3, ez, A3, st3, p3⟩ => ⟨k, ez, by
        cases k with
        | true => rw [if_pos rfl]; exact ⟨ro, μ3, l, h3, A3, (bindP (dV W) A3 p3).imp fun w H4 ⟨μ4, t, h4, A4, d4, st4, p4⟩ => ⟨ro, μ4, h4, u, t, A4.R, A2.R.den (st3.trans st4) d2, d4, p4⟩⟩
        | false => rw [if_neg Bool.false_ne_true]; exact p3.val A3.R (.bl _)⟩⟩⟩⟩
theorem sim_chain {op op' : CmpOp} (hu : X.A.units + 65 < cLine) (ha : SimE X (wd X ca E) a ma) (hb : SimE X (wd X ca E) b mb) (hc : SimE X (wd X ca E) c mc) (hm : lastMarks [op, op'] [b, c] = false) :
    SimE X (wd X ca E) (.Compare a [op, op'] [b, c] pos) (fun l h => (ma l h).bind fun x h1 => (mb l h1).bind fun y h2 => asB (cmpA op x y h2) fun r h3 => match r with | true => (mc l h3).bind fun z h4 => cmpA op' y z h4 | false => .ok (.bl false) h3) :=
  PE.weaken (pe_chain (cmp_ok hu op) (cmp_ok hu op') ha hb hc hm) fun σ H Q ⟨ro, μ, l, h, A, p⟩ => go3 A p
theorem simt_chain {op op' : CmpOp} (hu : X.A.units + 65 < cLine) (ha : SimE X (wd X ca E) a ma) (hb : SimE X (wd X ca E) b mb) (hc : SimE X (wd X ca E) c mc) (hm : lastMarks [op, op'] [b, c] = false) :
    SimT X (wd X ca E) (.Compare a [op, op'] [b, c] pos) (fun l h => (ma l h).bind fun x h1 => (mb l h1).bind fun y h2 => asB (cmpA op x y h2) fun r h3 => match r with | true => (mc l h3).bind fun z h4 => cmpA op' y z h4 | false => .ok (.bl false) h3) :=
  PT.weaken (pt_chain (cmp_ok hu op) (cmp_ok hu op') ha hb hc hm) fun σ H Q ⟨ro, μ, l, h, A, p⟩ => go3 A (bool_of p)
/-! and, or, not -/
def andM (ma mb : Loc' → AH → R AV) : Loc' → AH → R AV := fun l h => asB (ma l h) fun r h1 => match r with
  | true => mb l h1
  | false => .ok (.bl false) h1
def orM (ma mb : Loc' → AH → R AV) : Loc' → AH → R AV := fun l h => asB (ma l h) fun r h1 => match r with
  | true => .ok (.bl true) h1
  | false => mb l h1
theorem toB_asB (r : R AV) (k : Bool → AH → R AV) : toB (asB r k) = (toB r).bind fun b h => toB (k b h) := by
  cases r with
  | ok v h => cases v <;> rfl
  | ex x h => rfl
  | bad => rfl
theorem sim_and {d : Expr} {rest : List Expr} (ha : SimE X (wd X ca E) a ma) (hb : SimE X (wd X ca E) (.BoolOp .And (d :: rest) pos) mb) : SimE X (wd X ca E) (.BoolOp .And (a :: d :: rest) pos) (andM ma mb) :=
  PE.weaken (pe_and ha hb) fun σ H Q ⟨ro, μ, l, h, A, p⟩ => ⟨ro, μ, l, h, A, (asB_val A p).imp fun u H1 ⟨k, μ1, h1, e, A1, st, q⟩ => ⟨k, e, by
    cases k with
    | true => rw [if_pos rfl]; exact ⟨ro, μ1, l, h1, A1, q⟩
    | false => rw [if_neg Bool.false_ne_true]; exact q.val A1.R (.bl _)⟩⟩
theorem sim_or {d : Expr} {rest : List Expr} (ha : SimE X (wd X ca E) a ma) (hb : SimE X (wd X ca E) (.BoolOp .Or (d :: rest) pos) mb) : SimE X (wd X ca E) (.BoolOp .Or (a :: d :: rest) pos) (orM ma mb) :=
  PE.weaken (pe_or ha hb) fun σ H Q ⟨ro, μ, l, h, A, p⟩ => ⟨ro, μ, l, h, A, (asB_val A p).imp fun u H1 ⟨k, μ1, h1, e, A1, st, q⟩ => ⟨k, e, by
    cases k with
    | true => rw [if_pos rfl]; exact q.val A1.R (.bl _)
    | false => rw [if_neg Bool.false_ne_true]; exact ⟨ro, μ1, l, h1, A1, q⟩⟩⟩
theorem sim_one {op} (ha : SimE X (wd X ca E) a ma) : SimE X (wd X ca E) (.BoolOp op [a] pos) ma := pe_one ha
abbrev SimW (X : Cx) (W : Wd) (e : Expr) (m : Loc' → AH → R AV) : Prop := PW X e (tT W m)
theorem PW.weaken {X : Cx} {e : Expr} {t t' : TT} (p : PW X e t) (h : ∀ σ H Q, t' σ H Q → t σ H Q) : PW X e t' := ⟨fun wh pins s σ H Q I q => p.run wh pins s σ H Q I (h σ H Q q)⟩
theorem simw_and {d : Expr} {rest : List Expr} (ha : SimT X (wd X ca E) a ma) (hb : SimW X (wd X ca E) (.BoolOp .And (d :: rest) pos) mb) : SimW X (wd X ca E) (.BoolOp .And (a :: d :: rest) pos) (andM ma mb) :=
  PW.weaken (pw_and ha hb) fun σ H Q ⟨ro, μ, l, h, A, p⟩ => ⟨ro, μ, l, h, A, by
    unfold andM at p
    rw [toB_asB] at p
    refine (bindP dB A p).imp fun k H1 ⟨μ1, v, h1, A1, e, st, q⟩ => ?_
    cases e
    cases k with
    | true => rw [if_pos rfl]; exact ⟨ro, μ1, l, h1, A1, q⟩
    | false => rw [if_neg Bool.false_ne_true]; exact postG.val A1.R (show postG dB _ ro μ1 H1 (.ok false h1) Q from q) rfl⟩
theorem simw_or {d : Expr} {rest : List Expr} (ha : SimT X (wd X ca E) a ma) (hb : SimW X (wd X ca E) (.BoolOp .Or (d :: rest) pos) mb) : SimW X (wd X ca E) (.BoolOp .Or (a :: d :: rest) pos) (orM ma mb) :=
  PW.weaken (pw_or ha hb) fun σ H Q ⟨ro, μ, l, h, A, p⟩ => ⟨ro, μ, l, h, A, by
    unfold orM at p
    rw [toB_asB] at p
    refine (bindP dB A p).imp fun k H1 ⟨μ1, v, h1, A1, e, st, q⟩ => ?_
    cases e
    cases k with
    | true => rw [if_pos rfl]; exact postG.val A1.R (show postG dB _ ro μ1 H1 (.ok true h1) Q from q) rfl
    | false => rw [if_neg Bool.false_ne_true]; exact ⟨ro, μ1, l, h1, A1, q⟩⟩
theorem simw_one {op} (ha : SimT X (wd X ca E) a ma) : SimW X (wd X ca E) (.BoolOp op [a] pos) ma := by
  cases op with
  | And => exact pw_and1 ha
  | Or => exact pw_or1 ha
theorem sim_not (ha : SimE X (wd X ca E) a ma) : SimE X (wd X ca E) (.UnaryOp .Not a pos) (fun l h => asB (ma l h) fun r h1 => .ok (.bl (!r)) h1) :=
  PE.weaken (pe_not ha) fun σ H Q ⟨ro, μ, l, h, A, p⟩ => ⟨ro, μ, l, h, A, (asB_val A p).imp fun u H1 ⟨k, μ1, h1, e, A1, st, q⟩ => ⟨k, e, q.val A1.R (.bl _)⟩⟩
theorem simt_not (ha : SimT X (wd X ca E) a ma) : SimT X (wd X ca E) (.UnaryOp .Not a pos) (fun l h => asB (ma l h) fun r h1 => .ok (.bl (!r)) h1) :=
  PT.weaken (pt_not ha) fun σ H Q ⟨ro, μ, l, h, A, p⟩ => ⟨ro, μ, l, h, A, by
    rw [toB_asB] at p
    refine (bindP dB A p).imp fun k H1 ⟨μ1, v, h1, A1, e, st, q⟩ => ?_
    cases e
    exact postG.val A1.R (show postG dB _ ro μ1 H1 (.ok (!k) h1) Q from q) rfl⟩
theorem sim_ite (hc : SimT X (wd X ca E) c mc) (ha : SimE X (wd X ca E) a ma) (hb : SimE X (wd X ca E) b mb) : SimE X (wd X ca E) (.IfExp c a b pos) (fun l h => asB (mc l h) fun r h1 => match r with | true => ma l h1 | false => mb l h1) :=
  PE.weaken (pe_ifExp hc ha hb) fun σ H Q ⟨ro, μ, l, h, A, p⟩ => ⟨ro, μ, l, h, A, (asB_bool A p).imp fun k H1 ⟨μ1, h1, A1, st, q⟩ => by
    cases k with
    | true => rw [if_pos rfl]; exact ⟨ro, μ1, l, h1, A1, q⟩
    | false => rw [if_neg Bool.false_ne_true]; exact ⟨ro, μ1, l, h1, A1, q⟩⟩
theorem sim_sub (hu : X.A.units + 65 < cLine) (ha : SimE X (wd X ca E) a ma) (hb : SimE X (wd X ca E) b mb) (hs : PlainIx b) : SimE X (wd X ca E) (.Subscript a b pos) (fun l h => (ma l h).bind fun x h1 => (mb l h1).bind fun y h2 => subA x y h2) :=
  PE.weaken (pe_ix (sub_ok hu) ha hb hs) fun σ H Q ⟨ro, μ, l, h, A, p⟩ => go2 A p
end
end Ev
set_option Elab.async false
set_option linter.all false
set_option maxRecDepth 100000
set_option maxHeartbeats 4000000
/-! calls -/
namespace Ev
open PySem PySem.Spec PyProof.Rows L2

def notStar : Expr → Bool
  | .Starred _ _ => false
  | _ => true
theorem star_one {e : Expr} {es : List Expr} {env : Env} (h : notStar e = true) : starEach (e :: es) env = (false, eval e env) :: starEach es env := by
  cases e <;> first | rfl | exact absurd h Bool.false_ne_true
theorem star_any {pos : Pos} {env : Env} : ∀ {es : List Expr}, es.all notStar = true → (backTo pos (starEach es env)).any (·.1) = false
  | [], _ => rfl
  | e :: es, h => by
    rw [List.all_cons, Bool.and_eq_true] at h
    rw [star_one h.1]
    show (false || (backTo pos (starEach es env)).any (·.1)) = false
    rw [star_any h.2]
    rfl
theorem star_all {pos : Pos} {env : Env} : ∀ {es : List Expr}, es.all notStar = true → (backTo pos (starEach es env)).all (fun x => !x.1) = true
  | [], _ => rfl
  | e :: es, h => by
    rw [List.all_cons, Bool.and_eq_true] at h
    rw [star_one h.1]
    show (true && (backTo pos (starEach es env)).all (fun x => !x.1)) = true
    rw [star_all h.2]
    rfl
/-- o is no call without arguments -/
def baseOk : Expr → Bool
  | .Call (.Name _ _) [] [] _ => false
  | _ => true
theorem base_ok {o : Expr} {m : Str} {env : Env} {t : Sem Value} (h : baseOk o = true) : attributeBase o m env t = t := by
  cases o with
  | Call f as ks pos =>
    cases f with
    | Name id p =>
      cases as with
      | nil =>
        cases ks with
        | nil => exact absurd h Bool.false_ne_true
        | cons k ks => rfl
      | cons a as => rfl
    | _ => rfl
  | _ => rfl
section
variable {M : Model} {A : Around} {E : Value → Shared → Prop} {s : Shared} {env : Env}
theorem meth_of {o : Expr} {m : Str} {apos pos : Pos} {es : List Expr} {Q : Value → Shared → Prop} (hb : baseOk o = true) (hs : es.all notStar = true) (hn : es.length < 20) (hl : (apos.endLine == pos.line) = true)
    (h : wpAny M A (eval o env) (fun ov s₁ => wpAny M A (getMethod ov m (do return (← importBound o env).getD true)) (fun fx s₂ => wpAny M A (callWith pos fx.1 fx.2 (backTo pos (starEach es env)) (backToKw pos (keywordEach [] env))) Q E s₂) E s₁) E s) :
    wpAny M A (eval (.Call (.Attribute o m apos) es [] pos) env) Q E s := by
  have hform : methodCallForm (es.length + ([] : List Keyword).length) (backTo pos (starEach es env)) (backToKw pos (keywordEach [] env)) = true := by
    show ((backTo pos (starEach es env)).all (fun x => !x.1) && true && decide (es.length + 0 + 0 < 30)) = true
    rw [star_all hs, decide_eq_true (by omega)]
    rfl
  have hpos : methodCallPos true o env apos pos = pure pos := by
    unfold methodCallPos
    simp [hl]
  rw [arm_eval_Call, base_ok hb]
  refine wpAny_bind (thn h fun ov s₁ h₁ => wpAny_bind (wpAny_standAt ?_))
  unfold methodCall
  rw [hform]
  refine wpAny_bind (wpAny_holding (thn h₁ fun fx s₂ h₂ => ?_))
  exact wpAny_bind (wpAny_of_eq hpos h₂)
end

theorem takesF {X : Cx} : L2N.Takes X (fun _ _ _ _ => False) := fun _ _ y => (by obtain ⟨_, _, _, _, _, _, _, _, _, _, _, _, _, _, _, _, w⟩ := y; exact w.elim)
/-! ### promises of the table -/
abbrev Wd.to (W : Wd) (E : XK) : Wd := { W with E := E }
theorem RelH.to {W : Wd} {ro : Nat} {μ : Mu} {h : AH} {H : Hp} (R : RelH W ro μ h H) (E : XK) : RelH (W.to E) ro μ h H := ⟨R.lim, R.rol, R.roe, R.inj, R.obj, R.back, R.full, R.tabs⟩
def spF (W : Wd) (F : Fn) : Sp := fun vs H Q E => ∃ ro μ h args, RelH W ro μ h H ∧ DenL W.K μ H args vs ∧ postG (dV (W.to E)) (W.to E) ro μ H (F args h) Q
/-- a def stands at f -/
def FnS (X : Cx) (ca : Ca) (lv : Nat) (F : Fn) (f : Addr) : Prop := FnR X.prog X.w X.K X.mg X.base (L2N.CX X.prog X.w) lv f (spF (wd X ca E0) F)
/-- what leaves a def, as the body wants it -/
def WE0 (E : XK) : WX := fun cls d _ H => E cls d H
theorem passE {X : Cx} {E : XK} (tk : L2N.Takes X (WE0 E)) : Passes (L2N.CX X.prog X.w) X E := L2N.passes_call tk fun _ _ _ _ h => h
section
variable {X : Cx} {ca : Ca} {E : XK} {lv : Nat} {a : Expr} {es : List Expr} {ma : Loc' → AH → R AV} {ms : Loc' → AH → R (List AV)} {pos p apos : Pos} {x : Str} {F : Fn} {f : Addr}
theorem to_sp {ro : Nat} {μ : Mu} {h : AH} {H : Hp} {args : List AV} {vs : List V} {Q : VK} (R : RelH (wd X ca E) ro μ h H) (d : DenL X.K μ H args vs) (p : postG (dV (wd X ca E)) (wd X ca E) ro μ H (F args h) Q) : spF (wd X ca E0) F vs H Q E :=
  ⟨ro, μ, h, args, R.to E0, d, p⟩
theorem sim_call {e : Expr} (hr : Room lv X.A) (tk : L2N.Takes X (WE0 E)) (hg : Gl X x) (hm : X.mg x = some (.ref f)) (hk : PySem.W.keepIn X.K (.ref f) = true) (hf : FnS X ca lv F f) (ha : SimA X (wd X ca E) (e :: es) ms) (hs : (e :: es).all notStar = true) (hd : (x == ("__debug__" : Str)) = false) :
    SimE X (wd X ca E) (.Call (.Name x p) (e :: es) [] pos) (fun l h => (ms l h).bind fun vs h1 => F vs h1) := by
  refine ⟨fun pins s σ H Q I ⟨ro, μ, l, h, A, q⟩ => ?_⟩
  have hs' := hs
  rw [List.all_cons, Bool.and_eq_true] at hs'
  refine wpAny_Call_Name_kw (ld_glob I hg hm ?_ hd)
  refine PySem.W.callWith_K (h₀ := X.base) I.ok.mod.kin hk (thn (ha.run pos pins s σ H _ I ⟨ro, μ, l, h, A, bindP (dL _) A q⟩) fun us s1 ⟨vs, H1, I1, r, μ1, v, h1, A1, d, st, q1⟩ => ⟨I1.kIn, ?_⟩) (star_one hs'.1) (star_any hs'.2)
  exact wpAny_call (run_fnR hf hr (passE tk) I1 r (to_sp A1.R d q1))
theorem sim_call0 (hr : Room lv X.A) (tk : L2N.Takes X (WE0 E)) (hg : Gl X x) (hm : X.mg x = some (.ref f)) (hk : PySem.W.keepIn X.K (.ref f) = true) (hf : FnS X ca lv F f) (hd : (x == ("__debug__" : Str)) = false) :
    SimE X (wd X ca E) (.Call (.Name x p) [] [] pos) (fun l h => F [] h) := by
  refine ⟨fun pins s σ H Q I ⟨ro, μ, l, h, A, q⟩ => ?_⟩
  refine wpAny_Call_Name_kw (ld_glob I hg hm ?_ hd)
  exact PySem.W.callWith_K0 I.kIn hk (wpAny_call (run_fnR (us := []) (vs := []) hf hr (passE tk) I .nil (to_sp A.R .nil q)))
/-! ### instances -/
theorem ins_slt {ro : Nat} {μ : Mu} {h : AH} {H : Hp} {v : AV} {u : V} {c : Nat} {fs : List (Option AV)} (R : RelH (wd X ca E) ro μ h H) (d : Den X.K μ H v u) (e : insOf h v = some (c, fs)) :
    ∃ n b dx vs, v = .obj n ∧ μ n = some b ∧ u = .ref b ∧ h.get n = some (.ins c fs) ∧ SlX.Slt H b (ca c) dx vs ∧ H b = some (SlX.SlO b (ca c) dx vs) ∧ H dx = some (.xd []) ∧ ∀ (i : Nat) v, fs[i]? = some (some v) → ∃ u, vs[i]? = some (some u) ∧ Den X.K μ H v u := by
  unfold insOf at e
  cases d with
  | @obj n b hn =>
    obtain ⟨o, ho, r⟩ := R.there hn
    dsimp only at e
    rw [ho] at e
    cases o with
    | ins c' fs' =>
      cases e
      obtain ⟨dx, vs, h1, h2, h3⟩ := r
      exact ⟨n, b, dx, vs, rfl, hn, rfl, ho, .inr ⟨h1, h2⟩, h1, h2, h3⟩
    | _ => cases e
  | _ => cases e
/-- a class's slot, by its place -/
def SltK (X : Cx) (ca : Ca) (f : Str) (p : Nat × Nat) : Prop := SlX.SCls X.K (ca p.1) ∧ ∃ d, SlX.Slot1 X.K (ca p.1) f d p.2
theorem alt_mem {α : Type} {c : Nat} {a : α} : ∀ {l : List (Nat × α)}, altOf c l = some a → (c, a) ∈ l
  | [], e => by cases e
  | (k, b) :: r, e => by
    have e' : (match Nat.beq k c with | true => some b | false => altOf c r) = some a := e
    cases q : Nat.beq k c with
    | true =>
      rw [q] at e'
      cases e'
      have := Nat.eq_of_beq_eq_true q
      subst this
      exact List.mem_cons_self
    | false =>
      rw [q] at e'
      exact List.mem_cons_of_mem _ (alt_mem e')
theorem sim_att {g : Str} {alts : List (Nat × Nat)} (ha : SimE X (wd X ca E) a ma) (hk : ∀ q ∈ alts, SltK X ca g q) (hb : baseOk a = true) : SimE X (wd X ca E) (.Attribute a g pos) (fun l h => (ma l h).bind fun x h1 => attA x alts h1) :=
  PE.weaken (SlX.pe_sl ha (base_ok hb)) fun σ H Q ⟨ro, μ, l, h, A, p⟩ => ⟨ro, μ, l, h, A, (bindP (dV _) A p).imp fun u H1 ⟨μ1, v, h1, A1, d1, st1, p1⟩ => by
    unfold attA at p1
    cases e : insOf h1 v with
    | none => rw [e] at p1; exact False.elim p1
    | some q =>
      obtain ⟨c, fs⟩ := q
      rw [e] at p1
      dsimp only at p1
      obtain ⟨n, b, dx, vs, rfl, hn, rfl, hg, hs, _, _, hf⟩ := ins_slt A1.R d1 e
      cases e2 : altOf c alts with
      | none => rw [e2] at p1; exact False.elim p1
      | some i =>
        rw [e2] at p1
        obtain ⟨w, ew, p2⟩ := postG.opt p1
        cases e3 : fs[i]? with
        | none => rw [e3] at ew; cases ew
        | some o =>
          rw [e3] at ew
          have ew' : o = some w := ew
          subst ew'
          obtain ⟨t, ht, dt⟩ := hf i w e3
          obtain ⟨k1, d, k2⟩ := hk _ (alt_mem e2)
          exact ⟨b, ca c, dx, d, vs, i, t, rfl, hs, k1, k2, ht, p2.val A1.R dt⟩⟩
/-- a class's method (or property's getter), by its place in the table -/
def MetK (X : Cx) (ca : Ca) (τ : Tab) (lv : Nat) (m : Str) (q : Nat × Nat) : Prop := SlX.SCls X.K (ca q.1) ∧ ∃ g, Meth X.K (ca q.1) m g ∧ FnS X ca lv (τ.fn q.2) g
theorem sim_meth {τ : Tab} {e : Expr} {m : Str} {alts : List (Nat × Nat)} (hr : Room lv X.A) (tk : L2N.Takes X (WE0 E)) (ho : SimE X (wd X ca E) a ma) (hk : ∀ q ∈ alts, MetK X ca τ lv m q) (ha : SimA X (wd X ca E) (e :: es) ms) (hb : baseOk a = true) (hs : (e :: es).all notStar = true) (hn : (e :: es).length < 20) (hl : (apos.endLine == pos.line) = true) :
    SimE X (wd X ca E) (.Call (.Attribute a m apos) (e :: es) [] pos) (fun l h => (ma l h).bind fun x h1 => match insOf h1 x with
      | some (c, _) => (match altOf c alts with
        | some k => (ms l h1).bind fun vs h2 => τ.fn k (x :: vs) h2
        | none => .bad)
      | none => .bad) := by
  refine ⟨fun pins s σ H Q I ⟨ro, μ, l, h, A, q⟩ => ?_⟩
  have hs' := hs
  rw [List.all_cons, Bool.and_eq_true] at hs'
  refine meth_of hb hs hn hl (thn (ho.run pins s σ H _ I ⟨ro, μ, l, h, A, bindP (dV _) A q⟩) fun u s1 ⟨x, H1, I1, rx, μ1, v, h1, A1, d1, st1, q1⟩ => ?_)
  cases e1 : insOf h1 v with
  | none => rw [e1] at q1; exact False.elim q1
  | some z =>
    obtain ⟨c, fs⟩ := z
    rw [e1] at q1
    dsimp only at q1
    obtain ⟨n, b, dx, vs, rfl, hn, rfl, hg, hsl, _, _, hf⟩ := ins_slt A1.R d1 e1
    cases e2 : altOf c alts with
    | none => rw [e2] at q1; exact False.elim q1
    | some k =>
      rw [e2] at q1
      dsimp only at q1
      obtain ⟨k1, g, k2, k3⟩ := hk _ (alt_mem e2)
      obtain rfl : u = Value.ref b := rx
      refine SlX.getmethsl_ok I1 hsl k1 k2 ?_
      refine PySem.W.callWith_K (first := [.ref b]) (h₀ := X.base) I.ok.mod.kin k2.kp (thn (ha.run pos pins s1 σ H1 _ I1 ⟨ro, μ1, l, h1, A1, bindP (dL _) A1 q1⟩) fun us s2 ⟨ws, H2, I2, r, μ2, w, h2, A2, d2, st2, q2⟩ => ⟨I2.kIn, ?_⟩) (star_one hs'.1) (star_any hs'.2)
      exact wpAny_call (run_fnR (us := .ref b :: us) (vs := .ref b :: ws) k3 hr (passE tk) I2 (.cons rfl r) (to_sp A2.R (.cons (A1.R.den st2 d1) d2) q2))
theorem sim_meth0 {τ : Tab} {m : Str} {alts : List (Nat × Nat)} (hr : Room lv X.A) (tk : L2N.Takes X (WE0 E)) (ho : SimE X (wd X ca E) a ma) (hk : ∀ q ∈ alts, MetK X ca τ lv m q) (hb : baseOk a = true) (hl : (apos.endLine == pos.line) = true) :
    SimE X (wd X ca E) (.Call (.Attribute a m apos) [] [] pos) (fun l h => (ma l h).bind fun x h1 => match insOf h1 x with
      | some (c, _) => (match altOf c alts with
        | some k => τ.fn k [x] h1
        | none => .bad)
      | none => .bad) := by
  refine ⟨fun pins s σ H Q I ⟨ro, μ, l, h, A, q⟩ => ?_⟩
  refine meth_of hb rfl (by decide) hl (thn (ho.run pins s σ H _ I ⟨ro, μ, l, h, A, bindP (dV _) A q⟩) fun u s1 ⟨x, H1, I1, rx, μ1, v, h1, A1, d1, st1, q1⟩ => ?_)
  cases e1 : insOf h1 v with
  | none => rw [e1] at q1; exact False.elim q1
  | some z =>
    obtain ⟨c, fs⟩ := z
    rw [e1] at q1
    dsimp only at q1
    obtain ⟨n, b, dx, vs, rfl, hn, rfl, hg, hsl, _, _, hf⟩ := ins_slt A1.R d1 e1
    cases e2 : altOf c alts with
    | none => rw [e2] at q1; exact False.elim q1
    | some k =>
      rw [e2] at q1
      dsimp only at q1
      obtain ⟨k1, g, k2, k3⟩ := hk _ (alt_mem e2)
      obtain rfl : u = Value.ref b := rx
      refine SlX.getmethsl_ok I1 hsl k1 k2 ?_
      exact PySem.W.callWith_K0 (first := [.ref b]) I1.kIn k2.kp (wpAny_call (run_fnR (us := [.ref b]) (vs := [.ref b]) k3 hr (passE tk) I1 (.cons rfl .nil) (to_sp A1.R (.cons d1 .nil) q1)))
/-! a new instance -/
theorem made_sl {C : Addr} {pins : List (Addr × Obj)} {σ : L2.St} {H : Hp} {s : Shared} {b dx : Addr} (I : Inv X pins σ (upd (upd H dx (.own b)) b (.ins C dx [])) s) (ne : dx ≠ b) : Inv X pins σ (SlX.slH H b C dx []) s := by
  have hs : SlX.Slt (upd (upd H dx (.own b)) b (.ins C dx [])) b C dx [] := .inl ⟨upd_same, rfl⟩
  obtain ⟨_, sl, mA, e, r, _⟩ := SlX.slt_at I hs
  have z := SlX.inv_slot (vs' := []) (sl' := sl) (h' := s.heap) (t' := s.toks) I hs (fun _ _ _ _ q => q) (fun _ q => q) e (SlX.SlR.nil _)
  have e2 : SlX.slH (upd (upd H dx (.own b)) b (.ins C dx [])) b C dx [] = SlX.slH H b C dx [] := by
    funext y
    by_cases h1 : y = b
    · subst h1; unfold SlX.slH; rw [upd_same, upd_same]
    · by_cases h2 : y = dx
      · subst h2; unfold SlX.slH; rw [upd_ne h1, upd_ne h1, upd_same, upd_same]
      · rw [SlX.slH_ne h1 h2, SlX.slH_ne h1 h2, upd_ne h1, upd_ne h2]
  rw [e2] at z
  exact z
end
end Ev
set_option Elab.async false
set_option linter.all false
set_option maxRecDepth 100000
set_option maxHeartbeats 4000000
/-! instances: made, compared, measured -/
namespace Ev
open PySem PySem.Spec PyProof.Rows L2
section
variable {X : Cx} {ca : Ca} {E : XK} {lv : Nat} {a b : Expr} {es : List Expr} {ma mb : Loc' → AH → R AV} {ms : Loc' → AH → R (List AV)} {pos p apos : Pos} {x : Str} {F : Fn} {f : Addr}
/-- the new instance in both heaps -/
theorem new_at {W : Wd} {ro : Nat} {μ : Mu} {h : AH} {H : Hp} {c : Nat} {o dx : Addr} (R : RelH W ro μ h H) (hn : h.n < top) (ho : H o = none) (hd : H dx = none) (ne : dx ≠ o) :
    Step ro μ H (muPut μ h.n o) (SlX.slH H o (W.ca c) dx []) ∧ RelH W ro (muPut μ h.n o) (h.push (.ins c [])) (SlX.slH H o (W.ca c) dx []) ∧ muPut μ h.n o h.n = some o := by
  have R1 : RelH W ro μ h (upd H dx (.xd [])) := R.laid hd
  have ho1 : upd H dx (HO.xd []) o = none := by rw [upd_ne (Ne.symm ne)]; exact ho
  have R2 : RelH W ro μ h (SlX.slH H o (W.ca c) dx []) := R1.laid ho1
  refine ⟨(Step.laid hd).trans (Step.own R1 ho1), R2.own hn (fun n => R.fresh ho n) ⟨dx, [], ?_, ?_, fun i v e => by simp at e⟩, by unfold muPut; rw [if_pos rfl]⟩
  · unfold SlX.slH; rw [upd_same]
  · unfold SlX.slH; rw [upd_ne ne, upd_same]
theorem run_new {C : Addr} {k : Nat} {sp : Sp} {pins : List (Addr × Obj)} {σ : L2.St} {H : Hp} {s : Shared} {Q : VK} {us : List Value} {vs : List V} (M : Mk X.K C f) (hf : FnR X.prog X.w X.K X.mg X.base (L2N.CX X.prog X.w) k f sp) (hr : Room (k + 1) X.A) (tk : L2N.Takes X (WE0 E)) (I : Inv X pins σ H s) (r : Vals vs us)
    (h : ∀ o dx, H o = none → H dx = none → dx ≠ o → sp (.ref o :: vs) (SlX.slH H o C dx []) (fun v H2 => v = .non ∧ Q (.ref o) H2) E) :
    wpAny (model X.prog X.w) X.A (call (.ref C) us) (EP X pins σ Q) X.xe s := by
  have ne : s.heap.objs.size ≠ s.heap.objs.size + 1 := Nat.ne_of_lt (Nat.lt_succ_self _)
  have q := h (s.heap.objs.size + 1) s.heap.objs.size (I.hok.fresh (Nat.le_succ _)) (I.hok.fresh (Nat.le_refl _)) ne
  have I2 := made_sl (Inv.made (C := C) I) ne
  refine wpAny_call (make_map (f := f) I.kIn M.makes M.init (beq_iff_eq.mp M.fn) (codeAny_mono (hf _ X.stack _ _ (Value.ref (s.heap.objs.size + 1) :: us) _ _ E (hr.make C us []) (I2.env0.make C us []) (.cons (show RelV (.ref _) _ from rfl) r) q) fun w s' hq => ?_))
  cases w with
  | error e => exact passE tk pins σ _ _ e s' I2 hq
  | ok fl =>
    cases fl with
    | ret u =>
      obtain ⟨v, H', I3, rv, ev, q3⟩ := I2.after hq
      subst ev
      exact ⟨rv, ⟨.ref (s.heap.objs.size + 1), H', I3, rfl, q3⟩⟩
    | _ => exact False.elim hq
def newM (c : Nat) (F : Fn) (ms : Loc' → AH → R (List AV)) : Loc' → AH → R AV := fun l h => (ms l h).bind fun vs h1 => (alloc h1 (.ins c [])).bind fun o h2 => (F (o :: vs) h2).bind fun r h3 => match r with
  | .non => .ok o h3
  | _ => .bad
theorem new_sp {c : Nat} {ro : Nat} {μ : Mu} {h : AH} {H : Hp} {v : List AV} {vs : List V} {Q : VK} (R : RelH (wd X ca E) ro μ h H) (d : DenL X.K μ H v vs)
    (q : postG (dV (wd X ca E)) (wd X ca E) ro μ H ((alloc h (.ins c [])).bind fun o h2 => (F (o :: v) h2).bind fun r h3 => match r with | .non => .ok o h3 | _ => .bad) Q) :
    ∀ o dx, H o = none → H dx = none → dx ≠ o → spF (wd X ca E0) F (.ref o :: vs) (SlX.slH H o (ca c) dx []) (fun v H2 => v = .non ∧ Q (.ref o) H2) E := by
  intro o dx ho hd ne
  unfold alloc at q
  cases e : Nat.blt h.n top with
  | false => rw [e] at q; exact False.elim q
  | true =>
    rw [e] at q
    obtain ⟨st, R2, hm⟩ := new_at (c := c) R (blt_tt.mp e) ho hd ne
    have q2 := postG.later (show postG (dV (wd X ca E)) (wd X ca E) ro μ H ((F (.obj h.n :: v) (h.push (.ins c []))).bind fun r h3 => match r with | .non => .ok (.obj h.n) h3 | _ => .bad) Q from q) st
    refine to_sp R2 (.cons (.obj hm) (R.denL st d)) ((postG.bind (D := dV (wd X ca E)) q2).imp fun u H3 ⟨μ3, r, h3, st3, R3, d3, _, q3⟩ => ?_)
    cases r with
    | non => cases d3; exact ⟨rfl, q3.val R3 (.obj (st3.ext _ _ hm))⟩
    | _ => exact False.elim q3
theorem sim_new {c : Nat} {e : Expr} (M : Mk X.K (ca c) f) (hr : Room (lv + 1) X.A) (tk : L2N.Takes X (WE0 E)) (hg : Gl X x) (hm : X.mg x = some (.ref (ca c))) (hf : FnS X ca lv F f) (ha : SimA X (wd X ca E) (e :: es) ms) (hs : (e :: es).all notStar = true) (hd : (x == ("__debug__" : Str)) = false) :
    SimE X (wd X ca E) (.Call (.Name x p) (e :: es) [] pos) (newM c F ms) := by
  refine ⟨fun pins s σ H Q I ⟨ro, μ, l, h, A, q⟩ => ?_⟩
  have hs' := hs
  rw [List.all_cons, Bool.and_eq_true] at hs'
  refine wpAny_Call_Name_kw (ld_glob I hg hm ?_ hd)
  refine PySem.W.callWith_K (h₀ := X.base) I.ok.mod.kin M.kp (thn (ha.run pos pins s σ H _ I ⟨ro, μ, l, h, A, bindP (dL _) A q⟩) fun us s1 ⟨vs, H1, I1, r, μ1, v, h1, A1, d, st, q1⟩ => ⟨I1.kIn, ?_⟩) (star_one hs'.1) (star_any hs'.2)
  exact run_new M hf hr tk I1 r (new_sp A1.R d q1)
theorem sim_new0 {c : Nat} (M : Mk X.K (ca c) f) (hr : Room (lv + 1) X.A) (tk : L2N.Takes X (WE0 E)) (hg : Gl X x) (hm : X.mg x = some (.ref (ca c))) (hf : FnS X ca lv F f) (hd : (x == ("__debug__" : Str)) = false) :
    SimE X (wd X ca E) (.Call (.Name x p) [] [] pos) (newM c F fun _ h => .ok [] h) := by
  refine ⟨fun pins s σ H Q I ⟨ro, μ, l, h, A, q⟩ => ?_⟩
  refine wpAny_Call_Name_kw (ld_glob I hg hm ?_ hd)
  exact PySem.W.callWith_K0 I.kIn M.kp (run_new (us := []) (vs := []) M hf hr tk I .nil (new_sp A.R .nil q))
/-! a property -/
def PrpK (X : Cx) (ca : Ca) (τ : Tab) (lv : Nat) (m : Str) (q : Nat × Nat) : Prop := SlX.SCls X.K (ca q.1) ∧ ∃ d g, PySem.W.findIn X.K (.ref (ca q.1)) m = some (some (.ref d)) ∧ PySem.W.specialIn X.K (.ref d) "__get__" = some (some (.builtin "property.__get__")) ∧
  PySem.W.takesIn X.K (.ref d) = some true ∧ (∃ rest, PySem.W.recIn X.K d "property" = some (.ref g :: rest)) ∧ FnS X ca lv (τ.fn q.2) g
theorem nox_E0 {α β : Type} {D : Mu → Hp → α → β → Prop} {W : Wd} {ro : Nat} {μ : Mu} {H : Hp} {r : R α} {Q : β → Hp → Prop} (p : postG D W ro μ H r.nox Q) : postG D (W.to E0) ro μ H r Q := by
  cases r with
  | ok v h => exact fun μ1 u H1 st R d => p μ1 u H1 st (R.to W.E) d
  | ex x h => exact False.elim p
  | bad => exact p
theorem sim_prop {τ : Tab} {m : Str} {alts : List (Nat × Nat)} (hr : Room (lv + 1) X.A) (ha : SimE X (wd X ca E) a ma) (hk : ∀ q ∈ alts, PrpK X ca τ lv m q) (hb : baseOk a = true) :
    SimE X (wd X ca E) (.Attribute a m pos) (fun l h => (ma l h).bind fun x h1 => match insOf h1 x with
      | some (c, _) => (match altOf c alts with
        | some k => (τ.fn k [x] h1).nox
        | none => .bad)
      | none => .bad) := by
  refine ⟨fun pins s σ H Q I ⟨ro, μ, l, h, A, q⟩ => ?_⟩
  refine attr_of (base_ok hb) (thn (ha.run pins s σ H _ I ⟨ro, μ, l, h, A, bindP (dV _) A q⟩) fun u s1 ⟨x, H1, I1, rx, μ1, v, h1, A1, d1, st1, q1⟩ => ?_)
  cases e1 : insOf h1 v with
  | none => rw [e1] at q1; exact False.elim q1
  | some z =>
    obtain ⟨c, fs⟩ := z
    rw [e1] at q1
    dsimp only at q1
    obtain ⟨n, b, dx, vs, rfl, hn, rfl, hg, hsl, _, _, hf⟩ := ins_slt A1.R d1 e1
    cases e2 : altOf c alts with
    | none => rw [e2] at q1; exact False.elim q1
    | some k =>
      rw [e2] at q1
      dsimp only at q1
      obtain ⟨k1, d, g, k2, k3, k4, k5, k6⟩ := hk _ (alt_mem e2)
      obtain rfl : u = Value.ref b := rx
      refine SlX.getprop_sl (E := E0) I1 hsl k1 k2 k3 k4 k5 k6 hr (fun H s e s' z => ?_) ?_
      · obtain ⟨_, _, _, _, _, _, _, _, _, _, _, _, w⟩ := z
        exact w
      · exact ⟨ro, μ1, h1, [.obj n], A1.R.to E0, .cons d1 .nil, nox_E0 (W := wd X ca E) q1⟩
/-! len of an instance -/
def lenK (τ : Tab) (alts : List (Nat × Nat)) : AV → AH → R AV := fun x h1 => match insOf h1 x with
  | some (c, _) => (match altOf c alts with
    | some k => (τ.fn k [x] h1).bind fun n h2 => (match n with
      | .int i => (match decide (0 ≤ i ∧ i < 1000000) with
        | true => .ok (.int i) h2
        | false => .bad)
      | _ => .bad)
    | none => .bad)
  | none => .bad
theorem sim_lenO {τ : Tab} {alts : List (Nat × Nat)} (hr : Room (lv + 1) X.A) (tk : L2N.Takes X (WE0 E)) (hg : Gl X "len") (hm : X.mg "len" = none) (ha : SimE X (wd X ca E) a ma) (hk : ∀ q ∈ alts, MetK X ca τ lv "__len__" q) (hs : notStar a = true) :
    SimE X (wd X ca E) (.Call (.Name "len" p) [a] [] pos) (fun l h => (ma l h).bind (lenK τ alts)) := by
  refine ⟨fun pins s σ H Q I ⟨ro, μ, l, h, A, q⟩ => ?_⟩
  refine wpAny_Call_Name_kw (ld_blt I hg hm PySem.boot_len ?_)
  refine PyProof.Rows.callWith_builtin1 (thn ((pa_cons ha pa_nil (star_one hs)).run pos pins s σ H (fun vs H1 => ∃ x, vs = [x] ∧ ∃ μ1 v h1, At (wd X ca E) ro μ1 l h1 σ H1 ∧ Den X.K μ1 H1 v x ∧ Step ro μ H μ1 H1 ∧ postG (dV (wd X ca E)) (wd X ca E) ro μ1 H1 (lenK τ alts v h1) Q) I ⟨ro, μ, l, h, A, (bindP (dV _) A q).imp fun x H1 w => ⟨x, rfl, w⟩⟩) fun us s1 ⟨vs, H1, I1, r1, x, ex, μ1, v, h1, A1, d1, st1, q1⟩ => ?_) (star_one hs) rfl
  subst ex
  obtain ⟨u, rfl, ru⟩ := r1.one
  unfold lenK at q1
  cases e1 : insOf h1 v with
  | none => rw [e1] at q1; exact False.elim q1
  | some z =>
    obtain ⟨c, fs⟩ := z
    rw [e1] at q1
    dsimp only at q1
    obtain ⟨n, b, dx, vs, rfl, hn, rfl, hg, hsl, _, _, hf⟩ := ins_slt A1.R d1 e1
    cases e2 : altOf c alts with
    | none => rw [e2] at q1; exact False.elim q1
    | some k =>
      rw [e2] at q1
      dsimp only at q1
      obtain ⟨k1, g, k2, k3⟩ := hk _ (alt_mem e2)
      obtain rfl : u = Value.ref b := ru
      obtain ⟨sl, od, _, J, _⟩ := SlX.slt_inst I1 hsl
      obtain ⟨m, hF⟩ := I1.fr
      refine PySem.W.len_K hF I1.ok.mod.kin J k2.at_ k2.fn ?_
      refine wpAny_mono (wpAny_call (SlX.run_at (us := [.ref b]) (ws := [.ref b]) (Q := fun w H2 => ∃ i : Int, w = .int i ∧ (0 ≤ i ∧ i < 2 ^ 63) ∧ Q (.int i) H2) k3 hr.in1 I1.env0.in1 (passE tk) I1 (.cons rfl .nil) (to_sp A1.R (.cons d1 .nil) ((postG.bind (D := dV (wd X ca E)) q1).imp fun w H2 ⟨μ2, z, h2, st2, R2, d2, _, q2⟩ => ?_)))) (fun w s2 z => ?_) fun _ _ y => y
      · cases z with
        | int i =>
          cases d2
          dsimp only at q2
          cases e3 : decide (0 ≤ i ∧ i < 1000000) with
          | false => rw [e3] at q2; exact False.elim q2
          | true =>
            rw [e3] at q2
            have e4 := of_decide_eq_true e3
            exact ⟨i, rfl, ⟨e4.1, by omega⟩, q2.val R2 (.int _)⟩
        | _ => exact False.elim q2
      · obtain ⟨y, H2, I2, rz, i, ei, hi, qz⟩ := z
        subst ei
        obtain ⟨t, rfl⟩ := rz
        exact ⟨hi, .int i, H2, I2.tok _, ⟨_, rfl⟩, qz⟩
end
end Ev
set_option Elab.async false
set_option linter.all false
set_option maxRecDepth 100000
set_option maxHeartbeats 4000000
namespace Ev
open PySem PySem.Spec PyProof.Rows L2
section
variable {prog : Program} {w : World} {A : Around} {E : Value → Shared → Prop} {s : Shared} {K : PySem.W.Frag} {x C L f : Addr} {h₀ : Heap} {m : Str → Option Value} {ox : Obj} {od : Option Obj} {b tb : Value}
open PySem.W in
/-- an inherited != turns the own == round -/
theorem objNe {Q : Value → Shared → Prop} (hu : A.units + 1 < cLine) (X : K.In s.heap) (I : InstAt s.heap x ox C od) (hm : subIn K (.ref C) (.type "object") = some true) (he : findIn K (.ref C) "__eq__" = some (some (.ref f))) (hf : isFn K (.ref f) = true)
    (h : wpAny (model prog w) A.in1 (call (.ref f) [.ref x, b]) (fun v s' => ∃ k, v = .bool k ∧ Q (.bool (!k)) s') E s) : wpAny (model prog w) A (call (.builtin "object.__ne__") [.ref x, b]) Q E s := by
  refine wpAny_call (codeAny_call_builtin PySem.F.cmp_object.ne.plain PySem.F.cmpEntry_ne ?_)
  simp only [checkBuiltinCall, PySem.F.cmpKind_ne, PySem.F.cmpSplit_ne]
  refine wpAny_bind ?_
  unfold isInstance
  refine wpAny_bind (I.type.here ((looks_subIn X hm).here ?_))
  simp only [Bool.not_true, Bool.false_eq_true, if_false]
  have fin : wpAny (model prog w) A.in1 (Builtin.«object.__ne__» ⟨[.ref x, b], []⟩) (fun r s' => ∃ v, r = .done (.ret v) ∧ Q v s') E s := by
    unfold Builtin.«object.__ne__»
    refine wpAny_bind (m := slotArgs _ _ _) (wpAny_pure ?_)
    refine wpAny_bind (wpAny_cRoomFor (by show A.units + 1 < cLine; exact hu) ?_)
    refine wpAny_bind (ifBound_K X I he hf (wpAny_mono h (fun v s' ⟨k, e, q⟩ => ?_) fun _ _ e => e))
    subst e
    exact wpAny_bind (wpAny_truthy_bool (wpAny_pure ⟨_, rfl, q⟩))
  have ha := PySem.F.cmpArgs_ne (.ref x) b
  cases hsig : Manifest.signature? "object.__ne__" with
  | none => exact wpAny_pure (wpAny_mono fin (fun r s' ⟨v, e, q⟩ => by subst e; exact q) fun _ _ e => e)
  | some sig =>
    simp only [argsOk, hsig] at ha
    have h2 : Bind.checkArgs "object.__ne__" sig ⟨[.ref x, b], []⟩ = pure () := ha
    refine wpAny_of_eq h2 (wpAny_mono fin (fun r s' ⟨v, e, q⟩ => by subst e; exact q) fun _ _ e => e)
open PySem.W in
theorem richNe {Q : Value → Shared → Prop} (hu : A.units + 1 < cLine) (F : Fr h₀ L s.heap m) (X₀ : K.In h₀) (I : InstAt s.heap x ox C od) (hb : Looks (model prog w) s.heap (typeOf b) tb) (hn : notFirst K C tb = true) (hm : subIn K (.ref C) (.type "object") = some true)
    (hs : findIn K (.ref C) "__ne__" = some (some (.builtin "object.__ne__"))) (he : findIn K (.ref C) "__eq__" = some (some (.ref f))) (hf : isFn K (.ref f) = true)
    (h : wpAny (model prog w) A.in1 (call (.ref f) [.ref x, b]) (fun v s' => ∃ k, v = .bool k ∧ Q (.bool (!k)) s') E s) : wpAny (model prog w) A (richCompare .NotEq (.ref x) b) Q E s := by
  have X := X₀.keeps F.keep
  have one : wpAny (model prog w) A (tryCompare (.ref x) "__ne__" b) (fun r s' => ∃ v, r = some v ∧ Q v s') E s := by
    unfold tryCompare
    simp only [callSpecialIfBound?, bindSpecialIfBound?]
    refine wpAny_bind (wpAny_holding (wpAny_bind (wpAny_bind (wpAny_bind (I.type.here ((looks_findIn X hs).here ?_))))))
    simp only [PySem.F.cmp_object.ne.bind]
    have z : wpAny (model prog w) A (call (.builtin "object.__ne__") ([.ref x] ++ [b]) >>= fun v => pure (some v)) (fun r s' => wpAny (model prog w) A (match r with | some .notImplemented => pure none | none => pure none | some y => pure (some y)) (fun r s' => ∃ v, r = some v ∧ Q v s') E s') E s :=
      wpAny_bind (wpAny_mono (objNe (Q := fun v s' => (∃ k, v = .bool k) ∧ Q v s') hu X I hm he hf (wpAny_mono h (fun v s' ⟨k, e, q⟩ => ⟨k, e, ⟨_, rfl⟩, q⟩) fun _ _ e => e)) (fun v s' ⟨⟨k, e⟩, q⟩ => by subst e; exact wpAny_pure (wpAny_pure ⟨_, rfl, q⟩)) fun _ _ e => e)
    refine wpAny_bind (wpAny_askSetting (wpAny_ite ?_))
    split
    · exact wpAny_bind (wpAny_pure (wpAny_pure z))
    · exact wpAny_tryCatch (wpAny_bind (wpAny_pure (wpAny_pure z)))
  unfold richCompare
  simp only [oneThing_ref]
  refine wpAny_holding (wpAny_bind (wpAny_cRoomFor (by omega) ?_))
  refine wpAny_bind (I.type.here (wpAny_bind (hb.here ?_)))
  split
  · rename_i q
    have e : subIn K tb (.ref C) = some false := by
      rcases Bool.or_eq_true_iff.mp hn with e | e
      · rw [beq_iff_eq.mp e] at q; simp at q
      · exact beq_iff_eq.mp e
    refine wpAny_bind ((looks_subIn X e).here ?_)
    simp only [Bool.false_eq_true, if_false]
    refine wpAny_bind (wpAny_mono one (fun r s' z => ?_) fun _ _ e => e)
    obtain ⟨v, rfl, hq⟩ := z
    exact wpAny_pure hq
  · refine wpAny_bind (wpAny_pure ?_)
    simp only [Bool.false_eq_true, if_false]
    refine wpAny_bind (wpAny_mono one (fun r s' z => ?_) fun _ _ e => e)
    obtain ⟨v, rfl, hq⟩ := z
    exact wpAny_pure hq
end
section
variable {X : Cx} {ca : Ca} {E : XK} {lv : Nat} {a b : Expr} {ma mb : Loc' → AH → R AV} {pos : Pos}
/-- the classes' own == -/
def EqK (X : Cx) (ca : Ca) (τ : Tab) (lv : Nat) (q : Nat × Nat) : Prop := SlX.SCls X.K (ca q.1) ∧ PySem.W.subIn X.K (.ref (ca q.1)) (.type "object") = some true ∧ PySem.W.findIn X.K (.ref (ca q.1)) "__ne__" = some (some (.builtin "object.__ne__")) ∧
  ∃ g, PySem.W.findIn X.K (.ref (ca q.1)) "__eq__" = some (some (.ref g)) ∧ PySem.W.isFn X.K (.ref g) = true ∧ FnS X ca lv (τ.fn q.2) g
def eqK (τ : Tab) (ng : Bool) (alts : List (Nat × Nat)) : AV → AV → AH → R AV := fun x y h2 => match insOf h2 x, insOf h2 y with
  | some (c, _), some (c', _) => (match Nat.beq c c' with
    | true => (match altOf c alts with
      | some k => asB (τ.fn k [x, y] h2) fun r h3 => .ok (.bl (if ng then !r else r)) h3
      | none => .bad)
    | false => .bad)
  | _, _ => .bad
theorem own_eq {τ : Tab} {ng : Bool} {alts : List (Nat × Nat)} (hr : Room (lv + 1) X.A) (tk : L2N.Takes X (WE0 E)) (hk : ∀ q ∈ alts, EqK X ca τ lv q) : OpR X (compareOp (if ng then .NotEq else .Eq)) (trOp2 (wd X ca E) (eqK τ ng alts)) := by
  intro pins s σ H x y v u Q I rx ry ⟨ro, μ, h, ax, ay, R, dx, dy, q1⟩
  unfold eqK at q1
  cases e1 : insOf h ax with
  | none => rw [e1] at q1; exact False.elim q1
  | some z =>
    obtain ⟨c, fs⟩ := z
    cases e2 : insOf h ay with
    | none => rw [e1, e2] at q1; exact False.elim q1
    | some z2 =>
      obtain ⟨c', fs'⟩ := z2
      rw [e1, e2] at q1
      dsimp only at q1
      cases e3 : Nat.beq c c' with
      | false => rw [e3] at q1; exact False.elim q1
      | true =>
        rw [e3] at q1
        have ec := Nat.eq_of_beq_eq_true e3
        subst ec
        dsimp only at q1
        cases e4 : altOf c alts with
        | none => rw [e4] at q1; exact False.elim q1
        | some k =>
          rw [e4] at q1
          obtain ⟨n, o1, dx1, vs1, rfl, hn, rfl, _, hs1, _, _, _⟩ := ins_slt R dx e1
          obtain ⟨n2, o2, dx2, vs2, rfl, hn2, rfl, _, hs2, _, _, _⟩ := ins_slt R dy e2
          obtain ⟨k1, k2, k3, g, k4, k5, k6⟩ := hk _ (alt_mem e4)
          cases (show v = Value.ref o1 from rx)
          cases (show u = Value.ref o2 from ry)
          obtain ⟨sl, od, _, J, _⟩ := SlX.slt_inst I hs1
          obtain ⟨sl', od', _, J', _⟩ := SlX.slt_inst I hs2
          obtain ⟨m, hF⟩ := I.fr
          have nf : PySem.W.notFirst X.K (ca c) (.ref (ca c)) = true := by unfold PySem.W.notFirst; rw [beq_self_eq_true]; rfl
          have sp := to_sp (F := τ.fn k) (Q := fun w H2 => ∃ r, w = .bl r ∧ Q (.bl (if ng then !r else r)) H2) R (.cons dx (.cons dy .nil)) ((asB_val (l := []) (σ := []) ⟨⟨rfl, fun i v e => by simp at e⟩, R⟩ q1).imp fun w H2 ⟨r, μ2, h2, ew, A2, st2, q2⟩ => ⟨r, ew, q2.val A2.R (.bl _)⟩)
          cases ng with
          | false =>
            refine PySem.W.cmp_K (op := .Eq) (tb := .ref (ca c)) hr.units0 hF I.ok.mod.kin J J'.type nf k4 k5 ?_
            refine wpAny_mono (wpAny_call (run_fnR (us := [.ref o1, .ref o2]) (vs := [.ref o1, .ref o2]) k6 (hr.mono (Nat.le_succ _)) (passE tk) I (.cons rfl (.cons rfl .nil)) sp)) (fun w s' ⟨z', H', I', rz, r, ez, qz⟩ => ?_) fun _ _ x => x
            subst ez
            cases rz
            exact ⟨.bl r, H', I', rfl, qz⟩
          | true =>
            refine richNe (tb := .ref (ca c)) (by have := hr.units; omega) hF I.ok.mod.kin J J'.type nf k2 k3 k4 k5 ?_
            refine wpAny_mono (wpAny_call (SlX.run_at (us := [.ref o1, .ref o2]) (ws := [.ref o1, .ref o2]) k6 hr.in1 I.env0.in1 (passE tk) I (.cons rfl (.cons rfl .nil)) sp)) (fun w s' ⟨z', H', I', rz, r, ez, qz⟩ => ?_) fun _ _ x => x
            subst ez
            cases rz
            exact ⟨r, rfl, .bl (!r), H', I', rfl, qz⟩
theorem sim_oeq {τ : Tab} {ng : Bool} {alts : List (Nat × Nat)} (hr : Room (lv + 1) X.A) (tk : L2N.Takes X (WE0 E)) (hk : ∀ q ∈ alts, EqK X ca τ lv q) (ha : SimE X (wd X ca E) a ma) (hb : SimE X (wd X ca E) b mb) (hm : behindInMarks (if ng then .NotEq else .Eq) b = false) :
    SimE X (wd X ca E) (.Compare a [if ng then .NotEq else .Eq] [b] pos) (fun l h => (ma l h).bind fun x h1 => (mb l h1).bind fun y h2 => eqK τ ng alts x y h2) :=
  PE.weaken (pe_cmpR (own_eq hr tk hk) ha hb hm) fun σ H Q ⟨ro, μ, l, h, A, p⟩ => go2 A p
theorem simt_oeq {τ : Tab} {ng : Bool} {alts : List (Nat × Nat)} (hr : Room (lv + 1) X.A) (tk : L2N.Takes X (WE0 E)) (hk : ∀ q ∈ alts, EqK X ca τ lv q) (ha : SimE X (wd X ca E) a ma) (hb : SimE X (wd X ca E) b mb) (hm : behindInMarks (if ng then .NotEq else .Eq) b = false) :
    SimT X (wd X ca E) (.Compare a [if ng then .NotEq else .Eq] [b] pos) (fun l h => (ma l h).bind fun x h1 => (mb l h1).bind fun y h2 => eqK τ ng alts x y h2) :=
  PT.weaken (pt_cmpR (own_eq hr tk hk) ha hb hm) fun σ H Q ⟨ro, μ, l, h, A, p⟩ => go2 A (bool_of p)
end
end Ev
set_option Elab.async false
set_option linter.all false
set_option maxRecDepth 100000
set_option maxHeartbeats 4000000
/-! built-ins -/
namespace Ev
open PySem PySem.Spec PyProof.Rows L2
def trC (W : Wd) (g : List AV → AH → R AV) : List V → Hp → VK → Prop := fun xs H Q => ∃ ro μ h args, RelH W ro μ h H ∧ DenL W.K μ H args xs ∧ postG (dV W) W ro μ H (g args h) Q
section
variable {X : Cx} {ca : Ca} {E : XK} {a b : Expr} {es : List Expr} {ma mb : Loc' → AH → R AV} {ms : Loc' → AH → R (List AV)} {pos p apos : Pos} {x : Str} {id : String} {g : List AV → AH → R AV}
theorem sim_B {e : Expr} (hc : CallR X (.builtin id) (trC (wd X ca E) g)) (hg : Gl X x) (hm : X.mg x = none) (hv : bootBuiltins x = some (.builtin id)) (ha : SimA X (wd X ca E) (e :: es) ms) (hs : (e :: es).all notStar = true) (hn : x ≠ "__name__") (hd : (x == ("__debug__" : Str)) = false) :
    SimE X (wd X ca E) (.Call (.Name x p) (e :: es) [] pos) (fun l h => (ms l h).bind g) := by
  have hs' := hs
  rw [List.all_cons, Bool.and_eq_true] at hs'
  exact PE.weaken (pe_callB hc hg hm hv ha hn hd (star_one hs'.1) (star_any hs'.2)) fun σ H Q ⟨ro, μ, l, h, A, p⟩ => ⟨ro, μ, l, h, A, (bindP (dL _) A p).imp fun xs H1 ⟨μ1, v, h1, A1, d1, st1, p1⟩ => ⟨ro, μ1, h1, v, A1.R, d1, p1⟩⟩
theorem sim_B1 (hc : CallR X (.builtin id) (trC (wd X ca E) g)) (hg : Gl X x) (hm : X.mg x = none) (hv : bootBuiltins x = some (.builtin id)) (ha : SimE X (wd X ca E) a ma) (hs : notStar a = true) (hn : x ≠ "__name__") (hd : (x == ("__debug__" : Str)) = false) :
    SimE X (wd X ca E) (.Call (.Name x p) [a] [] pos) (fun l h => (ma l h).bind fun v h1 => g [v] h1) :=
  PE.weaken (pe_callB hc hg hm hv (pa_cons ha pa_nil (star_one hs)) hn hd (star_one hs) rfl) fun σ H Q ⟨ro, μ, l, h, A, p⟩ => ⟨ro, μ, l, h, A, (bindP (dV _) A p).imp fun xs H1 ⟨μ1, v, h1, A1, d1, st1, p1⟩ => ⟨ro, μ1, h1, [v], A1.R, .cons d1 .nil, p1⟩⟩
theorem sim_Ty {e : Expr} (hc : CallR X (.type id) (trC (wd X ca E) g)) (hg : Gl X x) (hm : X.mg x = none) (hv : bootBuiltins x = some (.type id)) (ha : SimA X (wd X ca E) (e :: es) ms) (hs : (e :: es).all notStar = true) (hn : x ≠ "__name__") (hd : (x == ("__debug__" : Str)) = false) :
    SimE X (wd X ca E) (.Call (.Name x p) (e :: es) [] pos) (fun l h => (ms l h).bind g) := by
  have hs' := hs
  rw [List.all_cons, Bool.and_eq_true] at hs'
  exact PE.weaken (pe_callTy hc hg hm hv ha hn hd (star_one hs'.1) (star_any hs'.2)) fun σ H Q ⟨ro, μ, l, h, A, p⟩ => ⟨ro, μ, l, h, A, (bindP (dL _) A p).imp fun xs H1 ⟨μ1, v, h1, A1, d1, st1, p1⟩ => ⟨ro, μ1, h1, v, A1.R, d1, p1⟩⟩
theorem sim_Ty1 (hc : CallR X (.type id) (trC (wd X ca E) g)) (hg : Gl X x) (hm : X.mg x = none) (hv : bootBuiltins x = some (.type id)) (ha : SimE X (wd X ca E) a ma) (hs : notStar a = true) (hn : x ≠ "__name__") (hd : (x == ("__debug__" : Str)) = false) :
    SimE X (wd X ca E) (.Call (.Name x p) [a] [] pos) (fun l h => (ma l h).bind fun v h1 => g [v] h1) :=
  PE.weaken (pe_callTy hc hg hm hv (pa_cons ha pa_nil (star_one hs)) hn hd (star_one hs) rfl) fun σ H Q ⟨ro, μ, l, h, A, p⟩ => ⟨ro, μ, l, h, A, (bindP (dV _) A p).imp fun xs H1 ⟨μ1, v, h1, A1, d1, st1, p1⟩ => ⟨ro, μ1, h1, [v], A1.R, .cons d1 .nil, p1⟩⟩
/-! len -/
def g1 (f : AV → AH → R AV) : List AV → AH → R AV := fun vs h => match vs with
  | [v] => f v h
  | _ => .bad
theorem g1_of {W : Wd} {f : AV → AH → R AV} {xs : List V} {H : Hp} {Q : VK} (h : trC W (g1 f) xs H Q) : ∃ ro μ h v x, xs = [x] ∧ RelH W ro μ h H ∧ Den W.K μ H v x ∧ postG (dV W) W ro μ H (f v h) Q := by
  obtain ⟨ro, μ, h, args, R, d, p⟩ := h
  cases d with
  | nil => exact False.elim p
  | cons d1 d2 =>
    cases d2 with
    | nil => exact ⟨ro, μ, h, _, _, rfl, R, d1, p⟩
    | cons _ _ => exact False.elim p
theorem call_lenA : CallR X (.builtin "len") (trC (wd X ca E) (g1 lenA)) := by
  intro pins s σ H xs us Q I r hq
  obtain ⟨ro, μ, h, v, x, rfl, R, d, p⟩ := g1_of hq
  cases d with
  | @tup a vs ys sq dl =>
    refine call_len_seq pins s σ H _ us Q I r ⟨a, vs, rfl, .inr sq, ?_⟩
    rw [← dl.length]
    exact postG.val R (show postG (dV (wd X ca E)) _ ro μ H (.ok (.int ys.length) h) Q from p) (.int _)
  | str y =>
    unfold lenA at p
    dsimp only at p
    cases e : lim y.length with
    | false => rw [e] at p; exact False.elim p
    | true =>
      rw [e] at p
      exact call_len pins s σ H _ us Q I r ⟨.str y, y.length, rfl, ⟨lim_le e, rfl⟩, p.val R (.int _)⟩
  | @obj n a hn =>
    obtain ⟨o, ho, ro'⟩ := R.there hn
    unfold lenA at p
    dsimp only at p
    rw [ho] at p
    cases o with
    | lst ys =>
      obtain ⟨_, vs, hv, dl⟩ := ro'
      refine call_len_seq pins s σ H _ us Q I r ⟨a, vs, rfl, .inl (SqL.of hv), ?_⟩
      rw [← dl.length]
      exact postG.val R p (.int _)
    | fz ns =>
      obtain ⟨ob, hv⟩ := ro'
      refine call_len_seq pins s σ H _ us Q I r ⟨a, ns.map V.int, rfl, .inl (.inl (.inr ⟨ob, hv⟩)), ?_⟩
      rw [List.length_map]
      exact postG.val R p (.int _)
    | dct kvs =>
      obtain ⟨hS, hz, ys, hv, pk⟩ := ro'
      obtain ⟨u, rfl, ru⟩ := r.one
      cases ru
      have dm := dict_is I hv pk
      have hl : kvs.length = ys.length := Paired.length pk
      refine call_len_dictH hS dm (by rw [← hl]; rw [sizeLine_eq] at hz; omega) ?_
      rw [← hl]
      exact ⟨.int kvs.length, H, I.tok _, ⟨_, rfl⟩, p.val R (.int _)⟩
    | ins c fs => exact False.elim p
    | odd => exact False.elim p
  | non => exact False.elim p
  | bl b => exact False.elim p
  | int b => exact False.elim p
/-! numbers -/
def biT (b : Bi) : List AV → AH → R AV := biA b
theorem call_absA : CallR X (.builtin "abs") (trC (wd X ca E) (biA .abs)) := by
  intro pins s σ H xs us Q I r ⟨ro, μ, h, args, R, d, p⟩
  cases d with
  | nil => exact False.elim p
  | @cons x v _ _ d1 d2 =>
    cases d2 with
    | cons _ _ => cases d1 <;> exact False.elim p
    | nil =>
      cases d1 with
      | int i => exact call_abs pins s σ H _ us Q I r ⟨i, rfl, postG.val R (show postG (dV (wd X ca E)) _ ro μ H (.ok (.int (if i < 0 then -i else i)) h) Q from p) (.int _)⟩
      | _ => exact False.elim p
theorem call_intA : CallR X (.type "int") (trC (wd X ca E) (biA .int)) := by
  intro pins s σ H xs us Q I r ⟨ro, μ, h, args, R, d, p⟩
  cases d with
  | nil => exact False.elim p
  | @cons x v _ _ d1 d2 =>
    cases d2 with
    | cons _ _ => cases d1 <;> exact False.elim p
    | nil =>
      cases d1 with
      | int i => exact call_int1 pins s σ H _ us Q I r (.inl ⟨i, rfl, postG.val R (show postG (dV (wd X ca E)) _ ro μ H (.ok (.int i) h) Q from p) (.int _)⟩)
      | _ => exact False.elim p
theorem call_maxA (hc : X.calm = true) : CallR X (.builtin "max") (trC (wd X ca E) (biA .max2)) := by
  intro pins s σ H xs us Q I r ⟨ro, μ, h, args, R, d, p⟩
  cases d with
  | nil => exact False.elim p
  | @cons x v _ _ d1 d2 =>
    cases d2 with
    | nil => cases d1 <;> exact False.elim p
    | @cons y u _ _ d3 d4 =>
      cases d4 with
      | cons _ _ => cases d1 <;> first | exact False.elim p | (cases d3 <;> exact False.elim p)
      | nil =>
        cases d1 with
        | int i =>
          cases d3 with
          | int j => exact call_max2 hc pins s σ H _ us Q I r ⟨i, j, rfl, postG.val R (show postG (dV (wd X ca E)) _ ro μ H (.ok (.int (if j > i then j else i)) h) Q from p) (.int _)⟩
          | _ => exact False.elim p
        | _ => cases d3 <;> exact False.elim p
theorem call_minA (hc : X.calm = true) : CallR X (.builtin "min") (trC (wd X ca E) (biA .min2)) := by
  intro pins s σ H xs us Q I r ⟨ro, μ, h, args, R, d, p⟩
  cases d with
  | nil => exact False.elim p
  | @cons x v _ _ d1 d2 =>
    cases d2 with
    | nil => cases d1 <;> exact False.elim p
    | @cons y u _ _ d3 d4 =>
      cases d4 with
      | cons _ _ => cases d1 <;> first | exact False.elim p | (cases d3 <;> exact False.elim p)
      | nil =>
        cases d1 with
        | int i =>
          cases d3 with
          | int j => exact call_min2 hc pins s σ H _ us Q I r ⟨i, j, rfl, postG.val R (show postG (dV (wd X ca E)) _ ro μ H (.ok (.int (if j < i then j else i)) h) Q from p) (.int _)⟩
          | _ => exact False.elim p
        | _ => cases d3 <;> exact False.elim p
/-! all, any, sum, tuple, list -/
theorem bls_of {K : PySem.W.Frag} {μ : Mu} {H : Hp} : ∀ {xs : List AV} {vs : List V} {bs : List Bool}, DenL K μ H xs vs → blsOf xs = some bs → vs = bs.map V.bl
  | _, _, _, .nil, e => by cases e; rfl
  | _, _, bs, @DenL.cons _ _ _ x v xs vs d r, e => by
    cases d with
    | bl b =>
      have e' : (blsOf xs).map (b :: ·) = some bs := e
      cases q : blsOf xs with
      | none => rw [q] at e'; cases e'
      | some cs => rw [q] at e'; cases e'; rw [bls_of r q]; rfl
    | _ => cases e
theorem ints_of {K : PySem.W.Frag} {μ : Mu} {H : Hp} : ∀ {xs : List AV} {vs : List V} {bs : List Int}, DenL K μ H xs vs → intsOf xs = some bs → vs = bs.map V.int
  | _, _, _, .nil, e => by cases e; rfl
  | _, _, bs, @DenL.cons _ _ _ x v xs vs d r, e => by
    cases d with
    | int b =>
      have e' : (intsOf xs).map (b :: ·) = some bs := e
      cases q : intsOf xs with
      | none => rw [q] at e'; cases e'
      | some cs => rw [q] at e'; cases e'; rw [ints_of r q]; rfl
    | _ => cases e
theorem den_ints {K : PySem.W.Frag} {μ : Mu} {H : Hp} : ∀ ns : List Int, DenL K μ H (ns.map .int) (ns.map V.int)
  | [] => .nil
  | n :: r => .cons (.int n) (den_ints r)
theorem call_allA (hc : X.calm = true) : CallR X (.builtin "all") (trC (wd X ca E) (g1 (b1A .all))) := by
  intro pins s σ H xs us Q I r hq
  obtain ⟨ro, μ, h, v, x, rfl, R, d, p⟩ := g1_of hq
  cases d with
  | @obj n a hn =>
    obtain ⟨o, ho, r1⟩ := R.there hn
    unfold b1A at p
    dsimp only at p
    rw [ho] at p
    cases o with
    | lst ys =>
      obtain ⟨_, vs, hv, dl⟩ := r1
      obtain ⟨z, e, p⟩ := postG.opt p
      cases q : blsOf ys with
      | none => rw [q] at e; cases e
      | some bs =>
        rw [q] at e; cases e
        have ev := bls_of dl q
        subst ev
        exact cr_all hc pins s σ H _ us Q I r ⟨a, bs, rfl, SqL.of hv, p.val R (.bl _)⟩
    | _ => exact False.elim p
  | _ => exact False.elim p
theorem call_anyA (hc : X.calm = true) : CallR X (.builtin "any") (trC (wd X ca E) (g1 (b1A .any))) := by
  intro pins s σ H xs us Q I r hq
  obtain ⟨ro, μ, h, v, x, rfl, R, d, p⟩ := g1_of hq
  cases d with
  | @obj n a hn =>
    obtain ⟨o, ho, r1⟩ := R.there hn
    unfold b1A at p
    dsimp only at p
    rw [ho] at p
    cases o with
    | lst ys =>
      obtain ⟨_, vs, hv, dl⟩ := r1
      obtain ⟨z, e, p⟩ := postG.opt p
      cases q : blsOf ys with
      | none => rw [q] at e; cases e
      | some bs =>
        rw [q] at e; cases e
        have ev := bls_of dl q
        subst ev
        exact cr_any hc pins s σ H _ us Q I r ⟨a, bs, rfl, SqL.of hv, p.val R (.bl _)⟩
    | _ => exact False.elim p
  | _ => exact False.elim p
theorem call_sumA (hc : X.calm = true) : CallR X (.builtin "sum") (trC (wd X ca E) (g1 (b1A .sum))) := by
  intro pins s σ H xs us Q I r hq
  obtain ⟨ro, μ, h, v, x, rfl, R, d, p⟩ := g1_of hq
  cases d with
  | @obj n a hn =>
    obtain ⟨o, ho, r1⟩ := R.there hn
    unfold b1A at p
    dsimp only at p
    rw [ho] at p
    cases o with
    | lst ys =>
      obtain ⟨_, vs, hv, dl⟩ := r1
      obtain ⟨z, e, p⟩ := postG.opt p
      cases q : intsOf ys with
      | none => rw [q] at e; cases e
      | some bs =>
        rw [q] at e; cases e
        have ev := ints_of dl q
        subst ev
        exact cr_sum hc pins s σ H _ us Q I r ⟨a, bs, rfl, SqL.of hv, p.val R (.int _)⟩
    | fz ns =>
      obtain ⟨ob, hv⟩ := r1
      exact cr_sum hc pins s σ H _ us Q I r ⟨a, ns, rfl, .inl (.inr ⟨ob, hv⟩), p.val R (.int _)⟩
    | _ => exact False.elim p
  | _ => exact False.elim p
theorem call_tupleA : CallR X (.type "tuple") (trC (wd X ca E) (g1 (b1A .tuple))) := by
  intro pins s σ H xs us Q I r hq
  obtain ⟨ro, μ, h, v, x, rfl, R, d, p⟩ := g1_of hq
  cases d with
  | @tup a vs ys sq dl => exact call_tuple_of pins s σ H _ us Q I r ⟨a, vs, rfl, .inr ⟨sq, postG.val R (show postG (dV (wd X ca E)) _ ro μ H (.ok (.tup ys) h) Q from p) (.tup sq dl)⟩⟩
  | @obj n a hn =>
    obtain ⟨o, ho, r1⟩ := R.there hn
    unfold b1A at p
    dsimp only at p
    rw [ho] at p
    cases o with
    | lst ys =>
      obtain ⟨_, vs, hv, dl⟩ := r1
      exact call_tuple_of pins s σ H _ us Q I r ⟨a, vs, rfl, .inl ⟨SqL.of hv, fun c hc => p μ _ _ (Step.laid hc) (R.laid hc) (.tup (SqT.of upd_same) (R.denL (Step.laid hc) dl))⟩⟩
    | _ => exact False.elim p
  | _ => exact False.elim p
/-! the keys of a dict -/
theorem raw_src {d : Addr} {es : Array DictEntry} {ep : Nat} (lo : (d == sysModules) = false) : PySem.W.KdlSrc X.prog X.w "dict" d d es.size (fun i v => ∃ hi : i < es.size, v = es[i].key) (fun h => h.DictRaw d es ep) where
  type := fun _ hm => hm.typeIs
  there := fun _ hm => let ⟨o, ho, _⟩ := hm; ⟨Heap.lt_size ho, Heap.lt_size ho⟩
  keep := fun _ _ hm hk => hm.at fun o e => hk d (.inl rfl) o e
  notList := by decide
  notTuple := by decide
  hint := fun _ _ _ _ hm hq => PySem.W.kdl_hint_dict hm.typeIs hq
  iter := fun _ s hh hm => ⟨_, _, (fun _ _ hq => wpAny_pyIter_dict_raw lo hm hq), Walks.rawKeys hh _ d (by obtain ⟨o, ho, _⟩ := hm; exact Nat.ne_of_lt (Heap.lt_size ho)) es ep, ⟨⟨_, Heap.get?_push_size _ rfl, rfl, rfl⟩, hm.at fun o e => Heap.get?_push_of_some _ e⟩⟩
/-- the keys that are collected -/
theorem keys_vals {K : PySem.W.Frag} {μ : Mu} {H : Hp} {P : Program} {w : World} : ∀ {kvs : List (AV × AV)} {xs : List (NestedKey × Addr × Value)}, Paired (RelKv K μ H) kvs xs → DenL K μ H (kvs.map (·.1)) (xs.map fun x => .ref x.2.1)
  | _, _, .nil => .nil
  | _, _, .cons ⟨_, q2, _⟩ t => .cons q2 (keys_vals (P := P) (w := w) t)
end
end Ev
set_option Elab.async false
set_option linter.all false
set_option maxRecDepth 100000
set_option maxHeartbeats 4000000
/-! list(..), sorted(..) -/
namespace Ev
open PySem PySem.Spec PyProof.Rows L2
/-! ### the order -/
theorem insA_at (x : AV × PyData) : ∀ (l1 l2 : List (AV × PyData)), (∀ b ∈ l1, PySem.W.dataLt b.2 x.2 = true) → (∀ y ∈ l2.head?, PySem.W.dataLt y.2 x.2 = false) → insA x (l1 ++ l2) = l1 ++ x :: l2
  | [], [], _, _ => rfl
  | [], y :: r, _, h => by
    show (match PySem.W.dataLt y.2 x.2 with | true => y :: insA x r | false => x :: y :: r) = _
    rw [h y rfl]
    rfl
  | y :: l1, l2, h1, h2 => by
    show (match PySem.W.dataLt y.2 x.2 with | true => y :: insA x (l1 ++ l2) | false => x :: y :: (l1 ++ l2)) = _
    rw [h1 y List.mem_cons_self]
    show y :: insA x (l1 ++ l2) = _
    rw [insA_at x l1 l2 (fun b hb => h1 b (List.mem_cons_of_mem _ hb)) h2]
    rfl
abbrev leP : AV × PyData → AV × PyData → Bool := PySem.W.dataLe false (·.2)
theorem leP_eq (a b : AV × PyData) : leP a b = !PySem.W.dataLt b.2 a.2 := rfl
theorem leP_total : PySem.W.TotalLe leP := PySem.W.sortLe_total _ _ _
theorem sortP_eq : ∀ l : List (AV × PyData), sortP l = l.mergeSort leP
  | [] => by simp [sortP]
  | x :: r => by
    have tr : ∀ a b c : AV × PyData, leP a b = true → leP b c = true → leP a c = true := fun a b c => leP_total.trans a b c
    have to : ∀ a b : AV × PyData, (leP a b || leP b a) = true := fun a b => by rcases leP_total.total a b with h | h <;> simp [h]
    obtain ⟨l1, l2, e1, e2, e3⟩ := List.mergeSort_cons tr to x r
    show insA x (sortP r) = _
    rw [sortP_eq r, e2, e1]
    refine insA_at x l1 l2 (fun b hb => ?_) fun y hy => ?_
    · have := e3 b hb
      rw [leP_eq] at this
      simpa using this
    · have p := PySem.W.sort_pairwise leP_total (x :: r)
      rw [e1] at p
      have p2 := (List.pairwise_append.mp p).2.1
      have p3 := (List.pairwise_cons.mp p2).1 y (by cases l2 with | nil => cases hy | cons z zs => cases hy; exact List.mem_cons_self)
      rw [leP_eq] at p3
      simpa using p3
theorem alike_of : ∀ {ds : List PyData}, allAlike ds = true → (ds.all fun d => PySem.W.alike d d) = true → PySem.W.AllAlike ds
  | [], _, _ => fun d hd => by cases hd
  | x :: r, h1, h2 => by
    have h1' : (r.all (fun e => PySem.W.alike x e && PySem.W.alike e x) && allAlike r) = true := h1
    rw [Bool.and_eq_true, List.all_eq_true] at h1'
    rw [List.all_cons, Bool.and_eq_true] at h2
    have ih := alike_of h1'.2 h2.2
    intro d hd d' hd'
    rcases List.mem_cons.mp hd with e | e <;> rcases List.mem_cons.mp hd' with e' | e'
    · rw [e, e']; exact h2.1
    · rw [e]; exact (Bool.and_eq_true_iff.mp (h1'.1 d' e')).1
    · rw [e']; exact (Bool.and_eq_true_iff.mp (h1'.1 d e)).2
    · exact ih d e d' e'
theorem tups_of : ∀ {ds : List PyData}, tupsOk ds = true → ∀ d ∈ ds, ∃ x r, d = .tuple (x :: r)
  | [], _, d, hd => by cases hd
  | .tuple (x :: r) :: ds, h, d, hd => by
    rcases List.mem_cons.mp hd with e | e
    · exact ⟨x, r, e⟩
    · exact tups_of (ds := ds) h d e
  | .tuple [] :: _, h, _, _ => by cases h
  | .none :: _, h, _, _ => by cases h
  | .bool _ :: _, h, _, _ => by cases h
  | .int _ :: _, h, _, _ => by cases h
  | .str _ :: _, h, _, _ => by cases h
  | .list _ :: _, h, _, _ => by cases h
  | .dict _ :: _, h, _, _ => by cases h
theorem dats_len : ∀ {xs : List AV} {ds : List PyData}, AV.dats xs = some ds → xs.length = ds.length
  | [], _, e => by unfold AV.dats at e; cases e; rfl
  | x :: xs, ds, e => by
    unfold AV.dats at e
    cases q : AV.dat x with
    | none => rw [q] at e; cases e
    | some d =>
      rw [q] at e
      cases q2 : AV.dats xs with
      | none => rw [q2] at e; cases e
      | some es => rw [q2] at e; cases e; simp [dats_len q2]
theorem zip_map2 {α β : Type} : ∀ {xs : List α} {ys : List β}, xs.length = ys.length → (xs.zip ys).map (·.2) = ys
  | [], [], _ => rfl
  | x :: xs, y :: ys, h => by simp [zip_map2 (xs := xs) (ys := ys) (by simpa using h)]
  | [], _ :: _, h => by cases h
  | _ :: _, [], h => by cases h
/-! the machine's data holds no lists -/
mutual
theorem dat_none {h : Heap} : ∀ (x : AV) {d : PyData} {v : Value} {as : List Addr}, AV.dat x = some d → Reads h v d as → as = []
  | .non, _, _, _, e, r => by unfold AV.dat at e; cases e; cases r; rfl
  | .bl _, _, _, _, e, r => by unfold AV.dat at e; cases e; cases r; rfl
  | .int _, _, _, _, e, r => by unfold AV.dat at e; cases e; cases r; rfl
  | .str _, _, _, _, e, r => by unfold AV.dat at e; cases e; cases r; rfl
  | .obj _, _, _, _, e, r => by unfold AV.dat at e; cases e
  | .tup xs, _, _, _, e, r => by
    unfold AV.dat at e
    cases q : AV.dats xs with
    | none => rw [q] at e; cases e
    | some ds =>
      rw [q] at e; cases e
      cases r with
      | tuple _ _ _ ra => exact dats_none xs q ra
theorem dats_none {h : Heap} : ∀ (xs : List AV) {ds : List PyData} {vs : List Value} {as : List Addr}, AV.dats xs = some ds → ReadsAll h vs ds as → as = []
  | [], _, _, _, e, r => by unfold AV.dats at e; cases e; cases r; rfl
  | x :: xs, _, _, _, e, r => by
    unfold AV.dats at e
    cases q : AV.dat x with
    | none => rw [q] at e; cases e
    | some d =>
      rw [q] at e
      cases q2 : AV.dats xs with
      | none => rw [q2] at e; cases e
      | some es =>
        rw [q2] at e; cases e
        cases r with
        | cons r1 r2 => rw [dat_none x q r1, dats_none xs q2 r2]; rfl
end
section
variable {X : Cx} {ca : Ca} {E : XK}
/-- a value that is meant by a machine's value -/
def RDen (K : PySem.W.Frag) (μ : Mu) (H : Hp) (v : Value) (b : AV × PyData) : Prop := ∃ u, RelV u v ∧ Den K μ H b.1 u
theorem each_den {K : PySem.W.Frag} {μ : Mu} {H : Hp} : ∀ {xs : List AV} {vs : List V} {us : List Value} {ds : List PyData}, DenL K μ H xs vs → Vals vs us → xs.length = ds.length → PySem.W.EachIs (RDen K μ H) us (xs.zip ds)
  | _, _, _, [], .nil, .nil, _ => .nil
  | _, _, _, d :: ds, .cons d1 dr, .cons r1 rr, h => .cons ⟨_, r1, d1⟩ (each_den dr rr (by simpa using h))
  | _, _, _, [], .cons _ _, _, h => by cases h
  | _, _, _, _ :: _, .nil, _, h => by cases h
theorem each_reads {μ : Mu} {H : Hp} {pins : List (Addr × Obj)} {σ : L2.St} {s : Shared} (I : Inv X pins σ H s) : ∀ {xs : List AV} {vs : List V} {us : List Value} {ds : List PyData}, DenL X.K μ H xs vs → Vals vs us → AV.dats xs = some ds → PySem.W.EachIs (fun v b => ∃ as, Reads s.heap v (Prod.snd b) as ∧ as = []) us (xs.zip ds)
  | _, _, _, ds, .nil, .nil, e => by unfold AV.dats at e; cases e; exact .nil
  | _, _, _, ds, @DenL.cons _ _ _ x v xs vs d1 dr, .cons r1 rr, e => by
    unfold AV.dats at e
    cases q : AV.dat x with
    | none => rw [q] at e; cases e
    | some d =>
      rw [q] at e
      cases q2 : AV.dats xs with
      | none => rw [q2] at e; cases e
      | some es =>
        rw [q2] at e; cases e
        obtain ⟨as, ra⟩ := Dp.reads I d v _ (den_dp (W := wd X ⟨fun _ => 0, []⟩ E0) d1 q) r1
        exact .cons ⟨as, ra, dat_none x q ra⟩ (each_reads I dr rr q2)
theorem vals_back {K : PySem.W.Frag} {μ : Mu} {H : Hp} : ∀ {us : List Value} {bs : List (AV × PyData)}, PySem.W.EachIs (RDen K μ H) us bs → ∃ vs, Vals vs us ∧ DenL K μ H (bs.map (·.1)) vs
  | _, _, .nil => ⟨[], .nil, .nil⟩
  | _, _, .cons ⟨u, r, d⟩ t => by
    obtain ⟨vs, h1, h2⟩ := vals_back t
    exact ⟨u :: vs, .cons r h1, .cons d h2⟩
/-- a list of ours, put in order -/
theorem sort_core {A : Around} {pins : List (Addr × Obj)} {σ : L2.St} {H : Hp} {s : Shared} {l : Addr} {μ : Mu} {xs ys : List AV} {vs : List V} {us : List Value} {n : Nat} {Q : Value → Shared → Prop} {EE : Value → Shared → Prop} (hu : A.units + 70 < cLine) (I : Inv X pins σ H s) (d : DenL X.K μ H xs vs) (r : Vals vs us) (e : sortA xs = some ys) (hz : xs.length ≤ sizeLine)
    (hn : ∀ u, H l ≠ some u) (hl : s.heap.get? l = some (seqObj "list" us.toArray n))
    (q : ∀ zs out h' c, Vals zs out → DenL X.K μ H ys zs → zs.length ≤ sizeLine → (∀ b o, b ≠ l → s.heap.get? b = some o → h'.get? b = some o) → h'.get? l = some (seqObj "list" out.toArray c) → Q .none { s with heap := h' }) :
    wpAny (model X.prog X.w) A (call (.builtin "list.sort") [.ref l]) Q EE s := by
  unfold sortA at e
  cases q1 : AV.dats xs with
  | none => rw [q1] at e; cases e
  | some ds =>
    rw [q1] at e
    dsimp only at e
    cases q2 : (allAlike ds && (ds.all fun d => PySem.W.alike d d) && tupsOk ds && (ds.all fun d => Nat.ble d.depth 50)) with
    | false => rw [q2] at e; cases e
    | true =>
      rw [q2] at e
      cases e
      simp only [Bool.and_eq_true] at q2
      obtain ⟨⟨⟨a1, a2⟩, a3⟩, a4⟩ := q2
      have hlen := dats_len q1
      have hmap : (xs.zip ds).map (·.2) = ds := zip_map2 hlen
      have hzl : (xs.zip ds).length = xs.length := by rw [List.length_zip, hlen, Nat.min_self]
      refine PySem.W.list_sort_data (R := RDen X.K μ H) (enc := Prod.snd) (bs := xs.zip ds) (vs := us) hl (each_den d r hlen) ?_ (by rw [hmap]; exact alike_of a1 a2) (.inl (by rw [hmap]; exact tups_of a3)) (by rw [hzl]; exact hz) (fun b hb => ?_) fun out ho he => ?_
      · exact (each_reads I d r q1).mono fun _ _ ⟨as, ra, z⟩ => ⟨as, ra, by rw [z]; exact List.not_mem_nil⟩
      · have hm : b.2 ∈ ds := by rw [← hmap]; exact List.mem_map.mpr ⟨b, hb, rfl⟩
        have := List.all_eq_true.mp a4 _ hm
        have := Nat.le_of_ble_eq_true this
        omega
      · obtain ⟨zs, v1, v2⟩ := vals_back he
        rw [← sortP_eq] at v2
        obtain ⟨c, hc⟩ := sortedHeap_at (vs := us) (out := out.toArray) hl
        refine q zs out _ c v1 v2 ?_ (fun b o hb hq => ?_) hc
        · rw [v1.length, ho, hzl]; exact hz
        · rw [sortedHeap_old hb (Heap.lt_size hq)]; exact hq
theorem ls_new {pins : List (Addr × Obj)} {σ : L2.St} {H : Hp} {s : Shared} {zs : List V} {out : List Value} {h' : Heap} {t' c : Nat} (I : Inv X pins σ H s) (k : ∀ b o, s.heap.get? b = some o → h'.get? b = some o) {l : Addr} (hl : s.heap.objs.size ≤ l) (hg : h'.get? l = some (seqObj "list" out.toArray c)) (v : Vals zs out) (hz : zs.length ≤ sizeLine) :
    Inv X pins σ (upd H l (.lst zs)) { s with heap := h', toks := t' } := I.laid k hl ⟨hz, out, c, v, hg⟩
/-- a new list of items, put in order -/
theorem sorted_tail {A : Around} {pins : List (Addr × Obj)} {σ : L2.St} {H : Hp} {s : Shared} {μ : Mu} {xs ys : List AV} {vs : List V} {us : List Value} {Q : VK} {EE : Value → Shared → Prop} (hu : A.units + 70 < cLine) (I : Inv X pins σ H s) (d : DenL X.K μ H xs vs) (r : Vals vs us) (e : sortA xs = some ys) (hz : xs.length ≤ sizeLine)
    (q : ∀ zs p, DenL X.K μ H ys zs → zs.length ≤ sizeLine → H p = none → Q (.ref p) (upd H p (.lst zs))) :
    wpAny (model X.prog X.w) A (do let l ← newList us; let _ ← holding [l] (call (.builtin "list.sort") [l] []); ret l) (fun f s' => ∃ v, f = .done (.ret v) ∧ EP X pins σ Q v s') EE s := by
  have hul : us.length ≤ sizeLine := by rw [← r.length, ← d.length]; exact hz
  refine wpAny_bind (wpAny_newList ?_ hul)
  have hf : H s.heap.objs.size = none := I.hok.fresh (Nat.le_refl _)
  have hob : (s.heap.push (seqObj "list" us.toArray 0)).get? s.heap.objs.size = some (seqObj "list" us.toArray 0) := Heap.get?_push_size _ rfl
  have I1 : Inv X pins σ H { s with heap := s.heap.push (seqObj "list" us.toArray 0) } := I.kept (t' := s.toks) fun b o z => Heap.get?_push_of_some _ z
  refine wpAny_bind (wpAny_holding (sort_core hu I1 d r e hz (fun u z => by rw [hf] at z; cases z) hob fun zs out h' c v1 v2 v3 k g => wpAny_pure ⟨_, rfl, ?_⟩))
  refine ⟨.ref s.heap.objs.size, _, ls_new (s := s) (t' := s.toks) I (fun b o z => k b o (Nat.ne_of_lt (Heap.lt_size z)) (Heap.get?_push_of_some _ z)) (Nat.le_refl _) g v1 v3, rfl, q zs _ v2 v3 hf⟩
theorem refs_at : ∀ {us : List Value} {ys : List (NestedKey × Addr × Value)}, us.length = ys.length → (∀ (j : Nat) (v : Value) (y : NestedKey × Addr × Value), us[j]? = some v → ys[j]? = some y → v = .ref y.2.1) → Vals (ys.map fun x => V.ref x.2.1) us
  | [], [], _, _ => .nil
  | u :: us, y :: ys, hl, h => .cons (h 0 u y rfl rfl) (refs_at (by simpa using hl) fun j v y' e1 e2 => h (j + 1) v y' (by simpa using e1) (by simpa using e2))
  | [], _ :: _, hl, _ => by simp at hl
  | _ :: _, [], hl, _ => by simp at hl
theorem acc_vals {es : Array DictEntry} {ys : List (NestedKey × Addr × Value)} {acc : Array Value} (hs : es.size = ys.length) (he : ∀ i (hi : i < es.size), ∃ y, ys[i]? = some y ∧ es[i].key = .ref y.2.1 ∧ es[i].val = y.2.2 ∧ True) (ha : ItemsOf (fun i v => ∃ hi : i < es.size, v = es[i].key) acc es.size) : Vals (ys.map fun x => V.ref x.2.1) acc.toList :=
  refs_at (by rw [Array.length_toList, ha.1, hs]) fun j v y e1 e2 => by
    obtain ⟨hi, ev⟩ := ha.2 j v (by rw [← Array.getElem?_toList]; exact e1)
    obtain ⟨y', h1, h2, _⟩ := he j hi
    rw [e2] at h1
    cases h1
    rw [ev, h2]
theorem call_sortedA (hc : X.calm = true) (hu : X.A.units + 75 < cLine) : CallR X (.builtin "sorted") (trC (wd X ca E) (g1 (b1A .sorted))) := by
  intro pins s σ H xs us Q I r hq
  obtain ⟨ro, μ, h, v, x, rfl, R, d, p⟩ := g1_of hq
  obtain ⟨u, rfl, ru⟩ := r.one
  have key : ∀ {ys zs : List AV}, sortA ys = some zs → postG (dV (wd X ca E)) (wd X ca E) ro μ H (alloc h (.lst zs)) Q → ∀ ws p', DenL X.K μ H zs ws → ws.length ≤ sizeLine → H p' = none → Q (.ref p') (upd H p' (.lst ws)) := fun {ys zs} _ pa ws p' dw hw hp' => by
    obtain ⟨_, q⟩ := postG.alloc R pa
    exact q p' _ hp' ⟨by rw [dw.length]; exact hw, ws, upd_same, R.denL (Step.laid hp') dw⟩
  refine Calls.call_function_entry PyProof.Rows.kind_sorted PyProof.Rows.plain_sorted PyProof.Rows.entry_sorted (PyProof.Rows.args_sorted1 _) ?_
  unfold Builtin.«sorted»
  refine wpAny_bind (m := checkCount "sorted" 1 1 _) (wpAny_pure ?_)
  cases d with
  | @obj n a hn =>
    obtain ⟨o, ho, r1⟩ := R.there hn
    unfold b1A at p
    dsimp only at p
    rw [ho] at p
    cases ru
    cases o with
    | lst ys =>
      dsimp only at p
      cases e : sortA ys with
      | none => rw [e] at p; exact False.elim p
      | some zs =>
        rw [e] at p
        obtain ⟨hz, vs, hv, dl⟩ := r1
        obtain ⟨its, rv, pl, _⟩ := I.list (SqL.of (K := X.K) hv)
        obtain ⟨oo, nn, g1, g2, _, g3⟩ := pl
        refine wpAny_bind (wpAny_collect_seq a (.inl rfl) g1 g2 g3 (fun h' hk => ?_) (by rw [List.size_toArray, ← rv.length, ← dl.length]; exact hz))
        rw [List.toList_toArray]
        exact sorted_tail (A := X.A.in1) (by show X.A.units + 1 + 70 < cLine; omega) (I.kept (t' := s.toks) hk) dl rv e hz (key e p)
    | dct kvs =>
      dsimp only at p
      cases e : sortA (kvs.map (·.1)) with
      | none => rw [e] at p; exact False.elim p
      | some zs =>
        rw [e] at p
        obtain ⟨hS, hz, ys, hv, pk⟩ := r1
        have dm := dict_is I hv pk
        obtain ⟨es, ep, hr, hs, he⟩ := dm.raw
        have hl : kvs.length = ys.length := Paired.length pk
        refine wpAny_bind (PySem.W.kdu_collect (A := X.A.in1) (raw_src (X := X) hS) (I.ok.hd hc) hr (by rw [hs, ← hl]; exact hz) fun h' tk acc hk hacc => ?_)
        have av := acc_vals hs (fun i hi => let ⟨y, a1, a2, a3, _⟩ := he i hi; ⟨y, a1, a2, a3, trivial⟩) hacc
        have dk : DenL X.K μ H (kvs.map (·.1)) (ys.map fun x => V.ref x.2.1) := keys_vals (P := X.prog) (w := X.w) pk
        exact sorted_tail (A := X.A.in1) (by show X.A.units + 1 + 70 < cLine; omega) (I.kept (t' := tk) hk) dk av e (by rw [List.length_map]; exact hz) (key e p)
    | _ => exact False.elim p
  | _ => exact False.elim p
theorem call_listA (hc : X.calm = true) : CallR X (.type "list") (trC (wd X ca E) (g1 (b1A .list))) := by
  intro pins s σ H xs us Q I r hq
  obtain ⟨ro, μ, h, v, x, rfl, R, d, p⟩ := g1_of hq
  have key : ∀ {ys : List AV} {ws : List V}, ys.length ≤ sizeLine → DenL X.K μ H ys ws → postG (dV (wd X ca E)) (wd X ca E) ro μ H (alloc h (.lst ys)) Q → ∀ p', H p' = none → Q (.ref p') (upd H p' (.lst ws)) := fun {ys ws} hz dw pa p' hp' => by
    obtain ⟨_, q⟩ := postG.alloc R pa
    exact q p' _ hp' ⟨hz, ws, upd_same, R.denL (Step.laid hp') dw⟩
  cases d with
  | @tup a vs ys sq dl =>
    obtain ⟨its, rv, _, hz⟩ := I.tuple sq
    exact call_list_of pins s σ H _ us Q I r ⟨a, vs, rfl, .inr sq, key (by rw [dl.length]; exact hz) dl p⟩
  | @obj n a hn =>
    obtain ⟨o, ho, r1⟩ := R.there hn
    unfold b1A at p
    dsimp only at p
    rw [ho] at p
    cases o with
    | lst ys =>
      obtain ⟨hz, vs, hv, dl⟩ := r1
      exact call_list_of pins s σ H _ us Q I r ⟨a, vs, rfl, .inl (SqL.of hv), key hz dl p⟩
    | fz ns =>
      obtain ⟨ob, hv⟩ := r1
      have sl : SqL X.K H a (ns.map V.int) := .inl (.inr ⟨ob, hv⟩)
      obtain ⟨its, rv, _, hz⟩ := I.list sl
      exact call_list_of pins s σ H _ us Q I r ⟨a, ns.map V.int, rfl, .inl sl, key (by rw [List.length_map] at hz ⊢; exact hz) (den_ints ns) p⟩
    | dct kvs =>
      dsimp only at p
      obtain ⟨hS, hz, ys, hv, pk⟩ := r1
      obtain ⟨u, rfl, ru⟩ := r.one
      cases ru
      have dm := dict_is I hv pk
      obtain ⟨es, ep, hr, hs, he⟩ := dm.raw
      have hl : kvs.length = ys.length := Paired.length pk
      refine PySem.W.kdl_call (raw_src (X := X) hS) (I.ok.hd hc) hr (by rw [hs, ← hl]; exact hz) fun h' tk acc c hk hg hacc => ?_
      have av := acc_vals hs (fun i hi => let ⟨y, a1, a2, a3, _⟩ := he i hi; ⟨y, a1, a2, a3, trivial⟩) hacc
      have dk : DenL X.K μ H (kvs.map (·.1)) (ys.map fun x => V.ref x.2.1) := keys_vals (P := X.prog) (w := X.w) pk
      have hf : H s.heap.objs.size = none := I.hok.fresh (Nat.le_refl _)
      refine ⟨.ref s.heap.objs.size, _, ls_new (s := s) (t' := tk) (c := c) I hk (Nat.le_refl _) (by rw [Array.toArray_toList]; exact hg) av (by rw [List.length_map, ← hl]; exact hz), rfl, key (by rw [List.length_map]; exact hz) dk p _ hf⟩
    | _ => exact False.elim p
  | _ => exact False.elim p
end
end Ev
set_option Elab.async false
set_option linter.all false
set_option maxRecDepth 100000
set_option maxHeartbeats 4000000
/-! isinstance, methods of lists, slices -/
namespace Ev
open PySem PySem.Spec PyProof.Rows L2
section
variable {X : Cx} {ca : Ca} {E : XK} {a b : Expr} {es : List Expr} {ma mb : Loc' → AH → R AV} {ms : Loc' → AH → R (List AV)} {pos p apos p2 : Pos} {x : Str}
/-- a value of ours has its type -/
theorem kit_den {ro : Nat} {μ : Mu} {h : AH} {H : Hp} {pins : List (Addr × Obj)} {σ : L2.St} {s : Shared} {v : AV} {y : V} {u : Value} {T : Ty} (R : RelH (wd X ca E) ro μ h H) (I : Inv X pins σ H s) (d : Den X.K μ H v y) (r : RelV y u) (e : tyIs v h = some T) :
    ∃ P : Heap → Prop, PySem.W.KitX X.K u (.type T.name) P ∧ P s.heap ∧ u ≠ .builtin "__main__.__loader__#opaque" := by
  cases d with
  | non => cases e; exact kit_of I r (.base .non)
  | bl b => cases e; exact kit_of I r (.base (.bl b))
  | int b => cases e; exact kit_of I r (.base (.int b))
  | str b => cases e; exact kit_of I r (.base (.str b))
  | @tup a vs xs sq dl =>
    cases e
    cases r
    obtain ⟨its, rv, ⟨o, h1, h2, _⟩, _⟩ := I.tuple sq
    exact ⟨_, PySem.W.kitx_tuple, ⟨o, h1, h2⟩, fun z => nomatch z⟩
  | @obj n a hn =>
    obtain ⟨o, ho, r1⟩ := R.there hn
    unfold tyIs at e
    dsimp only at e
    rw [ho] at e
    cases o with
    | lst ys => cases e; obtain ⟨_, vs, hv, _⟩ := r1; exact kit_of I r (.base (.lst hv))
    | fz ns => cases e; obtain ⟨ob, hv⟩ := r1; exact kit_of I r (.base (.frz hv))
    | dct kvs =>
      cases e
      cases r
      obtain ⟨hS, hz, ys, hv, pk⟩ := r1
      obtain ⟨o, _, _, g1, g2, _⟩ := dict_is I hv pk
      exact ⟨_, PySem.W.kitx_dict, ⟨o, g1, g2.1⟩, fun z => nomatch z⟩
    | ins c fs => cases e
    | odd =>
      cases e
      cases r
      obtain ⟨kvs, hv⟩ := r1
      obtain ⟨_, _, vs, _, dm⟩ := dk_of I.hok hv
      exact ⟨_, PySem.W.kitx_dict, dm.typeIs, fun z => nomatch z⟩
def kitT : Ty → Ty → Bool := fun t n => decide (kitB t.name n.name = some (Ty.sub t n))
theorem kitT_ok : ∀ t n : Ty, n ≠ .nt → kitB t.name n.name = some (Ty.sub t n) := by
  intro t n h
  cases t <;> cases n <;> first | exact absurd rfl h | decide +kernel
def isi1 (n : Ty) : List AV → AH → R AV := fun vs h => match vs with
  | [v] => rOpt ((isiA v (.ty n) h).map .bl) h
  | _ => .bad
/-- isinstance(a, T) -/
theorem sim_isi {n : Ty} {y : Str} (hg : Gl X "isinstance") (hm : X.mg "isinstance" = none) (ha : SimE X (wd X ca E) a ma) (hs : notStar a = true) (hn : n ≠ .nt) (hy : Gl X y) (hym : X.mg y = none) (hyv : bootBuiltins y = some (.type n.name)) (hy1 : y ≠ "__name__") (hy2 : (y == ("__debug__" : Str)) = false) :
    SimE X (wd X ca E) (.Call (.Name "isinstance" p) [a, .Name y p2] [] pos) (fun l h => (ma l h).bind fun v h1 => rOpt ((isiA v (.ty n) h1).map .bl) h1) := by
  have hc : CallR X (.builtin "isinstance") (fun xs H Q => ∃ ro μ h v w, xs = [w, .ty n.name] ∧ RelH (wd X ca E) ro μ h H ∧ Den X.K μ H v w ∧ postG (dV (wd X ca E)) (wd X ca E) ro μ H (rOpt ((isiA v (.ty n) h).map .bl) h) Q) := by
    intro pins s σ H xs us Q I r ⟨ro, μ, h, v, w, ex, R, d, q⟩
    subst ex
    obtain ⟨u1, u2, rfl, r1, r2⟩ := r.two
    cases (show u2 = Value.type n.name from r2)
    obtain ⟨z, e, q⟩ := postG.opt q
    unfold isiA at e
    cases e2 : tyIs v h with
    | none => rw [e2] at e; cases e
    | some t =>
      rw [e2] at e
      cases e
      obtain ⟨P, Z, p', hx⟩ := kit_den R I d r1 e2
      exact PySem.W.kia_one Z I.kIn p' (kit_ty (kitT_ok t n hn)) hx fun tk => ⟨.bl _, H, I.tok tk, rfl, q.val R (.bl _)⟩
  have hn1 : notStar (Expr.Name y p2) = true := rfl
  refine PE.weaken (pe_callB hc hg hm (by decide +kernel) (pa_cons ha (pa_cons (pe_bltn hy hym hyv (v := .ty n.name) rfl hy1 hy2) pa_nil (star_one hn1)) (star_one hs)) (by decide) (by decide) (star_one hs) rfl) fun σ H Q ⟨ro, μ, l, h, A, q⟩ => ?_
  exact ⟨ro, μ, l, h, A, (bindP (dV _) A q).imp fun w H1 ⟨μ1, v, h1, A1, d1, st1, q1⟩ => ⟨ro, μ1, h1, v, w, rfl, A1.R, d1, q1⟩⟩
/-- isinstance(a, (T, U)) -/
theorem sim_isi2 {n m : Ty} {y z : Str} {k : Nat} {p3 p4 : Pos} (hg : Gl X "isinstance") (hm : X.mg "isinstance" = none) (ha : SimE X (wd X ca E) a ma) (hs : notStar a = true) (hn : n ≠ .nt) (hn' : m ≠ .nt) (hy : Gl X y) (hym : X.mg y = none) (hyv : bootBuiltins y = some (.type n.name)) (hy1 : y ≠ "__name__") (hy2 : (y == ("__debug__" : Str)) = false)
    (hz : Gl X z) (hzm : X.mg z = none) (hzv : bootBuiltins z = some (.type m.name)) (hz1 : z ≠ "__name__") (hz2 : (z == ("__debug__" : Str)) = false) :
    SimE X (wd X ca E) (.Call (.Name "isinstance" p) [a, .Tuple [.Name y p2, .Name z p3] k p4] [] pos) (fun l h => (ma l h).bind fun v h1 => rOpt ((isiA v (.tys n m) h1).map .bl) h1) := by
  have hc : CallR X (.builtin "isinstance") (fun xs H Q => ∃ ro μ h v w tp, xs = [w, .ref tp] ∧ H tp = some (.tup [.ty n.name, .ty m.name]) ∧ RelH (wd X ca E) ro μ h H ∧ Den X.K μ H v w ∧ postG (dV (wd X ca E)) (wd X ca E) ro μ H (rOpt ((isiA v (.tys n m) h).map .bl) h) Q) := by
    intro pins s σ H xs us Q I r ⟨ro, μ, h, v, w, tp, ex, hT, R, d, q⟩
    subst ex
    obtain ⟨u1, u2, rfl, r1, r2⟩ := r.two
    cases (show u2 = Value.ref tp from r2)
    obtain ⟨z, e, q⟩ := postG.opt q
    unfold isiA at e
    cases e2 : tyIs v h with
    | none => rw [e2] at e; cases e
    | some t =>
      rw [e2] at e
      cases e
      obtain ⟨P, Z, p', hx⟩ := kit_den R I d r1 e2
      obtain ⟨_, its, rv, o, h1, h2, nn, h3⟩ := (show ObjOk X.prog X.w H s.heap tp (.tup [.ty n.name, .ty m.name]) from I.hok tp _ hT)
      obtain ⟨i1, i2, rfl, ri1, ri2⟩ := rv.two
      cases (show i1 = Value.type n.name from ri1)
      cases (show i2 = Value.type m.name from ri2)
      obtain ⟨oc, od, dt, sl⟩ := o
      simp only at h2 h3
      subst h2 h3
      refine PySem.W.kia_tup (b := Ty.sub t n || Ty.sub t m) Z I.kIn p' h1 ?_ hx fun tk => ⟨.bl _, H, I.tok tk, rfl, q.val R (.bl _)⟩
      refine kitAny_cons (kit_ty (kitT_ok t n hn)) (fun e => ?_) fun e => by rw [e]; rfl
      rw [e, Bool.false_or]
      exact kitAny_cons (kit_ty (kitT_ok t m hn')) (fun e => by rw [e]; rfl) fun e => e
  have hn1 : ∀ (y : Str) (p2 : Pos), notStar (Expr.Name y p2) = true := fun _ _ => rfl
  refine PE.weaken (pe_callB hc hg hm (by decide +kernel) (pa_cons ha (pa_cons (pe_tup (pa_cons (pe_bltn hy hym hyv (v := .ty n.name) rfl hy1 hy2) (pa_cons (pe_bltn hz hzm hzv (v := .ty m.name) rfl hz1 hz2) pa_nil (star_one (hn1 _ _))) (star_one (hn1 _ _)))) pa_nil rfl) (star_one hs)) (by decide) (by decide) (star_one hs) rfl) fun σ H Q ⟨ro, μ, l, h, A, q⟩ => ?_
  exact ⟨ro, μ, l, h, A, (bindP (dV _) A q).imp fun w H1 ⟨μ1, v, h1, A1, d1, st1, q1⟩ => ⟨by show 2 ≤ sizeLine; decide, fun c hc => ⟨ro, μ1, h1, v, w, c, rfl, upd_same, A1.R.laid hc, A1.R.den (Step.laid hc) d1, q1.later (Step.laid hc)⟩⟩⟩
/-- what isinstance asks of an own class -/
structure OwnK (X : Cx) (ca : Ca) (c : Nat) (cs : List Nat) : Prop where
  ty : ∀ t : Ty, PySem.W.kitOne X.K (.type t.name) (.ref (ca c)) = some false
  cl : ∀ c' ∈ cs, SlX.SCls X.K (ca c') ∧ SlX.SIsi X.K (ca c') ∧ PySem.W.kitOne X.K (.ref (ca c')) (.ref (ca c)) = some (Nat.beq c' c)
theorem sim_isiO {c : Nat} {cs : List Nat} {y : Str} (hg : Gl X "isinstance") (hm : X.mg "isinstance" = none) (ha : SimE X (wd X ca E) a ma) (hs : notStar a = true) (K : OwnK X ca c cs) (hy : Gl X y) (hym : X.mg y = some (.ref (ca c))) (hy2 : (y == ("__debug__" : Str)) = false) :
    SimE X (wd X ca E) (.Call (.Name "isinstance" p) [a, .Name y p2] [] pos) (fun l h => (ma l h).bind fun v h1 => rOpt ((isiA v (.own c cs) h1).map .bl) h1) := by
  have hc : CallR X (.builtin "isinstance") (fun xs H Q => ∃ ro μ h v w, xs = [w, .ref (ca c)] ∧ RelH (wd X ca E) ro μ h H ∧ Den X.K μ H v w ∧ postG (dV (wd X ca E)) (wd X ca E) ro μ H (rOpt ((isiA v (.own c cs) h).map .bl) h) Q) := by
    intro pins s σ H xs us Q I r ⟨ro, μ, h, v, w, ex, R, d, q⟩
    subst ex
    obtain ⟨u1, u2, rfl, r1, r2⟩ := r.two
    cases (show u2 = Value.ref (ca c) from r2)
    obtain ⟨z, e, q⟩ := postG.opt q
    have low : ∀ t, tyIs v h = some t → z = .bl false → wpAny (model X.prog X.w) X.A (call (.builtin "isinstance") [u1, .ref (ca c)]) (EP X pins σ Q) X.xe s := fun t e2 ez => by
      obtain ⟨P, Z, p', hx⟩ := kit_den R I d r1 e2
      subst ez
      exact PySem.W.kia_one Z I.kIn p' (K.ty t) hx fun tk => ⟨.bl _, H, I.tok tk, rfl, q.val R (.bl _)⟩
    unfold isiA at e
    cases d with
    | @obj n o hn =>
      obtain ⟨ob, ho, r3⟩ := R.there hn
      dsimp only at e
      rw [ho] at e
      cases ob with
      | ins c' fs =>
        dsimp only at e
        cases e3 : cs.any (Nat.beq c') with
        | false => rw [e3] at e; cases e
        | true =>
          rw [e3] at e
          cases e
          obtain ⟨c'', hm', hb⟩ := List.any_eq_true.mp e3
          have := Nat.eq_of_beq_eq_true hb
          subst this
          obtain ⟨k1, k2, k3⟩ := K.cl _ hm'
          obtain ⟨dx, vs, h1, h2, _⟩ := r3
          cases (show u1 = Value.ref o from r1)
          exact SlX.call_isiSl (.ref (ca c)) pins s σ H _ _ Q I r ⟨o, ca c', dx, vs, .ref (ca c), _, rfl, rfl, fun w rw => rw, .inr ⟨h1, h2⟩, k1, k2, k3, q.val R (.bl _)⟩
      | lst ys => exact low .list (by unfold tyIs; dsimp only; rw [ho]) (by unfold tyIs at e; dsimp only at e; rw [ho] at e; cases e; rfl)
      | fz ys => exact low .list (by unfold tyIs; dsimp only; rw [ho]) (by unfold tyIs at e; dsimp only at e; rw [ho] at e; cases e; rfl)
      | dct ys => exact low .dict (by unfold tyIs; dsimp only; rw [ho]) (by unfold tyIs at e; dsimp only at e; rw [ho] at e; cases e; rfl)
      | odd => exact low .dict (by unfold tyIs; dsimp only; rw [ho]) (by unfold tyIs at e; dsimp only at e; rw [ho] at e; cases e; rfl)
    | non => exact low .nt rfl (by cases e; rfl)
    | bl _ => exact low .bool rfl (by cases e; rfl)
    | int _ => exact low .int rfl (by cases e; rfl)
    | str _ => exact low .str rfl (by cases e; rfl)
    | tup _ _ => exact low .tuple rfl (by cases e; rfl)
  have hn1 : notStar (Expr.Name y p2) = true := rfl
  refine PE.weaken (pe_callB hc hg hm (by decide +kernel) (pa_cons ha (pa_cons (pe_glob hy hym (v := .ref (ca c)) rfl hy2) pa_nil (star_one hn1)) (star_one hs)) (by decide) (by decide) (star_one hs) rfl) fun σ H Q ⟨ro, μ, l, h, A, q⟩ => ?_
  exact ⟨ro, μ, l, h, A, (bindP (dV _) A q).imp fun w H1 ⟨μ1, v, h1, A1, d1, st1, q1⟩ => ⟨ro, μ1, h1, v, w, rfl, A1.R, d1, q1⟩⟩
/-! ### methods of lists -/
def trM (W : Wd) (m : Bm) : V → List V → Hp → VK → Prop := fun x xs H Q => ∃ ro μ h ax args, RelH W ro μ h H ∧ Den W.K μ H ax x ∧ DenL W.K μ H args xs ∧ postG (dV W) W ro μ H (bmA m ax args h) Q
theorem isLst_at {ro : Nat} {μ : Mu} {h : AH} {H : Hp} {v : AV} {u : V} (R : RelH (wd X ca E) ro μ h H) (d : Den X.K μ H v u) (e : isLst v h = true) : ∃ n b ys vs, v = .obj n ∧ u = .ref b ∧ μ n = some b ∧ h.get n = some (.lst ys) ∧ H b = some (.lst vs) ∧ DenL X.K μ H ys vs := by
  unfold isLst at e
  cases d with
  | @obj n b hn =>
    obtain ⟨o, ho, r⟩ := R.there hn
    dsimp only at e
    rw [ho] at e
    cases o with
    | lst ys => obtain ⟨_, vs, h1, h2⟩ := r; exact ⟨n, b, ys, vs, rfl, rfl, hn, ho, h1, h2⟩
    | _ => cases e
  | _ => cases e
theorem bmA_at {ro : Nat} {μ : Mu} {h : AH} {H : Hp} {m : Bm} {v : AV} {u : V} {args : List AV} {Q : VK} (R : RelH (wd X ca E) ro μ h H) (d : Den X.K μ H v u) (p : postG (dV (wd X ca E)) (wd X ca E) ro μ H (bmA m v args h) Q) :
    ∃ n b ys vs, v = .obj n ∧ u = .ref b ∧ μ n = some b ∧ h.get n = some (.lst ys) ∧ H b = some (.lst vs) ∧ DenL X.K μ H ys vs ∧ ys.length ≤ sizeLine ∧ ro ≤ n := by
  unfold bmA at p
  cases d with
  | @obj n b hn =>
    obtain ⟨o, ho, r⟩ := R.there hn
    dsimp only at p
    rw [ho] at p
    cases o with
    | lst ys =>
      dsimp only at p
      cases e : Nat.ble h.ro n with
      | false => rw [e] at p; exact False.elim p
      | true =>
        obtain ⟨hz, vs, h1, h2⟩ := r
        refine ⟨n, b, ys, vs, rfl, rfl, hn, ho, h1, h2, hz, ?_⟩
        have := Nat.le_of_ble_eq_true e
        rw [R.roe] at this
        exact this
    | _ => exact False.elim p
  | _ => exact False.elim p
/-- the list at n is rewritten -/
theorem lst_put {ro : Nat} {μ : Mu} {h : AH} {H : Hp} {n : Nat} {b : Addr} {ys zs : List AV} {vs ws : List V} {x : AV} {u : V} {Q : VK} (R : RelH (wd X ca E) ro μ h H) (hn : μ n = some b) (ho : h.get n = some (.lst ys)) (hb : H b = some (.lst vs)) (hr : ro ≤ n) (hz : zs.length ≤ sizeLine) (dw : DenL X.K μ H zs ws) (dx : Den X.K μ H x u)
    (p : postG (dV (wd X ca E)) (wd X ca E) ro μ H (.ok x (h.set n (.lst zs))) Q) : Q u (upd H b (.lst ws)) := by
  have st : Step ro μ H μ (upd H b (.lst ws)) := Step.write hn hr
  exact p μ u _ st (R.write hn hr ho (by rw [hb]; intro z; cases z) ⟨hz, ws, upd_same, R.denL st dw⟩) (R.den st dx)
theorem mt_appA : MtR X "list.append" (trM (wd X ca E) .append) := by
  intro pins s σ H x xs v us Q I rx rs ⟨ro, μ, h, ax, args, R, dx, da, p⟩
  obtain ⟨n, b, ys, vs, rfl, rfl, hn, ho, hb, dl, hz, hr⟩ := bmA_at R dx p
  unfold bmA at p
  dsimp only at p
  rw [ho] at p
  dsimp only at p
  rw [Nat.ble_eq_true_of_le (by rw [R.roe]; exact hr)] at p
  cases da with
  | nil => exact False.elim p
  | @cons y w _ _ d1 d2 =>
    cases d2 with
    | cons _ _ => exact False.elim p
    | nil =>
      dsimp only at p
      cases e : Nat.blt ys.length 16777216 with
      | false => rw [e] at p; exact False.elim p
      | true =>
        rw [e] at p
        have hlt := blt_tt.mp e
        refine mt_append pins s σ H _ _ v us Q I rx rs ⟨b, vs, w, rfl, rfl, hb, by rw [← dl.length, sizeLine_eq]; exact hlt, lst_put R hn ho hb hr (by rw [List.length_append, List.length_singleton, sizeLine_eq]; omega) (dl.append (.cons d1 .nil)) .non p⟩
theorem mt_popA : MtR X "list.pop" (trM (wd X ca E) .pop) := by
  intro pins s σ H x xs v us Q I rx rs ⟨ro, μ, h, ax, args, R, dx, da, p⟩
  obtain ⟨n, b, ys, vs, rfl, rfl, hn, ho, hb, dl, hz, hr⟩ := bmA_at R dx p
  unfold bmA at p
  dsimp only at p
  rw [ho] at p
  dsimp only at p
  rw [Nat.ble_eq_true_of_le (by rw [R.roe]; exact hr)] at p
  cases da with
  | cons _ _ => exact False.elim p
  | nil =>
    dsimp only at p
    cases e : ys.getLast? with
    | none => rw [e] at p; exact False.elim p
    | some y =>
      rw [e] at p
      rw [List.getLast?_eq_getElem?] at e
      obtain ⟨w, hw, dw⟩ := dl.get e
      have hd : DenL X.K μ H ys.dropLast vs.dropLast := by
        rw [List.dropLast_eq_take, List.dropLast_eq_take, ← dl.length]
        exact dl.take _
      exact mt_pop pins s σ H _ _ v us Q I rx rs ⟨b, vs, w, rfl, rfl, hb, by rw [← dl.length]; exact hw, lst_put R hn ho hb hr (by rw [List.length_dropLast]; omega) hd dw p⟩
theorem mt_pop0A : MtR X "list.pop" (trM (wd X ca E) .pop0) := by
  intro pins s σ H x xs v us Q I rx rs ⟨ro, μ, h, ax, args, R, dx, da, p⟩
  obtain ⟨n, b, ys, vs, rfl, rfl, hn, ho, hb, dl, hz, hr⟩ := bmA_at R dx p
  unfold bmA at p
  dsimp only at p
  rw [ho] at p
  dsimp only at p
  rw [Nat.ble_eq_true_of_le (by rw [R.roe]; exact hr)] at p
  cases da with
  | nil => exact False.elim p
  | @cons y w _ _ d1 d2 =>
    cases d1 with
    | int i =>
      cases d2 with
      | cons _ _ => cases i with
        | ofNat k => cases k <;> exact False.elim p
        | negSucc k => exact False.elim p
      | nil =>
        cases i with
        | negSucc k => exact False.elim p
        | ofNat k =>
          cases k with
          | succ k => exact False.elim p
          | zero =>
            cases ys with
            | nil => exact False.elim p
            | cons y ys =>
              cases dl with
              | @cons _ w _ ws dw dr =>
                refine mt_popAt pins s σ H _ _ v us Q I rx rs ⟨b, _, 0, 0, w, rfl, rfl, hb, by decide, by decide, by unfold seqIndex?; simp, rfl, ?_⟩
                exact lst_put R hn ho hb hr (by rw [List.length_cons] at hz; omega) dr dw p
    | _ => cases d2 <;> exact False.elim p
theorem mt_extA : MtR X "list.extend" (trM (wd X ca E) .extend) := by
  intro pins s σ H x xs v us Q I rx rs ⟨ro, μ, h, ax, args, R, dx, da, p⟩
  obtain ⟨n, b, ys, vs, rfl, rfl, hn, ho, hb, dl, hz, hr⟩ := bmA_at R dx p
  unfold bmA at p
  dsimp only at p
  rw [ho] at p
  dsimp only at p
  rw [Nat.ble_eq_true_of_le (by rw [R.roe]; exact hr)] at p
  cases da with
  | nil => exact False.elim p
  | @cons y w _ _ d1 d2 =>
    cases d1 with
    | @obj m c hm =>
      cases d2 with
      | cons _ _ => exact False.elim p
      | nil =>
        dsimp only at p
        cases e : Nat.beq n m with
        | true => rw [e] at p; exact False.elim p
        | false =>
          rw [e] at p
          obtain ⟨o2, ho2, r2⟩ := R.there hm
          dsimp only at p
          rw [ho2] at p
          cases o2 with
          | lst zs =>
            dsimp only at p
            cases e2 : lim (ys.length + zs.length) with
            | false => rw [e2] at p; exact False.elim p
            | true =>
              rw [e2] at p
              have hl := lim_le e2
              obtain ⟨_, ws, hc, dw⟩ := r2
              exact mt_extend pins s σ H _ _ v us Q I rx rs ⟨b, c, vs, ws, rfl, rfl, hb, hc, by rw [← dl.length, ← dw.length]; exact hl, lst_put R hn ho hb hr (by rw [List.length_append]; exact hl) (dl.append dw) .non p⟩
          | _ => exact False.elim p
    | _ => cases d2 <;> exact False.elim p
theorem few_ok {cpos : Pos} {env : Env} {e : Expr} (hs : (e :: es).all notStar = true) (hn : (e :: es).length < 20) : ((backTo cpos (starEach (e :: es) env)).all (fun x => !x.1) && (backToKw cpos (keywordEach [] env)).all (fun x => x.1.isSome)
      && decide ((e :: es).length + ([] : List Keyword).length + (if ([] : List Keyword).isEmpty then 0 else 1) < 30)) = true := by
  rw [star_all hs]
  show (true && true && decide ((e :: es).length + 0 + 0 < 30)) = true
  rw [decide_eq_true (by omega)]
  rfl
theorem sim_bm {e : Expr} {m : Bm} {name : Str} {id : String} (slot : Slot "list" name id) (hty : typeOf (.builtin id) = pure (.type "method_descriptor")) (hm : MtR X id (trM (wd X ca E) m)) (ho : SimE X (wd X ca E) a ma) (ha : SimA X (wd X ca E) (e :: es) ms) (hb : baseOk a = true) (hs : (e :: es).all notStar = true) (hn : (e :: es).length < 20) (hl : (apos.endLine == pos.line) = true) :
    SimE X (wd X ca E) (.Call (.Attribute a name apos) (e :: es) [] pos) (fun l h => (ma l h).bind fun x h1 => match isLst x h1 with
      | true => (ms l h1).bind fun vs h2 => bmA m x vs h2
      | false => .bad) := by
  have hs' := hs
  rw [List.all_cons, Bool.and_eq_true] at hs'
  refine PE.weaken (pe_bm PySem.F.plainAttrs_list slot hty hm ho ha (base_ok hb) (few_ok hs hn) hl (star_one hs'.1) (star_any hs'.2)) fun σ H Q ⟨ro, μ, l, h, A, q⟩ => ?_
  refine ⟨ro, μ, l, h, A, (bindP (dV _) A q).imp fun w H1 ⟨μ1, v, h1, A1, d1, st1, q1⟩ => ?_⟩
  cases e1 : isLst v h1 with
  | false => rw [e1] at q1; exact False.elim q1
  | true =>
    rw [e1] at q1
    obtain ⟨n, c, ys, vs, rfl, rfl, hn, hg, hH, dl⟩ := isLst_at A1.R d1 e1
    exact ⟨.inl ⟨rfl, _, SqL.of hH⟩, ro, μ1, l, h1, A1, (bindP (dL _) A1 q1).imp fun xs H2 ⟨μ2, as, h2, A2, d2, st2, q2⟩ => ⟨ro, μ2, h2, .obj n, as, A2.R, A1.R.den st2 d1, d2, q2⟩⟩
theorem sim_bm0 {m : Bm} {name : Str} {id : String} (slot : Slot "list" name id) (hty : typeOf (.builtin id) = pure (.type "method_descriptor")) (hm : MtR X id (trM (wd X ca E) m)) (ho : SimE X (wd X ca E) a ma) (hb : baseOk a = true) (hl : (apos.endLine == pos.line) = true) :
    SimE X (wd X ca E) (.Call (.Attribute a name apos) [] [] pos) (fun l h => (ma l h).bind fun x h1 => match isLst x h1 with
      | true => bmA m x [] h1
      | false => .bad) := by
  refine PE.weaken (pe_bm0 PySem.F.plainAttrs_list slot hty hm ho (base_ok hb) hl) fun σ H Q ⟨ro, μ, l, h, A, q⟩ => ?_
  refine ⟨ro, μ, l, h, A, (bindP (dV _) A q).imp fun w H1 ⟨μ1, v, h1, A1, d1, st1, q1⟩ => ?_⟩
  cases e1 : isLst v h1 with
  | false => rw [e1] at q1; exact False.elim q1
  | true =>
    rw [e1] at q1
    obtain ⟨n, c, ys, vs, rfl, rfl, hn, hg, hH, dl⟩ := isLst_at A1.R d1 e1
    exact ⟨.inl ⟨rfl, _, SqL.of hH⟩, ro, μ1, h1, .obj n, [], A1.R, d1, .nil, q1⟩
/-! ### slices -/
def dO : Mu → Hp → Option Int → Option Int → Prop := fun _ _ v w => v = w
abbrev SimO (X : Cx) (W : Wd) (o : Option Expr) (m : Loc' → AH → R (Option Int)) : Prop := PO X o (fun σ H Q => ∃ ro μ l h, At W ro μ l h σ H ∧ postG dO W ro μ H (m l h) Q)
theorem PO.weaken {X : Cx} {e : Option Expr} {t t' : TO} (p : PO X e t) (h : ∀ σ H Q, t' σ H Q → t σ H Q) : PO X e t' := ⟨fun pins s σ H Q I q => p.run pins s σ H Q I (h σ H Q q)⟩
theorem simo_none : SimO X (wd X ca E) none (fun _ h => .ok none h) := PO.weaken po_none fun σ H Q ⟨ro, μ, l, h, A, q⟩ => postG.val A.R q rfl
theorem simo_some (ha : SimE X (wd X ca E) a ma) : SimO X (wd X ca E) (some a) (fun l h => (ma l h).bind fun x h1 => match x with | .int i => .ok (some i) h1 | _ => .bad) :=
  PO.weaken (po_some ha) fun σ H Q ⟨ro, μ, l, h, A, q⟩ => ⟨ro, μ, l, h, A, by
    refine (bindP (dV _) A q).imp fun w H1 ⟨μ1, v, h1, A1, d1, st1, q1⟩ => ?_
    cases v with
    | int i => cases d1; exact ⟨i, rfl, q1.val A1.R rfl⟩
    | _ => exact False.elim q1⟩
theorem den_cut {K : PySem.W.Frag} {μ : Mu} {H : Hp} {xs : List AV} {vs : List V} (d : DenL K μ H xs vs) (lo hi : Option Int) : DenL K μ H (cutA xs lo hi) (cutV vs lo hi) := by
  unfold cutA cutV
  rw [d.length]
  exact (d.drop _).take _
theorem cut_len {α : Type} (xs : List α) (lo hi : Option Int) : (cutA xs lo hi).length ≤ xs.length := by
  unfold cutA
  rw [List.length_take, List.length_drop]
  omega
theorem cut_whole {α : Type} {xs : List α} {lo hi : Option Int} (h : HT.sIx xs.length 0 lo = 0 ∧ HT.sIx xs.length xs.length hi = xs.length) : cutA xs lo hi = xs := by
  unfold cutA
  rw [h.1, h.2]
  simp
theorem cut_map {α β : Type} (f : α → β) (xs : List α) (lo hi : Option Int) : cutA (xs.map f) lo hi = (cutA xs lo hi).map f := by
  unfold cutA
  rw [List.length_map, List.map_take, List.map_drop]
theorem sl_ok : SlR X (fun x lo hi H Q => ∃ ro μ h v, RelH (wd X ca E) ro μ h H ∧ Den X.K μ H v x ∧ postG (dV (wd X ca E)) (wd X ca E) ro μ H (slA v lo hi h) Q) := by
  intro pins s σ H x v vl vu lo hi sl Q I rx hs pl pu ⟨ro, μ, h, ax, R, d, p⟩
  cases d with
  | @tup a vs ys sq dl =>
    have p' : postG (dV (wd X ca E)) (wd X ca E) ro μ H (.ok (.tup (cutA ys lo hi)) h) Q := p
    refine sl_tupA pins s σ H _ v vl vu lo hi sl Q I rx hs pl pu ⟨a, vs, rfl, sq, fun z => ?_, fun z c hc => ?_⟩
    · rw [← dl.length] at z
      rw [cut_whole z] at p'
      exact p'.val R (.tup sq dl)
    · exact p' μ _ _ (Step.laid hc) (R.laid hc) (.tup (SqT.of upd_same) (R.denL (Step.laid hc) (den_cut dl lo hi)))
  | @obj n a hn =>
    obtain ⟨o, ho, r1⟩ := R.there hn
    unfold slA at p
    dsimp only at p
    rw [ho] at p
    cases o with
    | lst ys =>
      obtain ⟨hz, vs, hv, dl⟩ := r1
      obtain ⟨_, q⟩ := postG.alloc R p
      exact sl_list pins s σ H _ v vl vu lo hi sl Q I rx hs pl pu ⟨a, vs, rfl, SqL.of hv, fun c hc => q c _ hc ⟨Nat.le_trans (cut_len _ _ _) hz, _, upd_same, R.denL (Step.laid hc) (den_cut dl lo hi)⟩⟩
    | fz ns =>
      obtain ⟨ob, hv⟩ := r1
      obtain ⟨_, q⟩ := postG.alloc R p
      have sq : SqL X.K H a (ns.map V.int) := .inl (.inr ⟨ob, hv⟩)
      obtain ⟨_, _, _, hz⟩ := I.list sq
      rw [List.length_map] at hz
      refine sl_list pins s σ H _ v vl vu lo hi sl Q I rx hs pl pu ⟨a, _, rfl, sq, fun c hc => q c _ hc ⟨by rw [List.length_map]; exact Nat.le_trans (cut_len _ _ _) hz, _, upd_same, R.denL (Step.laid hc) ?_⟩⟩
      have := den_cut (den_ints (K := X.K) (μ := μ) (H := H) ns) lo hi
      rw [cut_map] at this
      exact this
    | _ => exact False.elim p
  | _ => exact False.elim p
theorem sim_sl {lo hi : Option Expr} {ml mh : Loc' → AH → R (Option Int)} (ha : SimE X (wd X ca E) a ma) (hl : SimO X (wd X ca E) lo ml) (hh : SimO X (wd X ca E) hi mh) : SimE X (wd X ca E) (.Subscript a (.Slice lo hi none p2) pos) (fun l h => (ma l h).bind fun x h1 => (ml l h1).bind fun v h2 => (mh l h2).bind fun w h3 => slA x v w h3) :=
  PE.weaken (pe_slice sl_ok ha hl hh) fun σ H Q ⟨ro, μ, l, h, A, q⟩ => ⟨ro, μ, l, h, A, (bindP (dV _) A q).imp fun w H1 ⟨μ1, v, h1, A1, d1, st1, q1⟩ => ⟨ro, μ1, l, h1, A1, (bindP dO A1 q1).imp fun i H2 ⟨μ2, i', h2, A2, d2, st2, q2⟩ => ⟨ro, μ2, l, h2, A2, (bindP dO A2 q2).imp fun j H3 ⟨μ3, j', h3, A3, d3, st3, q3⟩ => by
    cases d2
    cases d3
    exact ⟨ro, μ3, h3, v, A3.R, A1.R.den (st2.trans st3) d1, q3⟩⟩⟩⟩
end
end Ev
set_option Elab.async false
set_option linter.all false
set_option maxRecDepth 100000
set_option maxHeartbeats 4000000
/-! what is walked: enumerate of a tuple, the keys of a locked dict -/
namespace Ev
open PySem PySem.Spec PyProof.Rows L2
open AutoSeq1 (wpAny_loadPart')
theorem enumT_new {v : Value} {o : Obj} {G : Heap → Prop} (B : Begins v o G) :
    Meets (Builtin.«enumerate.__new__» ⟨[.type "enumerate", v], []⟩) (fun _ R s => G s.heap ∧
      R (.ok (.ret (.ref (s.heap.push o).objs.size))) { s with heap := (s.heap.push o).push { cls := .type "enumerate", data := .fields #[.none, .bool false, .ref s.heap.objs.size, rawInt 0, .none, .none] } }) :=
  .of_wp fun prog w A R s h => by
    obtain ⟨hp, g, d, tk, os⟩ := s
    obtain ⟨h1, h⟩ := h
    have hsub := sub_enumerate
    have q1 : ∀ {A' : Around} {E : Value → Shared → Prop} {Q : Value → Shared → Prop}, Q (.ref hp.objs.size) ⟨hp.push o, g, d, tk, os⟩ → wpAny (model prog w) A' (pyIter v) Q E ⟨hp, g, d, tk, os⟩ :=
      fun q => B.iter prog w _ _ ⟨hp, g, d, tk, os⟩ _ h1 q
    wp_walk using q1
    refine wpAny_stack_any fun st => wpAny_pure ?_
    split
    · rename_i c _ _ _ _ _
      cases (c == Value.type "enumerate") <;> (wp_walk using q1; exact ⟨_, rfl, h⟩)
    · wp_walk using q1
      exact ⟨_, rfl, h⟩
section
variable {prog : Program} {w : World} {A : Around} {E : Value → Shared → Prop} {s : Shared}
theorem enumT_call {l : Addr} {items : Array Value} {Q : Value → Shared → Prop} (hL : s.heap.IsTuple l items)
    (h : ∀ h', IsEnum h' (s.heap.objs.size + 1) s.heap.objs.size 0 .none → h'.IsTupleIter s.heap.objs.size l 0 → (∀ b o, s.heap.get? b = some o → h'.get? b = some o) → Q (.ref (s.heap.objs.size + 1)) { s with heap := h' }) :
    wpAny (model prog w) A (call (.type "enumerate") [.ref l]) Q E s := by
  refine callType_new F.called_enumerate (by decide) (F.typeCall_enumerate_1 _) (F.newCall_enumerate_1 _) (fun obj => F.args_object_init_2 obj _) F.entry_enumerate_new (enumT_new (begins_tuple l items)) ⟨hL, ?_⟩
  generalize ho : ({ cls := .type "tuple_iterator", data := .fields #[.ref l, .int 0 0] } : Obj) = o
  have hz : (s.heap.push o).objs.size = s.heap.objs.size + 1 := Heap.size_push ..
  show _ ∧ _
  rw [hz]
  have he : IsEnum ((s.heap.push o).push { cls := .type "enumerate", data := .fields #[.none, .bool false, .ref s.heap.objs.size, rawInt 0, .none, .none] }) (s.heap.objs.size + 1) s.heap.objs.size 0 .none := by
    have z := Heap.get?_push_size (s.heap.push o) (o := { cls := .type "enumerate", data := .fields #[.none, .bool false, .ref s.heap.objs.size, rawInt 0, .none, .none] }) rfl
    rw [hz] at z
    exact z
  refine ⟨⟨_, he, rfl⟩, h _ he ⟨o, Heap.get?_push_of_some _ (Heap.get?_push_size _ (by rw [← ho]; rfl)), by rw [← ho], by rw [← ho]; rfl⟩ fun b ob x => Heap.get?_push_of_some _ (Heap.get?_push_of_some _ x)⟩
theorem enT_end {e it l : Addr} {i : Nat} {c : Int} {items : Array Value} {old : Value} {Q : Option Value → Shared → Prop} (hh : A.handled = none) (he : IsEnum s.heap e it c old) (hit : s.heap.IsTupleIter it l i) (ht : s.heap.IsTuple l items) (hx : items[i]? = none)
    (hQ : ∀ h', Heap.ExtBut it s.heap h' → Q none { s with heap := h' }) : wpAny (model prog w) A (pyNext (.ref e)) Q E s := by
  have hT : s.TypeIs (.ref e) "enumerate" := ⟨_, he, rfl⟩
  unfold pyNext
  refine wpAny_bind (wpAny_attempt (wpAny_callSpecial?_slot (name := Str.ofString "__next__") hT F.slot_enumerate_next
    (wpAny_call_entry F.slot_enumerate_next hT F.entry_enumerate_next ?_ (F.args_enumerate_next_1 _))))
  show wpAny _ _ (field (.ref e) 2 >>= _) _ _ _
  refine wpAny_bind (wpAny_field he rfl (x := .ref it) rfl (wpAny_bind (wpAny_nextOf_tuple_end (A := A.in1) hh hit ht hx fun h' x he' hx' => ?_)))
  obtain ⟨o, ho, hc⟩ := hx'
  exact wpAny_bind (wpAny_isInstance (T := "StopIteration") (b := true) ⟨o, ho, hc⟩ isSubtype_stop (wpAny_pure (hQ _ he')))
end
/-- the tuple at a, each item with its number in a new pair -/
def Iet (K : PySem.W.Frag) (a : Addr) : L2.It :=
  ⟨fun i H => ∃ (xs : List V) (x : V), SqT K H a xs ∧ xs[i]? = some x, fun i H v H' => ∃ T x, v = .ref T ∧ H T = none ∧ H' = upd H T (.tup [.int (i : Nat), x]) ∧ ∀ xs, SqT K H a xs → xs[i]? = some x, fun i H => ∃ xs : List V, SqT K H a xs ∧ xs.length ≤ i⟩
theorem turn_enT {P : Program} {w : World} {K : PySem.W.Frag} {elts : List Expr} {kk : Nat} {tpos : Pos} (a e it : Addr) :
    Turn P w K (.Tuple elts kk tpos) (Iet K a) [e, it] e (fun i h => (∃ old, IsEnum h e it ((i : Nat) : Int) old) ∧ h.IsTupleIter it a i ∧ e ≠ it ∧ a ≠ it ∧ e ≠ a) where
  mem := by simp
  obj := fun i h st b hb => by
    obtain ⟨⟨old, he⟩, ⟨o, ho, hc, hd⟩, _⟩ := st
    rcases (by simpa using hb : b = e ∨ b = it) with z | z
    · rw [z]; exact ⟨_, he, fun v q => nomatch q⟩
    · rw [z]; exact ⟨o, ho, fun v q => by rw [hd] at q; cases q⟩
  keep := fun i h h' st k => let ⟨⟨old, he⟩, hi, hne⟩ := st; ⟨⟨old, k e (by simp) _ he⟩, hi.at fun o q => k it (by simp) o q, hne⟩
  item := by
    intro X hP hw hK hc i pins s σ H E I hf st hg
    subst hP hw hK
    obtain ⟨⟨old, he⟩, hit, hne, hai, hea⟩ := st
    obtain ⟨xs, x, hq, hx⟩ := hg
    obtain ⟨its, rv, p, hz⟩ := I.tuple hq
    obtain ⟨u, hu, ru⟩ := rv.get hx
    have hel : e < s.heap.objs.size := Heap.lt_size he
    have hil : it < s.heap.objs.size := by obtain ⟨_, q, _⟩ := hit; exact Heap.lt_size q
    have hlt : i < its.toArray.size := by rw [List.size_toArray]; exact (List.getElem?_eq_some_iff.mp hu).1
    refine wpAny_pyNext_enum_itemC (Draws.tuple (A := X.A.in1) (I.ok.hd hc) it a hai its.toArray) he ⟨hit, p⟩ hlt hne (by simp; exact ⟨hne, hea⟩) fun y h' tk hy ho hst hT hsz hk => ?_
    have hy' : y = u := by rw [← Array.getElem?_toList, List.toList_toArray, hu] at hy; exact (Option.some.inj hy).symm
    subst hy'
    refine ⟨_, rfl, wpAny_letOwnedTupleGo_enum (s := { s with heap := h', toks := tk + 1 }) ho fun h'' he' sb => ?_⟩
    have hT2 : h''.get? s.heap.objs.size = some { cls := .type "tuple", data := .seq #[.int i tk, y] } := (sb.2 _ (Nat.ne_of_gt hel)).trans hT
    have new : ObjOk X.prog X.w (upd H s.heap.objs.size (.tup [.int (i : Nat), x])) h'' s.heap.objs.size (.tup [.int (i : Nat), x]) :=
      ⟨by show 2 ≤ sizeLine; decide, [.int i tk, y], .cons ⟨_, rfl⟩ (.cons ru .nil), ⟨_, hT2, rfl, _, rfl⟩⟩
    have I1 : Inv X pins σ (upd H s.heap.objs.size (.tup [.int (i : Nat), x])) { s with heap := h'', toks := tk + 1 } :=
      I.turnedNew (ch := [e, it]) (fun b ob hb q => (sb.2 b (fun z => hb (by simp [z]))).trans (hk b ob (fun z => hb (by simp [z])) (fun z => hb (by simp [z])) q)) hf (Nat.le_refl _) new
    refine ⟨.ref s.heap.objs.size, _, I1, rfl, ⟨_, x, rfl, I.hok.fresh (Nat.le_refl _), rfl, fun ys hy => by rw [I.tuple_inj hy hq]; exact hx⟩, ⟨⟨y, ?_⟩, hst.1.at fun o q => (sb.2 it (Ne.symm hne)).trans q, hne, hai, hea⟩, fun b hb => ?_⟩
    · have e1 : ((i + 1 : Nat) : Int) = (i : Int) + 1 := by omega
      rw [e1]; exact he'
    · have hb' : b < s.heap.objs.size := by
        rcases (by simpa using hb : b = e ∨ b = it) with z | z
        · rw [z]; exact hel
        · rw [z]; exact hil
      rw [upd_ne (Nat.ne_of_lt hb')]
      exact (hf b hb).1
  done := by
    intro X hP hw hK hc i pins s σ H E I hf st hg
    subst hP hw hK
    obtain ⟨⟨old, he⟩, hit, hne, hai, hea⟩ := st
    obtain ⟨xs, hq, hx⟩ := hg
    obtain ⟨its, rv, p, hz⟩ := I.tuple hq
    obtain ⟨f0, f1, f2, f3, f4, f5⟩ := hf it (by simp)
    have hl := rv.length
    refine enT_end (I.ok.hd hc) he hit p (by simp; omega) fun h' eb => ⟨rfl, I.turned (t' := s.toks) (fun b o hb q => eb b o hb q) f0 f1 f3 f4 f5⟩
  self := fun A i s Q E st h => let ⟨⟨_, he⟩, _⟩ := st; wpAny_pyIter_enum he h
theorem pi_enT {X : Cx} {e : Expr} {ta : TA} {p pos tpos : Pos} {elts : List Expr} {kk : Nat} (hg : Gl X "enumerate") (hm : X.mg "enumerate" = none) (ha : PA X [e] ta) (hs : starEach [e] X.env = [(false, eval e X.env)]) :
    PI X (.Tuple elts kk tpos) (.Call (.Name "enumerate" p) [e] [] pos) (fun σ H R => ta σ H fun vs H1 => ∃ a xs, vs = [.ref a] ∧ ((SqL X.K H1 a xs ∧ R (Ite X.K a) H1) ∨ (SqT X.K H1 a xs ∧ R (Iet X.K a) H1))) := by
  refine ⟨fun pins s σ H R I h => ?_⟩
  refine Call_ (ld_blt I hg hm boot_enumerate (PyProof.Rows.callWith_type1 (thn (ha.run pos pins s σ H _ I h) fun us s1 ⟨vs, H1, I1, r1, q1⟩ => ?_) hs rfl))
  obtain ⟨a, xs, ex, q1⟩ := q1
  subst ex
  obtain ⟨u, rfl, ru⟩ := r1.one
  cases ru
  have fp : ∀ b ∈ [s1.heap.objs.size + 1, s1.heap.objs.size], FpOk X pins H1 b := fun b hb => by
    have hle : s1.heap.objs.size ≤ b := by
      rcases (by simpa using hb : b = s1.heap.objs.size + 1 ∨ b = s1.heap.objs.size) with z | z
      · rw [z]; exact Nat.le_add_right _ _
      · rw [z]; exact Nat.le_refl _
    exact I1.fpOk hle (I1.hok.fresh hle)
  rcases q1 with ⟨hq, q⟩ | ⟨hq, q⟩
  · obtain ⟨its, rv, p', hz⟩ := I1.list hq
    refine call_enumerate_list p'.isList fun h' he hit hsz hk => wpAny_pyIter_enum he ?_
    exact ⟨s1.heap.objs.size + 1, [s1.heap.objs.size + 1, s1.heap.objs.size], _, _, H1, rfl, I1.kept (t' := s1.toks) hk, turn_enum a (s1.heap.objs.size + 1) s1.heap.objs.size, ⟨⟨.none, he⟩, hit, Nat.succ_ne_self _⟩, fp, q⟩
  · obtain ⟨its, rv, p', hz⟩ := I1.tuple hq
    have hal : a < s1.heap.objs.size := p'.lt
    refine enumT_call (show s1.heap.IsTuple a its.toArray from p') fun h' he hit hk => wpAny_pyIter_enum he ?_
    exact ⟨s1.heap.objs.size + 1, [s1.heap.objs.size + 1, s1.heap.objs.size], _, _, H1, rfl, I1.kept (t' := s1.toks) hk, turn_enT a (s1.heap.objs.size + 1) s1.heap.objs.size, ⟨⟨.none, he⟩, hit, Nat.succ_ne_self _, Nat.ne_of_lt hal, Nat.ne_of_gt (Nat.lt_succ_of_lt hal)⟩, fp, q⟩
/-! ### the keys of a locked dict -/
def Idk (P : Program) (w : World) (d : Addr) (o : Obj) (xs : List (NestedKey × Addr × Value)) : L2.It :=
  ⟨fun i H => H d = some (.frz o (DO P w d xs)) ∧ i < xs.length, fun i H v H' => H' = H ∧ ∃ y, xs[i]? = some y ∧ v = .ref y.2.1, fun i H => H d = some (.frz o (DO P w d xs)) ∧ xs.length ≤ i⟩
theorem frz_raw {X : Cx} {pins : List (Addr × Obj)} {σ : L2.St} {H : Hp} {s : Shared} {d : Addr} {o : Obj} {xs : List (NestedKey × Addr × Value)} (I : Inv X pins σ H s) (h : H d = some (.frz o (DO X.prog X.w d xs))) :
    s.heap.get? d = some o ∧ o.ExactDict ∧ ∃ es ep, o.data = .dict es ep ∧ es.size = xs.length ∧ ∀ i : Nat, es[i]? = (xs[i]?).map (entryOfKey (nestedKind X.prog X.w)) := by
  obtain ⟨h1, ⟨o', es, ep, h2, h3, h4, h5, _⟩, _⟩ := I.hok d _ h
  rw [h1] at h2
  cases h2
  refine ⟨h1, h3, es, ep, h4, ?_, fun i => ?_⟩
  · have := congrArg List.length h5
    rw [Array.length_toList, List.length_map] at this
    exact this
  · rw [← Array.getElem?_toList, h5, List.getElem?_map]
theorem turn_dk {P : Program} {w : World} {K : PySem.W.Frag} {tg : Expr} {n ep : Nat} {es : Array DictEntry} {o : Obj} {xs : List (NestedKey × Addr × Value)} (d it : Addr) (hd : o.data = .dict es ep) (hn : es.size = n) : Turn P w K tg (Idk P w d o xs) [it] it (fun i h => h.IsKeyIter it d i n ep) where
  mem := by simp
  obj := fun i h st b hb => by
    have e : b = it := by simpa using hb
    subst e
    obtain ⟨o, e, c, d⟩ := st
    exact ⟨o, e, fun v z => by rw [d] at z; cases z⟩
  keep := fun i h h' st k => by
    obtain ⟨o, e, c⟩ := st
    exact ⟨o, k it (by simp) o e, c⟩
  item := by
    intro X hP hw hK hc i pins s σ H E I hf st hg
    subst hP hw hK
    obtain ⟨h1, h2⟩ := hg
    obtain ⟨f0, f1, f2, f3, f4, f5⟩ := hf it (by simp)
    obtain ⟨g1, g2, es', ep', g3, g4, g5⟩ := frz_raw I h1
    rw [hd] at g3
    cases g3
    obtain ⟨y, hy⟩ : ∃ y, xs[i]? = some y := ⟨xs[i], by simp [h2]⟩
    have g6 := g5 i
    rw [hy] at g6
    refine next_key_item st g1 hd hn g6 fun h' st' sb => ?_
    have I1 : Inv X pins σ H { s with heap := h' } := I.turned (t' := s.toks) (fun b o hb e => (sb.2 b hb).trans e) f0 f1 f3 f4 f5
    obtain ⟨oi, e, c, dd⟩ := id st'
    exact ⟨_, rfl, go_of (s := { s with heap := h' }) e c dd (by decide) ⟨.ref y.2.1, H, I1, rfl, ⟨rfl, y, hy, rfl⟩, st', fun b hb => (hf b hb).1⟩⟩
  done := by
    intro X hP hw hK hc i pins s σ H E I hf st hg
    subst hP hw hK
    obtain ⟨h1, h2⟩ := hg
    obtain ⟨f0, f1, f2, f3, f4, f5⟩ := hf it (by simp)
    obtain ⟨g1, g2, es', ep', g3, g4, g5⟩ := frz_raw I h1
    rw [hd] at g3
    cases g3
    exact next_key_end (I.ok.hd hc) st g1 hd hn (by rw [← hn, g4]; exact h2) fun h' eb => ⟨rfl, I.turned (t' := s.toks) (fun b o hb e => eb b o hb e) f0 f1 f3 f4 f5⟩
  self := fun _ _ _ _ _ st h => wpAny_pyIter_keyiter st h
theorem pi_dk {X : Cx} {tg e : Expr} {td : TE} (he : PE X e td) : PI X tg e (fun σ H R => td σ H fun v H1 => ∃ d o xs, v = .ref d ∧ (d == sysModules) = false ∧ H1 d = some (.frz o (DO X.prog X.w d xs)) ∧ R (Idk X.prog X.w d o xs) H1) := by
  refine ⟨fun pins s σ H R I h => thn (he.run pins s σ H _ I h) fun u s1 ⟨v, H1, I1, r1, d, o, xs, ev, hS, hd, q⟩ => ?_⟩
  subst ev
  cases r1
  obtain ⟨g1, g2, es, ep, g3, g4, g5⟩ := frz_raw I1 hd
  refine wpAny_pyIter_dict_raw hS ⟨o, g1, g2, g3⟩ ?_
  have hle : s1.heap.objs.size ≤ s1.heap.objs.size := Nat.le_refl _
  exact ⟨s1.heap.objs.size, [s1.heap.objs.size], _, _, H1, rfl, I1.kept (t' := s1.toks) fun b o z => Heap.get?_push_of_some _ z, turn_dk d s1.heap.objs.size g3 rfl, ⟨_, Heap.get?_push_size _ rfl, rfl, rfl⟩, fun b hb => by
    have e : b = s1.heap.objs.size := by simpa using hb
    subst e
    exact I1.fpOk hle (I1.hok.fresh hle), q⟩
end Ev
set_option Elab.async false
set_option linter.all false
set_option maxRecDepth 100000
set_option maxHeartbeats 4000000
/-! dicts with tuple keys: stored, displayed, comprehended -/
namespace Ev
open PySem PySem.Spec PyProof.Rows L2
theorem do_ok {P : Program} {w : World} {H : Hp} {h : Heap} {a : Addr} {ys : List (NestedKey × Addr × Value)} (d : h.DictOfH (nestedKind P w) a ys) : ObjOk P w H h a (DO P w a ys) := by
  obtain ⟨o, es, ep, h1, h2, h3, h4, _, h5⟩ := d
  exact ⟨⟨o, es, ep, h1, h2, h3, h4, h5⟩, ⟨o, h1⟩, fun g1 g2 ⟨o, es, ep, q1, q2⟩ k => ⟨o, es, ep, k o q1, q2⟩⟩
theorem put_none {k : NestedKey} {v : Value} : ∀ {xs : List (NestedKey × Addr × Value)}, k ∉ xs.map (·.1) → xs.map (putAt k v) = xs
  | [], _ => rfl
  | x :: xs, h => by
    rw [List.map_cons, List.mem_cons, not_or] at h
    rw [List.map_cons, put_none h.2]
    have : x.1 ≠ k := fun e => h.1 e.symm
    simp [putAt, this]
theorem stored_cons {k : NestedKey} {b : Addr} {v : Value} {x : NestedKey × Addr × Value} {xs : List (NestedKey × Addr × Value)} (hn : ((x :: xs).map (·.1)).Nodup) : storedH (x :: xs) k b v = if x.1 = k then (x.1, x.2.1, v) :: xs else x :: storedH xs k b v := by
  rw [List.map_cons, List.nodup_cons] at hn
  by_cases e : x.1 = k
  · rw [if_pos e]
    have h1 : (atKey (x :: xs) k).isSome = true := by simp [atKey, e]
    unfold storedH
    rw [if_pos h1, List.map_cons, put_none (by rw [← e]; exact hn.1)]
    simp [putAt, e]
  · rw [if_neg e]
    have h1 : atKey (x :: xs) k = atKey xs k := by simp [atKey, e]
    unfold storedH
    rw [h1]
    have h2 : putAt k v x = x := by simp [putAt, e]
    split
    · rw [List.map_cons, h2]
    · rfl
theorem dput_rel {K : PySem.W.Frag} {μ : Mu} {H : Hp} {k : NestedKey} {ky z : AV} {b : Addr} {y : V} {v : Value} (hk : AV.tkey ky = some k) (dk : Den K μ H ky (.ref b)) (dz : Den K μ H z y) (rv : RelV y v) : ∀ {kvs : List (AV × AV)} {xs : List (NestedKey × Addr × Value)}, Paired (RelKv K μ H) kvs xs → (xs.map (·.1)).Nodup → Paired (RelKv K μ H) (dput k ky z kvs) (storedH xs k b v)
  | _, _, .nil, _ => .cons ⟨hk, dk, y, rv, dz⟩ .nil
  | _, _, @Paired.cons _ _ _ p x kvs xs r t, hn => by
    obtain ⟨a, av⟩ := p
    obtain ⟨q1, q2, q3⟩ := r
    rw [stored_cons hn]
    show Paired (RelKv K μ H) (match AV.tkey a with | some k' => (match decide (k' = k) with | true => (a, z) :: kvs | false => (a, av) :: dput k ky z kvs) | none => (a, av) :: kvs) _
    dsimp only at q1
    rw [q1]
    dsimp only
    by_cases e : x.1 = k
    · rw [decide_eq_true e, if_pos e]
      exact .cons ⟨q1, q2, y, rv, dz⟩ t
    · rw [decide_eq_false e, if_neg e]
      rw [List.map_cons, List.nodup_cons] at hn
      exact .cons ⟨q1, q2, q3⟩ (dput_rel hk dk dz rv t hn.2)
theorem dput_len {k : NestedKey} {ky z : AV} : ∀ kvs : List (AV × AV), (dput k ky z kvs).length ≤ kvs.length + 1
  | [] => Nat.le_refl _
  | (a, u) :: r => by
    show (match AV.tkey a with | some k' => (match decide (k' = k) with | true => (a, z) :: r | false => (a, u) :: dput k ky z r) | none => (a, u) :: r).length ≤ _
    cases AV.tkey a with
    | none => simp
    | some k' =>
      dsimp only
      cases decide (k' = k) with
      | true => simp
      | false => simp only [List.length_cons]; have := dput_len (k := k) (ky := ky) (z := z) r; omega
section
variable {X : Cx} {ca : Ca} {E : XK}
theorem do_nodup {pins : List (Addr × Obj)} {σ : L2.St} {H : Hp} {s : Shared} {a : Addr} {xs : List (NestedKey × Addr × Value)} (I : Inv X pins σ H s) (h : H a = some (DO X.prog X.w a xs)) : (xs.map (·.1)).Nodup := by
  obtain ⟨⟨_, _, _, _, _, _, _, h5⟩, _⟩ := I.hok a _ h
  exact h5
/-- a store into the dict at D -/
theorem do_set {A : Around} {pins : List (Addr × Obj)} {σ : L2.St} {H : Hp} {s : Shared} {D : Addr} {μ : Mu} {kvs : List (AV × AV)} {xs : List (NestedKey × Addr × Value)} {k : NestedKey} {ky : AV} {y : V} {u r : Value} {Q : Unit → Shared → Prop} {EE : Value → Shared → Prop} (hu : A.units + 9 < cLine) (I : Inv X pins σ H s) (hD : H D = some (DO X.prog X.w D xs)) (pk : Paired (RelKv X.K μ H) kvs xs) (hz : kvs.length ≤ sizeLine)
    (hk : AV.tkey ky = some k) (dk : Den X.K μ H ky y) (ry : RelV y u) (q : ∀ b s', y = .ref b → Inv X pins σ (upd H D (DO X.prog X.w D (storedH xs k b r))) s' → Q () s') : wpAny (model X.prog X.w) A (dictSet D u r) Q EE s := by
  obtain ⟨b, eb, kb⟩ := tkey_is I dk hk ry
  subst eb
  have ey : y = .ref b := by
    cases y <;> first | (cases (show _ = _ from ry); rfl) | (obtain ⟨t, e⟩ := ry; cases e) | cases ry
  have dm := dict_is (rw := true) I (.inl hD) pk
  refine wpAny_dictSet_heap (hsz := by have : kvs.length = xs.length := Paired.length pk; omega) (show (nestedKind X.prog X.w).room A by show A.units + 8 < cLine; omega) kb dm fun h' dm' hs => q b _ ey ?_
  have he : ∃ q, h'.get? D = some q := let ⟨q, _, _, hq, _⟩ := dm'; ⟨q, hq⟩
  exact d_write I (by rw [hD]; exact True.intro) hs he (do_ok dm')
theorem do_item {A : Around} {pins : List (Addr × Obj)} {σ : L2.St} {H : Hp} {s : Shared} {D : Addr} {μ : Mu} {kvs : List (AV × AV)} {xs : List (NestedKey × Addr × Value)} {k : NestedKey} {ky : AV} {y : V} {u r : Value} {Q : Unit → Shared → Prop} {EE : Value → Shared → Prop} (hu : A.units + 10 < cLine) (I : Inv X pins σ H s) (hD : H D = some (DO X.prog X.w D xs)) (pk : Paired (RelKv X.K μ H) kvs xs) (hz : kvs.length ≤ sizeLine)
    (hk : AV.tkey ky = some k) (dk : Den X.K μ H ky y) (ry : RelV y u) (q : ∀ b s', y = .ref b → Inv X pins σ (upd H D (DO X.prog X.w D (storedH xs k b r))) s' → Q () s') : wpAny (model X.prog X.w) A (setItem (.ref D) u r) Q EE s := by
  obtain ⟨b, eb, kb⟩ := tkey_is I dk hk ry
  subst eb
  have ey : y = .ref b := by
    cases y <;> first | (cases (show _ = _ from ry); rfl) | (obtain ⟨t, e⟩ := ry; cases e) | cases ry
  have dm := dict_is (rw := true) I (.inl hD) pk
  refine wpAny_setItem_heap (hsz := by have : kvs.length = xs.length := Paired.length pk; omega) (show (nestedKind X.prog X.w).room A.in1 by show A.units + 1 + 8 < cLine; omega) kb dm fun h' dm' hs => q b _ ey ?_
  have he : ∃ q, h'.get? D = some q := let ⟨q, _, _, hq, _⟩ := dm'; ⟨q, hq⟩
  exact d_write I (by rw [hD]; exact True.intro) hs he (do_ok dm')
/-- the machine's dict is rewritten -/
theorem dct_put {ro : Nat} {μ : Mu} {h : AH} {H : Hp} {n : Nat} {D b : Addr} {kvs : List (AV × AV)} {xs : List (NestedKey × Addr × Value)} {k : NestedKey} {ky z : AV} {y : V} {v : Value} {W : Wd} (R : RelH W ro μ h H) (hn : μ n = some D) (ho : h.get n = some (.dct kvs)) (hS : (D == sysModules) = false) (hb : H D = some (DO W.P W.w D xs)) (pk : Paired (RelKv W.K μ H) kvs xs) (nd : (xs.map (·.1)).Nodup) (hr : ro ≤ n) (hz : kvs.length < sizeLine)
    (hk : AV.tkey ky = some k) (dk : Den W.K μ H ky (.ref b)) (dz : Den W.K μ H z y) (rv : RelV y v) :
    Step ro μ H μ (upd H D (DO W.P W.w D (storedH xs k b v))) ∧ RelH W ro μ (h.set n (.dct (dput k ky z kvs))) (upd H D (DO W.P W.w D (storedH xs k b v))) := by
  have st : Step ro μ H μ (upd H D (DO W.P W.w D (storedH xs k b v))) := Step.write hn hr
  refine ⟨st, R.write hn hr ho (by rw [hb]; unfold DO; intro e; cases e) ⟨hS, ?_, _, .inl upd_same, ?_⟩⟩
  · have := dput_len (k := k) (ky := ky) (z := z) kvs; omega
  · exact Paired.mono' (dput_rel hk dk dz rv pk nd) fun p x ⟨q1, q2, u, q3, q4⟩ => ⟨q1, R.den st q2, u, q3, R.den st q4⟩
end
end Ev
set_option Elab.async false
set_option linter.all false
set_option maxRecDepth 100000
set_option maxHeartbeats 4000000
/-! walks and comprehensions -/
namespace Ev
open PySem PySem.Spec PyProof.Rows L2

/-- what is walked, as the layer walks it -/
inductive SrcR (W : Wd) (ro : Nat) (μ : Mu) (H : Hp) : Src → L2.It → Prop
  | tp {a : Addr} {vs : List V} {xs : List AV} : SqT W.K H a vs → DenL W.K μ H xs vs → SrcR W ro μ H (.tp xs) (Itt W.K a)
  | ob {n : Nat} {a : Addr} : μ n = some a → SrcR W ro μ H (.ob n) (Itl W.K a)
  | ent {a : Addr} {vs : List V} {xs : List AV} : SqT W.K H a vs → DenL W.K μ H xs vs → SrcR W ro μ H (.ent xs) (Iet W.K a)
  | enl {n : Nat} {a : Addr} : μ n = some a → SrcR W ro μ H (.enl n) (Ite W.K a)
  | zpt {a b : Addr} {vs us : List V} {xs ys : List AV} : SqT W.K H a vs → DenL W.K μ H xs vs → SqT W.K H b us → DenL W.K μ H ys us → SrcR W ro μ H (.zpt xs ys) (RZ.ItzT W.K a b)
  | zpl {n m : Nat} {a b : Addr} : μ n = some a → μ m = some b → SrcR W ro μ H (.zpl n m) (Itz W.K a b)
  | rg (n : Nat) : SrcR W ro μ H (.rg n) (Itr 0 n)
  | tpc (lo c : Int) (n : Nat) : SrcR W ro μ H (.tp ((List.range n).map fun k => .int (lo + (k : Nat) * c))) (Itc lo c n)
  | dk {n : Nat} {d : Addr} {o : Obj} {ks : List AV} {xs : List (NestedKey × Addr × Value)} : H d = some (.frz o (DO W.P W.w d xs)) → (∀ n, ro ≤ n → μ n ≠ some d) → DenL W.K μ H ks (xs.map fun x => V.ref x.2.1) → SrcR W ro μ H (.dk n ks) (Idk W.P W.w d o xs)
section
variable {W : Wd} {ro : Nat} {μ μ' : Mu} {h : AH} {H H' : Hp} {s : Src} {J : L2.It}
theorem SrcR.step (r : SrcR W ro μ H s J) (R : RelH W ro μ h H) (st : Step ro μ H μ' H') : SrcR W ro μ' H' s J := by
  cases r with
  | tp q d => exact .tp (R.sq st q) (R.denL st d)
  | ob q => exact .ob (st.ext _ _ q)
  | ent q d => exact .ent (R.sq st q) (R.denL st d)
  | enl q => exact .enl (st.ext _ _ q)
  | zpt q d q' d' => exact .zpt (R.sq st q) (R.denL st d) (R.sq st q') (R.denL st d')
  | zpl q q' => exact .zpl (st.ext _ _ q) (st.ext _ _ q')
  | rg n => exact .rg n
  | tpc lo c n => exact .tpc lo c n
  | dk q f d => exact .dk (st.frm _ _ f (fun ps z => by cases z) q) (fun n hn e => by
      rcases st.new n _ e with z | z
      · exact f n hn z
      · rw [q] at z; cases z) (R.denL st d)
theorem SrcR.to (r : SrcR W ro μ H s J) (E : XK) : SrcR (W.to E) ro μ H s J := by
  cases r with
  | tp q d => exact .tp (W := W.to E) q d
  | ob q => exact .ob (W := W.to E) q
  | ent q d => exact .ent (W := W.to E) q d
  | enl q => exact .enl (W := W.to E) q
  | zpt q d q' d' => exact .zpt (W := W.to E) q d q' d'
  | zpl q q' => exact .zpl (W := W.to E) q q'
  | rg n => exact .rg (W := W.to E) n
  | tpc lo c n => exact .tpc (W := W.to E) lo c n
  | dk q f d => exact .dk (W := W.to E) q f d
theorem RelH.lst (R : RelH W ro μ h H) {n : Nat} {a : Addr} {xs : List AV} (e : μ n = some a) (g : h.get n = some (.lst xs)) : ∃ vs, SqL W.K H a vs ∧ DenL W.K μ H xs vs := by
  obtain ⟨o, q, r⟩ := R.there e
  rw [g] at q; cases q
  obtain ⟨_, vs, hv, d⟩ := r
  exact ⟨vs, .inl (.inl hv), d⟩
theorem getE {xs : List AV} {vs : List V} {i : Nat} (d : DenL W.K μ H xs vs) (e : xs[i]? = none) : vs.length ≤ i := by
  rw [← d.length]; simpa using e
/-- a turn -/
theorem SrcR.go (r : SrcR W ro μ H s J) (R : RelH W ro μ h H) {i : Nat} {x : AV} (e : s.at h i = some (some x)) : J.go i H ∧ ∀ v H', J.yld i H v H' → Step ro μ H μ H' ∧ RelH W ro μ h H' ∧ Den W.K μ H' x v := by
  have same : ∀ {v : V}, Den W.K μ H x v → Step ro μ H μ H ∧ RelH W ro μ h H ∧ Den W.K μ H x v := fun d => ⟨Step.refl, R, d⟩
  have pair : ∀ {y z : AV} {u v : V} {T : Addr}, x = .tup [y, z] → Den W.K μ H y u → Den W.K μ H z v → H T = none → Step ro μ H μ (upd H T (.tup [u, v])) ∧ RelH W ro μ h (upd H T (.tup [u, v])) ∧ Den W.K μ (upd H T (.tup [u, v])) x (.ref T) := fun {y z u v T} ex d1 d2 hT => by
    subst ex
    exact ⟨Step.laid hT, R.laid hT, .tup (SqT.of upd_same) (.cons (R.den (Step.laid hT) d1) (.cons (R.den (Step.laid hT) d2) .nil))⟩
  cases r with
  | @tp a vs xs q d =>
    have e : xs[i]? = some x := Option.some.inj e
    obtain ⟨v, hv, dv⟩ := d.get e
    refine ⟨⟨vs, v, q, hv⟩, fun u H' ⟨eH, y⟩ => ?_⟩
    subst eH
    have := y vs q
    rw [hv] at this; cases this
    exact same dv
  | @ob n a q =>
    dsimp only [Src.at] at e
    cases g : h.get n with
    | none => rw [g] at e; cases e
    | some o =>
      rw [g] at e
      cases o with
      | lst xs =>
        have e : xs[i]? = some x := Option.some.inj e
        obtain ⟨vs, q1, d⟩ := R.lst q g
        obtain ⟨v, hv, dv⟩ := d.get e
        refine ⟨⟨vs, v, q1, hv⟩, fun u H' ⟨eH, y⟩ => ?_⟩
        subst eH
        have := y vs q1
        rw [hv] at this; cases this
        exact same dv
      | _ => cases e
  | @ent a vs xs q d =>
    dsimp only [Src.at] at e
    cases g : xs[i]? with
    | none => simp only [g] at e; cases e
    | some y =>
      simp only [g] at e
      obtain ⟨v, hv, dv⟩ := d.get g
      refine ⟨⟨vs, v, q, hv⟩, fun u H' ⟨T, z, eu, hT, eH, yy⟩ => ?_⟩
      subst eu eH
      have := yy vs q
      rw [hv] at this; cases this
      exact pair (Option.some.inj (Option.some.inj e)).symm (.int _) dv hT
  | @enl n a q =>
    dsimp only [Src.at] at e
    cases g : h.get n with
    | none => rw [g] at e; cases e
    | some o =>
      rw [g] at e
      cases o with
      | lst xs =>
        dsimp only at e
        obtain ⟨vs, q1, d⟩ := R.lst q g
        cases g2 : xs[i]? with
        | none => rw [g2] at e; cases e
        | some y =>
          rw [g2] at e
          obtain ⟨v, hv, dv⟩ := d.get g2
          refine ⟨⟨vs, v, q1, hv⟩, fun u H' ⟨T, z, eu, hT, eH, yy⟩ => ?_⟩
          subst eu eH
          have := yy vs q1
          rw [hv] at this; cases this
          exact pair (Option.some.inj (Option.some.inj e)).symm (.int _) dv hT
      | _ => cases e
  | @zpt a b vs us xs ys q d q' d' =>
    dsimp only [Src.at] at e
    cases g : xs[i]? with
    | none => simp only [g] at e; cases e
    | some y =>
      cases g2 : ys[i]? with
      | none => simp only [g, g2] at e; cases e
      | some z =>
        simp only [g, g2] at e
        obtain ⟨v, hv, dv⟩ := d.get g
        obtain ⟨u, hu, du⟩ := d'.get g2
        refine ⟨⟨vs, us, v, u, q, q', hv, hu⟩, fun w H' ⟨T, z, z', eu, hT, eH, y1, y2⟩ => ?_⟩
        subst eu eH
        have a1 := y1 vs q
        have a2 := y2 us q'
        rw [hv] at a1; cases a1
        rw [hu] at a2; cases a2
        exact pair (Option.some.inj (Option.some.inj e)).symm dv du hT
  | @zpl n m a b q q' =>
    dsimp only [Src.at] at e
    cases g : h.get n with
    | none => rw [g] at e; cases e
    | some o =>
      cases g' : h.get m with
      | none => rw [g, g'] at e; cases o <;> cases e
      | some o' =>
        rw [g, g'] at e
        cases o with
        | lst xs =>
          cases o' with
          | lst ys =>
            dsimp only at e
            obtain ⟨vs, q1, d⟩ := R.lst q g
            obtain ⟨us, q2, d'⟩ := R.lst q' g'
            cases g1 : xs[i]? with
            | none => rw [g1] at e; cases e
            | some y =>
              cases g2 : ys[i]? with
              | none => rw [g1, g2] at e; cases e
              | some z =>
                rw [g1, g2] at e
                obtain ⟨v, hv, dv⟩ := d.get g1
                obtain ⟨u, hu, du⟩ := d'.get g2
                refine ⟨⟨vs, us, v, u, q1, q2, hv, hu⟩, fun w H' ⟨T, z, z', eu, hT, eH, y1, y2⟩ => ?_⟩
                subst eu eH
                have a1 := y1 vs q1
                have a2 := y2 us q2
                rw [hv] at a1; cases a1
                rw [hu] at a2; cases a2
                exact pair (Option.some.inj (Option.some.inj e)).symm dv du hT
          | _ => cases e
        | _ => cases e
  | rg n =>
    dsimp only [Src.at] at e
    cases g : Nat.blt i n with
    | false => simp only [g] at e; cases e
    | true =>
      simp only [g] at e
      have hx := Option.some.inj (Option.some.inj e)
      refine ⟨blt_tt.mp g, fun v H' ⟨eH, ev⟩ => ?_⟩
      subst eH ev hx
      rw [Int.zero_add]
      exact same (.int _)
  | tpc lo c n =>
    have e : ((List.range n).map fun k => AV.int (lo + (k : Nat) * c))[i]? = some x := Option.some.inj e
    rw [List.getElem?_map] at e
    by_cases g : i < n
    · rw [List.getElem?_range g] at e
      have hx := Option.some.inj e
      refine ⟨g, fun v H' ⟨eH, ev⟩ => ?_⟩
      subst eH ev hx
      exact same (.int _)
    · rw [List.getElem?_eq_none (by rw [List.length_range]; omega)] at e
      cases e
  | @dk n d o ks xs q f dd =>
    have e : ks[i]? = some x := Option.some.inj e
    obtain ⟨v, hv, dv⟩ := dd.get e
    rw [List.getElem?_map] at hv
    cases g : xs[i]? with
    | none => rw [g] at hv; cases hv
    | some y =>
      rw [g] at hv
      have hv' := Option.some.inj hv
      refine ⟨⟨q, (List.getElem?_eq_some_iff.mp g).1⟩, fun u H' ⟨eH, y', e1, e2⟩ => ?_⟩
      rw [g] at e1; cases e1
      subst eH e2
      rw [← hv'] at dv
      exact same dv
/-- the end -/
theorem SrcR.stop (r : SrcR W ro μ H s J) (R : RelH W ro μ h H) {i : Nat} (e : s.at h i = some none) : J.stop i H := by
  cases r with
  | @tp a vs xs q d => exact ⟨vs, q, getE d (Option.some.inj e)⟩
  | @ob n a q =>
    dsimp only [Src.at] at e
    cases g : h.get n with
    | none => rw [g] at e; cases e
    | some o =>
      rw [g] at e
      cases o with
      | lst xs =>
        obtain ⟨vs, q1, d⟩ := R.lst q g
        exact ⟨vs, q1, getE d (Option.some.inj e)⟩
      | _ => cases e
  | @ent a vs xs q d =>
    dsimp only [Src.at] at e
    cases g : xs[i]? with
    | none => exact ⟨vs, q, getE d g⟩
    | some y => simp only [g] at e; cases e
  | @enl n a q =>
    dsimp only [Src.at] at e
    cases g : h.get n with
    | none => rw [g] at e; cases e
    | some o =>
      rw [g] at e
      cases o with
      | lst xs =>
        dsimp only at e
        obtain ⟨vs, q1, d⟩ := R.lst q g
        cases g2 : xs[i]? with
        | none => exact ⟨vs, q1, getE d g2⟩
        | some y => rw [g2] at e; cases e
      | _ => cases e
  | @zpt a b vs us xs ys q d q' d' =>
    dsimp only [Src.at] at e
    cases g : xs[i]? with
    | none => exact ⟨vs, us, q, q', .inl (getE d g)⟩
    | some y =>
      cases g2 : ys[i]? with
      | none => exact ⟨vs, us, q, q', .inr (getE d' g2)⟩
      | some z => simp only [g, g2] at e; cases e
  | @zpl n m a b q q' =>
    dsimp only [Src.at] at e
    cases g : h.get n with
    | none => rw [g] at e; cases e
    | some o =>
      cases g' : h.get m with
      | none => rw [g, g'] at e; cases o <;> cases e
      | some o' =>
        rw [g, g'] at e
        cases o with
        | lst xs =>
          cases o' with
          | lst ys =>
            dsimp only at e
            obtain ⟨vs, q1, d⟩ := R.lst q g
            obtain ⟨us, q2, d'⟩ := R.lst q' g'
            cases g1 : xs[i]? with
            | none => exact ⟨vs, us, q1, q2, .inl (getE d g1)⟩
            | some y =>
              cases g2 : ys[i]? with
              | none => exact ⟨vs, us, q1, q2, .inr (getE d' g2)⟩
              | some z => rw [g1, g2] at e; cases e
          | _ => cases e
        | _ => cases e
  | rg n =>
    dsimp only [Src.at] at e
    cases g : Nat.blt i n with
    | true => simp only [g] at e; cases e
    | false =>
      have : ¬ i < n := fun z => by rw [blt_tt.mpr z] at g; cases g
      exact Nat.le_of_not_lt this
  | tpc lo c n =>
    have e : ((List.range n).map fun k => AV.int (lo + (k : Nat) * c))[i]? = none := Option.some.inj e
    have := List.getElem?_eq_none_iff.mp e
    rw [List.length_map, List.length_range] at this
    exact this
  | @dk n d o ks xs q f dd => exact ⟨q, by have := getE dd (Option.some.inj e); simpa using this⟩

/-! ### collecting -/
/-- something of the layer's alone is changed -/
theorem RelH.side (R : RelH W ro μ h H) {D : Addr} {u : HO} (hf : ∀ n, μ n ≠ some D) (n1 : ∀ ys, H D ≠ some (.tup ys)) (n2 : ∀ o ys, H D ≠ some (.frz o (.tup ys))) (n3 : H D ≠ some (.xd [])) (nc : NoCode H D) : RelH W ro μ h (upd H D u) where
  lim := R.lim
  rol := R.rol
  roe := R.roe
  inj := R.inj
  obj := fun n o e => by
    obtain ⟨a, e1, r⟩ := R.obj n o e
    have ha : a ≠ D := fun z => hf n (by rw [← z]; exact e1)
    refine ⟨a, e1, r.keep (fun x v d => d.mono (fun _ _ e => e) fun _ _ s => sq_upd n1 n2 s) (fun v q => by rw [upd_ne ha]; exact q) fun b q => ?_⟩
    rw [upd_ne (fun z => n3 (by rw [← z]; exact q))]; exact q
  back := R.back
  full := R.full
  tabs := tabs_upd R.tabs nc
theorem Step.side {μ1 : Mu} {H1 : Hp} (st : Step ro μ1 H1 μ H) {D : Addr} {u : HO} (hD : H1 D = none) : Step ro μ1 H1 μ (upd H D u) where
  ext := st.ext
  new := st.new
  frm := fun b o f nt e => by
    rw [upd_ne (fun z => by rw [z, hD] at e; cases e)]
    exact st.frm b o f nt e
  kep := fun b o e => by
    rw [upd_ne (fun z => by rw [z, hD] at e; cases e)]
    exact st.kep b o e
theorem Step.mine {μ1 : Mu} {H1 : Hp} (st : Step ro μ1 H1 μ H) {D : Addr} {n : Nat} (hD : H1 D = none) (hn : μ n = none) : Step ro μ1 H1 (muPut μ n D) H where
  ext := fun k a e => by
    have q := st.ext k a e
    unfold muPut
    rw [if_neg (fun z => by rw [z, hn] at q; cases q)]
    exact q
  new := fun k b e => by
    unfold muPut at e
    by_cases hk : k = n
    · rw [if_pos hk] at e; cases e; exact .inr hD
    · rw [if_neg hk] at e; exact st.new k b e
  frm := st.frm
  kep := st.kep
end
/-- a thing at D that grows: what it holds so far -/
structure Col (W : Wd) (ro : Nat) (μ1 : Mu) (H1 : Hp) (D : Addr) (B : Mu → Hp → List AV → HO → Prop) (μ : Mu) (acc : List AV) (h : AH) (H : Hp) : Prop where
  R : RelH W ro μ h H
  st : Step ro μ1 H1 μ H
  d : ∃ o, H D = some o ∧ B μ H acc o
  fr : ∀ n, μ n ≠ some D
section
variable {W : Wd} {ro : Nat} {μ μ' μ1 : Mu} {h h' : AH} {H H' H1 : Hp} {s : Src} {J : L2.It} {D : Addr} {B : Mu → Hp → List AV → HO → Prop} {acc : List AV}
theorem Col.on (c : Col W ro μ1 H1 D B μ acc h H) (hB : ∀ o, H D = some o → H' D = some o → B μ H acc o → B μ' H' acc o) (hT : ∀ o, B μ H acc o → ∀ ps, o ≠ .tbl ps) (st : Step ro μ H μ' H') (R : RelH W ro μ' h' H') : Col W ro μ1 H1 D B μ' acc h' H' := by
  obtain ⟨o, q1, q2⟩ := c.d
  have q3 := st.frm D o (fun n _ => c.fr n) (hT o q2) q1
  refine ⟨R, c.st.trans st, ⟨o, q3, hB o q1 q3 q2⟩, fun n e => ?_⟩
  rcases st.new n D e with z | z
  · exact c.fr n z
  · rw [q1] at z; cases z
def BL (K : PySem.W.Frag) : Mu → Hp → List AV → HO → Prop := fun μ H acc o => ∃ vs, o = .lst vs ∧ DenL K μ H acc vs
theorem Col.onL (c : Col W ro μ1 H1 D (BL W.K) μ acc h H) (st : Step ro μ H μ' H') (R : RelH W ro μ' h' H') : Col W ro μ1 H1 D (BL W.K) μ' acc h' H' :=
  c.on (fun o _ _ ⟨vs, e, d⟩ => ⟨vs, e, c.R.denL st d⟩) (fun o ⟨vs, e, _⟩ ps z => by rw [e] at z; cases z) st R
/-- a walk of the machine's is one of the layer's -/
theorem walk {Bd : V → Hp → (Hp → Prop) → Prop} {turn : AV → AH → R (List AV)} {Co : Mu → List AV → AH → Hp → Prop} {HF : AH} {Qd : Hp → Prop} {all : List AV}
    (hR : ∀ {μ acc h H}, Co μ acc h H → RelH W ro μ h H ∧ SrcR W ro μ H s J) (hC : ∀ {μ acc h H H'}, Co μ acc h H → Step ro μ H μ H' → RelH W ro μ h H' → Co μ acc h H')
    (hb : ∀ {x h ys h1 μ acc H v}, turn x h = .ok ys h1 → Co μ acc h H → Den W.K μ H x v → (∃ r, (acc ++ ys) ++ r = all) → ∀ Nx : Hp → Prop, (∀ μ' H', Co μ' (acc ++ ys) h1 H' → Nx H') → Bd v H Nx)
    {k : Nat} {h0 : AH} {H0 : Hp} {acc0 rest : List AV} {μ0 : Mu} (hall : acc0 ++ rest = all) (hl : compLoop s turn k 0 h0 = .ok rest HF) (c0 : Co μ0 acc0 h0 H0) (fin : ∀ μ H, Co μ (acc0 ++ rest) HF H → Qd H) :
    ∃ Wi : Nat → Nat → Hp → Prop, (∃ m, Wi 0 m H0) ∧ ∀ i m H, Wi i m H → (J.stop i H ∧ Qd H) ∨ (J.go i H ∧ ∃ Nx : Hp → Prop, (∀ H', Nx H' → ∃ m', m' < m ∧ Wi (i + 1) m' H') ∧ ∀ x H', J.yld i H x H' → Bd x H' Nx) := by
  refine ⟨fun i m H => ∃ μ h acc r, Co μ acc h H ∧ compLoop s turn m i h = .ok r HF ∧ acc ++ r = acc0 ++ rest, ⟨k, μ0, h0, acc0, rest, c0, hl, rfl⟩, ?_⟩
  rintro i m H ⟨μ, h, acc, r, c, e, er⟩
  cases m with
  | zero => cases e
  | succ m =>
    have e' : (match s.at h i with
      | some (some x) => (match turn x h with
        | .ok ys h1 => (match compLoop s turn m (i + 1) h1 with
          | .ok r h2 => .ok (ys ++ r) h2
          | _ => .bad)
        | _ => .bad)
      | some none => .ok [] h
      | none => .bad) = R.ok r HF := e
    obtain ⟨Rh, sr⟩ := hR c
    cases ea : s.at h i with
    | none => rw [ea] at e'; cases e'
    | some o =>
      cases o with
      | none =>
        rw [ea] at e'
        cases e'
        refine .inl ⟨sr.stop Rh ea, fin μ H ?_⟩
        rw [List.append_nil] at er
        rw [← er]; exact c
      | some x =>
        rw [ea] at e'
        dsimp only at e'
        cases et : turn x h with
        | ex _ _ => rw [et] at e'; cases e'
        | bad => rw [et] at e'; cases e'
        | ok ys h1 =>
          rw [et] at e'
          dsimp only at e'
          cases el : compLoop s turn m (i + 1) h1 with
          | ex _ _ => rw [el] at e'; cases e'
          | bad => rw [el] at e'; cases e'
          | ok r2 h2 =>
            rw [el] at e'
            cases e'
            obtain ⟨g, y⟩ := sr.go Rh ea
            refine .inr ⟨g, fun H' => ∃ μ', Co μ' (acc ++ ys) h1 H', fun H' ⟨μ', c'⟩ => ⟨m, Nat.lt_succ_self _, μ', h1, acc ++ ys, r2, c', el, by rw [List.append_assoc]; exact er⟩, fun v H' yv => ?_⟩
            obtain ⟨st, R', d⟩ := y v H' yv
            exact hb et (hC c st R') d ⟨r2, by rw [List.append_assoc, er, hall]⟩ _ fun μ' H'' c' => ⟨μ', c'⟩
theorem compLoop_nox {turn : AV → AH → R (List AV)} : ∀ {k i : Nat} {h : AH} {x : AX} {h' : AH}, compLoop s turn k i h ≠ .ex x h'
  | 0, _, _, _, _, e => by cases e
  | k + 1, i, h, x, h', e => by
    have e' : (match s.at h i with
      | some (some x) => (match turn x h with
        | .ok ys h1 => (match compLoop s turn k (i + 1) h1 with
          | .ok r h2 => .ok (ys ++ r) h2
          | _ => .bad)
        | _ => .bad)
      | some none => .ok [] h
      | none => .bad) = R.ex x h' := e
    split at e'
    · split at e'
      · split at e' <;> cases e'
      · cases e'
    · cases e'
    · cases e'
end

/-! ### targets -/
/-- a target of the machine's: it stores into slots -/
def tG (W : Wd) (vs : List Nat) (mt : AV → Loc' → Option Loc') : TG := fun v σ H Q => ∃ ro μ l h x l', At W ro μ l h σ H ∧ Den W.K μ H x v ∧ mt x l = some l' ∧ ∀ σ', RelL W.K μ H l' σ' → σ'.length = σ.length → (∀ i, i ∉ vs → σ'[i]? = σ[i]?) → Q σ' H
def tGs (W : Wd) (vs : List Nat) (mt : List AV → Loc' → Option Loc') : TGs := fun us σ H Q => ∃ ro μ l h xs l', At W ro μ l h σ H ∧ DenL W.K μ H xs us ∧ mt xs l = some l' ∧ ∀ σ', RelL W.K μ H l' σ' → σ'.length = σ.length → (∀ i, i ∉ vs → σ'[i]? = σ[i]?) → Q σ' H
abbrev SimG (X : Cx) (W : Wd) (e : Expr) (vs : List Nat) (mt : AV → Loc' → Option Loc') : Prop := PG X e (tG W vs mt)
abbrev SimGs (X : Cx) (W : Wd) (es : List Expr) (vs : List Nat) (mt : List AV → Loc' → Option Loc') : Prop := PGs X es (tGs W vs mt)
theorem PG.weaken {X : Cx} {e : Expr} {t t' : TG} (p : PG X e t) (h : ∀ v σ H Q, t' v σ H Q → t v σ H Q) : PG X e t' := ⟨fun pins s σ H v u Q I r q => p.run pins s σ H v u Q I r (h v σ H Q q)⟩
theorem PGs.weaken {X : Cx} {e : List Expr} {t t' : TGs} (p : PGs X e t) (h : ∀ v σ H Q, t' v σ H Q → t v σ H Q) : PGs X e t' := ⟨fun pins s σ H v u Q I r q => p.run pins s σ H v u Q I r (h v σ H Q q)⟩
theorem RelL.set {K : PySem.W.Frag} {μ : Mu} {H : Hp} {l : Loc'} {σ : L2.St} {i : Nat} {x : AV} {v : V} (r : RelL K μ H l σ) (d : Den K μ H x v) : RelL K μ H (l.set i (some x)) (σ.set i (some v)) := by
  refine ⟨by rw [List.length_set, List.length_set]; exact r.1, fun j y e => ?_⟩
  by_cases hj : i = j
  · subst hj
    have hlt : i < l.length := by
      have := (List.getElem?_eq_some_iff.mp e).1
      rwa [List.length_set] at this
    rw [List.getElem?_set_self hlt] at e
    cases e
    exact ⟨v, List.getElem?_set_self (by rw [← r.1]; exact hlt), d⟩
  · rw [List.getElem?_set_ne hj] at e
    obtain ⟨u, h1, h2⟩ := r.2 j y e
    exact ⟨u, by rw [List.getElem?_set_ne hj]; exact h1, h2⟩
def mtN (i : Nat) : AV → Loc' → Option Loc' := fun v l => some (l.set i (some v))
def mtT (mt : List AV → Loc' → Option Loc') : AV → Loc' → Option Loc' := fun v l => match v with
  | .tup xs => mt xs l
  | _ => none
def mt0 : List AV → Loc' → Option Loc' := fun xs l => match xs with
  | [] => some l
  | _ :: _ => none
def mtC (mt : AV → Loc' → Option Loc') (ms : List AV → Loc' → Option Loc') : List AV → Loc' → Option Loc' := fun xs l => match xs with
  | x :: r => (match mt x l with
    | some l1 => ms r l1
    | none => none)
  | [] => none
end Ev
set_option Elab.async false
set_option linter.all false
set_option maxRecDepth 100000
set_option maxHeartbeats 4000000
/-! targets, sources, list comprehensions -/
namespace Ev
open PySem PySem.Spec PyProof.Rows L2
section
variable {X : Cx} {ca : Ca} {E : XK} {tg a b e : Expr} {es : List Expr} {ma mb : Loc' → AH → R AV} {ms : Loc' → AH → R (List AV)} {pos p : Pos} {vs ws : List Nat}
theorem simg_nm {i : Nat} {x : Str} (hN : X.N.Nodup) (hi : X.N[i]? = some x) (hx : Loc X.env.scope x) (hf : X.fn x = true ∨ X.env.scope.names.lookup x = some .local) : SimG X (wd X ca E) (.Name x pos) [i] (mtN i) :=
  PG.weaken (pg_name hN hi hx hf) fun v σ H Q ⟨ro, μ, l, h, x, l', A, d, e, q⟩ => by
    cases e
    exact q _ (A.L.set d) (List.length_set ..) fun j hj => List.getElem?_set_ne (fun z => hj (by rw [z]; simp))
theorem simgs_nil : SimGs X (wd X ca E) [] [] mt0 :=
  PGs.weaken pgs_nil fun v σ H Q ⟨ro, μ, l, h, x, l', A, d, e, q⟩ => by
    cases d with
    | nil => cases e; exact ⟨rfl, q σ A.L rfl fun _ _ => rfl⟩
    | cons _ _ => cases e
theorem simgs_cons {mt : AV → Loc' → Option Loc'} {ms : List AV → Loc' → Option Loc'} (h1 : SimG X (wd X ca E) e vs mt) (h2 : SimGs X (wd X ca E) es ws ms) (hs : (assignEach (e :: es) X.env).map (·.2) = assign e X.env :: (assignEach es X.env).map (·.2)) : SimGs X (wd X ca E) (e :: es) (vs ++ ws) (mtC mt ms) :=
  PGs.weaken (pgs_cons h1 h2 hs) fun v σ H Q ⟨ro, μ, l, h, x, l', A, d, e, q⟩ => by
    cases d with
    | nil => cases e
    | @cons y u ys us d1 d2 =>
      have e' : (match mt y l with | some l1 => ms ys l1 | none => none) = some l' := e
      cases e1 : mt y l with
      | none => rw [e1] at e'; cases e'
      | some l1 =>
        rw [e1] at e'
        refine ⟨u, us, rfl, ro, μ, l, h, y, l1, A, d1, e1, fun σ1 L1 hl1 hd1 => ?_⟩
        refine ⟨ro, μ, l1, h, ys, l', ⟨L1, A.R⟩, d2, e', fun σ2 L2 hl2 hd2 => q σ2 L2 (hl2.trans hl1) fun i hi => ?_⟩
        rw [List.mem_append, not_or] at hi
        rw [hd2 i hi.2, hd1 i hi.1]
theorem simg_tp {k n : Nat} {ms : List AV → Loc' → Option Loc'} (hc : X.calm = true) (h : SimGs X (wd X ca E) es ws ms) (hn : (assignEach es X.env).length = n) (hst : (assignEach es X.env).findIdx? (·.1) = none) (hl : ∀ xs l l', ms xs l = some l' → xs.length = n) : SimG X (wd X ca E) (.Tuple es k pos) ws (mtT ms) :=
  PG.weaken (pg_tup hc h hn hst) fun v σ H Q ⟨ro, μ, l, h, x, l', A, d, e, q⟩ => by
    cases d with
    | @tup a vs xs sq dl => exact ⟨a, vs, rfl, sq, by rw [← dl.length]; exact hl _ _ _ e, ro, μ, l, h, xs, l', A, dl, e, q⟩
    | _ => cases e
theorem mt0_len (xs : List AV) (l l' : Loc') (e : mt0 xs l = some l') : xs.length = 0 := by
  cases xs with
  | nil => rfl
  | cons _ _ => cases e
theorem mtC_len {n : Nat} {mt : AV → Loc' → Option Loc'} {ms : List AV → Loc' → Option Loc'} (h : ∀ xs l l', ms xs l = some l' → xs.length = n) (xs : List AV) (l l' : Loc') (e : mtC mt ms xs l = some l') : xs.length = n + 1 := by
  cases xs with
  | nil => cases e
  | cons x r =>
    have e' : (match mt x l with | some l1 => ms r l1 | none => none) = some l' := e
    cases e1 : mt x l with
    | none => rw [e1] at e'; cases e'
    | some l1 => rw [e1] at e'; rw [List.length_cons, h _ _ _ e']

/-! ### sources -/
def tI (W : Wd) (mi : Loc' → AH → R Src) : TI := fun σ H Rr => ∃ ro μ l h, At W ro μ l h σ H ∧ postG (fun μ H => SrcR W ro μ H) W ro μ H (mi l h) Rr
abbrev SimI (X : Cx) (W : Wd) (tg e : Expr) (mi : Loc' → AH → R Src) : Prop := PI X tg e (tI W mi)
theorem PI.weaken {t t' : TI} (p : PI X tg e t) (h : ∀ σ H Q, t' σ H Q → t σ H Q) : PI X tg e t' := ⟨fun pins s σ H Q I q => p.run pins s σ H Q I (h σ H Q q)⟩
theorem PI.either {t u : TI} (p : PI X tg e t) (q : PI X tg e u) : PI X tg e (fun σ H Q => t σ H Q ∨ u σ H Q) := ⟨fun pins s σ H Q I w => w.elim (p.run pins s σ H Q I) (q.run pins s σ H Q I)⟩
def miOf (me : Loc' → AH → R AV) : Loc' → AH → R Src := fun l h => (me l h).bind fun x h1 => rOpt (srcOf x h1) h1
def miEn (me : Loc' → AH → R AV) : Loc' → AH → R Src := fun l h => (me l h).bind fun x h1 => rOpt (enOf x h1) h1
def miZp (ma mb : Loc' → AH → R AV) : Loc' → AH → R Src := fun l h => (ma l h).bind fun x h1 => (mb l h1).bind fun y h2 => rOpt (zpOf x y h2) h2
def miRg (ma : Loc' → AH → R AV) : Loc' → AH → R Src := fun l h => (ma l h).bind fun x h1 => match x with
  | .int i => (match decide (-(2 ^ 62) ≤ i ∧ i < 2 ^ 62) with
    | true => .ok (.rg i.toNat) h1
    | false => .bad)
  | _ => .bad
theorem postG.opt' {α β : Type} {D : Mu → Hp → α → β → Prop} {W : Wd} {ro : Nat} {μ : Mu} {H : Hp} {o : Option α} {h : AH} {Q : β → Hp → Prop} (p : postG D W ro μ H (rOpt o h) Q) : ∃ v, o = some v ∧ postG D W ro μ H (.ok v h) Q := by
  cases o with
  | none => exact False.elim p
  | some v => exact ⟨v, rfl, p⟩
theorem postG.val' {α β : Type} {D : Mu → Hp → α → β → Prop} {W : Wd} {ro : Nat} {μ : Mu} {H : Hp} {v : α} {h : AH} {Q : β → Hp → Prop} {u : β} (R : RelH W ro μ h H) (p : postG D W ro μ H (.ok v h) Q) (d : D μ H v u) : Q u H := p μ u H Step.refl R d
theorem simi_of (he : SimE X (wd X ca E) e ma) : SimI X (wd X ca E) tg e (miOf ma) :=
  PI.weaken (PI.either (pi_tup he) (pi_list he)) fun σ H Q ⟨ro, μ, l, h, A, p⟩ => by
    unfold miOf at p
    have key : ∀ {μ1 : Mu} {v : AV} {u : V} {h1 : AH} {H1 : Hp} {sr : Src}, RelH (wd X ca E) ro μ1 h1 H1 → Den X.K μ1 H1 v u → srcOf v h1 = some sr → postG (fun μ H => SrcR (wd X ca E) ro μ H) (wd X ca E) ro μ1 H1 (.ok sr h1) Q →
      ((∃ xs, v = .tup xs) → ∃ a, u = .ref a ∧ (∃ xs, SqT X.K H1 a xs) ∧ Q (Itt X.K a) H1) ∧ ((∀ xs, v ≠ .tup xs) → ∃ a, u = .ref a ∧ (∃ xs, SqL X.K H1 a xs) ∧ Q (Itl X.K a) H1) := fun {μ1 v u h1 H1 sr} R1 d es q => by
      cases d with
      | @tup a vs xs sq dl =>
        cases es
        exact ⟨fun _ => ⟨a, rfl, ⟨vs, sq⟩, q.val' R1 (SrcR.tp (W := wd X ca E) sq dl)⟩, fun z => absurd rfl (z _)⟩
      | @obj n a hn =>
        have es' : (match h1.get n with | some (.lst _) => some (Src.ob n) | _ => none) = some sr := es
        cases g : h1.get n with
        | none => rw [g] at es'; cases es'
        | some o =>
          rw [g] at es'
          cases o with
          | lst xs =>
            cases es'
            obtain ⟨vs, sq, _⟩ := R1.lst hn g
            exact ⟨fun ⟨_, z⟩ => (by cases z), fun _ => ⟨a, rfl, ⟨vs, sq⟩, q.val' R1 (SrcR.ob (W := wd X ca E) hn)⟩⟩
          | _ => cases es'
      | _ => cases es
    cases em : ma l h with
    | bad => rw [em] at p; exact False.elim p
    | ex x hx => rw [em] at p; exact .inl ⟨ro, μ, l, h, A, by rw [em]; exact p⟩
    | ok v h1 =>
      rw [em] at p
      by_cases hv : ∃ xs, v = .tup xs
      · refine .inl ⟨ro, μ, l, h, A, ?_⟩
        rw [em]
        intro μ1 u H1 st R1 d
        obtain ⟨sr, es, q⟩ := postG.opt' p
        exact (key R1 d es (q.later st)).1 hv
      · refine .inr ⟨ro, μ, l, h, A, ?_⟩
        rw [em]
        intro μ1 u H1 st R1 d
        obtain ⟨sr, es, q⟩ := postG.opt' p
        exact (key R1 d es (q.later st)).2 fun xs z => hv ⟨xs, z⟩
theorem one_of (he : SimE X (wd X ca E) e ma) (hs : notStar e = true) : PA X [e] (fun σ H Q => tE (wd X ca E) ma σ H fun u H1 => Q [u] H1) := PA.weaken (pa_cons he pa_nil (star_one hs)) fun σ H Q q => q
theorem simi_en {elts : List Expr} {kk : Nat} {tpos : Pos} (hg : Gl X "enumerate") (hm : X.mg "enumerate" = none) (he : SimE X (wd X ca E) e ma) (hs : notStar e = true) : SimI X (wd X ca E) (.Tuple elts kk tpos) (.Call (.Name "enumerate" p) [e] [] pos) (miEn ma) :=
  PI.weaken (pi_enT hg hm (one_of he hs) (star_one hs)) fun σ H Q ⟨ro, μ, l, h, A, p⟩ => ⟨ro, μ, l, h, A, (bindP (dV _) A p).imp fun u H1 ⟨μ1, v, h1, A1, d, st, q⟩ => by
    obtain ⟨sr, es, q⟩ := postG.opt' q
    cases d with
    | @tup a vs xs sq dl =>
      cases es
      exact ⟨a, vs, rfl, .inr ⟨sq, q.val' A1.R (SrcR.ent (W := wd X ca E) sq dl)⟩⟩
    | @obj n a hn =>
      have es' : (match h1.get n with | some (.lst _) => some (Src.enl n) | _ => none) = some sr := es
      cases g : h1.get n with
      | none => rw [g] at es'; cases es'
      | some o =>
        rw [g] at es'
        cases o with
        | lst xs =>
          cases es'
          obtain ⟨vs, sq, _⟩ := A1.R.lst hn g
          exact ⟨a, vs, rfl, .inl ⟨sq, q.val' A1.R (SrcR.enl (W := wd X ca E) hn)⟩⟩
        | _ => cases es'
    | _ => cases es⟩
theorem simi_zp {elts : List Expr} {kk : Nat} {tpos : Pos} (hg : Gl X "zip") (hm : X.mg "zip" = none) (ha : SimE X (wd X ca E) a ma) (hb : SimE X (wd X ca E) b mb) (hs : notStar a = true) (hs2 : notStar b = true) : SimI X (wd X ca E) (.Tuple elts kk tpos) (.Call (.Name "zip" p) [a, b] [] pos) (miZp ma mb) :=
  PI.weaken (RZ.pi_zipA hg hm (pa_cons ha (one_of hb hs2) (star_one hs)) (star_one hs) (by rw [star_one hs2]; rfl)) fun σ H Q ⟨ro, μ, l, h, A, p⟩ => ⟨ro, μ, l, h, A, (bindP (dV _) A p).imp fun u H1 ⟨μ1, v, h1, A1, d, st, q⟩ => ⟨ro, μ1, l, h1, A1, (bindP (dV _) A1 q).imp fun u2 H2 ⟨μ2, v2, h2, A2, d2, st2, q⟩ => by
    obtain ⟨sr, es, q⟩ := postG.opt' q
    have d := A1.R.den st2 d
    cases d with
    | @tup a vs xs sq dl =>
      cases d2 with
      | @tup b us ys sq2 dl2 =>
        cases es
        exact ⟨a, b, vs, us, rfl, .inr ⟨sq, sq2, q.val' A2.R (SrcR.zpt (W := wd X ca E) sq dl sq2 dl2)⟩⟩
      | _ => cases es
    | @obj n a hn =>
      cases d2 with
      | @obj m b hm =>
        have es' : (match h2.get n, h2.get m with | some (.lst _), some (.lst _) => some (Src.zpl n m) | _, _ => none) = some sr := es
        cases g : h2.get n with
        | none => rw [g] at es'; cases es'
        | some o =>
          cases g2 : h2.get m with
          | none => rw [g, g2] at es'; cases o <;> cases es'
          | some o2 =>
            rw [g, g2] at es'
            cases o with
            | lst xs =>
              cases o2 with
              | lst ys =>
                cases es'
                obtain ⟨vs, sq, _⟩ := A2.R.lst hn g
                obtain ⟨us, sq2, _⟩ := A2.R.lst hm g2
                exact ⟨a, b, vs, us, rfl, .inl ⟨sq, sq2, q.val' A2.R (SrcR.zpl (W := wd X ca E) hn hm)⟩⟩
              | _ => cases es'
            | _ => cases es'
      | _ => cases es
    | _ => cases es⟩⟩
theorem simi_rg (hg : Gl X "range") (hm : X.mg "range" = none) (ha : SimE X (wd X ca E) a ma) (hs : notStar a = true) : SimI X (wd X ca E) tg (.Call (.Name "range" p) [a] [] pos) (miRg ma) :=
  PI.weaken (pi_range1 hg hm (one_of ha hs) (star_one hs)) fun σ H Q ⟨ro, μ, l, h, A, p⟩ => ⟨ro, μ, l, h, A, (bindP (dV _) A p).imp fun u H1 ⟨μ1, v, h1, A1, d, st, q⟩ => by
    cases v with
    | int i =>
      dsimp only at q
      cases hd : decide (-(2 ^ 62) ≤ i ∧ i < 2 ^ 62) with
      | false => rw [hd] at q; exact False.elim q
      | true =>
        rw [hd] at q
        cases d
        have := of_decide_eq_true hd
        exact ⟨i, rfl, this.1, this.2, q.val' A1.R (SrcR.rg (W := wd X ca E) _)⟩
    | _ => exact False.elim q⟩

def miRg3 (ms : Loc' → AH → R (List AV)) : Loc' → AH → R Src := fun l h => (ms l h).bind fun vs h1 => match vs with
  | [.int i, .int j, .int c] => (match decide (c ≠ 0 ∧ c.natAbs < 1073741824 ∧ 0 ≤ Builtin.Range.rangeSize i j c) && Builtin.Range.small i j c with
    | true => .ok (.tp ((List.range (Builtin.Range.rangeSize i j c).toNat).map fun k => .int (i + (k : Nat) * c))) h1
    | false => .bad)
  | _ => .bad
theorem simi_rg3 {a b c : Expr} (hg : Gl X "range") (hm : X.mg "range" = none) (ha : SimA X (wd X ca E) [a, b, c] ms) (hs : [a, b, c].all notStar = true) : SimI X (wd X ca E) tg (.Call (.Name "range" p) [a, b, c] [] pos) (miRg3 ms) := by
  have hs' := hs
  rw [List.all_cons, Bool.and_eq_true] at hs'
  exact PI.weaken (pi_range3 hg hm ha (star_one hs'.1) (star_any hs'.2)) fun σ H Q ⟨ro, μ, l, h, A, p⟩ => ⟨ro, μ, l, h, A, (bindP (dL _) A p).imp fun u H1 ⟨μ1, v, h1, A1, d, st, q⟩ => by
    rcases d with _ | ⟨d1, _ | ⟨d2, _ | ⟨d3, _ | ⟨d4, d5⟩⟩⟩⟩
    · exact False.elim q
    · cases d1 <;> exact False.elim q
    · cases d1 <;> cases d2 <;> exact False.elim q
    · cases d1 with
      | int i =>
        cases d2 with
        | int j =>
          cases d3 with
          | int k =>
            dsimp only at q
            cases hd : decide (k ≠ 0 ∧ k.natAbs < 1073741824 ∧ 0 ≤ Builtin.Range.rangeSize i j k) && Builtin.Range.small i j k with
            | false => rw [hd] at q; exact False.elim q
            | true =>
              rw [hd] at q
              obtain ⟨c1, c2⟩ := Bool.and_eq_true_iff.mp hd
              have c1 := of_decide_eq_true c1
              exact ⟨i, j, k, _, rfl, ⟨c1.1, c1.2.1, c2, (Int.toNat_of_nonneg c1.2.2).symm⟩, q.val' A1.R (SrcR.tpc (W := wd X ca E) _ _ _)⟩
          | _ => exact False.elim q
        | _ => exact False.elim q
      | _ => exact False.elim q
    · cases d1 <;> cases d2 <;> cases d3 <;> exact False.elim q⟩

/-! ### list comprehensions -/
theorem RelL.wipe {K : PySem.W.Frag} {μ : Mu} {H : Hp} {l : Loc'} {σ : L2.St} (r : RelL K μ H l σ) : ∀ vs : List Nat, RelL K μ H (wipeL l vs) (L2.wipe σ vs)
  | [] => r
  | v :: vs => by
    have q := RelL.wipe r vs
    show RelL K μ H ((wipeL l vs).set v none) ((L2.wipe σ vs).set v none)
    refine ⟨by rw [List.length_set, List.length_set]; exact q.1, fun i x e => ?_⟩
    by_cases hi : v = i
    · subst hi
      have hlt : v < (wipeL l vs).length := by
        have := (List.getElem?_eq_some_iff.mp e).1
        rwa [List.length_set] at this
      rw [List.getElem?_set_self hlt] at e
      cases e
    · rw [List.getElem?_set_ne hi] at e
      obtain ⟨u, h1, h2⟩ := q.2 i x e
      exact ⟨u, by rw [List.getElem?_set_ne hi]; exact h1, h2⟩
theorem wipe_self {σ : L2.St} {i : Nat} : ∀ {vs : List Nat}, i ∈ vs → i < σ.length → (L2.wipe σ vs)[i]? = some none
  | [], h, _ => by cases h
  | v :: vs, h, hl => by
    show ((L2.wipe σ vs).set v none)[i]? = some none
    by_cases hv : v = i
    · subst hv
      rw [List.getElem?_set_self (by rw [wipe_length]; exact hl)]
    · rw [List.getElem?_set_ne hv]
      rcases List.mem_cons.mp h with z | z
      · exact absurd z.symm hv
      · exact wipe_self z hl
theorem wipe_eq {σ σ2 : L2.St} {vs : List Nat} (hl : σ2.length = σ.length) (h : ∀ i, i ∉ vs → σ2[i]? = σ[i]?) : L2.wipe σ2 vs = L2.wipe σ vs := by
  refine List.ext_getElem? fun i => ?_
  by_cases hi : i ∈ vs
  · by_cases hlt : i < σ.length
    · rw [wipe_self hi hlt, wipe_self hi (by rw [hl]; exact hlt)]
    · rw [List.getElem?_eq_none (by rw [wipe_length]; omega), List.getElem?_eq_none (by rw [wipe_length]; omega)]
  · rw [wipe_out hi, wipe_out hi, h i hi]
theorem wipe_wipe {σ : L2.St} {vs : List Nat} : L2.wipe (L2.wipe σ vs) vs = L2.wipe σ vs := wipe_eq (wipe_length ..) fun i hi => wipe_out hi
/-- a turn: store, test, element -/
def turnL (vs : List Nat) (mt : AV → Loc' → Option Loc') (mc me : Loc' → AH → R AV) (l : Loc') : AV → AH → R (List AV) := fun x h2 => match mt x (wipeL l vs) with
  | some l2 => (mc l2 h2).bind fun b h3 => (match b with
    | .bl true => (me l2 h3).bind fun v h4 => .ok [v] h4
    | .bl false => .ok [] h3
    | _ => .bad)
  | none => .bad
def mLc (vs : List Nat) (mt : AV → Loc' → Option Loc') (mi : Loc' → AH → R Src) (mc me : Loc' → AH → R AV) : Loc' → AH → R AV := fun l h => (mi l h).bind fun s h1 => (compLoop s (turnL vs mt mc me l) turns 0 h1).bind fun xs h5 => match lim xs.length with
  | true => alloc h5 (.lst xs)
  | false => .bad
def mYes : Loc' → AH → R AV := fun _ h => .ok (.bl true) h
abbrev SimTs (X : Cx) (W : Wd) (ifs : List Expr) (m : Loc' → AH → R AV) : Prop := PTs X ifs (tT W m)
theorem PTs.weaken {ifs : List Expr} {t t' : TT} (p : PTs X ifs t) (h : ∀ σ H Q, t' σ H Q → t σ H Q) : PTs X ifs t' := ⟨fun pins s σ H Q I q => p.run pins s σ H Q I (h σ H Q q)⟩
theorem simts_nil : SimTs X (wd X ca E) [] mYes := PTs.weaken pts_nil fun σ H Q ⟨ro, μ, l, h, A, p⟩ => postG.val' A.R (show postG dB _ ro μ H (.ok true h) Q from p) rfl
theorem simts_one (h : SimT X (wd X ca E) e ma) : SimTs X (wd X ca E) [e] ma := pts_one h
/-- the last turn is over: the list is the machine's -/
theorem col_end {W : Wd} {ro : Nat} {μ μ1 : Mu} {h : AH} {H H1 : Hp} {D : Addr} {XS : List AV} {Q : VK} (hD : H1 D = none) (c : Col W ro μ1 H1 D (BL W.K) μ XS h H)
    (p : postG (dV W) W ro μ1 H1 (match lim XS.length with | true => alloc h (.lst XS) | false => .bad) Q) : Q (.ref D) H := by
  cases e : lim XS.length with
  | false => rw [e] at p; exact False.elim p
  | true =>
    rw [e] at p
    obtain ⟨o, q1, vs, rfl, d⟩ := c.d
    dsimp only at p
    unfold alloc at p
    cases e2 : Nat.blt h.n top with
    | false => rw [e2] at p; exact False.elim p
    | true =>
      rw [e2] at p
      have hn := blt_tt.mp e2
      refine p (muPut μ h.n D) (.ref D) H (c.st.mine hD (c.R.dom (Nat.le_refl _))) (c.R.own hn c.fr ⟨lim_le e, vs, q1, d⟩) (.obj ?_)
      unfold muPut
      rw [if_pos rfl]
/-- one more -/
theorem Col.app {W : Wd} {ro : Nat} {μ μ1 : Mu} {h : AH} {H H1 : Hp} {D : Addr} {acc : List AV} {x : AV} {u : V} {vs : List V} (hD : H1 D = none) (c : Col W ro μ1 H1 D (BL W.K) μ acc h H) (d : Den W.K μ H x u) (hv : H D = some (.lst vs)) : Col W ro μ1 H1 D (BL W.K) μ (acc ++ [x]) h (upd H D (.lst (vs ++ [u]))) := by
  obtain ⟨o, q1, vs', rfl, dl⟩ := c.d
  rw [hv] at q1; cases q1
  have up : ∀ y v, Den W.K μ H y v → Den W.K μ (upd H D (.lst (vs ++ [u]))) y v := fun y v d => d.mono (fun _ _ e => e) fun _ _ s => sq_upd (by rw [hv]; intro ys z; cases z) (by rw [hv]; intro o ys z; cases z) s
  refine ⟨c.R.side c.fr (by rw [hv]; intro ys z; cases z) (by rw [hv]; intro o ys z; cases z) (by rw [hv]; intro z; cases z) (nocode_lst hv), c.st.side hD, ⟨_, upd_same, _, rfl, ?_⟩, c.fr⟩
  refine DenL.append (dl.mono (fun _ _ e => e) fun _ _ s => sq_upd (by rw [hv]; intro ys z; cases z) (by rw [hv]; intro o ys z; cases z) s) (.cons (up _ _ d) .nil)
/-- a turn's parts -/
theorem turnL_ok {vs : List Nat} {mt : AV → Loc' → Option Loc'} {mc me : Loc' → AH → R AV} {l : Loc'} {x : AV} {h h1 : AH} {ys : List AV} (e : turnL vs mt mc me l x h = .ok ys h1) :
    ∃ l2 b h3, mt x (wipeL l vs) = some l2 ∧ mc l2 h = .ok (.bl b) h3 ∧ ((b = true ∧ ∃ v, me l2 h3 = .ok v h1 ∧ ys = [v]) ∨ (b = false ∧ ys = [] ∧ h1 = h3)) := by
  unfold turnL at e
  cases e1 : mt x (wipeL l vs) with
  | none => rw [e1] at e; cases e
  | some l2 =>
    rw [e1] at e
    dsimp only at e
    cases e2 : mc l2 h with
    | ex _ _ => rw [e2] at e; cases e
    | bad => rw [e2] at e; cases e
    | ok b h3 =>
      rw [e2] at e
      cases b with
      | bl b =>
        cases b with
        | true =>
          dsimp only [R.bind] at e
          cases e3 : me l2 h3 with
          | ex _ _ => rw [e3] at e; cases e
          | bad => rw [e3] at e; cases e
          | ok v h4 =>
            rw [e3] at e
            cases e
            exact ⟨l2, true, h3, rfl, e2, .inl ⟨rfl, v, e3, rfl⟩⟩
        | false =>
          dsimp only [R.bind] at e
          cases e
          exact ⟨l2, false, _, rfl, e2, .inr ⟨rfl, rfl, rfl⟩⟩
      | _ => cases e
/-- what is meant stays meant -/
structure Kp (W : Wd) (ro : Nat) (μ : Mu) (H : Hp) (μ' : Mu) (H' : Hp) : Prop where
  ext : ∀ n a, μ n = some a → μ' n = some a
  sq : ∀ a xs, SqT W.K H a xs → SqT W.K H' a xs
  frz : ∀ d o u, H d = some (.frz o u) → (∀ n, ro ≤ n → μ n ≠ some d) → H' d = some (.frz o u) ∧ ∀ n, ro ≤ n → μ' n ≠ some d
theorem Kp.trans {W : Wd} {ro : Nat} {μ μ1 μ2 : Mu} {H H1 H2 : Hp} (a : Kp W ro μ H μ1 H1) (b : Kp W ro μ1 H1 μ2 H2) : Kp W ro μ H μ2 H2 :=
  ⟨fun n x e => b.ext n x (a.ext n x e), fun x xs q => b.sq x xs (a.sq x xs q), fun d o u e f => let ⟨e1, f1⟩ := a.frz d o u e f; b.frz d o u e1 f1⟩
theorem Kp.step {W : Wd} {ro : Nat} {μ μ1 : Mu} {h : AH} {H H1 : Hp} (R : RelH W ro μ h H) (st : Step ro μ H μ1 H1) : Kp W ro μ H μ1 H1 :=
  ⟨st.ext, fun _ _ => R.sq st, fun d o u e f => ⟨st.frm d _ f (fun ps z => by cases z) e, fun n hn z => by
    rcases st.new n d z with q | q
    · exact f n hn q
    · rw [e] at q; cases q⟩⟩
theorem Kp.side {W : Wd} {ro : Nat} {μ : Mu} {H : Hp} {D : Addr} {vs : List V} {u : HO} (hv : H D = some (.lst vs)) : Kp W ro μ H μ (upd H D u) :=
  ⟨fun _ _ e => e, fun _ _ s => sq_upd (by rw [hv]; intro ys z; cases z) (by rw [hv]; intro o ys z; cases z) s, fun d o u e f => ⟨by rw [upd_ne (fun z => by rw [z, hv] at e; cases e)]; exact e, f⟩⟩
theorem RelL.kp {W : Wd} {ro : Nat} {μ μ' : Mu} {H H' : Hp} {l : Loc'} {σ : L2.St} (r : RelL W.K μ H l σ) (k : Kp W ro μ H μ' H') : RelL W.K μ' H' l σ :=
  ⟨r.1, fun i v e => let ⟨u, h1, h2⟩ := r.2 i v e; ⟨u, h1, h2.mono k.ext k.sq⟩⟩
theorem SrcR.kp {W : Wd} {ro : Nat} {μ μ' : Mu} {H H' : Hp} {s : Src} {J : L2.It} (r : SrcR W ro μ H s J) (k : Kp W ro μ H μ' H') : SrcR W ro μ' H' s J := by
  cases r with
  | tp q d => exact .tp (k.sq _ _ q) (d.mono k.ext k.sq)
  | ob q => exact .ob (k.ext _ _ q)
  | ent q d => exact .ent (k.sq _ _ q) (d.mono k.ext k.sq)
  | enl q => exact .enl (k.ext _ _ q)
  | zpt q d q' d' => exact .zpt (k.sq _ _ q) (d.mono k.ext k.sq) (k.sq _ _ q') (d'.mono k.ext k.sq)
  | zpl q q' => exact .zpl (k.ext _ _ q) (k.ext _ _ q')
  | rg n => exact .rg n
  | tpc lo c n => exact .tpc lo c n
  | dk q f d => exact .dk (k.frz _ _ _ q f).1 (k.frz _ _ _ q f).2 (d.mono k.ext k.sq)
/-- in a block nothing is raised -/
abbrev w0 (X : Cx) (ca : Ca) : Wd := wd X ca E0
/-- the body of a collecting turn -/
theorem turn_body {ro : Nat} {μ1 : Mu} {l : Loc'} {σ : L2.St} {H1 : Hp} {D : Addr} {vs : List Nat} {mt : AV → Loc' → Option Loc'} {mc me : Loc' → AH → R AV} (hD : H1 D = none) (hsl : ∀ i ∈ ws, i ∈ vs)
    {x : AV} {h h1 : AH} {ys : List AV} {μ : Mu} {acc : List AV} {H : Hp} {v : V}
    (e : turnL vs mt mc me l x h = .ok ys h1) (c : Col (w0 X ca) ro μ1 H1 D (BL X.K) μ acc h H) (L : RelL X.K μ H l σ) (d : Den X.K μ H x v) (hlen : acc.length + ys.length ≤ sizeLine) (Nx : Hp → Prop) (hx : ∀ μ' H', Col (w0 X ca) ro μ1 H1 D (BL X.K) μ' (acc ++ ys) h1 H' → Kp (w0 X ca) ro μ H μ' H' → Nx H') :
    tG (w0 X ca) ws mt v (L2.wipe σ vs) H fun σ2 H2 => L2.wipe σ2 vs = L2.wipe σ vs ∧ tT (w0 X ca) mc σ2 H2 fun b H3 =>
      if b = true then tE (w0 X ca) me σ2 H3 fun y H4 => ∃ acc, H4 D = some (.lst acc) ∧ acc.length < sizeLine ∧ Nx (upd H4 D (.lst (acc ++ [y]))) else Nx H3 := by
  obtain ⟨l2, b, h3, e1, e2, e3⟩ := turnL_ok e
  refine ⟨ro, μ, wipeL l vs, h, x, l2, ⟨L.wipe vs, c.R⟩, d, e1, fun σ2 L2' hl2 hd2 => ⟨?_, ro, μ, l2, h, ⟨L2', c.R⟩, ?_⟩⟩
  · rw [wipe_eq hl2 fun i hi => hd2 i fun z => hi (hsl i z), wipe_wipe]
  · have e2' : toB (mc l2 h) = .ok b h3 := by rw [e2]; rfl
    rw [e2']
    intro μ3 b' H3 st3 R3 eb
    cases eb
    have c3 := c.onL st3 R3
    rcases e3 with ⟨rfl, y, e4, rfl⟩ | ⟨rfl, rfl, rfl⟩
    · rw [if_pos rfl]
      refine ⟨ro, μ3, l2, h3, ⟨L2'.step c.R st3, R3⟩, ?_⟩
      rw [e4]
      intro μ4 u H4 st4 R4 d4
      have c4 := c3.onL st4 R4
      obtain ⟨o, q1, us, rfl, dl⟩ := c4.d
      refine ⟨us, q1, ?_, hx μ4 _ (c4.app hD d4 q1) (((Kp.step c.R st3).trans (Kp.step c3.R st4)).trans (Kp.side q1))⟩
      rw [← dl.length]
      simp only [List.length_cons, List.length_nil] at hlen
      omega
    · rw [if_neg Bool.false_ne_true]
      exact hx μ3 H3 (by rw [List.append_nil]; exact c3) (Kp.step c.R st3)
theorem lc_imp {own : List Nat} {mt : AV → Loc' → Option Loc'} {mi : Loc' → AH → R Src} {mc me : Loc' → AH → R AV} (hsl : ∀ i ∈ ws, i ∈ own) {σ : L2.St} {H : Hp} {Q : VK} (hq : tE (wd X ca E) (mLc own mt mi mc me) σ H Q) : tLc (tI (wd X ca E) mi) (tG (w0 X ca) ws mt) (tT (w0 X ca) mc) (tE (w0 X ca) me) own σ H Q := by
  obtain ⟨ro, μ, l, h, A, p⟩ := hq
  refine ⟨ro, μ, l, h, A, (bindP (fun μ H => SrcR (wd X ca E) ro μ H) A p).imp fun J H1 ⟨μ1, s, h1, A1, sr, st1, p1⟩ D hD => ?_⟩
  cases el : compLoop s (turnL own mt mc me l) turns 0 h1 with
  | bad => rw [el] at p1; exact False.elim p1
  | ex x hx => exact absurd el compLoop_nox
  | ok XS HF =>
    rw [el] at p1
    have hz : XS.length ≤ sizeLine := by
      have p2 : postG (dV (wd X ca E)) (wd X ca E) ro μ1 H1 (match lim XS.length with | true => alloc HF (.lst XS) | false => .bad) Q := p1
      cases e : lim XS.length with
      | false => rw [e] at p2; exact False.elim p2
      | true => exact lim_le e
    refine walk (W := w0 X ca) (ro := ro) (s := s) (J := J) (Co := fun μ acc h H => Col (w0 X ca) ro μ1 H1 D (BL X.K) μ acc h H ∧ SrcR (w0 X ca) ro μ H s J ∧ RelL X.K μ H l σ) (acc0 := [])
      (fun c => ⟨c.1.R, c.2.1⟩) (fun c st R => ⟨c.1.onL st R, c.2.1.step c.1.R st, c.2.2.step c.1.R st⟩) ?_ rfl el ⟨⟨(A1.R.to E0).laid hD, Step.laid hD, ⟨_, upd_same, _, rfl, .nil⟩, A1.R.fresh hD⟩, ?_, A1.L.step A1.R (Step.laid hD)⟩ fun μ2 H2 c => col_end (W := wd X ca E) hD ⟨c.1.R.to E, c.1.st, c.1.d, c.1.fr⟩ p1
    · exact fun et c d ⟨r, er⟩ Nx hx => turn_body hD hsl et c.1 c.2.2 d (by have := congrArg List.length er; simp only [List.length_append, List.length_nil] at this; omega) Nx fun μ' H' c' _ => hx μ' H' ⟨c', (sr.to E0).step (A1.R.to E0) c'.st, A1.L.step A1.R c'.st⟩
    · exact (sr.to E0).step (A1.R.to E0) (Step.laid hD)
/-- what holds in each block of a comprehension -/
abbrev InB (X : Cx) (scope : Scope) (F : Cx → Prop) : Prop := ∀ (s : Shared) (H : Hp) (C : Addr) (cl : List (Str × Addr)) (fp : List Addr), F (X.blk s H scope (compEnvC scope cl C X.env) fp)
theorem sim_lc {iter elt : Expr} {ifs : List Expr} {scope : Scope} {own : List (Str × Nat)} {mt : AV → Loc' → Option Loc'} {mi : Loc' → AH → R Src} {mc me : Loc' → AH → R AV} (hc : X.calm = true) (hN : X.N.Nodup) (hi : SimI X (wd X ca E) tg iter mi) (ok : BlkOk X.N X.env.scope scope own)
    (hg : InB X scope fun Y => SimG Y (w0 X ca) tg ws mt) (ht : InB X scope fun Y => SimTs Y (w0 X ca) ifs mc) (he : InB X scope fun Y => SimE Y (w0 X ca) elt me) (hsl : ∀ i ∈ ws, i ∈ own.map (·.2)) (hs : ∀ x, foldedSetIterable iter X.env x = pure x) :
    SimE X (wd X ca E) (.ListComp elt [⟨tg, iter, ifs, 0⟩] scope pos) (mLc (own.map (·.2)) mt mi mc me) :=
  PE.weaken (pe_lc hc hN hi ok hg ht he hs) fun σ H Q => lc_imp hsl
/-! two clauses -/
def turnL2 (vs vs1 : List Nat) (mt : AV → Loc' → Option Loc') (mi1 : Loc' → AH → R Src) (mt1 : AV → Loc' → Option Loc') (mc me : Loc' → AH → R AV) (l : Loc') : AV → AH → R (List AV) := fun x h2 => match mt x (wipeL l vs) with
  | some l2 => (mi1 l2 h2).bind fun s1 h3 => compLoop s1 (turnL vs1 mt1 mc me l2) turns 0 h3
  | none => .bad
def mLc2 (vs vs1 : List Nat) (mt : AV → Loc' → Option Loc') (mi mi1 : Loc' → AH → R Src) (mt1 : AV → Loc' → Option Loc') (mc me : Loc' → AH → R AV) : Loc' → AH → R AV := fun l h => (mi l h).bind fun s h1 => (compLoop s (turnL2 vs vs1 mt mi1 mt1 mc me l) turns 0 h1).bind fun xs h5 => match lim xs.length with
  | true => alloc h5 (.lst xs)
  | false => .bad
theorem lc2_imp {own vs1 ws1 : List Nat} {mt mt1 : AV → Loc' → Option Loc'} {mi mi1 : Loc' → AH → R Src} {mc me : Loc' → AH → R AV} (hsl : ∀ i ∈ ws, i ∈ own) (hsl1 : ∀ i ∈ ws1, i ∈ vs1) {σ : L2.St} {H : Hp} {Q : VK} (hq : tE (wd X ca E) (mLc2 own vs1 mt mi mi1 mt1 mc me) σ H Q) :
    tLc2 (tI (wd X ca E) mi) (tG (w0 X ca) ws mt) tYes (tI (w0 X ca) mi1) (tG (w0 X ca) ws1 mt1) (tT (w0 X ca) mc) (tE (w0 X ca) me) own vs1 σ H Q := by
  obtain ⟨ro, μ, l, h, A, p⟩ := hq
  refine ⟨ro, μ, l, h, A, (bindP (fun μ H => SrcR (wd X ca E) ro μ H) A p).imp fun J H1 ⟨μ1, s, h1, A1, sr, st1, p1⟩ D hD => ?_⟩
  cases el : compLoop s (turnL2 own vs1 mt mi1 mt1 mc me l) turns 0 h1 with
  | bad => rw [el] at p1; exact False.elim p1
  | ex x hx => exact absurd el compLoop_nox
  | ok XS HF =>
    rw [el] at p1
    have hz : XS.length ≤ sizeLine := by
      have p2 : postG (dV (wd X ca E)) (wd X ca E) ro μ1 H1 (match lim XS.length with | true => alloc HF (.lst XS) | false => .bad) Q := p1
      cases e : lim XS.length with
      | false => rw [e] at p2; exact False.elim p2
      | true => exact lim_le e
    refine walk (W := w0 X ca) (ro := ro) (s := s) (J := J) (Co := fun μ acc h H => Col (w0 X ca) ro μ1 H1 D (BL X.K) μ acc h H ∧ SrcR (w0 X ca) ro μ H s J ∧ RelL X.K μ H l σ) (acc0 := [])
      (fun c => ⟨c.1.R, c.2.1⟩) (fun c st R => ⟨c.1.onL st R, c.2.1.step c.1.R st, c.2.2.step c.1.R st⟩) ?_ rfl el ⟨⟨(A1.R.to E0).laid hD, Step.laid hD, ⟨_, upd_same, _, rfl, .nil⟩, A1.R.fresh hD⟩, ?_, A1.L.step A1.R (Step.laid hD)⟩ fun μ2 H2 c => col_end (W := wd X ca E) hD ⟨c.1.R.to E, c.1.st, c.1.d, c.1.fr⟩ p1
    · intro x h2 ys h3 μ2 acc H2 v et c d ⟨r, er⟩ Nx hx
      have hlen : acc.length + ys.length ≤ sizeLine := by have := congrArg List.length er; simp only [List.length_append, List.length_nil] at this; omega
      unfold turnL2 at et
      cases e1 : mt x (wipeL l own) with
      | none => rw [e1] at et; cases et
      | some l2 =>
        rw [e1] at et
        dsimp only at et
        cases e2 : mi1 l2 h2 with
        | ex _ _ => rw [e2] at et; cases et
        | bad => rw [e2] at et; cases et
        | ok s1 h4 =>
          rw [e2] at et
          have et : compLoop s1 (turnL vs1 mt1 mc me l2) turns 0 h4 = .ok ys h3 := et
          refine ⟨ro, μ2, wipeL l own, h2, x, l2, ⟨c.2.2.wipe own, c.1.R⟩, d, e1, fun σ2 L2' hl2 hd2 => ⟨?_, ?_⟩⟩
          · rw [wipe_eq hl2 fun i hi => hd2 i fun z => hi (hsl i z), wipe_wipe]
          · unfold tYes
            dsimp only
            rw [if_pos rfl]
            refine ⟨ro, μ2, l2, h2, ⟨L2', c.1.R⟩, ?_⟩
            rw [e2]
            intro μ4 J1 H4 st4 R4 sr1
            have c4 := c.1.onL st4 R4
            have L4 := L2'.step c.1.R st4
            refine walk (W := w0 X ca) (ro := ro) (s := s1) (J := J1) (Co := fun μ acc h H => Col (w0 X ca) ro μ1 H1 D (BL X.K) μ acc h H ∧ SrcR (w0 X ca) ro μ H s1 J1 ∧ RelL X.K μ H l2 σ2) (acc0 := acc)
              (fun c => ⟨c.1.R, c.2.1⟩) (fun c st R => ⟨c.1.onL st R, c.2.1.step c.1.R st, c.2.2.step c.1.R st⟩) ?_ rfl et ⟨c4, sr1, L4⟩ fun μ5 H5 c5 => hx μ5 H5 ⟨c5.1, (sr.to E0).step (A1.R.to E0) c5.1.st, A1.L.step A1.R c5.1.st⟩
            exact fun et c d ⟨r, er⟩ Nx hx => turn_body hD hsl1 et c.1 c.2.2 d (by have := congrArg List.length er; simp only [List.length_append] at this; omega) Nx fun μ' H' c' k => hx μ' H' ⟨c', c.2.1.kp k, c.2.2.kp k⟩
    · exact (sr.to E0).step (A1.R.to E0) (Step.laid hD)
theorem sim_lc2 {iter elt tg1 iter1 : Expr} {ifs1 : List Expr} {scope : Scope} {own : List (Str × Nat)} {vs1 ws1 : List Nat} {mt mt1 : AV → Loc' → Option Loc'} {mi mi1 : Loc' → AH → R Src} {mc me : Loc' → AH → R AV} (hc : X.calm = true) (hN : X.N.Nodup) (hi : SimI X (wd X ca E) tg iter mi) (ok : BlkOk X.N X.env.scope scope own) (hv : ∀ i ∈ vs1, i ∈ own.map (·.2))
    (hg : InB X scope fun Y => SimG Y (w0 X ca) tg ws mt) (hi1 : InB X scope fun Y => SimI Y (w0 X ca) tg1 iter1 mi1) (hg1 : InB X scope fun Y => SimG Y (w0 X ca) tg1 ws1 mt1) (ht : InB X scope fun Y => SimTs Y (w0 X ca) ifs1 mc) (he : InB X scope fun Y => SimE Y (w0 X ca) elt me) (hsl : ∀ i ∈ ws, i ∈ own.map (·.2)) (hsl1 : ∀ i ∈ ws1, i ∈ vs1) (hs : ∀ x, foldedSetIterable iter X.env x = pure x) (hs1 : ∀ env x, foldedSetIterable iter1 env x = pure x) :
    SimE X (wd X ca E) (.ListComp elt [⟨tg, iter, [], 0⟩, ⟨tg1, iter1, ifs1, 0⟩] scope pos) (mLc2 (own.map (·.2)) vs1 mt mi mi1 mt1 mc me) :=
  PE.weaken (pe_lc2 hc hN hi ok hv hg (fun _ _ _ _ _ => pts_nil) hi1 hg1 ht he hs hs1) fun σ H Q => lc2_imp hsl hsl1
end
end Ev
set_option Elab.async false
set_option linter.all false
set_option maxRecDepth 100000
set_option maxHeartbeats 4000000
/-! statements -/
namespace Ev
open PySem PySem.Spec PyProof.Rows L2
abbrev MS := Loc' → AH → RS
abbrev ME := Loc' → AH → R AV
def postS (W : Wd) (ro : Nat) (μ : Mu) (H : Hp) (r : RS) (D : Ends) : Prop := match r with
  | .nx l' h' => ∀ μ' σ' H', Step ro μ H μ' H' → At W ro μ' l' h' σ' H' → D.nx σ' H'
  | .rt v h' => ∀ μ' u H', Step ro μ H μ' H' → RelH W ro μ' h' H' → Den W.K μ' H' v u → D.rt u H'
  | .ex x h' => ∀ μ' H' cls d, Step ro μ H μ' H' → RelH W ro μ' h' H' → XRel W μ' H' x cls d → W.E cls d H'
  | .bad => False
theorem postS.later {W : Wd} {ro : Nat} {μ μ1 : Mu} {H H1 : Hp} {r : RS} {D : Ends} (p : postS W ro μ H r D) (st : Step ro μ H μ1 H1) : postS W ro μ1 H1 r D := by
  cases r with
  | nx l h => exact fun μ2 σ2 H2 st2 A => p μ2 σ2 H2 (st.trans st2) A
  | rt v h => exact fun μ2 u H2 st2 R d => p μ2 u H2 (st.trans st2) R d
  | ex x h => exact fun μ2 H2 c d st2 => p μ2 H2 c d (st.trans st2)
  | bad => exact p
def tS (W : Wd) (m : MS) : TS := fun D σ H => ∃ ro μ l h, At W ro μ l h σ H ∧ postS W ro μ H (m l h) D
abbrev SimS (X : Cx) (W : Wd) (st : Stmt) (m : MS) : Prop := PS X st (tS W m)
abbrev SimSs (X : Cx) (W : Wd) (sts : List Stmt) (m : MS) : Prop := PSs X sts (tS W m)
theorem PS.weaken {X : Cx} {st : Stmt} {t t' : TS} (p : PS X st t) (h : ∀ D σ H, t' D σ H → t D σ H) : PS X st t' := ⟨fun pins s σ H D I q => p.run pins s σ H D I (h D σ H q)⟩
theorem PSs.weaken {X : Cx} {st : List Stmt} {t t' : TS} (p : PSs X st t) (h : ∀ D σ H, t' D σ H → t D σ H) : PSs X st t' := ⟨fun pins s σ H D I q => p.run pins s σ H D I (h D σ H q)⟩
/-- an expression, then the rest -/
theorem toS_P {α β : Type} (Dn : Mu → Hp → α → β → Prop) {W : Wd} {ro : Nat} {μ : Mu} {l : Loc'} {h : AH} {σ : L2.St} {H : Hp} {r : R α} {k : α → AH → RS} {D : Ends} (A : At W ro μ l h σ H) (p : postS W ro μ H (r.toS k) D) :
    postG Dn W ro μ H r fun u H1 => ∃ μ1 v h1, At W ro μ1 l h1 σ H1 ∧ Dn μ1 H1 v u ∧ Step ro μ H μ1 H1 ∧ postS W ro μ1 H1 (k v h1) D := by
  cases r with
  | ok v h1 => exact fun μ1 u H1 st R d => ⟨μ1, v, h1, ⟨A.L.step A.R st, R⟩, d, st, postS.later (show postS W ro μ H (k v h1) D from p) st⟩
  | ex x h1 => exact p
  | bad => exact p
def mSeq (m1 m2 : MS) : MS := fun l h => (m1 l h).bind m2
def mNx : MS := fun l h => .nx l h
def mEx (me : ME) : MS := fun l h => (me l h).toS fun _ h1 => .nx l h1
def mAs (mt : AV → Loc' → Option Loc') (me : ME) : MS := fun l h => (me l h).toS fun v h1 => match mt v l with
  | some l1 => .nx l1 h1
  | none => .bad
def mSet (i : Nat) (me : ME) : MS := fun l h => (me l h).toS fun v h1 => .nx (l.set i (some v)) h1
def mPar (i j : Nat) (ma mb : ME) : MS := fun l h => (ma l h).toS fun v h1 => (mb l h1).toS fun u h2 => .nx ((l.set i (some v)).set j (some u)) h2
def mAtt (mo : ME) (alts : List (Nat × Nat)) (mv : ME) : MS := fun l h => (mv l h).toS fun v h1 => (mo l h1).toS fun x h2 => (setA x alts v h2).toS fun _ h3 => .nx l h3
def mAug (mo : ME) (alts : List (Nat × Nat)) (mv : ME) : MS := fun l h => (mo l h).toS fun x h1 => (attA x alts h1).toS fun y h2 => (mv l h2).toS fun z h3 => match y, z with
  | .int i, .int j => (setA x alts (.int (i + j)) h3).toS fun _ h4 => .nx l h4
  | _, _ => .bad
def mPut (md mk mv : ME) : MS := fun l h => (mv l h).toS fun v h1 => (md l h1).toS fun x h2 => (mk l h2).toS fun y h3 => (putD x y v h3).toS fun _ h4 => .nx l h4
def mIf (mc : ME) (ma mb : MS) : MS := fun l h => (mc l h).toS fun v h1 => match v with
  | .bl true => ma l h1
  | .bl false => mb l h1
  | _ => .bad
def mWhl (mc : ME) (mb : MS) : MS := fun l h => whileLoop mc mb turns l h
def mFor (mt : AV → Loc' → Option Loc') (mi : Loc' → AH → R Src) (mb : MS) : MS := fun l h => (mi l h).toS fun s h1 => forLoop s (fun x l h => match mt x l with
  | some l1 => mb l1 h
  | none => .bad) turns 0 l h1
def mRet (me : ME) : MS := fun l h => (me l h).toS fun v h1 => .rt v h1
def mNever : MS := fun _ _ => .bad
section
variable {X : Cx} {ca : Ca} {E : XK} {e o a b c : Expr} {st : Stmt} {rest : List Stmt} {ma mb mc me : ME} {m1 m2 : MS} {pos p p' : Pos} {ws : List Nat}
theorem sims_nil : SimSs X (wd X ca E) [] mNx := PSs.weaken pss_nil fun D σ H ⟨ro, μ, l, h, A, p⟩ => p μ σ H Step.refl A
theorem sims_cons (h1 : SimS X (wd X ca E) st m1) (h2 : SimSs X (wd X ca E) rest m2) : SimSs X (wd X ca E) (st :: rest) (mSeq m1 m2) :=
  PSs.weaken (pss_cons h1 h2) fun D σ H ⟨ro, μ, l, h, A, p⟩ => ⟨ro, μ, l, h, A, by
    have p : postS (wd X ca E) ro μ H ((m1 l h).bind m2) D := p
    cases e : m1 l h with
    | nx l1 h1 =>
      rw [e] at p
      exact fun μ1 σ1 H1 st A1 => ⟨ro, μ1, l1, h1, A1, postS.later (show postS (wd X ca E) ro μ H (m2 l1 h1) D from p) st⟩
    | rt v h1 => rw [e] at p; exact p
    | ex x h1 => rw [e] at p; exact p
    | bad => rw [e] at p; exact p⟩
theorem sims_one (h1 : SimS X (wd X ca E) st m1) : SimSs X (wd X ca E) [st] m1 := pss_one h1
theorem sims_pass : SimS X (wd X ca E) (.Pass pos) mNx := PS.weaken ps_pass fun D σ H ⟨ro, μ, l, h, A, p⟩ => p μ σ H Step.refl A
theorem sims_doc {x : Str} {j : Nat} : SimS X (wd X ca E) (.Expr (.Constant (.str x) j p) pos) mNx := PS.weaken ps_doc fun D σ H ⟨ro, μ, l, h, A, p⟩ => p μ σ H Step.refl A
theorem sims_never : SimS X (wd X ca E) st mNever := PS.weaken ps_never fun D σ H ⟨ro, μ, l, h, A, p⟩ => p
theorem simss_never : SimSs X (wd X ca E) rest mNever := PSs.weaken pss_never fun D σ H ⟨ro, μ, l, h, A, p⟩ => p
theorem sims_ex (he : SimE X (wd X ca E) e me) (hs : swapsWith e none pos.line X.env = pure false) : SimS X (wd X ca E) (.Expr e pos) (mEx me) :=
  PS.weaken (ps_expr he hs) fun D σ H ⟨ro, μ, l, h, A, p⟩ => ⟨ro, μ, l, h, A, (toS_P (dV _) A p).imp fun u H1 ⟨μ1, v, h1, A1, d, st, q⟩ => q μ1 σ H1 Step.refl A1⟩
theorem sims_ret (he : SimE X (wd X ca E) e me) : SimS X (wd X ca E) (.Return (some e) pos) (mRet me) :=
  PS.weaken (ps_ret he) fun D σ H ⟨ro, μ, l, h, A, p⟩ => ⟨ro, μ, l, h, A, (toS_P (dV _) A p).imp fun u H1 ⟨μ1, v, h1, A1, d, st, q⟩ => q μ1 u H1 Step.refl A1.R d⟩
theorem sims_as {tg : Expr} {mt : AV → Loc' → Option Loc'} (he : SimE X (wd X ca E) e me) (hg : SimG X (wd X ca E) tg ws mt) (hs : swapsWithSole [tg] e pos.line X.env = pure false) (hw : swappedStores [tg] e X.env = pure none)
    (h1 : (assignEach [tg] X.env).map (·.2) = [assign tg X.env]) : SimS X (wd X ca E) (.Assign [tg] e pos) (mAs mt me) :=
  PS.weaken (ps_asg he hg hs hw h1) fun D σ H ⟨ro, μ, l, h, A, p⟩ => ⟨ro, μ, l, h, A, (toS_P (dV _) A p).imp fun u H1 ⟨μ1, v, h1, A1, d, st, q⟩ => by
    cases e1 : mt v l with
    | none => rw [e1] at q; exact False.elim q
    | some l1 =>
      rw [e1] at q
      exact ⟨ro, μ1, l, h1, v, l1, A1, d, e1, fun σ' L _ _ => q μ1 σ' H1 Step.refl ⟨L, A1.R⟩⟩⟩
theorem sims_set {i : Nat} {x : Str} (hN : X.N.Nodup) (hi : X.N[i]? = some x) (hx : Loc X.env.scope x) (he : SimE X (wd X ca E) e me) (hs : swapsWith e (some (.Name x p)) pos.line X.env = pure false) (hf : X.fn x = true ∨ X.env.scope.names.lookup x = some .local) :
    SimS X (wd X ca E) (.Assign [.Name x p] e pos) (mSet i me) :=
  PS.weaken (ps_set hN hi hx he hs hf) fun D σ H ⟨ro, μ, l, h, A, p⟩ => ⟨ro, μ, l, h, A, (toS_P (dV _) A p).imp fun u H1 ⟨μ1, v, h1, A1, d, st, q⟩ => q μ1 _ H1 Step.refl ⟨A1.L.set d, A1.R⟩⟩
/-- name = [..] -/
theorem sims_lc {i : Nat} {y : Str} {py : Pos} {elt tg iter : Expr} {ifs : List Expr} {scope : Scope} {own : List (Str × Nat)} {mt : AV → Loc' → Option Loc'} {mi : Loc' → AH → R Src} (hc : X.calm = true) (hN : X.N.Nodup) (hy : X.N[i]? = some y) (hyl : X.env.scope.names.lookup y = some .local)
    (hsw : swapsWith (.ListComp elt [⟨tg, iter, ifs, 0⟩] scope p) (some (.Name y py)) pos.line X.env = pure true) (hi : SimI X (wd X ca E) tg iter mi) (ok : BlkOk X.N X.env.scope scope own)
    (hg : InB X scope fun Y => SimG Y (w0 X ca) tg ws mt) (ht : InB X scope fun Y => SimTs Y (w0 X ca) ifs mc) (he : InB X scope fun Y => SimE Y (w0 X ca) elt me) (hsl : ∀ i ∈ ws, i ∈ own.map (·.2)) (hs : ∀ x, foldedSetIterable iter X.env x = pure x) :
    SimS X (wd X ca E) (.Assign [.Name y py] (.ListComp elt [⟨tg, iter, ifs, 0⟩] scope p) pos) (mSet i (mLc (own.map (·.2)) mt mi mc me)) :=
  PS.weaken (ps_setLc hc hN hy hyl hsw hi ok hg ht he hs) fun D σ H ⟨ro, μ, l, h, A, p⟩ => lc_imp hsl ⟨ro, μ, l, h, A, (toS_P (dV _) A p).imp fun u H1 ⟨μ1, v, h1, A1, d, st, q⟩ => q μ1 _ H1 Step.refl ⟨A1.L.set d, A1.R⟩⟩
theorem sims_lc2 {i : Nat} {y : Str} {py : Pos} {iter elt tg tg1 iter1 : Expr} {ifs1 : List Expr} {scope : Scope} {own : List (Str × Nat)} {vs1 ws1 : List Nat} {mt mt1 : AV → Loc' → Option Loc'} {mi mi1 : Loc' → AH → R Src} (hc : X.calm = true) (hN : X.N.Nodup) (hy : X.N[i]? = some y) (hyl : X.env.scope.names.lookup y = some .local)
    (hsw : swapsWith (.ListComp elt [⟨tg, iter, [], 0⟩, ⟨tg1, iter1, ifs1, 0⟩] scope p) (some (.Name y py)) pos.line X.env = pure true) (hi : SimI X (wd X ca E) tg iter mi) (ok : BlkOk X.N X.env.scope scope own) (hv : ∀ i ∈ vs1, i ∈ own.map (·.2))
    (hg : InB X scope fun Y => SimG Y (w0 X ca) tg ws mt) (hi1 : InB X scope fun Y => SimI Y (w0 X ca) tg1 iter1 mi1) (hg1 : InB X scope fun Y => SimG Y (w0 X ca) tg1 ws1 mt1) (ht : InB X scope fun Y => SimTs Y (w0 X ca) ifs1 mc) (he : InB X scope fun Y => SimE Y (w0 X ca) elt me) (hsl : ∀ i ∈ ws, i ∈ own.map (·.2)) (hsl1 : ∀ i ∈ ws1, i ∈ vs1) (hs : ∀ x, foldedSetIterable iter X.env x = pure x) (hs1 : ∀ env x, foldedSetIterable iter1 env x = pure x) :
    SimS X (wd X ca E) (.Assign [.Name y py] (.ListComp elt [⟨tg, iter, [], 0⟩, ⟨tg1, iter1, ifs1, 0⟩] scope p) pos) (mSet i (mLc2 (own.map (·.2)) vs1 mt mi mi1 mt1 mc me)) :=
  PS.weaken (ps_setLc2 hc hN hy hyl hsw hi ok hv hg (fun _ _ _ _ _ => pts_nil) hi1 hg1 ht he hs hs1) fun D σ H ⟨ro, μ, l, h, A, p⟩ => lc2_imp hsl hsl1 ⟨ro, μ, l, h, A, (toS_P (dV _) A p).imp fun u H1 ⟨μ1, v, h1, A1, d, st, q⟩ => q μ1 _ H1 Step.refl ⟨A1.L.set d, A1.R⟩⟩
theorem sims_par {i j : Nat} {x y : Str} {px py pt pt2 : Pos} {kt k2 : Nat} (hc : X.calm = true) (hN : X.N.Nodup) (hi : X.N[i]? = some x) (hj : X.N[j]? = some y) (hij : i ≠ j) (hx : X.env.scope.names.lookup x = some .local) (hy : X.env.scope.names.lookup y = some .local) (ha : SimE X (wd X ca E) a ma) (hb : SimE X (wd X ca E) b mb)
    (hna : notStar a = true) (hnb : notStar b = true) (hw : swappedStores [.Tuple [.Name x px, .Name y py] kt pt] (.Tuple [a, b] k2 pt2) X.env = pure (some [x, y])) (hs : swapsWithSole [.Tuple [.Name x px, .Name y py] kt pt] (.Tuple [a, b] k2 pt2) pos.line X.env = pure false) :
    SimS X (wd X ca E) (.Assign [.Tuple [.Name x px, .Name y py] kt pt] (.Tuple [a, b] k2 pt2) pos) (mPar i j ma mb) :=
  PS.weaken (ps_par hc hN hi hj hij hx hy (pa_cons ha (one_of hb hnb) (star_one hna)) hw hs) fun D σ H ⟨ro, μ, l, h, A, p⟩ => ⟨ro, μ, l, h, A, (toS_P (dV _) A p).imp fun u H1 ⟨μ1, v, h1, A1, d, st, q⟩ => ⟨ro, μ1, l, h1, A1, (toS_P (dV _) A1 q).imp fun u2 H2 ⟨μ2, v2, h2, A2, d2, st2, q2⟩ =>
    ⟨u, u2, rfl, q2 μ2 _ H2 Step.refl ⟨(A2.L.set (A1.R.den st2 d)).set d2, A2.R⟩⟩⟩⟩
/-! slots -/
theorem slH_same {H : Hp} {a C dx : Addr} {vs : List (Option V)} (h : H dx = some (.xd [])) : SlX.slH H a C dx vs = upd H a (SlX.SlO a C dx vs) := by
  unfold SlX.slH
  have : upd H dx (.xd []) = H := by
    funext b
    by_cases e : b = dx
    · subst e; rw [upd_same, h]
    · rw [upd_ne e]
  rw [this]
theorem putS_rel {K : PySem.W.Frag} {μ : Mu} {H : Hp} {fs : List (Option AV)} {vs : List (Option V)} {i : Nat} {y : AV} {u : V} (hf : ∀ (i : Nat) v, fs[i]? = some (some v) → ∃ u, vs[i]? = some (some u) ∧ Den K μ H v u) (d : Den K μ H y u) :
    ∀ (j : Nat) v, (putS' i y fs)[j]? = some (some v) → ∃ u', (SlX.putS i u vs)[j]? = some (some u') ∧ Den K μ H v u' := fun j v e => by
  by_cases hj : j = i
  · subst hj
    refine ⟨u, SlX.putS_get .., ?_⟩
    unfold putS' at e
    rw [List.getElem?_set_self (by simp only [List.length_append, List.length_replicate]; omega)] at e
    cases e
    exact d
  · have e' : fs[j]? = some (some v) := by
      unfold putS' at e
      rw [List.getElem?_set_ne (Ne.symm hj)] at e
      rcases Nat.lt_or_ge j fs.length with h1 | h1
      · rwa [List.getElem?_append_left h1] at e
      · rw [List.getElem?_append_right h1, List.getElem?_replicate] at e
        split at e <;> cases e
    obtain ⟨u', h1, h2⟩ := hf j v e'
    exact ⟨u', (SlX.putS_ne hj).mpr h1, h2⟩
/-- a slot is set -/
theorem setA_of {ro : Nat} {μ : Mu} {h h' : AH} {H : Hp} {x y r : AV} {u w : V} {alts : List (Nat × Nat)} {f : Str} (R : RelH (wd X ca E) ro μ h H) (dx : Den X.K μ H x u) (dy : Den X.K μ H y w) (hk : ∀ q ∈ alts, SltK X ca f q) (e : setA x alts y h = .ok r h') :
    ∃ a C ddx pp vs i, u = .ref a ∧ SlX.Slt H a C ddx vs ∧ SlX.SCls X.K C ∧ SlX.Slot1 X.K C f pp i ∧ Step ro μ H μ (SlX.slH H a C ddx (SlX.putS i w vs)) ∧ RelH (wd X ca E) ro μ h' (SlX.slH H a C ddx (SlX.putS i w vs)) := by
  unfold setA at e
  cases dx with
  | @obj n b hn =>
    dsimp only at e
    cases g : h.get n with
    | none => rw [g] at e; cases e
    | some oo =>
      rw [g] at e
      cases oo with
      | ins c fs =>
        dsimp only at e
        cases e2 : altOf c alts with
        | none => rw [e2] at e; cases e
        | some i =>
          rw [e2] at e
          dsimp only at e
          cases e3 : Nat.ble h.ro n with
          | false => rw [e3] at e; cases e
          | true =>
            rw [e3] at e
            cases e
            have hr : ro ≤ n := by rw [← R.roe]; exact Nat.le_of_ble_eq_true e3
            obtain ⟨n', b', ddx, vs, ev, hn', eu, g', hs, h1, h2, hf⟩ := ins_slt R (Den.obj hn) (show insOf h (.obj n) = some (c, fs) by unfold insOf; dsimp only; rw [g])
            cases ev
            rw [hn] at hn'; cases hn'
            obtain ⟨k1, dd, k2⟩ := hk _ (alt_mem e2)
            refine ⟨b, ca c, ddx, dd, vs, i, rfl, hs, k1, k2, ?_⟩
            rw [slH_same h2]
            have st : Step ro μ H μ (upd H b (SlX.SlO b (ca c) ddx (SlX.putS i w vs))) := Step.write hn hr
            refine ⟨st, R.write hn hr g (by rw [h1]; unfold SlX.SlO; intro z; cases z) ⟨ddx, _, upd_same, ?_, ?_⟩⟩
            · rw [upd_ne (fun z => by rw [z, h1] at h2; unfold SlX.SlO at h2; cases h2)]; exact h2
            · exact putS_rel (fun j v e => let ⟨u, q1, q2⟩ := hf j v e; ⟨u, q1, R.den st q2⟩) (R.den st dy)
      | _ => cases e
  | _ => cases e
theorem setA_nox {x y : AV} {alts : List (Nat × Nat)} {h : AH} {z : AX} {h' : AH} : setA x alts y h ≠ .ex z h' := fun e => by
  unfold setA at e
  split at e
  · split at e
    · split at e
      · split at e <;> cases e
      · cases e
    · cases e
  · cases e
theorem sims_att {f : Str} {alts : List (Nat × Nat)} {mo mv : ME} (ho : SimE X (wd X ca E) o mo) (hv : SimE X (wd X ca E) e mv) (hk : ∀ q ∈ alts, SltK X ca f q) (hs : swapsWith e (some (.Attribute o f p')) pos.line X.env = pure false) :
    SimS X (wd X ca E) (.Assign [.Attribute o f p'] e pos) (mAtt mo alts mv) :=
  PS.weaken (SlX.ps_sl ho hv hs) fun D σ H ⟨ro, μ, l, h, A, p⟩ => ⟨ro, μ, l, h, A, (toS_P (dV _) A p).imp fun u H1 ⟨μ1, v, h1, A1, d, st, q⟩ => ⟨ro, μ1, l, h1, A1, (toS_P (dV _) A1 q).imp fun u2 H2 ⟨μ2, x, h2, A2, d2, st2, q2⟩ => by
    cases es : setA x alts v h2 with
    | bad => rw [es] at q2; exact False.elim q2
    | ex z hz => exact absurd es setA_nox
    | ok r h3 =>
      rw [es] at q2
      obtain ⟨a, C, ddx, pp, vs, i, eu, k1, k2, k3, k4, k5⟩ := setA_of A2.R d2 (A1.R.den st2 d) hk es
      exact ⟨a, C, ddx, pp, vs, i, eu, k1, k2, k3, q2 μ2 σ _ k4 ⟨A2.L.step A2.R k4, k5⟩⟩⟩⟩
/-! control -/
theorem sims_if {ms1 ms2 : MS} {ss1 ss2 : List Stmt} (hc : SimT X (wd X ca E) c mc) (ha : SimSs X (wd X ca E) ss1 ms1) (hb : SimSs X (wd X ca E) ss2 ms2) : SimS X (wd X ca E) (.If c ss1 ss2 pos) (mIf mc ms1 ms2) :=
  PS.weaken (ps_if hc ha hb) fun D σ H ⟨ro, μ, l, h, A, p⟩ => ⟨ro, μ, l, h, A, by
    have p : postS (wd X ca E) ro μ H ((mc l h).toS fun v h1 => match v with | .bl true => ms1 l h1 | .bl false => ms2 l h1 | _ => .bad) D := p
    cases e : mc l h with
    | bad => rw [e] at p; exact p
    | ex x h1 => rw [e] at p; exact p
    | ok v h1 =>
      rw [e] at p
      cases v with
      | bl k =>
        intro μ1 k' H1 st R1 ek
        cases ek
        cases k with
        | true => rw [if_pos rfl]; exact ⟨ro, μ1, l, h1, ⟨A.L.step A.R st, R1⟩, postS.later (show postS (wd X ca E) ro μ H (ms1 l h1) D from p) st⟩
        | false => rw [if_neg Bool.false_ne_true]; exact ⟨ro, μ1, l, h1, ⟨A.L.step A.R st, R1⟩, postS.later (show postS (wd X ca E) ro μ H (ms2 l h1) D from p) st⟩
      | _ => exact False.elim p⟩
theorem sims_whl {mb : MS} {body : List Stmt} (hp : PassesOwn (model X.prog X.w) X.A X.env X.xe) (hc : SimT X (wd X ca E) c mc) (hb : SimSs X (wd X ca E) body mb) : SimS X (wd X ca E) (.While c body [] pos) (mWhl mc mb) :=
  PS.weaken (ps_while hp hc hb) fun D σ H ⟨ro, μ, l, h, A, p⟩ => by
    refine ⟨fun m σ' H' => ∃ μ' l' h', Step ro μ H μ' H' ∧ At (wd X ca E) ro μ' l' h' σ' H' ∧ postS (wd X ca E) ro μ H (whileLoop mc mb m l' h') D, ⟨turns, μ, l, h, Step.refl, A, p⟩, ?_⟩
    rintro m σ1 H1 ⟨μ1, l1, h1, st1, A1, p1⟩
    cases m with
    | zero => exact False.elim p1
    | succ m =>
      have p1 : postS (wd X ca E) ro μ H ((mc l1 h1).toS fun v h2 => match v with | .bl true => (mb l1 h2).bind fun l2 h3 => whileLoop mc mb m l2 h3 | .bl false => .nx l1 h2 | _ => .bad) D := p1
      have p2 := p1.later st1
      refine ⟨ro, μ1, l1, h1, A1, ?_⟩
      cases e : mc l1 h1 with
      | bad => rw [e] at p2; exact p2
      | ex x hx => rw [e] at p2; exact p2
      | ok v h2 =>
        rw [e] at p2
        cases v with
        | bl k =>
          intro μ2 k' H2 st2 R2 ek
          cases ek
          have A2 : At (wd X ca E) ro μ2 l1 h2 σ1 H2 := ⟨A1.L.step A1.R st2, R2⟩
          have st12 := st1.trans st2
          cases k with
          | false =>
            rw [if_neg Bool.false_ne_true]
            exact p2 μ2 σ1 H2 st2 A2
          | true =>
            rw [if_pos rfl]
            have p3 : postS (wd X ca E) ro μ1 H1 ((mb l1 h2).bind fun l2 h3 => whileLoop mc mb m l2 h3) D := p2
            refine ⟨fun σ' H' => ∃ μ' l' h', Step ro μ H μ' H' ∧ At (wd X ca E) ro μ' l' h' σ' H' ∧ postS (wd X ca E) ro μ H (whileLoop mc mb m l' h') D, fun σ' H' q => ⟨m, Nat.lt_succ_self _, q⟩, ro, μ2, l1, h2, A2, ?_⟩
            rw [e] at p1
            have p4 : postS (wd X ca E) ro μ H ((mb l1 h2).bind fun l2 h3 => whileLoop mc mb m l2 h3) D := p1
            cases e3 : mb l1 h2 with
            | nx l3 h3 =>
              rw [e3] at p4
              exact fun μ3 σ3 H3 st3 A3 => ⟨μ3, l3, h3, st12.trans st3, A3, p4⟩
            | rt v h3 => rw [e3] at p4; exact fun μ3 u H3 st3 => p4 μ3 u H3 (st12.trans st3)
            | ex x h3 => rw [e3] at p4; exact fun μ3 H3 c d st3 => p4 μ3 H3 c d (st12.trans st3)
            | bad => rw [e3] at p4; exact p4
        | _ => exact False.elim p2
theorem sims_for {tg iter : Expr} {mt : AV → Loc' → Option Loc'} {mi : Loc' → AH → R Src} {mb : MS} {body : List Stmt} (hp : PassesOwn (model X.prog X.w) X.A X.env X.xe) (hc : X.calm = true) (hi : SimI X (wd X ca E) tg iter mi) (hg : SimG X (wd X ca E) tg ws mt) (hb : SimSs X (wd X ca E) body mb) (hs : ∀ x, foldedSetIterable iter X.env x = pure x) :
    SimS X (wd X ca E) (.For tg iter body [] pos) (mFor mt mi mb) :=
  PS.weaken (ps_for hp hc hi hg hb hs) fun D σ H ⟨ro, μ, l, h, A, p⟩ => ⟨ro, μ, l, h, A, (toS_P (fun μ H => SrcR (wd X ca E) ro μ H) A p).imp fun J H0 ⟨μ0, s, h0, A0, sr, st0, p0⟩ => by
    refine ⟨fun i m σ' H' => ∃ μ' l' h', Step ro μ0 H0 μ' H' ∧ At (wd X ca E) ro μ' l' h' σ' H' ∧ postS (wd X ca E) ro μ0 H0 (forLoop s (fun x l h => match mt x l with | some l1 => mb l1 h | none => .bad) m i l' h') D, ⟨turns, μ0, l, h0, Step.refl, A0, p0⟩, ?_⟩
    rintro i m σ1 H1 ⟨μ1, l1, h1, st1, A1, p1⟩
    cases m with
    | zero => exact False.elim p1
    | succ m =>
      have p1 : postS (wd X ca E) ro μ0 H0 (match s.at h1 i with
        | some (some x) => (match mt x l1 with | some l2 => mb l2 h1 | none => .bad).bind fun l2 h2 => forLoop s (fun x l h => match mt x l with | some l1 => mb l1 h | none => .bad) m (i + 1) l2 h2
        | some none => .nx l1 h1
        | none => .bad) D := p1
      have sr1 := sr.step A0.R st1
      cases ea : s.at h1 i with
      | none => rw [ea] at p1; exact False.elim p1
      | some oo =>
        rw [ea] at p1
        cases oo with
        | none => exact .inl ⟨sr1.stop A1.R ea, p1 μ1 σ1 H1 st1 A1⟩
        | some x =>
          obtain ⟨g, y⟩ := sr1.go A1.R ea
          refine .inr ⟨g, fun σ' H' => ∃ μ' l' h', Step ro μ0 H0 μ' H' ∧ At (wd X ca E) ro μ' l' h' σ' H' ∧ postS (wd X ca E) ro μ0 H0 (forLoop s (fun x l h => match mt x l with | some l1 => mb l1 h | none => .bad) m (i + 1) l' h') D, fun σ' H' q => ⟨m, Nat.lt_succ_self _, q⟩, fun v H' yv => ?_⟩
          obtain ⟨st2, R2, d⟩ := y v H' yv
          have A2 : At (wd X ca E) ro μ1 l1 h1 σ1 H' := ⟨A1.L.step A1.R st2, R2⟩
          dsimp only at p1
          cases e1 : mt x l1 with
          | none => rw [e1] at p1; exact False.elim p1
          | some l2 =>
            rw [e1] at p1
            dsimp only at p1
            refine ⟨ro, μ1, l1, h1, x, l2, A2, d, e1, fun σ2 L2' _ _ => ⟨ro, μ1, l2, h1, ⟨L2', A2.R⟩, ?_⟩⟩
            have st12 := st1.trans st2
            cases e3 : mb l2 h1 with
            | nx l3 h3 =>
              rw [e3] at p1
              exact fun μ3 σ3 H3 st3 A3 => ⟨μ3, l3, h3, st12.trans st3, A3, p1⟩
            | rt v h3 => rw [e3] at p1; exact fun μ3 u H3 st3 => p1 μ3 u H3 (st12.trans st3)
            | ex x h3 => rw [e3] at p1; exact fun μ3 H3 c d st3 => p1 μ3 H3 c d (st12.trans st3)
            | bad => rw [e3] at p1; exact p1⟩
end
end Ev
set_option Elab.async false
set_option linter.all false
set_option maxRecDepth 100000
set_option maxHeartbeats 4000000
/-! defs -/
namespace Ev
open PySem PySem.Spec PyProof.Rows L2
def endF (r : RS) : R AV := match r with
  | .nx _ h1 => .ok .non h1
  | .rt v h1 => .ok v h1
  | .ex x h1 => .ex x h1
  | .bad => .bad
/-- a def of np parameters, n names -/
def fnM (np n : Nat) (m : MS) : Fn := fun args h => match Nat.beq args.length np with
  | true => endF (m (args.map some ++ List.replicate (n - args.length) none) h)
  | false => .bad
def FnW (P : Program) (w : World) (K : PySem.W.Frag) (mg : Str → Option Value) (base : Heap) (ca : Ca) (lv : Nat) (F : Fn) (f : Addr) : Prop := FnR P w K mg base (L2N.CX P w) lv f (spF ⟨P, w, K, ca, E0⟩ F)
theorem FnW.s {X : Cx} {ca : Ca} {lv : Nat} {F : Fn} {f : Addr} (h : FnW X.prog X.w X.K X.mg X.base ca lv F f) : FnS X ca lv F f := h
theorem start_rel {K : PySem.W.Frag} {μ : Mu} {H : Hp} {args : List AV} {vs : List V} {N : List Str} (d : DenL K μ H args vs) : RelL K μ H (args.map some ++ List.replicate (N.length - args.length) none) (start N vs) := by
  unfold L2.start
  refine ⟨by simp [d.length], fun i v e => ?_⟩
  rcases Nat.lt_or_ge i args.length with hi | hi
  · rw [List.getElem?_append_left (by simpa using hi), List.getElem?_map] at e
    cases q : args[i]? with
    | none => rw [q] at e; cases e
    | some x =>
      rw [q] at e
      cases e
      obtain ⟨u, h1, h2⟩ := d.get q
      exact ⟨u, by rw [List.getElem?_append_left (by simpa [← d.length] using hi), List.getElem?_map, h1]; rfl, h2⟩
  · rw [List.getElem?_append_right (by simpa using hi), List.getElem?_replicate] at e
    split at e <;> cases e
section
variable {P : Program} {w : World} {K : PySem.W.Frag} {mg : Str → Option Value} {base : Heap} {ca : Ca} {x qual : Str} {params : Arguments} {body : List Stmt} {scope : Scope} {f : Addr} {fd : FuncData} {N ps : List Str} {k : Nat} {m : MS}
theorem fn_okS (F : FunD K x qual params body scope [] [] f fd) (S : FnScope N ps scope)
    (hbody : ∀ (cdv : Value) (A : Around) (outer : List Env) (s : Shared) (H : Hp) (E : XK), Room k (A.deeper (envOfC qual scope s.heap.objs.size f cdv)) → SimSs (cxOf (L2N.CX P w) P w K mg base N qual scope f cdv A outer s H E) ⟨P, w, K, ca, E⟩ body m) :
    FnOk P w K mg base (L2N.CX P w) (k + 1) f fd ps (spF ⟨P, w, K, ca, E0⟩ (fnM ps.length N.length m)) := by
  refine F.ok S (fun vs H Q E ⟨ro, μ, h, args, R, d, p⟩ => ?_) (fun cdv A outer s H vs Q E hr ⟨ro, μ, h, args, R, d, p⟩ => ⟨_, hbody cdv A outer s H E hr, ro, μ, args.map some ++ List.replicate (N.length - args.length) none, h, ⟨start_rel d, R.to E⟩, ?_⟩)
  · unfold fnM at p
    cases e : Nat.beq args.length ps.length with
    | false => rw [e] at p; exact False.elim p
    | true => rw [← d.length]; exact Nat.eq_of_beq_eq_true e
  · unfold fnM at p
    cases e : Nat.beq args.length ps.length with
    | false => rw [e] at p; exact False.elim p
    | true =>
      rw [e] at p
      dsimp only at p
      cases e2 : m (args.map some ++ List.replicate (N.length - args.length) none) h with
      | nx l h1 => rw [e2] at p; exact fun μ1 σ1 H1 st A1 => p μ1 .non H1 st A1.R .non
      | rt v h1 => rw [e2] at p; exact p
      | ex z h1 => rw [e2] at p; exact p
      | bad => rw [e2] at p; exact p
theorem fn_sim (F : FunD K x qual params body scope [] [] f fd) (S : FnScope N ps scope) (hb : Binds K fd ps [])
    (hbody : ∀ (cdv : Value) (A : Around) (outer : List Env) (s : Shared) (H : Hp) (E : XK), Room k (A.deeper (envOfC qual scope s.heap.objs.size f cdv)) → SimSs (cxOf (L2N.CX P w) P w K mg base N qual scope f cdv A outer s H E) ⟨P, w, K, ca, E⟩ body m) :
    FnW P w K mg base ca (k + 1) (fnM ps.length N.length m) f := by
  have q := (fn_okS (ca := ca) (mg := mg) (base := base) F S hbody).raw hb .nil
  exact q.imp fun vs H Q E h => by rw [List.append_nil]; exact h
end
end Ev
set_option Elab.async false
set_option linter.all false
set_option maxRecDepth 100000
set_option maxHeartbeats 4000000
/-! the rules in short, for printed terms -/
namespace Ev
open PySem PySem.Spec PyProof.Rows L2
/-- a context of a body: room lv -/
structure CF (X : Cx) (E : XK) (lv : Nat) : Prop where
  calm : X.calm = true
  room : Room lv X.A
  tk : L2N.Takes X (WE0 E)
  nd : X.N.Nodup
theorem CF.hu {X : Cx} {E : XK} {lv : Nat} (c : CF X E lv) : X.A.units + 65 < cLine := by have := c.room.un; omega
theorem CF.to {X : Cx} {E : XK} {lv : Nat} (c : CF X E lv) (k : Nat) (h : k ≤ lv) : Room k X.A := c.room.mono h
theorem takesN {X : Cx} : L2N.Takes X (WE0 E0) := takesF
theorem CF.blk {X : Cx} {E : XK} {lv : Nat} (c : CF X E lv) (s : Shared) (H : Hp) (scope : Scope) (ce : Env) (fp : List Addr) : CF (X.blk s H scope ce fp) E0 lv := ⟨c.calm, c.room, takesN, c.nd⟩
/-! the machine's words -/
def mV (i : Nat) : ME := fun l h => rOpt (l[i]?.join) h
def mC (x : AV) : ME := fun _ h => .ok x h
def mTup (ms : Loc' → AH → R (List AV)) : ME := fun l h => (ms l h).bind fun vs h1 => match lim vs.length with | true => .ok (.tup vs) h1 | false => .bad
def mLst (ms : Loc' → AH → R (List AV)) : ME := fun l h => (ms l h).bind fun vs h1 => match lim vs.length with | true => alloc h1 (.lst vs) | false => .bad
def a0 : Loc' → AH → R (List AV) := fun _ h => .ok [] h
def aC (ma : ME) (ms : Loc' → AH → R (List AV)) : Loc' → AH → R (List AV) := fun l h => (ma l h).bind fun x h1 => (ms l h1).bind fun xs h2 => .ok (x :: xs) h2
def mBin (op : Operator) (ma mb : ME) : ME := fun l h => (ma l h).bind fun x h1 => (mb l h1).bind fun y h2 => binA op x y h2
def mNeg (ma : ME) : ME := fun l h => (ma l h).bind fun x h1 => match x with | .int i => .ok (.int (-i)) h1 | _ => .bad
def mCmp (op : CmpOp) (ma mb : ME) : ME := fun l h => (ma l h).bind fun x h1 => (mb l h1).bind fun y h2 => cmpA op x y h2
def mChn (op op' : CmpOp) (ma mb mc : ME) : ME := fun l h => (ma l h).bind fun x h1 => (mb l h1).bind fun y h2 => asB (cmpA op x y h2) fun r h3 => match r with | true => (mc l h3).bind fun z h4 => cmpA op' y z h4 | false => .ok (.bl false) h3
def mNot (ma : ME) : ME := fun l h => asB (ma l h) fun r h1 => .ok (.bl (!r)) h1
def mIte (mc ma mb : ME) : ME := fun l h => asB (mc l h) fun r h1 => match r with | true => ma l h1 | false => mb l h1
def mSub (ma mb : ME) : ME := fun l h => (ma l h).bind fun x h1 => (mb l h1).bind fun y h2 => subA x y h2
def mCall (F : Fn) (ms : Loc' → AH → R (List AV)) : ME := fun l h => (ms l h).bind fun vs h1 => F vs h1
def mCall0 (F : Fn) : ME := fun _ h => F [] h
def mAttr (ma : ME) (alts : List (Nat × Nat)) : ME := fun l h => (ma l h).bind fun x h1 => attA x alts h1
def tab1 (F : Fn) : Tab := ⟨fun _ => F, fun _ => .non⟩
def mMet (τ : Tab) (ma : ME) (alts : List (Nat × Nat)) (ms : Loc' → AH → R (List AV)) : ME := fun l h => (ma l h).bind fun x h1 => match insOf h1 x with
  | some (c, _) => (match altOf c alts with
    | some k => (ms l h1).bind fun vs h2 => τ.fn k (x :: vs) h2
    | none => .bad)
  | none => .bad
def mMet0 (τ : Tab) (ma : ME) (alts : List (Nat × Nat)) : ME := fun l h => (ma l h).bind fun x h1 => match insOf h1 x with
  | some (c, _) => (match altOf c alts with
    | some k => τ.fn k [x] h1
    | none => .bad)
  | none => .bad
def mPrp (τ : Tab) (ma : ME) (alts : List (Nat × Nat)) : ME := fun l h => (ma l h).bind fun x h1 => match insOf h1 x with
  | some (c, _) => (match altOf c alts with
    | some k => (τ.fn k [x] h1).nox
    | none => .bad)
  | none => .bad
def mLenO (τ : Tab) (ma : ME) (alts : List (Nat × Nat)) : ME := fun l h => (ma l h).bind (lenK τ alts)
def mIsi (ma : ME) (c : Cl) : ME := fun l h => (ma l h).bind fun v h1 => rOpt ((isiA v c h1).map .bl) h1
def mB1 (g : List AV → AH → R AV) (ma : ME) : ME := fun l h => (ma l h).bind fun v h1 => g [v] h1
def mBs (g : List AV → AH → R AV) (ms : Loc' → AH → R (List AV)) : ME := fun l h => (ms l h).bind g
def mBm (m : Bm) (ma : ME) (ms : Loc' → AH → R (List AV)) : ME := fun l h => (ma l h).bind fun x h1 => match isLst x h1 with
  | true => (ms l h1).bind fun vs h2 => bmA m x vs h2
  | false => .bad
def mBm0 (m : Bm) (ma : ME) : ME := fun l h => (ma l h).bind fun x h1 => match isLst x h1 with
  | true => bmA m x [] h1
  | false => .bad
section
variable {X : Cx} {ca : Ca} {E : XK} {lv : Nat} {a b d e o : Expr} {es rest : List Expr} {ma mb mc : ME} {ms : Loc' → AH → R (List AV)} {pos p p2 apos : Pos} {x y : Str} {F : Fn} {f : Addr}
theorem gV (i : Nat) (hN : X.N[i]? = some x := by rfl) (hv : Vis X.env.scope x := by first | exact Or.inl rfl | exact Or.inr (Or.inl rfl) | exact Or.inr (Or.inr rfl)) (hd : (x == ("__debug__" : Str)) = false := by decide) (hc : (x == ("__classdict__" : Str)) = false := by decide) : SimE X (wd X ca E) (.Name x pos) (mV i) := sim_var hN hv hd hc
theorem gI {i : Int} {j : Nat} : SimE X (wd X ca E) (.Constant (.int i) j pos) (mC (.int i)) := sim_c pe_int fun _ _ => .int _
theorem gS {z : Str} {j : Nat} : SimE X (wd X ca E) (.Constant (.str z) j pos) (mC (.str z)) := sim_c pe_str fun _ _ => .str _
theorem gB {z : Bool} {j : Nat} : SimE X (wd X ca E) (.Constant (.bool z) j pos) (mC (.bl z)) := sim_c pe_bl fun _ _ => .bl _
theorem gN {j : Nat} : SimE X (wd X ca E) (.Constant .none j pos) (mC .non) := sim_c pe_non fun _ _ => .non
/-- a constant of the module -/
def GlK (K : PySem.W.Frag) (mg : Str → Option Value) (x : Str) (v : AV) : Prop := ∃ u w, mg x = some u ∧ RelV w u ∧ ∀ μ H, Den K μ H v w
theorem gG {v : AV} (k : GlK X.K X.mg x v) (hg : Gl X x := by rfl) (hd : (x == ("__debug__" : Str)) = false := by decide) : SimE X (wd X ca E) (.Name x pos) (mC v) := by
  obtain ⟨u, w, h1, h2, h3⟩ := k
  exact sim_c (pe_glob hg h1 h2 hd) h3
theorem g0 : SimA X (wd X ca E) [] a0 := sim_nil
theorem gA (ha : SimE X (wd X ca E) a ma) (hr : SimA X (wd X ca E) es ms) (hs : notStar a = true := by rfl) : SimA X (wd X ca E) (a :: es) (aC ma ms) := sim_cons ha hr (star_one hs)
theorem gTup {k : Nat} (ha : SimA X (wd X ca E) es ms) : SimE X (wd X ca E) (.Tuple es k pos) (mTup ms) := sim_tup ha
theorem gLst (ha : SimA X (wd X ca E) es ms) : SimE X (wd X ca E) (.List es pos) (mLst ms) := sim_mk ha
theorem gBin {op : Operator} (ha : SimE X (wd X ca E) a ma) (hb : SimE X (wd X ca E) b mb) : SimE X (wd X ca E) (.BinOp a op b pos) (mBin op ma mb) := sim_bin ha hb
theorem gNeg (ha : SimE X (wd X ca E) a ma) : SimE X (wd X ca E) (.UnaryOp .USub a pos) (mNeg ma) := sim_neg ha
theorem gCmp (c : CF X E lv) {op : CmpOp} (ha : SimE X (wd X ca E) a ma) (hb : SimE X (wd X ca E) b mb) (hm : behindInMarks op b = false := by rfl) : SimE X (wd X ca E) (.Compare a [op] [b] pos) (mCmp op ma mb) := sim_cmp c.hu ha hb hm
theorem tCmp (c : CF X E lv) {op : CmpOp} (ha : SimE X (wd X ca E) a ma) (hb : SimE X (wd X ca E) b mb) (hm : behindInMarks op b = false := by rfl) : SimT X (wd X ca E) (.Compare a [op] [b] pos) (mCmp op ma mb) := simt_cmp c.hu ha hb hm
theorem gChn (c : CF X E lv) {op op' : CmpOp} (ha : SimE X (wd X ca E) a ma) (hb : SimE X (wd X ca E) b mb) (hd : SimE X (wd X ca E) d mc) (hm : lastMarks [op, op'] [b, d] = false := by rfl) : SimE X (wd X ca E) (.Compare a [op, op'] [b, d] pos) (mChn op op' ma mb mc) := sim_chain c.hu ha hb hd hm
theorem tChn (c : CF X E lv) {op op' : CmpOp} (ha : SimE X (wd X ca E) a ma) (hb : SimE X (wd X ca E) b mb) (hd : SimE X (wd X ca E) d mc) (hm : lastMarks [op, op'] [b, d] = false := by rfl) : SimT X (wd X ca E) (.Compare a [op, op'] [b, d] pos) (mChn op op' ma mb mc) := simt_chain c.hu ha hb hd hm
theorem gNot (ha : SimE X (wd X ca E) a ma) : SimE X (wd X ca E) (.UnaryOp .Not a pos) (mNot ma) := sim_not ha
theorem tNot (ha : SimT X (wd X ca E) a ma) : SimT X (wd X ca E) (.UnaryOp .Not a pos) (mNot ma) := simt_not ha
theorem gIte (hc : SimT X (wd X ca E) d mc) (ha : SimE X (wd X ca E) a ma) (hb : SimE X (wd X ca E) b mb) : SimE X (wd X ca E) (.IfExp d a b pos) (mIte mc ma mb) := sim_ite hc ha hb
theorem gSub (c : CF X E lv) (ha : SimE X (wd X ca E) a ma) (hb : SimE X (wd X ca E) b mb) (hs : PlainIx b := by exact fun _ _ => rfl) : SimE X (wd X ca E) (.Subscript a b pos) (mSub ma mb) := sim_sub c.hu ha hb hs
/-- a test by its value -/
theorem tV (ha : SimE X (wd X ca E) a ma) (he : ∀ whole, isTrue a X.env whole = (do let v ← whole; standAt a.pos; holding [v] (truthy v)) := by intro _; rfl) : SimT X (wd X ca E) a ma := sim_pt ha he
theorem gCall (c : CF X E lv) {k : Nat} (hm : X.mg x = some (.ref f)) (hk : PySem.W.keepIn X.K (.ref f) = true) (hf : FnW X.prog X.w X.K X.mg X.base ca k F f) (ha : SimA X (wd X ca E) (e :: es) ms) (hl : k ≤ lv := by decide) (hg : Gl X x := by rfl) (hs : (e :: es).all notStar = true := by rfl) (hd : (x == ("__debug__" : Str)) = false := by decide) :
    SimE X (wd X ca E) (.Call (.Name x p) (e :: es) [] pos) (mCall F ms) := sim_call (c.to k hl) c.tk hg hm hk hf.s ha hs hd
theorem gCall0 (c : CF X E lv) {k : Nat} (hm : X.mg x = some (.ref f)) (hk : PySem.W.keepIn X.K (.ref f) = true) (hf : FnW X.prog X.w X.K X.mg X.base ca k F f) (hl : k ≤ lv := by decide) (hg : Gl X x := by rfl) (hd : (x == ("__debug__" : Str)) = false := by decide) :
    SimE X (wd X ca E) (.Call (.Name x p) [] [] pos) (mCall0 F) := sim_call0 (c.to k hl) c.tk hg hm hk hf.s hd
theorem gIsi (n : Ty) (hm : X.mg "isinstance" = none) (hym : X.mg y = none) (ha : SimE X (wd X ca E) a ma) (hyv : bootBuiltins y = some (.type n.name) := by rfl) (hn : n ≠ .nt := by decide) (hg : Gl X "isinstance" := by rfl) (hs : notStar a = true := by rfl) (hy : Gl X y := by rfl) (hy1 : y ≠ "__name__" := by decide) (hy2 : (y == ("__debug__" : Str)) = false := by decide) :
    SimE X (wd X ca E) (.Call (.Name "isinstance" p) [a, .Name y p2] [] pos) (mIsi ma (.ty n)) := sim_isi hg hm ha hs hn hy hym hyv hy1 hy2
end
end Ev
set_option Elab.async false
set_option linter.all false
set_option maxRecDepth 100000
set_option maxHeartbeats 4000000
/-! what the head tells: defs by a path, facts by a test -/
namespace Ev
open PySem PySem.Spec PyProof.Rows L2
abbrev Path := PySem.W.Frag → Addr
/-- a global's object -/
def pG (x : Str) : Path := fun K => He.ga K x
/-- a class's attribute -/
def pM (x m : Str) : Path := fun K => He.ma K (He.ga K x) m
/-- the getter of a property -/
def pP (x m : Str) : Path := fun K => match PySem.W.recIn K (He.ma K (He.ga K x) m) "property" with
  | some (.ref g :: _) => g
  | _ => 0
structure DefP where
  at_ : Path
  name : Str
  qual : Str
  params : Arguments
  body : List Stmt
  scope : Scope
abbrev ObF : Type := Option (Str × Str × Arguments × FuncBody × Scope × Addr × List (Str × Addr) × Addr)
def obF (K : PySem.W.Frag) (a : Addr) : ObF := match K.lookup a with
  | some ⟨_, _, .func fd, _⟩ => some (fd.name, fd.qualname, fd.params, fd.body, fd.scope, fd.globals, fd.closure, fd.builtins)
  | _ => none
def DefP.val (d : DefP) : ObF := some (d.name, d.qual, d.params, .stmts d.body, d.scope, mainGlobals, [], builtinsNs)
def DefP.ok (K : PySem.W.Frag) (d : DefP) : Bool := PySem.W.keepIn K (.ref (d.at_ K)) && (match K.lookup (d.at_ K) with
  | some ⟨_, _, .func fd, _⟩ => PySem.W.codeIn K fd.code d.qual && (match fd.defaults with
    | .none => true
    | _ => false)
  | _ => false)
theorem DefP.fun_ {K : PySem.W.Frag} {d : DefP} (e : obF K (d.at_ K) = d.val) (c : d.ok K = true) : ∃ fd, FunD K d.name d.qual d.params d.body d.scope [] [] (d.at_ K) fd := by
  obtain ⟨kp, c2⟩ := Bool.and_eq_true_iff.mp c
  unfold obF at e
  cases q : K.lookup (d.at_ K) with
  | none => rw [q] at c2; cases c2
  | some o =>
    obtain ⟨oc, od, dt, osl⟩ := o
    rw [q] at c2 e
    cases dt with
    | func fd =>
      dsimp only at c2 e
      obtain ⟨k1, k2⟩ := Bool.and_eq_true_iff.mp c2
      obtain ⟨f1, f2, f3, f4, f5, f6, f7, f8, f9, f10, f11, f12, f13, f14, f15⟩ := fd
      have e2 : (some (f1, f2, f3, f4, f5, f6, f7, f15) : ObF) = some (d.name, d.qual, d.params, .stmts d.body, d.scope, mainGlobals, [], builtinsNs) := e
      simp only [Option.some.injEq, Prod.mk.injEq] at e2
      obtain ⟨g1, g2, g3, g4, g5, g6, g7, g8⟩ := e2
      subst g1 g2 g3 g4 g5 g6 g7 g8
      have hf8 : f8 = .none := by cases f8 <;> first | rfl | cases k2
      subst hf8
      exact ⟨_, ⟨oc, od, .none, f9, f10, f11, f12, f13, f14, osl, rfl, q, k1, .inl ⟨rfl, rfl⟩, .inl rfl⟩, kp⟩
    | _ => cases c2
abbrev AlP : Type := Bool × List ObF
def obP (ex : PySem.W.Frag → Bool) (fn : List DefP) (K : PySem.W.Frag) : AlP := (ex K && fn.all fun d => d.ok K, fn.map fun d => obF K (d.at_ K))
def vaP (fn : List DefP) : AlP := (true, fn.map DefP.val)
def SaysP (ex : PySem.W.Frag → Bool) (fn : List DefP) (K : PySem.W.Frag) : Prop := obP ex fn K = vaP fn
def obG (n : Nat) (ex : PySem.W.Frag → Bool) (fn : List DefP) (g : Addr → Option Obj) : AlP := obP ex fn (He.frG g (He.asD g n))
def hookP (n : Nat) (ex : PySem.W.Frag → Bool) (fn : List DefP) : PySem.W.Hook where
  α := AlP
  obs := fun s => obG n ex fn s.heap.get?
  val := fun _ => vaP fn
  says := fun _ h => ∃ K : PySem.W.Frag, K.In h ∧ SaysP ex fn K
  of := fun _ _ e => ⟨_, He.frG_in, e⟩
  keeps := fun _ _ _ ⟨K, hK, c⟩ k => ⟨K, PySem.W.Frag.In.keeps hK k, c⟩
theorem obG_eq {n : Nat} {ex : PySem.W.Frag → Bool} {fn : List DefP} {g : Addr → Option Obj} {s : Shared} (h : ∀ a, g a = s.heap.get? a) : obG n ex fn g = (hookP n ex fn).obs s := by
  have e : g = s.heap.get? := funext h
  rw [e]
  rfl
section
variable {ex : PySem.W.Frag → Bool} {fn : List DefP} {K : PySem.W.Frag}
theorem SaysP.two (c : SaysP ex fn K) : ex K = true ∧ (fn.all fun d => d.ok K) = true := Bool.and_eq_true_iff.mp (congrArg (fun z : AlP => z.1) c)
theorem SaysP.def_ (c : SaysP ex fn K) (i : Nat) {d : DefP} (h : fn[i]? = some d) : ∃ fd, FunD K d.name d.qual d.params d.body d.scope [] [] (d.at_ K) fd := by
  have e : fn.map (fun d => obF K (d.at_ K)) = fn.map DefP.val := congrArg (fun z : AlP => z.2) c
  have e2 : (fn.map fun d => obF K (d.at_ K))[i]? = (fn.map DefP.val)[i]? := by rw [e]
  rw [List.getElem?_map, List.getElem?_map, h] at e2
  exact DefP.fun_ (Option.some.inj e2) (List.all_eq_true.mp c.two.2 d (List.mem_of_getElem? h))
end
/-! facts, as tests -/
inductive Fc where
  | glo (x : Str)
  | free (x : Str)
  | int (x : Str) (i : Int)
  | str (x z : Str)
  | tup (x : Str) (v : AV)
  | slt (x f : Str) (i : Nat)
  | scl (x : Str)
  | meth (x m : Str)
  | mk (x : Str)
  | prp (x m : Str)
  | eqo (x : Str)
  | isi (x y : Str) (b : Bool)
  | isit (y : Str)
  | keep (x : Str)
  | isx (x : Str) (t : Ty)
def eqD {α : Type} [DecidableEq α] (a b : α) : Bool := decide (a = b)
mutual
/-- a value of the module's, read off the written part -/
def isAV (K : PySem.W.Frag) : AV → Value → Bool
  | .non, v => (match v with | .none => true | _ => false)
  | .bl b, v => (match v with | .bool c => b == c | _ => false)
  | .int i, v => (match v with | .int j _ => decide (i = j) | _ => false)
  | .str x, v => (match v with | .str y _ => decide (x = y) | _ => false)
  | .tup xs, v => (match v with
    | .ref a => (match K.lookup a with
      | some ⟨.type c, _, .seq its _, _⟩ => decide (c = "tuple") && (decide (its.size ≤ sizeLine) && isAVs K xs its.toList)
      | _ => false)
    | _ => false)
  | .obj _, _ => false
def isAVs (K : PySem.W.Frag) : List AV → List Value → Bool
  | [], us => (match us with | [] => true | _ => false)
  | x :: xs, us => (match us with
    | u :: us => isAV K x u && isAVs K xs us
    | [] => false)
end
mutual
theorem isAV_ok {K : PySem.W.Frag} : ∀ {x : AV} {u : Value}, isAV K x u = true → ∃ v, RelV v u ∧ ∀ μ H, Den K μ H x v
  | .non, u, h => by
    cases u <;> first | exact ⟨.non, rfl, fun _ _ => .non⟩ | (unfold isAV at h; cases h)
  | .bl b, u, h => by
    unfold isAV at h
    cases u with
    | bool c => have : b = c := eq_of_beq h; subst this; exact ⟨.bl b, rfl, fun _ _ => .bl _⟩
    | _ => cases h
  | .int i, u, h => by
    unfold isAV at h
    cases u with
    | int j t => have : i = j := of_decide_eq_true h; subst this; exact ⟨.int i, ⟨t, rfl⟩, fun _ _ => .int _⟩
    | _ => cases h
  | .str x, u, h => by
    unfold isAV at h
    cases u with
    | str j t => have : x = j := of_decide_eq_true h; subst this; exact ⟨.str x, ⟨t, rfl⟩, fun _ _ => .str _⟩
    | _ => cases h
  | .obj _, u, h => by unfold isAV at h; cases h
  | .tup xs, u, h => by
    unfold isAV at h
    cases u with
    | ref a =>
      dsimp only at h
      cases q : K.lookup a with
      | none => rw [q] at h; cases h
      | some o =>
        obtain ⟨oc, od, dt, osl⟩ := o
        rw [q] at h
        cases oc with
        | type c =>
          cases dt with
          | seq its n =>
            dsimp only at h
            obtain ⟨h1, h2⟩ := Bool.and_eq_true_iff.mp h
            obtain ⟨h3, h4⟩ := Bool.and_eq_true_iff.mp h2
            obtain ⟨vs, r, d⟩ := isAVs_ok h4
            refine ⟨.ref a, rfl, fun μ H => .tup (.inr ⟨_, its, n, q, congrArg Value.type (of_decide_eq_true h1), rfl, of_decide_eq_true h3, r⟩) (d μ H)⟩
          | _ => cases h
        | _ => cases dt <;> cases h
    | _ => cases h
theorem isAVs_ok {K : PySem.W.Frag} : ∀ {xs : List AV} {us : List Value}, isAVs K xs us = true → ∃ vs, Vals vs us ∧ ∀ μ H, DenL K μ H xs vs
  | [], us, h => by
    cases us with
    | nil => exact ⟨[], .nil, fun _ _ => .nil⟩
    | cons _ _ => unfold isAVs at h; cases h
  | x :: xs, us, h => by
    cases us with
    | nil => unfold isAVs at h; cases h
    | cons u us =>
      unfold isAVs at h
      obtain ⟨h1, h2⟩ := Bool.and_eq_true_iff.mp h
      obtain ⟨v, r, d⟩ := isAV_ok h1
      obtain ⟨vs, r2, d2⟩ := isAVs_ok h2
      exact ⟨v :: vs, .cons r r2, fun μ H => .cons (d μ H) (d2 μ H)⟩
end
def tyAll : List Ty := [.nt, .bool, .int, .str, .tuple, .list, .dict]
def Fc.ok (K : PySem.W.Frag) : Fc → Bool
  | .glo x => eqD (PySem.W.nsIn K mainGlobals x) (some (some (.ref (He.ga K x))))
  | .free x => eqD (PySem.W.nsIn K mainGlobals x) (some none)
  | .int x i => (match PySem.W.nsIn K mainGlobals x with
    | some (some v) => isAV K (.int i) v
    | _ => false)
  | .str x z => (match PySem.W.nsIn K mainGlobals x with
    | some (some v) => isAV K (.str z) v
    | _ => false)
  | .tup x a => (match PySem.W.nsIn K mainGlobals x with
    | some (some v) => isAV K a v
    | _ => false)
  | .scl x => PySem.W.plainGet K (He.ga K x) Str.empty && (PySem.W.isClsIn K (He.ga K x) && (PySem.W.plainOver K (He.ga K x) && eqD (PySem.W.findIn K (.ref (He.ga K x)) "__setattr__") (some (some (.builtin "object.__setattr__")))))
  | .slt x f i => eqD (PySem.W.findIn K (.ref (He.ga K x)) f) (some (some (.ref (pM x f K)))) && (eqD (PySem.W.specialIn K (.ref (pM x f K)) "__get__") (some (some (.builtin "member_descriptor.__get__"))) && (eqD (PySem.W.takesIn K (.ref (pM x f K))) (some true) &&
    (eqD (PySem.W.typeIn K (.ref (pM x f K))) (some (.type "member_descriptor")) && (eqD (PySem.W.slotIn K (pM x f K) (He.ga K x)) (some i) && decide (i < 1000)))))
  | .meth x m => eqD (PySem.W.findIn K (.ref (He.ga K x)) m) (some (some (.ref (pM x m K)))) && (PySem.W.isFn K (.ref (pM x m K)) && PySem.W.keepIn K (.ref (pM x m K)))
  | .mk x => PySem.W.makesIn K (He.ga K x) && (eqD (PySem.W.findIn K (.ref (He.ga K x)) "__init__") (some (some (.ref (pM x "__init__" K)))) && (PySem.W.isFn K (.ref (pM x "__init__" K)) && PySem.W.keepIn K (.ref (He.ga K x))))
  | .prp x m => eqD (PySem.W.findIn K (.ref (He.ga K x)) m) (some (some (.ref (pM x m K)))) && (eqD (PySem.W.specialIn K (.ref (pM x m K)) "__get__") (some (some (.builtin "property.__get__"))) && (eqD (PySem.W.takesIn K (.ref (pM x m K))) (some true) &&
    (match PySem.W.recIn K (pM x m K) "property" with
      | some (.ref g :: _) => true
      | _ => false)))
  | .eqo x => eqD (PySem.W.subIn K (.ref (He.ga K x)) (.type "object")) (some true) && (eqD (PySem.W.findIn K (.ref (He.ga K x)) "__ne__") (some (some (.builtin "object.__ne__"))) && (eqD (PySem.W.findIn K (.ref (He.ga K x)) "__eq__") (some (some (.ref (pM x "__eq__" K)))) && PySem.W.isFn K (.ref (pM x "__eq__" K))))
  | .isit y => tyAll.all fun t => eqD (PySem.W.kitOne K (.type t.name) (.ref (He.ga K y))) (some false)
  | .isi x y b => eqD (PySem.W.findIn K (.ref (He.ga K x)) "__class__") (some (some (.builtin "object.__class__"))) && (eqD (PySem.W.specialIn K (.builtin "object.__class__") "__get__") (some (some (.builtin "getset_descriptor.__get__"))) && (eqD (PySem.W.takesIn K (.builtin "object.__class__")) (some true) &&
    (eqD (PySem.W.mroIn K (He.ga K x) (.type "object")) (some true) && eqD (PySem.W.kitOne K (.ref (He.ga K x)) (.ref (He.ga K y))) (some b))))
  | .keep x => PySem.W.keepIn K (.ref (He.ga K x))
  | .isx x t => eqD (PySem.W.kitOne K (.ref (He.ga K x)) (.type t.name)) (some false)
def factsB (fs : List Fc) (K : PySem.W.Frag) : Bool := fs.all fun f => f.ok K
section
variable {K : PySem.W.Frag} {h : Heap} {mg : Str → Option Value} {x y f m : Str}
theorem eqD_ok {α : Type} [DecidableEq α] {a b : α} (h : eqD a b = true) : a = b := of_decide_eq_true h
theorem fc_glo (X : K.In h) (G : h.Ns mainGlobals mg) (c : (Fc.glo x).ok K = true) : mg x = some (.ref (He.ga K x)) := PySem.W.mg_of X G (eqD_ok c)
theorem fc_free (X : K.In h) (G : h.Ns mainGlobals mg) (c : (Fc.free x).ok K = true) : mg x = none := PySem.W.mg_none_of X G (eqD_ok c)
theorem fc_val (X : K.In h) (G : h.Ns mainGlobals mg) {v : AV} (c : (match PySem.W.nsIn K mainGlobals x with | some (some u) => isAV K v u | _ => false) = true) : GlK K mg x v := by
  cases e : PySem.W.nsIn K mainGlobals x with
  | none => rw [e] at c; cases c
  | some o =>
    rw [e] at c
    cases o with
    | none => cases c
    | some u =>
      obtain ⟨w, r, d⟩ := isAV_ok (show isAV K v u = true from c)
      exact ⟨u, w, PySem.W.mg_of X G e, r, d⟩
theorem fc_scl (c : (Fc.scl x).ok K = true) : SlX.SCls K (He.ga K x) := by
  obtain ⟨c1, c⟩ := Bool.and_eq_true_iff.mp c
  obtain ⟨c2, c⟩ := Bool.and_eq_true_iff.mp c
  obtain ⟨c3, c4⟩ := Bool.and_eq_true_iff.mp c
  exact ⟨c1, c2, c3, eqD_ok c4⟩
theorem fc_slt {i : Nat} (c : (Fc.slt x f i).ok K = true) : SlX.Slot1 K (He.ga K x) f (pM x f K) i := by
  obtain ⟨c1, c⟩ := Bool.and_eq_true_iff.mp c
  obtain ⟨c2, c⟩ := Bool.and_eq_true_iff.mp c
  obtain ⟨c3, c⟩ := Bool.and_eq_true_iff.mp c
  obtain ⟨c4, c⟩ := Bool.and_eq_true_iff.mp c
  obtain ⟨c5, c6⟩ := Bool.and_eq_true_iff.mp c
  exact ⟨eqD_ok c1, eqD_ok c2, eqD_ok c3, eqD_ok c4, eqD_ok c5, of_decide_eq_true c6⟩
theorem fc_meth (c : (Fc.meth x m).ok K = true) : Meth K (He.ga K x) m (pM x m K) := by
  obtain ⟨c1, c⟩ := Bool.and_eq_true_iff.mp c
  obtain ⟨c2, c3⟩ := Bool.and_eq_true_iff.mp c
  exact ⟨eqD_ok c1, c2, c3⟩
theorem fc_mk (c : (Fc.mk x).ok K = true) : Mk K (He.ga K x) (pM x "__init__" K) := by
  obtain ⟨c1, c⟩ := Bool.and_eq_true_iff.mp c
  obtain ⟨c2, c⟩ := Bool.and_eq_true_iff.mp c
  obtain ⟨c3, c4⟩ := Bool.and_eq_true_iff.mp c
  exact ⟨c1, eqD_ok c2, c3, c4⟩
theorem fc_prp (c : (Fc.prp x m).ok K = true) : PySem.W.findIn K (.ref (He.ga K x)) m = some (some (.ref (pM x m K))) ∧ PySem.W.specialIn K (.ref (pM x m K)) "__get__" = some (some (.builtin "property.__get__")) ∧ PySem.W.takesIn K (.ref (pM x m K)) = some true ∧ ∃ rest, PySem.W.recIn K (pM x m K) "property" = some (.ref (pP x m K) :: rest) := by
  obtain ⟨c1, c⟩ := Bool.and_eq_true_iff.mp c
  obtain ⟨c2, c⟩ := Bool.and_eq_true_iff.mp c
  obtain ⟨c3, c4⟩ := Bool.and_eq_true_iff.mp c
  refine ⟨eqD_ok c1, eqD_ok c2, eqD_ok c3, ?_⟩
  unfold pP
  have e0 : He.ma K (He.ga K x) m = pM x m K := rfl
  rw [e0]
  cases e : PySem.W.recIn K (pM x m K) "property" with
  | none => rw [e] at c4; cases c4
  | some l =>
    rw [e] at c4
    cases l with
    | nil => cases c4
    | cons v r =>
      cases v with
      | ref g => exact ⟨r, rfl⟩
      | _ => cases c4
theorem fc_eqo (c : (Fc.eqo x).ok K = true) : PySem.W.subIn K (.ref (He.ga K x)) (.type "object") = some true ∧ PySem.W.findIn K (.ref (He.ga K x)) "__ne__" = some (some (.builtin "object.__ne__")) ∧ PySem.W.findIn K (.ref (He.ga K x)) "__eq__" = some (some (.ref (pM x "__eq__" K))) ∧ PySem.W.isFn K (.ref (pM x "__eq__" K)) = true := by
  obtain ⟨c1, c⟩ := Bool.and_eq_true_iff.mp c
  obtain ⟨c2, c⟩ := Bool.and_eq_true_iff.mp c
  obtain ⟨c3, c4⟩ := Bool.and_eq_true_iff.mp c
  exact ⟨eqD_ok c1, eqD_ok c2, eqD_ok c3, c4⟩
theorem fc_isit (c : (Fc.isit y).ok K = true) (t : Ty) : PySem.W.kitOne K (.type t.name) (.ref (He.ga K y)) = some false := by
  have h := List.all_eq_true.mp (show (tyAll.all fun t => eqD (PySem.W.kitOne K (.type t.name) (.ref (He.ga K y))) (some false)) = true from c) t (by cases t <;> decide)
  exact eqD_ok h
theorem fc_isi {b : Bool} (c : (Fc.isi x y b).ok K = true) : SlX.SIsi K (He.ga K x) ∧ PySem.W.kitOne K (.ref (He.ga K x)) (.ref (He.ga K y)) = some b := by
  obtain ⟨c1, c⟩ := Bool.and_eq_true_iff.mp c
  obtain ⟨c2, c⟩ := Bool.and_eq_true_iff.mp c
  obtain ⟨c3, c⟩ := Bool.and_eq_true_iff.mp c
  obtain ⟨c4, c5⟩ := Bool.and_eq_true_iff.mp c
  exact ⟨⟨eqD_ok c1, eqD_ok c2, eqD_ok c3, eqD_ok c4⟩, eqD_ok c5⟩
theorem facts_at {fs : List Fc} (c : factsB fs K = true) (i : Nat) {f : Fc} (h : fs[i]? = some f) : f.ok K = true := List.all_eq_true.mp (show (fs.all fun f => f.ok K) = true from c) f (List.mem_of_getElem? h)
end
end Ev
set_option Elab.async false
set_option linter.all false
set_option maxRecDepth 100000
set_option maxHeartbeats 4000000
/-! dicts: displays, comprehensions, stores -/
namespace Ev
open PySem PySem.Spec PyProof.Rows L2
def mD0 : ME := fun _ h => alloc h (.dct [])
def mD1 (mk mv : ME) : ME := fun l h => (mk l h).bind fun a h1 => (mv l h1).bind fun b h2 => match AV.tkey a with
  | some q => alloc h2 (.dct [(a, b)])
  | none => .bad
theorem do_new {P : Program} {w : World} {H : Hp} (h : Heap) : ObjOk P w H (h.push { cls := .type "dict", data := .dict #[] }) h.objs.size (DO P w h.objs.size []) := do_ok (Heap.DictOfH.new h)
theorem do_not {P : Program} {w : World} {a : Addr} {xs : List (NestedKey × Addr × Value)} : (∀ ys, DO P w a xs ≠ .tup ys) ∧ (∀ o ys, DO P w a xs ≠ .frz o (.tup ys)) ∧ DO P w a xs ≠ .xd [] := by
  unfold DO
  exact ⟨fun ys z => (by cases z), fun o ys z => (by cases z), fun z => (by cases z)⟩
/-- the dict at D that grows: by the pairs put so far -/
def BD (P : Program) (w : World) (K : PySem.W.Frag) (D : Addr) : Mu → Hp → List AV → HO → Prop := fun μ H acc o => ∃ kvs xs, dictOfL acc [] = some kvs ∧ o = DO P w D xs ∧ Paired (RelKv K μ H) kvs xs ∧ kvs.length ≤ acc.length
section
variable {X : Cx} {ca : Ca} {E : XK} {a b e o tg : Expr} {ma mb mc me mk mv : ME} {pos p p' : Pos} {ws : List Nat}
theorem sim_d0 : SimE X (wd X ca E) (.Dict [] [] pos) mD0 := by
  refine ⟨fun pins s σ H Q I ⟨ro, μ, l, h, A, p⟩ => wpAny_Dict_empty ?_⟩
  have hn := I.hok.fresh (Nat.le_refl s.heap.objs.size)
  have I1 := I.laid (a := s.heap.objs.size) (o := DO X.prog X.w s.heap.objs.size []) (h' := s.heap.push { cls := .type "dict", data := .dict #[] }) (t' := s.toks) (fun _ _ q => Heap.get?_push_of_some _ q) (Nat.le_refl _) (do_new s.heap)
  refine ⟨.ref s.heap.objs.size, _, I1, rfl, ?_⟩
  obtain ⟨_, q⟩ := postG.alloc A.R p
  exact q _ _ hn ⟨beq_eq_false_iff_ne.mpr (Ne.symm (Nat.ne_of_lt I.big)), Nat.zero_le _, [], .inl upd_same, .nil⟩
theorem rkOf {K : PySem.W.Frag} {μ μ' : Mu} {H H' : Hp} {kvs : List (AV × AV)} {xs : List (NestedKey × Addr × Value)} (p : Paired (RelKv K μ H) kvs xs) (d : ∀ x v, Den K μ H x v → Den K μ' H' x v) : Paired (RelKv K μ' H') kvs xs :=
  Paired.mono' p fun p x ⟨q1, q2, u, q3, q4⟩ => ⟨q1, d _ _ q2, u, q3, d _ _ q4⟩
theorem Col.onD {W : Wd} {ro : Nat} {μ μ' μ1 : Mu} {h h' : AH} {H H' H1 : Hp} {D : Addr} {acc : List AV} (c : Col W ro μ1 H1 D (BD W.P W.w W.K D) μ acc h H) (st : Step ro μ H μ' H') (R : RelH W ro μ' h' H') : Col W ro μ1 H1 D (BD W.P W.w W.K D) μ' acc h' H' :=
  c.on (fun o _ _ ⟨kvs, xs, e1, e2, p, hl⟩ => ⟨kvs, xs, e1, e2, rkOf p fun _ _ => c.R.den st, hl⟩) (fun o ⟨_, _, _, e, _⟩ ps z => by rw [e] at z; unfold DO at z; cases z) st R
/-- the dict at D becomes the machine's -/
theorem colD_end {W : Wd} {ro : Nat} {μ μ1 : Mu} {h : AH} {H H1 : Hp} {D : Addr} {PS : List AV} {kvs : List (AV × AV)} {Q : VK} (hD : H1 D = none) (hS : (D == sysModules) = false) (c : Col W ro μ1 H1 D (BD W.P W.w W.K D) μ PS h H) (hk : dictOfL PS [] = some kvs) (hz : PS.length ≤ sizeLine)
    (p : postG (dV W) W ro μ1 H1 (alloc h (.dct kvs)) Q) : Q (.ref D) H := by
  obtain ⟨o, q1, kvs', xs, e1, rfl, pr, hl⟩ := c.d
  rw [hk] at e1; cases e1
  unfold alloc at p
  cases e2 : Nat.blt h.n top with
  | false => rw [e2] at p; exact False.elim p
  | true =>
    rw [e2] at p
    have hn := blt_tt.mp e2
    refine p (muPut μ h.n D) (.ref D) H (c.st.mine hD (c.R.dom (Nat.le_refl _))) (c.R.own hn c.fr ⟨hS, Nat.le_trans hl hz, xs, .inl q1, pr⟩) (.obj ?_)
    unfold muPut
    rw [if_pos rfl]
theorem dictOf_app : ∀ {acc : List AV} {init kvs : List (AV × AV)} {k v : AV} {q : NestedKey}, dictOfL acc init = some kvs → AV.tkey k = some q → dictOfL (acc ++ [AV.tup [k, v]]) init = some (dput q k v kvs)
  | [], init, kvs, k, v, q, e, hk => by
    have ei : init = kvs := Option.some.inj e
    subst ei
    show (match AV.tkey k with | some q => dictOfL [] (dput q k v init) | none => none) = _
    rw [hk]
    rfl
  | x :: r, init, kvs, k, v, q, e, hk => by
    cases x with
    | tup xs =>
      match xs with
      | [k1, v1] =>
        have e' : (match AV.tkey k1 with | some q => dictOfL r (dput q k1 v1 init) | none => none) = some kvs := e
        show (match AV.tkey k1 with | some q => dictOfL (r ++ [AV.tup [k, v]]) (dput q k1 v1 init) | none => none) = _
        cases h1 : AV.tkey k1 with
        | none => rw [h1] at e'; cases e'
        | some q1 => rw [h1] at e'; exact dictOf_app e' hk
      | [] => cases e
      | [_] => cases e
      | _ :: _ :: _ :: _ => cases e
    | _ => cases e
/-- one more pair -/
theorem Col.put {pins : List (Addr × Obj)} {σ : L2.St} {s : Shared} {ro : Nat} {μ μ1 : Mu} {h : AH} {H H1 : Hp} {D : Addr} {acc : List AV} {k v : AV} {q : NestedKey} {y z : V} {u r : Value} {Q : Unit → Shared → Prop} {EE : Value → Shared → Prop} {A : Around} (hu : A.units + 9 < cLine) (I : Inv X pins σ H s) (hD : H1 D = none) (c : Col (wd X ca E) ro μ1 H1 D (BD X.prog X.w X.K D) μ acc h H) (hz : acc.length ≤ sizeLine)
    (hk : AV.tkey k = some q) (dk : Den X.K μ H k y) (ry : RelV y u) (dv : Den X.K μ H v z) (rz : RelV z r)
    (hq : ∀ H' s', Inv X pins σ H' s' → Col (wd X ca E) ro μ1 H1 D (BD X.prog X.w X.K D) μ (acc ++ [.tup [k, v]]) h H' → Kp (wd X ca E) ro μ H μ H' → Q () s') : wpAny (model X.prog X.w) A (dictSet D u r) Q EE s := by
  obtain ⟨o, q1, kvs, xs, e1, rfl, pr, hl⟩ := c.d
  refine do_set hu I q1 pr (Nat.le_trans hl hz) hk dk ry fun b s' ey I' => ?_
  subst ey
  obtain ⟨n1, n2, n3⟩ := do_not (P := X.prog) (w := X.w) (a := D) (xs := xs)
  have a1 : ∀ ys, H D ≠ some (.tup ys) := fun ys z => by rw [q1] at z; exact n1 ys (Option.some.inj z)
  have a2 : ∀ o ys, H D ≠ some (.frz o (.tup ys)) := fun o ys z => by rw [q1] at z; exact n2 o ys (Option.some.inj z)
  have a3 : H D ≠ some (.xd []) := fun z => by rw [q1] at z; exact n3 (Option.some.inj z)
  have up : ∀ x v, Den X.K μ H x v → Den X.K μ (upd H D (DO X.prog X.w D (storedH xs q b r))) x v := fun x v d => d.mono (fun _ _ e => e) fun _ _ s => sq_upd a1 a2 s
  refine hq _ s' I' ⟨c.R.side c.fr a1 a2 a3 (nocode_do q1), c.st.side hD, ⟨_, upd_same, dput q k v kvs, _, dictOf_app e1 hk, rfl, rkOf (dput_rel hk dk dv rz pr (do_nodup I q1)) up, ?_⟩, c.fr⟩ ?_
  · have := dput_len (k := q) (ky := k) (z := v) kvs
    rw [List.length_append]; simp only [List.length_cons, List.length_nil]; omega
  · exact ⟨fun _ _ e => e, fun _ _ s => sq_upd a1 a2 s, fun d o u e f => ⟨by rw [upd_ne (fun z => by rw [z, q1] at e; unfold DO at e; cases e)]; exact e, f⟩⟩
theorem sim_d1 (hu : X.A.units + 9 < cLine) (hk : SimE X (wd X ca E) a mk) (hv : SimE X (wd X ca E) b mv) : SimE X (wd X ca E) (.Dict [some a] [b] pos) (mD1 mk mv) := by
  refine ⟨fun pins s σ H Q I ⟨ro, μ, l, h, A, p⟩ => ?_⟩
  have hn := I.hok.fresh (Nat.le_refl s.heap.objs.size)
  have hS : (s.heap.objs.size == sysModules) = false := beq_eq_false_iff_ne.mpr (Ne.symm (Nat.ne_of_lt I.big))
  have I1 := I.laid (a := s.heap.objs.size) (o := DO X.prog X.w s.heap.objs.size []) (h' := s.heap.push { cls := .type "dict", data := .dict #[] }) (t' := s.toks) (fun _ _ q => Heap.get?_push_of_some _ q) (Nat.le_refl _) (do_new s.heap)
  generalize hDe : s.heap.objs.size = D at hn hS I1
  have e1 : eval (.Dict [some a] [b] pos) X.env = (do standAt pos; let d ← subDict [(eval a X.env, do let x ← eval b X.env; standAt pos; pure x)]; pure (.ref d)) := by
    rw [arm_eval_Dict, ← dictDisplay_pairs [(eval a X.env, do let x ← eval b X.env; standAt pos; pure x)] (by simp) (by show 1 < 17; decide)]
    rfl
  rw [e1]
  have st0 : Step ro μ H μ (upd H D (DO X.prog X.w D [])) := Step.laid hn
  have A1 : At (wd X ca E) ro μ l h σ (upd H D (DO X.prog X.w D [])) := ⟨A.L.step A.R st0, A.R.laid hn⟩
  refine wpAny_bind (wpAny_standAt (wpAny_bind (wpAny_subDictH (knd := nestedKind X.prog X.w) (show (nestedKind X.prog X.w).room X.A by show X.A.units + 8 < cLine; omega) (by show 1 ≤ 15; decide) ?_)))
  rw [hDe]
  have p0 : postG (dV (wd X ca E)) (wd X ca E) ro μ H ((mk l h).bind fun a h1 => (mv l h1).bind fun b h2 => match AV.tkey a with | some q => alloc h2 (.dct [(a, b)]) | none => .bad) Q := p
  have c0 : Col (wd X ca E) ro μ H D (BD X.prog X.w X.K D) μ [] h (upd H D (DO X.prog X.w D [])) := ⟨A1.R, st0, ⟨_, upd_same, [], [], rfl, rfl, .nil, Nat.le_refl _⟩, A.R.fresh hn⟩
  cases em : mk l h with
  | bad => rw [em] at p0; exact False.elim p0
  | ex x hx => rw [em] at p0; exact evalPairs_cons (thn (hk.run pins _ σ _ (fun _ _ => False) I1 ⟨ro, μ, l, h, A1, by rw [em]; exact fun μ2 H2 c d st => p0 μ2 H2 c d (st0.trans st)⟩) fun u s2 ⟨y, H2, I2, ry, z⟩ => z.elim)
  | ok kx h2 =>
    rw [em] at p0
    refine evalPairs_cons (thn (hk.run pins _ σ _ (fun u H2 => ∃ μ2, Step ro μ (upd H D (DO X.prog X.w D [])) μ2 H2 ∧ RelH (wd X ca E) ro μ2 h2 H2 ∧ Den X.K μ2 H2 kx u) I1 ⟨ro, μ, l, h, A1, by rw [em]; exact fun μ2 u H2 st R d => ⟨μ2, st, R, d⟩⟩) fun u s2 ⟨y, H2, I2, ry, μ2, st2, R2, dk⟩ => ?_)
    have A2 : At (wd X ca E) ro μ2 l h2 σ H2 := ⟨A1.L.step A1.R st2, R2⟩
    have c2 := c0.onD (W := wd X ca E) st2 R2
    have p1 : postG (dV (wd X ca E)) (wd X ca E) ro μ H ((mv l h2).bind fun b h2 => match AV.tkey kx with | some q => alloc h2 (.dct [(kx, b)]) | none => .bad) Q := p0
    cases ev : mv l h2 with
    | bad => rw [ev] at p1; exact False.elim p1
    | ex x hx => rw [ev] at p1; exact wpAny_bind (thn (hv.run pins s2 σ H2 (fun _ _ => False) I2 ⟨ro, μ2, l, h2, A2, by rw [ev]; exact fun μ3 H3 c d st => p1 μ3 H3 c d (c2.st.trans st)⟩) fun u s3 ⟨y, H3, I3, ry, z⟩ => z.elim)
    | ok vx h3 =>
      rw [ev] at p1
      refine wpAny_bind (thn (hv.run pins s2 σ H2 (fun u H3 => ∃ μ3, Step ro μ2 H2 μ3 H3 ∧ RelH (wd X ca E) ro μ3 h3 H3 ∧ Den X.K μ3 H3 vx u) I2 ⟨ro, μ2, l, h2, A2, by rw [ev]; exact fun μ3 u H3 st R d => ⟨μ3, st, R, d⟩⟩) fun r s3 ⟨z, H3, I3, rz, μ3, st3, R3, dv⟩ => wpAny_bind (wpAny_standAt (wpAny_pure (evalPairs_nil ?_))))
      have p3 : postG (dV (wd X ca E)) (wd X ca E) ro μ H (match AV.tkey kx with | some q => alloc h3 (.dct [(kx, vx)]) | none => .bad) Q := p1
      cases ek : AV.tkey kx with
      | none => rw [ek] at p3; exact False.elim p3
      | some q =>
        rw [ek] at p3
        have dk3 := R2.den st3 dk
        have c3 := c2.onD (W := wd X ca E) st3 R3
        obtain ⟨kb, ebk, kis⟩ := tkey_is I3 dk3 ek ry
        subst ebk
        have ey : y = .ref kb := by
          cases y <;> first | (cases (show _ = _ from ry); rfl) | (obtain ⟨t, e⟩ := ry; cases e) | cases ry
        subst ey
        obtain ⟨o, q1, kvs, xs, ed, rfl, pr, _⟩ := c3.d
        cases ed
        cases pr
        refine ⟨[(q, kb, r)], ⟨rfl, rfl, kis, trivial⟩, dict_is (rw := true) I3 (.inl q1) (kvs := []) (μ := μ3) .nil, fun h' tk dm hs => wpAny_pure ⟨.ref D, upd H3 D (DO X.prog X.w D [(q, kb, r)]), ?_, rfl, ?_⟩⟩
        · have he : ∃ q, h'.get? D = some q := let ⟨q, _, _, hq, _⟩ := dm; ⟨q, hq⟩
          exact d_write I3 (by rw [q1]; exact True.intro) hs he (do_ok dm)
        · obtain ⟨n1, n2, n3⟩ := do_not (P := X.prog) (w := X.w) (a := D) (xs := [])
          have a1 : ∀ ys, H3 D ≠ some (.tup ys) := fun ys z => by rw [q1] at z; exact n1 ys (Option.some.inj z)
          have a2 : ∀ o ys, H3 D ≠ some (.frz o (.tup ys)) := fun o ys z => by rw [q1] at z; exact n2 o ys (Option.some.inj z)
          have a3 : H3 D ≠ some (.xd []) := fun z => by rw [q1] at z; exact n3 (Option.some.inj z)
          have up : ∀ x v, Den X.K μ3 H3 x v → Den X.K μ3 (upd H3 D (DO X.prog X.w D [(q, kb, r)])) x v := fun x v d => d.mono (fun _ _ e => e) fun _ _ s => sq_upd a1 a2 s
          refine colD_end (W := wd X ca E) (PS := [.tup [kx, vx]]) hn hS ⟨R3.side c3.fr a1 a2 a3 (nocode_do q1), c3.st.side hn, ⟨_, upd_same, [(kx, vx)], [(q, kb, r)], ?_, rfl, .cons ⟨ek, up _ _ dk3, z, rz, up _ _ dv⟩ .nil, Nat.le_refl _⟩, c3.fr⟩ ?_ (by show 1 ≤ sizeLine; decide) p3
          · show (match AV.tkey kx with | some q => dictOfL [] (dput q kx vx []) | none => none) = _
            rw [ek]; rfl
          · show (match AV.tkey kx with | some q => dictOfL [] (dput q kx vx []) | none => none) = _
            rw [ek]; rfl
/-- d[k] = v -/
theorem putD_of {pins : List (Addr × Obj)} {σ : L2.St} {s : Shared} {ro : Nat} {μ : Mu} {h h' : AH} {H : Hp} {x k v r : AV} {xd yk zv : V} {dv kv vv : Value} (I : Inv X pins σ H s) (R : RelH (wd X ca E) ro μ h H) (dx : Den X.K μ H x xd) (dk : Den X.K μ H k yk) (dz : Den X.K μ H v zv) (rx : RelV xd dv) (rk : RelV yk kv) (rv : RelV zv vv) (hu : X.A.units + 10 < cLine)
    (e : putD x k v h = .ok r h') {Q : Unit → Shared → Prop} (hq : ∀ H' s', Inv X pins σ H' s' → Step ro μ H μ H' → RelH (wd X ca E) ro μ h' H' → Q () s') : wpAny (model X.prog X.w) X.A (setItem dv kv vv) Q X.xe s := by
  unfold putD at e
  cases dx with
  | @obj n D hn =>
    dsimp only at e
    cases g : h.get n with
    | none => rw [g] at e; cases e
    | some oo =>
      rw [g] at e
      cases oo with
      | dct kvs =>
        dsimp only at e
        cases ek : AV.tkey k with
        | none => rw [ek] at e; cases e
        | some q =>
          rw [ek] at e
          dsimp only at e
          cases e3 : Nat.ble h.ro n && Nat.blt kvs.length 16777216 with
          | false => rw [e3] at e; cases e
          | true =>
            rw [e3] at e
            cases e
            obtain ⟨e4, e5⟩ := Bool.and_eq_true_iff.mp e3
            have hr : ro ≤ n := by rw [← R.roe]; exact Nat.le_of_ble_eq_true e4
            have hz : kvs.length < sizeLine := by rw [sizeLine_eq]; exact blt_tt.mp e5
            obtain ⟨oo, g', ro'⟩ := R.there hn
            rw [g] at g'; cases g'
            obtain ⟨hS, hl, xs, hD, pr⟩ := ro'
            have hD : H D = some (DO X.prog X.w D xs) := by
              rcases hD with z | ⟨z, _⟩
              · exact z
              · rw [show rwOf ro n = true from Nat.ble_eq_true_of_le hr] at z; cases z
            obtain rfl : dv = .ref D := rx
            refine do_item hu I hD pr hl ek dk rk fun b s' ey I' => ?_
            subst ey
            obtain ⟨st, R'⟩ := dct_put (W := wd X ca E) R hn g hS hD pr (do_nodup I hD) hr hz ek dk dz rv
            exact hq _ s' I' st R'
      | _ => cases e
  | _ => cases e
theorem putD_nox {x k v : AV} {h : AH} {z : AX} {h' : AH} : putD x k v h ≠ .ex z h' := fun e => by
  unfold putD at e
  split at e
  · split at e
    · split at e
      · split at e <;> cases e
      · cases e
    · cases e
  · cases e
theorem sims_put {md : ME} (hu : X.A.units + 10 < cLine) (ho : SimE X (wd X ca E) o md) (hk : SimE X (wd X ca E) a mk) (hv : SimE X (wd X ca E) e mv) (hs : swapsWith e (some (.Subscript o a p')) pos.line X.env = pure false) :
    SimS X (wd X ca E) (.Assign [.Subscript o a p'] e pos) (mPut md mk mv) := by
  refine ⟨fun pins s σ H D I ⟨ro, μ, l, h, A, p⟩ => ?_⟩
  refine wpAny_Assign_Subscript (thn (hv.run pins s σ H _ I ⟨ro, μ, l, h, A, toS_P (dV _) A p⟩) fun r s1 ⟨v, H1, I1, rv, μ1, vx, h1, A1, d1, st1, p1⟩ => thn (ho.run pins s1 σ H1 _ I1 ⟨ro, μ1, l, h1, A1, toS_P (dV _) A1 p1⟩) fun u s2 ⟨x, H2, I2, rx, μ2, dx, h2, A2, d2, st2, p2⟩ =>
    thn (hk.run pins s2 σ H2 _ I2 ⟨ro, μ2, l, h2, A2, toS_P (dV _) A2 p2⟩) fun iv s3 ⟨y, H3, I3, ry, μ3, kx, h3, A3, d3, st3, p3⟩ => ?_) hs
  cases ep : putD dx kx vx h3 with
  | bad => rw [ep] at p3; exact False.elim p3
  | ex z hz => exact absurd ep putD_nox
  | ok rr h4 =>
    rw [ep] at p3
    exact putD_of I3 A3.R (A2.R.den st3 d2) d3 (A1.R.den (st2.trans st3) d1) rx ry rv hu ep fun H4 s4 I4 st4 R4 => ⟨σ, H4, I4, p3 μ3 σ H4 st4 ⟨A3.L.step A3.R st4, R4⟩⟩
end
end Ev
set_option Elab.async false
set_option linter.all false
set_option maxRecDepth 100000
set_option maxHeartbeats 4000000
/-! dict comprehensions with tuple keys -/
namespace Ev
open PySem PySem.Spec PyProof.Rows L2
section
variable {X : Cx}
/-- the turn's store -/
def PutN (P : Program) (w : World) (K : PySem.W.Frag) (D : Addr) (y z : V) (H : Hp) (Nx : Hp → Prop) : Prop :=
  ∃ μ kvs xs k ky, H D = some (DO P w D xs) ∧ Paired (RelKv K μ H) kvs xs ∧ kvs.length ≤ sizeLine ∧ AV.tkey ky = some k ∧ Den K μ H ky y ∧ ∀ b r, y = .ref b → RelV z r → (xs.map (·.1)).Nodup → Nx (upd H D (DO P w D (storedH xs k b r)))
def tDcN (P : Program) (w : World) (K : PySem.W.Frag) (wi : TI) (g : TG) (tk tv : TE) (vs : List Nat) : TE := fun σ H Q => wi σ H fun J H1 => ∀ D, H1 D = none → (D == sysModules) = false → ∃ Wi : Nat → Nat → Hp → Prop, (∃ m, Wi 0 m (upd H1 D (DO P w D []))) ∧ ∀ i m H, Wi i m H →
  (J.stop i H ∧ Q (.ref D) H) ∨ (J.go i H ∧ ∃ Nx : Hp → Prop, (∀ H', Nx H' → ∃ m', m' < m ∧ Wi (i + 1) m' H') ∧ ∀ x H', J.yld i H x H' → g x (L2.wipe σ vs) H' fun σ2 H2 => L2.wipe σ2 vs = L2.wipe σ vs ∧
    tk σ2 H2 fun y H4 => tv σ2 H4 fun z H5 => PutN P w K D y z H5 Nx)
/-- the walk in the block, from its first turn on -/
theorem dcN_loop {kx vx tg iter : Expr} {scope : Scope} {own : List (Str × Nat)} {pos : Pos} {g : TG} {tk tv : TE} {σ : L2.St} {D it : Addr} {fp : List Addr} {tn : Nat → Heap → Prop} {J : L2.It} {H3 : Hp} {s3 s4 : Shared} {ce : Env} {Rr : Result → Shared → Prop} {Qd : Hp → Prop} {Wi : Nat → Nat → Hp → Prop} {m0 : Nat}
    (hc : X.calm = true) (hu : X.A.units + 9 < cLine) (T : Turn X.prog X.w X.K tg J fp it tn) (pg : PG (X.blk s3 H3 scope ce fp) tg g) (pk : PE (X.blk s3 H3 scope ce fp) kx tk) (pv : PE (X.blk s3 H3 scope ce fp) vx tv)
    (I4 : Inv (X.blk s3 H3 scope ce fp) [] (L2.wipe σ (own.map (·.2))) H3 s4) (st4 : tn 0 s4.heap) (nfp : ∀ b ∈ fp, H3 b = none) (first : Wi 0 m0 H3)
    (turn : ∀ i m H, Wi i m H → (J.stop i H ∧ Qd H) ∨ (J.go i H ∧ ∃ Nx : Hp → Prop, (∀ H', Nx H' → ∃ m', m' < m ∧ Wi (i + 1) m' H') ∧ ∀ x H', J.yld i H x H' → g x (L2.wipe σ (own.map (·.2))) H' fun σ2 H2 => L2.wipe σ2 (own.map (·.2)) = L2.wipe σ (own.map (·.2)) ∧ tk σ2 H2 fun y H4 => tv σ2 H4 fun z H5 => PutN X.prog X.w X.K D y z H5 Nx))
    (fin : ∀ H' s', Inv (X.blk s3 H3 scope ce fp) [] (L2.wipe σ (own.map (·.2))) H' s' → Qd H' → Rr (.ok .next) s') :
    codeAny (model X.prog X.w) X.A (.compLoop (.DictComp kx vx [⟨tg, iter, [], 0⟩] scope pos) 0 (.ref it) (.ref D) ce) Rr s4 := by
  let Y := X.blk s3 H3 scope ce fp
  have still : ∀ {σ' : L2.St} {H' : Hp} {s' : Shared}, Inv Y [] σ' H' s' → (∀ b ∈ fp, H' b = none) → ∀ b ∈ fp, FpOk Y [] H' b := fun {σ' H' s'} I' hn b hb => by
    refine ⟨hn b hb, (I'.ok.exf b hb).1, I'.ok.exfs b hb, .inl hb, fun x c e => (I'.ok.exf b hb).2 x c e, fun q hq => ?_⟩
    have z : q ∈ ([] : List (Addr × Obj)) ++ [] := hq
    simp at z
  refine compLoop_anyD (fun n s' => ∃ i H', Inv Y [] (L2.wipe σ (own.map (·.2))) H' s' ∧ tn i s'.heap ∧ (∀ b ∈ fp, H' b = none) ∧ Wi i n H') ?_ m0 ⟨0, H3, I4, st4, nfp, first⟩
  rintro n s5 ⟨i, H5, I5, st5, n5, w5⟩
  rcases turn i n H5 w5 with ⟨stop, qd⟩ | ⟨go, Nx, hNx, body⟩
  · have td := T.done Y rfl rfl rfl hc i [] s5 _ H5 (fun _ _ => False) I5 (still I5 n5) st5 stop
    refine thnF td fun r s6 hr6 => ?_
    obtain ⟨er, I6⟩ := hr6
    subst er
    exact fin H5 s6 I6 qd
  · have ti := T.item Y rfl rfl rfl hc i [] s5 _ H5 (fun _ _ => False) I5 (still I5 n5) st5 go
    refine thnF ti fun r s6 h6 => ?_
    obtain ⟨u, er, h6⟩ := h6
    subst er
    refine thnF h6 fun _ s7 h7 => ?_
    obtain ⟨x, H7, I7, r7, y7, st7, n7⟩ := h7
    have J7 : Inv Y ([] ++ pinsAt fp s7.heap) (L2.wipe σ (own.map (·.2))) H7 s7 := I7.pinned (still I7 n7) (T.obj _ _ st7)
    refine thnF (pg.run _ s7 _ H7 x u _ J7 r7 (body x H7 y7)) fun _ s8 h8 => ?_
    obtain ⟨σ8, H8, I8, hw8, q8⟩ := h8
    refine wpAny_tests_nil ?_
    simp only [if_true]
    refine thnF (pk.run _ s8 σ8 H8 _ I8 q8) fun ku s9 h9 => ?_
    obtain ⟨yk, H9, I9, r9, q9⟩ := h9
    refine thnF (pv.run _ s9 σ8 H9 _ I9 q9) fun vu s10 h10 => ?_
    obtain ⟨zv, H10, I10, r10, μ, kvs, xs, k, ky, hD, pr, hz, ek, dk, nx⟩ := h10
    refine do_set (X := Y) hu I10 hD pr hz ek dk r9 fun b s11 ey I11 => ?_
    obtain ⟨m', hm, w'⟩ := hNx _ (nx b vu ey r10 (do_nodup I10 hD))
    have held : ∀ b ∈ fp, ∀ o, s7.heap.get? b = some o → s11.heap.get? b = some o ∧ upd H10 D (DO X.prog X.w D (storedH xs k _ vu)) b = none := fun b hb o e =>
      let z := I11.pin (b, o) (List.mem_append_right _ (List.mem_append_right _ (mem_pinsAt hb e)))
      ⟨z.1, z.2.1⟩
    have ll : (L2.wipe σ (own.map (·.2))).length = σ8.length := by rw [← hw8]; exact wipe_length ..
    refine ⟨m', hm, i + 1, _, (I11.unpinned (pins := [])).weak ll fun j v e => ?_, T.keep _ _ _ st7 fun b hb o e => (held b hb o e).1, fun b hb => ?_, w'⟩
    · rw [← hw8] at e
      exact (wipe_some e).1
    · obtain ⟨o, e, _⟩ := T.obj _ _ st7 b hb
      exact (held b hb o e).2
theorem dcN_core {pins : List (Addr × Obj)} {s : Shared} {σ : L2.St} {H : Hp} {Q : VK} {use : Option (Value → Sem Unit)} {Qf : Value → Shared → Prop} {kx vx tg iter : Expr} {scope : Scope} {own : List (Str × Nat)} {pos pos' : Pos} {wi : TI} {g : TG} {tk tv : TE} (I : Inv X pins σ H s) (hc : X.calm = true) (hu : X.A.units + 9 < cLine) (hN : X.N.Nodup) (hi : PI X tg iter wi) (ok : BlkOk X.N X.env.scope scope own)
    (hg : InB X scope fun Y => PG Y tg g) (hk : InB X scope fun Y => PE Y kx tk) (hv : InB X scope fun Y => PE Y vx tv) (hs : ∀ x, foldedSetIterable iter X.env x = pure x) (h : tDcN X.prog X.w X.K wi g tk tv (own.map (·.2)) σ H Q)
    (done : ∀ (D C : Addr) (s' : Shared) (m : Str → Option Value) (H' : Hp), Inv X pins σ H' s' → Q (.ref D) H' → s'.heap.Ns C m → FpOk X pins H' C → compPost (model X.prog X.w) X.A X.xe use Qf (.ref D) C (.ok .next) s') :
    wpAny (model X.prog X.w) X.A (comprehension (.DictComp kx vx [⟨tg, iter, [], 0⟩] scope pos) scope X.env pos' newDict false (eval iter X.env) use) Qf X.xe s := by
  have free : ∀ y ∈ scope.names, y.2 = .free → ∃ c, X.env.cells.lookup y.1 = some c := fun y hy e => (ok.free y hy e).elim (fun z => I.ok.has _ (.inl z)) fun z => I.ok.has _ (.inr z)
  refine wpAny_comprehension_free (use := use) rfl hs (closure_ok free) ok.kind (fun y hy e => (ok.uniq y hy).trans (by rw [e])) ?_
  refine thn (hi.run pins s σ H _ I h) fun xv s1 h1 => thn h1 fun iv s2 h2 => ?_
  obtain ⟨it, fp, tn, J, H2, ei, I2, T, st2, f2, q⟩ := h2
  subst ei
  refine wpAny_newObj_type (newEnv_comp ?_)
  have nD := I2.hok.fresh (Nat.le_refl s2.heap.objs.size)
  have hS : (s2.heap.objs.size == sysModules) = false := beq_eq_false_iff_ne.mpr (Ne.symm (Nat.ne_of_lt I2.big))
  obtain ⟨Wi, ⟨m0, first⟩, turn⟩ := q _ nD hS
  have I3 : Inv X pins σ (upd H2 s2.heap.objs.size (DO X.prog X.w s2.heap.objs.size [])) { s2 with heap := s2.heap.push { cls := .type "dict", data := .dict #[] } } :=
    I2.laid (t' := s2.toks) (fun _ _ e => Heap.get?_push_of_some _ e) (Nat.le_refl _) (do_new s2.heap)
  have fp3 : ∀ b ∈ fp, FpOk X pins (upd H2 s2.heap.objs.size (DO X.prog X.w s2.heap.objs.size [])) b ∧ b < (s2.heap.push { cls := .type "dict", data := .dict #[] }).objs.size := fun b hb => by
    obtain ⟨o, e, _⟩ := T.obj _ _ st2 b hb
    have lt := Heap.lt_size e
    refine ⟨⟨?_, (f2 b hb).2⟩, by rw [Heap.size_push]; exact Nat.lt_succ_of_lt lt⟩
    rw [upd_ne (Nat.ne_of_lt lt)]
    exact (f2 b hb).1
  generalize hD : s2.heap.objs.size = D at nD hS first turn I3 fp3
  generalize hs3 : ({ s2 with heap := s2.heap.push { cls := .type "dict", data := .dict #[] } } : Shared) = s3 at I3 ⊢
  have sz3 : ∀ b ∈ fp, FpOk X pins (upd H2 D (DO X.prog X.w D [])) b ∧ b < s3.heap.objs.size := fun b hb => by rw [← hs3]; exact fp3 b hb
  have I4 := block_start I3 ok hN sz3
  have st4 : tn 0 (pushCells (s3.heap.push { cls := .type "dict", data := .dict #[] }) scope.names) := T.keep _ _ _ st2 fun b _ o e => pushCells_keeps _ _ _ _ (Heap.get?_push_of_some _ (by rw [← hs3]; exact Heap.get?_push_of_some _ e))
  have fin : ∀ H' s', Inv (X.blk s3 (upd H2 D (DO X.prog X.w D [])) scope (compEnvC scope (cellsFrom (s3.heap.objs.size + 1) scope.names (cloFrom X.env.cells scope.names [])) s3.heap.objs.size X.env) fp) [] (L2.wipe σ (own.map (·.2))) H' s' → Q (.ref D) H' →
      compPost (model X.prog X.w) X.A X.xe use Qf (.ref D) s3.heap.objs.size (.ok .next) s' := fun H' s' I' qq => by
    have back : Inv X pins σ H' s' := I3.call' (ch := fp) I'.os I'.base I'.hok I'.bare fun b hb => let z := (sz3 b hb).1; ⟨z.2.2.2.1, z.2.1, z.2.2.2.2.1, z.2.2.2.2.2⟩
    obtain ⟨m, hn, _⟩ := I'.loc
    have nC : H' s3.heap.objs.size = none := I'.free
    exact done D s3.heap.objs.size s' m H' back qq hn (I3.fpOk (H' := H') (Nat.le_refl _) nC)
  have lo := dcN_loop (kx := kx) (vx := vx) (iter := iter) (pos := pos) (Qd := fun H' => Q (.ref D) H') hc hu T
    (hg s3 _ s3.heap.objs.size _ fp) (hk s3 _ s3.heap.objs.size _ fp) (hv s3 _ s3.heap.objs.size _ fp) I4 st4 (fun b hb => (sz3 b hb).1.1) first turn fin
  exact codeAny_compStart_dict lo (T.self X.A 0 _ _ _ st4 lo)
theorem pe_dcN {kx vx tg iter : Expr} {scope : Scope} {own : List (Str × Nat)} {pos : Pos} {wi : TI} {g : TG} {tk tv : TE} (hc : X.calm = true) (hu : X.A.units + 9 < cLine) (hN : X.N.Nodup) (hi : PI X tg iter wi) (ok : BlkOk X.N X.env.scope scope own)
    (hg : InB X scope fun Y => PG Y tg g) (hk : InB X scope fun Y => PE Y kx tk) (hv : InB X scope fun Y => PE Y vx tv) (hs : ∀ x, foldedSetIterable iter X.env x = pure x) :
    PE X (.DictComp kx vx [⟨tg, iter, [], 0⟩] scope pos) (tDcN X.prog X.w X.K wi g tk tv (own.map (·.2))) := by
  refine ⟨fun pins s σ H Q I h => ?_⟩
  rw [arm_eval_DictComp]
  refine dcN_core I hc hu hN hi ok hg hk hv hs h fun D C s' m H' back qq hn fo => ?_
  obtain ⟨g0, g1, _, g3, g4, g5⟩ := fo
  exact ⟨m, hn, fun h2 sb => ⟨.ref D, H', back.turned (t' := s'.toks) (fun b o hb e => (sb.2 b hb).trans e) g0 g1 g3 g4 g5, rfl, qq⟩⟩
/-- name = {..} on one line -/
theorem ps_dcN {i : Nat} {y : Str} {py spos : Pos} {kx vx tg iter : Expr} {scope : Scope} {own : List (Str × Nat)} {pos : Pos} {wi : TI} {g : TG} {tk tv : TE} (hc : X.calm = true) (hu : X.A.units + 9 < cLine) (hN : X.N.Nodup) (hy : X.N[i]? = some y) (hyl : X.env.scope.names.lookup y = some .local)
    (hsw : swapsWith (.DictComp kx vx [⟨tg, iter, [], 0⟩] scope pos) (some (.Name y py)) spos.line X.env = pure true) (hi : PI X tg iter wi) (ok : BlkOk X.N X.env.scope scope own)
    (hg : InB X scope fun Y => PG Y tg g) (hk : InB X scope fun Y => PE Y kx tk) (hv : InB X scope fun Y => PE Y vx tv) (hs : ∀ x, foldedSetIterable iter X.env x = pure x) :
    PS X (.Assign [.Name y py] (.DictComp kx vx [⟨tg, iter, [], 0⟩] scope pos) spos) (tAsg (tDcN X.prog X.w X.K wi g tk tv (own.map (·.2))) (gName i)) := by
  refine ⟨fun pins s σ H D I h => ?_⟩
  rw [exec_Assign_Name_used _ _ _ _ hsw]
  have core := dcN_core (pos := pos) (pos' := firstIterPos [⟨tg, iter, [], 0⟩] pos) (use := some (assign (.Name y py) X.env)) (Qf := fun _ s' => SP X pins D .next s') I hc hu hN hi ok hg hk hv hs (Q := fun x H1 => gName i x σ H1 D.nx) h fun L C s' m H' I' q hn fo => by
    obtain ⟨f0, f1, f2, f3, f4, f5⟩ := fo
    refine wpAny_assign_Name (store_ok2 (v := V.ref L) I' hN hy (.inl hyl) rfl (fun s2 I2 hx => ?_) (.inr hyl))
    obtain ⟨a, sb, ha⟩ := hx
    have ne : C ≠ a := ha.elim (fun z => by rw [z]; exact f1) fun z => fun e => f4 y a z e.symm
    exact ⟨m, hn.sameBut sb ne, fun h3 sb3 => ⟨_, H', I2.turned (t' := s2.toks) (fun b o hb e => (sb3.2 b hb).trans e) f0 f1 f3 f4 f5, q⟩⟩
  exact wpAny_bind (wpAny_standAt (wpAny_bind (wpAny_bind (thn core fun _ s' hq => wpAny_pure (wpAny_pure hq)))))
theorem sw_dc {kx vx : Expr} {gs : List Comprehension} {scope : Scope} {pos py : Pos} {y : Str} {l : Nat} {env : Env} (hk : env.scope.kind = .function) (hy : env.scope.names.lookup y = some .local) (hl : (py.line == pos.line) = true) (ha : (scope.names.any fun (n, k) => n == y && (k == .local || k == .cell)) = false) :
    swapsWith (.DictComp kx vx gs scope pos) (some (.Name y py)) l env = pure true := by
  have e1 : env.kindOf y = some .local := hy
  have e2 : env.blockKind = .function := by unfold Env.blockKind; rw [hk]; rfl
  unfold swapsWith
  simp only [e2, e1, ha, Expr.pos, hl]
  rfl
end
/-! ### the machine's -/
def turnD (vs : List Nat) (mt : AV → Loc' → Option Loc') (mk mv : ME) (l : Loc') : AV → AH → R (List AV) := fun x h2 => match mt x (wipeL l vs) with
  | some l2 => (mk l2 h2).bind fun a h3 => (mv l2 h3).bind fun b h4 => (match AV.tkey a with
    | some _ => .ok [.tup [a, b]] h4
    | none => .bad)
  | none => .bad
def mDc (vs : List Nat) (mt : AV → Loc' → Option Loc') (mi : Loc' → AH → R Src) (mk mv : ME) : ME := fun l h => (mi l h).bind fun s h1 => (compLoop s (turnD vs mt mk mv l) turns 0 (lockH s h1)).bind fun ps h5 => match dictOfL ps [], lim ps.length with
  | some d, true => alloc (freeH h1.ro h5) (.dct d)
  | _, _ => .bad
section
variable {X : Cx} {ca : Ca} {E : XK} {tg : Expr} {ws : List Nat}
theorem turnD_ok {vs : List Nat} {mt : AV → Loc' → Option Loc'} {mk mv : ME} {l : Loc'} {x : AV} {h h1 : AH} {ys : List AV} (e : turnD vs mt mk mv l x h = .ok ys h1) :
    ∃ l2 a h3 b q, mt x (wipeL l vs) = some l2 ∧ mk l2 h = .ok a h3 ∧ mv l2 h3 = .ok b h1 ∧ AV.tkey a = some q ∧ ys = [.tup [a, b]] := by
  unfold turnD at e
  cases e1 : mt x (wipeL l vs) with
  | none => rw [e1] at e; cases e
  | some l2 =>
    rw [e1] at e
    dsimp only at e
    cases e2 : mk l2 h with
    | ex _ _ => rw [e2] at e; cases e
    | bad => rw [e2] at e; cases e
    | ok a h3 =>
      rw [e2] at e
      dsimp only [R.bind] at e
      cases e3 : mv l2 h3 with
      | ex _ _ => rw [e3] at e; cases e
      | bad => rw [e3] at e; cases e
      | ok b h4 =>
        rw [e3] at e
        dsimp only at e
        cases e4 : AV.tkey a with
        | none => rw [e4] at e; cases e
        | some q => rw [e4] at e; cases e; exact ⟨l2, a, h3, b, q, rfl, e2, e3, e4, rfl⟩
/-- from a source that needs no lock -/
theorem dc_imp {own : List Nat} {mt : AV → Loc' → Option Loc'} {mk mv : ME} (hsl : ∀ i ∈ ws, i ∈ own) {σ : L2.St} {l : Loc'} {ro : Nat} {μ1 : Mu} {H1 : Hp} {h1 HF : AH} {s : Src} {J : L2.It} {PSs : List AV} {Q : VK} {D : Addr} (L1 : RelL X.K μ1 H1 l σ) (R1 : RelH (w0 X ca) ro μ1 h1 H1) (sr : SrcR (w0 X ca) ro μ1 H1 s J)
    (el : compLoop s (turnD own mt mk mv l) turns 0 h1 = .ok PSs HF) (hz : PSs.length ≤ sizeLine) (hD : H1 D = none) (fin : ∀ μ H, Col (w0 X ca) ro μ1 H1 D (BD X.prog X.w X.K D) μ PSs HF H → Q (.ref D) H) :
    ∃ Wi : Nat → Nat → Hp → Prop, (∃ m, Wi 0 m (upd H1 D (DO X.prog X.w D []))) ∧ ∀ i m H, Wi i m H → (J.stop i H ∧ Q (.ref D) H) ∨ (J.go i H ∧ ∃ Nx : Hp → Prop, (∀ H', Nx H' → ∃ m', m' < m ∧ Wi (i + 1) m' H') ∧ ∀ x H', J.yld i H x H' → tG (w0 X ca) ws mt x (L2.wipe σ own) H' fun σ2 H2 => L2.wipe σ2 own = L2.wipe σ own ∧
      tE (w0 X ca) mk σ2 H2 fun y H4 => tE (w0 X ca) mv σ2 H4 fun z H5 => PutN X.prog X.w X.K D y z H5 Nx) := by
  refine walk (W := w0 X ca) (ro := ro) (s := s) (J := J) (all := PSs) (Co := fun μ acc h H => Col (w0 X ca) ro μ1 H1 D (BD X.prog X.w X.K D) μ acc h H ∧ SrcR (w0 X ca) ro μ H s J ∧ RelL X.K μ H l σ) (acc0 := [])
    (fun c => ⟨c.1.R, c.2.1⟩) (fun c st R => ⟨c.1.onD (W := w0 X ca) st R, c.2.1.step c.1.R st, c.2.2.step (W := w0 X ca) c.1.R st⟩) ?_ rfl el ⟨⟨R1.laid hD, Step.laid hD, ⟨_, upd_same, [], [], rfl, rfl, .nil, Nat.le_refl _⟩, R1.fresh hD⟩, sr.step R1 (Step.laid hD), L1.step R1 (Step.laid hD)⟩ fun μ2 H2 c => fin μ2 H2 c.1
  intro x h ys h' μ acc H v et c d ⟨r, er⟩ Nx hx
  obtain ⟨l2, a, h3, b, q, e1, e2, e3, ek, rfl⟩ := turnD_ok et
  refine ⟨ro, μ, wipeL l own, h, x, l2, ⟨c.2.2.wipe own, c.1.R⟩, d, e1, fun σ2 L2' hl2 hd2 => ⟨?_, ro, μ, l2, h, ⟨L2', c.1.R⟩, ?_⟩⟩
  · rw [wipe_eq hl2 fun i hi => hd2 i fun z => hi (hsl i z), wipe_wipe]
  · rw [e2]
    intro μ3 u H3 st3 R3 d3
    have c3 := c.1.onD (W := w0 X ca) st3 R3
    refine ⟨ro, μ3, l2, h3, ⟨L2'.step c.1.R st3, R3⟩, ?_⟩
    rw [e3]
    intro μ4 z H4 st4 R4 d4
    have c4 := c3.onD (W := w0 X ca) st4 R4
    obtain ⟨o, q1, kvs, xs, ed, rfl, pr, hl⟩ := c4.d
    have la : acc.length ≤ sizeLine := by have := congrArg List.length er; simp only [List.length_append] at this; omega
    have dk := R3.den st4 d3
    refine ⟨μ4, kvs, xs, q, a, q1, pr, Nat.le_trans hl la, ek, dk, fun kb r ey rz nd => ?_⟩
    subst ey
    obtain ⟨n1, n2, n3⟩ := do_not (P := X.prog) (w := X.w) (a := D) (xs := xs)
    have a1 : ∀ ys, H4 D ≠ some (.tup ys) := fun ys z => by rw [q1] at z; exact n1 ys (Option.some.inj z)
    have a2 : ∀ o ys, H4 D ≠ some (.frz o (.tup ys)) := fun o ys z => by rw [q1] at z; exact n2 o ys (Option.some.inj z)
    have a3 : H4 D ≠ some (.xd []) := fun z => by rw [q1] at z; exact n3 (Option.some.inj z)
    have up : ∀ x v, Den X.K μ4 H4 x v → Den X.K μ4 (upd H4 D (DO X.prog X.w D (storedH xs q kb r))) x v := fun x v d => d.mono (fun _ _ e => e) fun _ _ s => sq_upd a1 a2 s
    have st5 : Step ro μ1 H1 μ4 (upd H4 D (DO X.prog X.w D (storedH xs q kb r))) := c4.st.side hD
    refine hx μ4 _ ⟨⟨c4.R.side c4.fr a1 a2 a3 (nocode_do q1), st5, ⟨_, upd_same, dput q a b kvs, _, dictOf_app ed ek, rfl, rkOf (dput_rel ek dk d4 rz pr nd) up, ?_⟩, c4.fr⟩, sr.step R1 st5, L1.step R1 st5⟩
    have := dput_len (k := q) (ky := a) (z := b) kvs
    rw [List.length_append]; simp only [List.length_cons, List.length_nil]; omega
theorem freeH_same {ro : Nat} {μ : Mu} {h : AH} {H : Hp} {W : Wd} (R : RelH W ro μ h H) : freeH ro h = h := by
  obtain ⟨t, n, r⟩ := h
  have e : r = ro := R.roe
  subst e
  rfl
theorem w0_up {ro : Nat} {μ μ1 : Mu} {h : AH} {H H1 : Hp} {D : Addr} {B : Mu → Hp → List AV → HO → Prop} {acc : List AV} (c : Col (w0 X ca) ro μ1 H1 D B μ acc h H) : Col (wd X ca E) ro μ1 H1 D B μ acc h H := ⟨c.R.to E, c.st, c.d, c.fr⟩
/-- what is behind a comprehension's loop -/
theorem dc_end {ro : Nat} {μ1 μ : Mu} {H1 H : Hp} {HF : AH} {PSs : List AV} {D : Addr} {Q : VK} (hD : H1 D = none) (hS : (D == sysModules) = false) (c : Col (wd X ca E) ro μ1 H1 D (BD X.prog X.w X.K D) μ PSs (freeH ro HF) H)
    (p : postG (dV (wd X ca E)) (wd X ca E) ro μ1 H1 (match dictOfL PSs [], lim PSs.length with | some d, true => alloc (freeH ro HF) (.dct d) | _, _ => .bad) Q) : Q (.ref D) H := by
  cases e1 : dictOfL PSs [] with
  | none => rw [e1] at p; exact False.elim p
  | some kvs =>
    cases e2 : lim PSs.length with
    | false => rw [e1, e2] at p; exact False.elim p
    | true =>
      rw [e1, e2] at p
      exact colD_end (W := wd X ca E) hD hS c e1 (lim_le e2) p
def noDk : Src → Bool
  | .dk _ _ => false
  | _ => true
theorem lock_no {s : Src} {h : AH} (e : noDk s = true) : lockH s h = h := by
  cases s <;> first | rfl | cases e
/-- {k: v for target in iter}, no dict walked -/
theorem dc_imp1 {own : List Nat} {mt : AV → Loc' → Option Loc'} {mi : Loc' → AH → R Src} {mk mv : ME} (hsl : ∀ i ∈ ws, i ∈ own) (hd : ∀ l h s h1, mi l h = .ok s h1 → noDk s = true) {σ : L2.St} {H : Hp} {Q : VK} (hq : tE (wd X ca E) (mDc own mt mi mk mv) σ H Q) : tDcN X.prog X.w X.K (tI (wd X ca E) mi) (tG (w0 X ca) ws mt) (tE (w0 X ca) mk) (tE (w0 X ca) mv) own σ H Q := by
  obtain ⟨ro, μ, l, h, A, p⟩ := hq
  refine ⟨ro, μ, l, h, A, (postG.bind (D := fun μ H => SrcR (wd X ca E) ro μ H) p).imp fun J H1 ⟨μ1, s, h1, st1, R1, sr, ei, p1⟩ D hD hS => ?_⟩
  rw [lock_no (hd _ _ _ _ ei)] at p1
  have L1 := A.L.step A.R st1
  cases el : compLoop s (turnD own mt mk mv l) turns 0 h1 with
  | bad => rw [el] at p1; exact False.elim p1
  | ex x hx => exact absurd el compLoop_nox
  | ok PSs HF =>
    rw [el] at p1
    have p2 : postG (dV (wd X ca E)) (wd X ca E) ro μ1 H1 (match dictOfL PSs [], lim PSs.length with | some d, true => alloc (freeH ro HF) (.dct d) | _, _ => .bad) Q := by
      have e := R1.roe
      rw [e] at p1
      exact p1
    have hz : PSs.length ≤ sizeLine := by
      cases e2 : lim PSs.length with
      | false => rw [e2] at p2; cases e1 : dictOfL PSs [] <;> (rw [e1] at p2; exact False.elim p2)
      | true => exact lim_le e2
    exact dc_imp (X := X) (ca := ca) hsl L1 (R1.to E0) (sr.to E0) el hz hD fun μ2 H2 c => dc_end (E := E) hD hS (by rw [freeH_same c.R]; exact w0_up c) p2
theorem miOf_nd {ma : ME} (l : Loc') (h : AH) (s : Src) (h1 : AH) (e : miOf ma l h = .ok s h1) : noDk s = true := by
  unfold miOf at e
  cases em : ma l h with
  | bad => rw [em] at e; cases e
  | ex _ _ => rw [em] at e; cases e
  | ok v h2 =>
    rw [em] at e
    dsimp only [R.bind] at e
    unfold srcOf at e
    split at e
    · cases e; rfl
    · split at e
      · cases e; rfl
      · cases e
    · cases e
theorem sim_dc {iter kx vx : Expr} {scope : Scope} {own : List (Str × Nat)} {mt : AV → Loc' → Option Loc'} {ma mk mv : ME} {pos : Pos} (hc : X.calm = true) (hu : X.A.units + 9 < cLine) (hN : X.N.Nodup) (hi : SimE X (wd X ca E) iter ma) (ok : BlkOk X.N X.env.scope scope own)
    (hg : InB X scope fun Y => SimG Y (w0 X ca) tg ws mt) (hk : InB X scope fun Y => SimE Y (w0 X ca) kx mk) (hv : InB X scope fun Y => SimE Y (w0 X ca) vx mv) (hsl : ∀ i ∈ ws, i ∈ own.map (·.2)) (hs : ∀ x, foldedSetIterable iter X.env x = pure x) :
    SimE X (wd X ca E) (.DictComp kx vx [⟨tg, iter, [], 0⟩] scope pos) (mDc (own.map (·.2)) mt (miOf ma) mk mv) :=
  PE.weaken (pe_dcN hc hu hN (simi_of hi) ok hg hk hv hs) fun σ H Q => dc_imp1 hsl miOf_nd
end
end Ev
set_option Elab.async false
set_option linter.all false
set_option maxRecDepth 100000
set_option maxHeartbeats 4000000
/-! dict comprehensions over what may be a dict -/
namespace Ev
open PySem PySem.Spec PyProof.Rows L2
section
variable {W : Wd} {ro : Nat} {μ μ' : Mu} {h h' : AH} {H H' : Hp}
theorem RelO.weak {P : Program} {w : World} {K : PySem.W.Frag} {ca : Ca} {rw : Bool} {a : Addr} {o : AO} (r : RelO P w K ca rw μ H a o) : RelO P w K ca false μ H a o := by
  cases o with
  | dct kvs =>
    obtain ⟨s, z, xs, e, q⟩ := r
    exact ⟨s, z, xs, e.imp id fun ⟨_, o, e⟩ => ⟨rfl, o, e⟩, q⟩
  | lst xs => exact r
  | fz ns => exact r
  | ins c fs => exact r
  | odd => exact r
/-- a dict that may be written -/
theorem RelH.dctW (R : RelH W ro μ h H) {n : Nat} {d : Addr} {kvs : List (AV × AV)} (e : μ n = some d) (g : h.get n = some (.dct kvs)) (hr : ro ≤ n) : (d == sysModules) = false ∧ ∃ xs, H d = some (DO W.P W.w d xs) ∧ Paired (RelKv W.K μ H) kvs xs := by
  obtain ⟨o, q, r⟩ := R.there e
  rw [g] at q; cases q
  obtain ⟨hS, _, xs, hv, pr⟩ := r
  rcases hv with z | ⟨z, _⟩
  · exact ⟨hS, xs, z, pr⟩
  · rw [show rwOf ro n = true from Nat.ble_eq_true_of_le hr] at z; cases z
theorem den_lock {K : PySem.W.Frag} {d : Addr} {u v : HO} (hd : H d = some u) (n1 : ∀ ys, u ≠ .tup ys) (n2 : ∀ o ys, u ≠ .frz o (.tup ys)) (x : AV) (y : V) (q : Den K μ H x y) : Den K μ (upd H d v) x y :=
  q.mono (fun _ _ e => e) fun _ _ s => sq_upd (fun ys z => by rw [hd] at z; exact n1 ys (Option.some.inj z)) (fun o ys z => by rw [hd] at z; exact n2 o ys (Option.some.inj z)) s
theorem RelH.locked (R : RelH W ro μ h H) {n : Nat} {d : Addr} {kvs : List (AV × AV)} {xs : List (NestedKey × Addr × Value)} {od : Obj} (e : μ n = some d) (g : h.get n = some (.dct kvs)) (hS : (d == sysModules) = false) (hd : H d = some (DO W.P W.w d xs)) (pr : Paired (RelKv W.K μ H) kvs xs) :
    RelH W h.n μ ⟨h.t, h.n, h.n⟩ (upd H d (.frz od (DO W.P W.w d xs))) where
  lim := R.lim
  rol := Nat.le_refl _
  roe := rfl
  inj := R.inj
  obj := fun k o q => by
    have q : h.get k = some o := q
    have hk := AH.get_lt q
    have rf : rwOf h.n k = false := by
      unfold rwOf
      cases z : Nat.ble h.n k with
      | false => rfl
      | true => exact absurd (Nat.le_of_ble_eq_true z) (by omega)
    rw [rf]
    obtain ⟨n1, n2, n3⟩ := do_not (P := W.P) (w := W.w) (a := d) (xs := xs)
    have up := den_lock (K := W.K) (μ := μ) (v := .frz od (DO W.P W.w d xs)) hd n1 n2
    by_cases hkn : k = n
    · subst hkn
      rw [g] at q; cases q
      obtain ⟨oo, q2, r2⟩ := R.there e
      rw [g] at q2; cases q2
      exact ⟨d, e, hS, r2.2.1, xs, .inr ⟨rfl, od, upd_same⟩, rkOf pr up⟩
    · obtain ⟨a, e1, r⟩ := R.obj k o q
      have hb : a ≠ d := fun z => hkn (R.inj k n a e1 (by rw [z]; exact e))
      refine ⟨a, e1, r.weak.keep up (fun v q => by rw [upd_ne hb]; exact q) fun b q => ?_⟩
      rw [upd_ne (fun z => n3 (Option.some.inj (by rw [← hd, ← z]; exact q)))]
      exact q
  back := R.back
  full := R.full
  tabs := tabs_upd R.tabs (nocode_do hd)
theorem Step.unlocked (R : RelH W ro μ h H) {n : Nat} {d : Addr} {u : HO} {od : Obj} (e : μ n = some d) (hr : ro ≤ n) (hd : H d = some u) (st : Step h.n μ (upd H d (.frz od u)) μ' H') : Step ro μ H μ' (upd H' d u) where
  ext := st.ext
  new := fun k b q => by
    rcases st.new k b q with z | z
    · exact .inl z
    · right
      by_cases hb : b = d
      · rw [hb, upd_same] at z; cases z
      · rw [upd_ne hb] at z; exact z
  frm := fun b o f nt q => by
    have hb : b ≠ d := fun z => f n hr (by rw [z]; exact e)
    rw [upd_ne hb]
    refine st.frm b o (fun k hk z => ?_) nt (by rw [upd_ne hb]; exact q)
    rw [R.dom hk] at z; cases z
  kep := fun b o q => by
    by_cases hb : b = d
    · exact ⟨u, by rw [hb, upd_same]⟩
    · rw [upd_ne hb]
      exact st.kep b o (by rw [upd_ne hb]; exact q)
theorem RelH.unlocked (R : RelH W ro μ h H) {n : Nat} {d : Addr} {xs : List (NestedKey × Addr × Value)} {od : Obj} (e : μ n = some d) (hr : ro ≤ n) (hd : H d = some (DO W.P W.w d xs)) (st : Step h.n μ (upd H d (.frz od (DO W.P W.w d xs))) μ' H') (R' : RelH W h.n μ' h' H') :
    H' d = some (.frz od (DO W.P W.w d xs)) ∧ RelH W ro μ' (freeH ro h') (upd H' d (DO W.P W.w d xs)) := by
  have hd' : H' d = some (.frz od (DO W.P W.w d xs)) := st.frm d _ (fun k hk z => by rw [R.dom hk] at z; cases z) (fun ps z => by cases z) upd_same
  have hle : ro ≤ h'.n := Nat.le_trans R.rol R'.rol
  have n1 : ∀ ys, HO.frz od (DO W.P W.w d xs) ≠ .tup ys := fun ys z => by cases z
  have n2 : ∀ o ys, HO.frz od (DO W.P W.w d xs) ≠ .frz o (.tup ys) := fun o ys z => by unfold DO at z; cases z
  have up := den_lock (K := W.K) (μ := μ') (v := DO W.P W.w d xs) hd' n1 n2
  refine ⟨hd', R'.lim, hle, rfl, R'.inj, fun k o q => ?_, R'.back, R'.full, tabs_upd R'.tabs (nocode_frz hd')⟩
  have q : h'.get k = some o := q
  obtain ⟨a, e1, r⟩ := R'.obj k o q
  by_cases ha : a = d
  · subst ha
    cases o with
    | lst ys => obtain ⟨_, vs, z, _⟩ := r; rw [hd'] at z; cases z
    | fz ns => obtain ⟨q, z⟩ := r; rw [hd'] at z; unfold DO at z; cases z
    | ins c fs => obtain ⟨dx, vs, z, _⟩ := r; rw [hd'] at z; unfold SlX.SlO at z; cases z
    | odd => obtain ⟨k, z⟩ := r; rw [hd'] at z; cases z
    | dct kvs =>
      obtain ⟨hS, z, ys, hv, pr⟩ := r
      refine ⟨a, e1, hS, z, ys, .inl ?_, rkOf pr up⟩
      rw [upd_same]
      rcases hv with hv | ⟨_, o', hv⟩
      · rw [hd'] at hv; unfold DO at hv; cases hv
      · rw [hd'] at hv
        have := Option.some.inj hv
        injection this with _ e2
        rw [e2]
  · have key : RelO W.P W.w W.K W.ca (rwOf ro k) μ' H' a o := by
      cases hk : rwOf ro k with
      | false => exact r.weak
      | true =>
        cases hk2 : rwOf h.n k with
        | true => rw [hk2] at r; exact r
        | false =>
          rw [hk2] at r
          cases o with
          | lst ys => exact r
          | fz ns => exact r
          | ins c fs => exact r
          | odd => exact r
          | dct kvs =>
            obtain ⟨hS, z, ys, hv, pr⟩ := r
            refine ⟨hS, z, ys, .inl ?_, pr⟩
            rcases hv with hv | ⟨_, o', hv⟩
            · exact hv
            · -- it stood before, as no frozen one
              exfalso
              have hlt : k < h.n := by
                unfold rwOf at hk2
                rcases Nat.lt_or_ge k h.n with z | z
                · exact z
                · rw [Nat.ble_eq_true_of_le z] at hk2; cases hk2
              have hro : ro ≤ k := by unfold rwOf at hk; exact Nat.le_of_ble_eq_true hk
              rcases st.new k a e1 with z | z
              · obtain ⟨oo, _, r0⟩ := R.there z
                have hH : ∀ u, H a = some u → H' a = some u := fun u q => st.frm a u (fun j hj w => by rw [R.dom hj] at w; cases w) (r0.nocode u q).1 (by rw [upd_ne ha]; exact q)
                cases oo with
                | lst ys => obtain ⟨_, vs, z2, _⟩ := r0; have := hH _ z2; rw [hv] at this; cases this
                | fz ns => obtain ⟨q, z2⟩ := r0; have := hH _ z2; rw [hv] at this; unfold DO at this; cases this
                | ins c fs => obtain ⟨dx, vs, z2, _⟩ := r0; have := hH _ z2; rw [hv] at this; unfold SlX.SlO at this; cases this
                | odd => obtain ⟨k, z2⟩ := r0; have := hH _ z2; rw [hv] at this; cases this
                | dct kvs0 =>
                  obtain ⟨_, _, ys0, hv0, _⟩ := r0
                  rcases hv0 with z2 | ⟨z2, _⟩
                  · have := hH _ z2; rw [hv] at this; unfold DO at this; cases this
                  · rw [show rwOf ro k = true from hk] at z2; cases z2
              · obtain ⟨o2, g2⟩ := R.full k hlt
                obtain ⟨b, e2, r2⟩ := R.obj k o2 g2
                have e3 := st.ext k b e2
                rw [e1] at e3; cases e3
                obtain ⟨u2, hu2, _⟩ := r2.is
                rw [upd_ne ha, hu2] at z; cases z
    refine ⟨a, e1, key.keep up (fun v q => by rw [upd_ne ha]; exact q) fun b q => ?_⟩
    rw [upd_ne (fun z => by rw [z, hd'] at q; cases q)]
    exact q
end
/-- what may be a dict: its keys, while nothing that stood is written -/
def srcW (v : AV) (h : AH) : Option Src := match v with
  | .obj n => (match h.get n with
    | some (.dct kvs) => (match Nat.ble h.ro n with
      | true => some (.dk n (kvs.map (·.1)))
      | false => none)
    | _ => srcOf v h)
  | v => srcOf v h
def miK (i : Nat) : Loc' → AH → R Src := fun l h => (rOpt (l[i]?.join) h).bind fun x h1 => rOpt (srcW x h1) h1
theorem keysL {K : PySem.W.Frag} {μ : Mu} {H : Hp} : ∀ {kvs : List (AV × AV)} {xs : List (NestedKey × Addr × Value)}, Paired (RelKv K μ H) kvs xs → DenL K μ H (kvs.map (·.1)) (xs.map fun x => V.ref x.2.1)
  | _, _, .nil => .nil
  | _, _, .cons r t => .cons r.2.1 (keysL t)
section
variable {X : Cx} {ca : Ca} {E : XK} {tg : Expr} {ws : List Nat}
theorem unlock_col {ro : Nat} {μ1 μ : Mu} {h1 HF : AH} {H1 H : Hp} {n : Nat} {d D : Addr} {xs : List (NestedKey × Addr × Value)} {od : Obj} {acc : List AV} (R1 : RelH (wd X ca E) ro μ1 h1 H1) (e : μ1 n = some d) (hr : ro ≤ n) (hd : H1 d = some (DO X.prog X.w d xs)) (hD : H1 D = none)
    (c : Col (wd X ca E) h1.n μ1 (upd H1 d (.frz od (DO X.prog X.w d xs))) D (BD X.prog X.w X.K D) μ acc HF H) : H d = some (.frz od (DO X.prog X.w d xs)) ∧ Col (wd X ca E) ro μ1 H1 D (BD X.prog X.w X.K D) μ acc (freeH ro HF) (upd H d (DO X.prog X.w d xs)) := by
  obtain ⟨hd', R2⟩ := R1.unlocked (W := wd X ca E) e hr hd c.st c.R
  have hne : D ≠ d := fun z => by rw [z, hd] at hD; cases hD
  obtain ⟨o, q1, ks, ys, e1, e2, pr, hl⟩ := c.d
  refine ⟨hd', R2, c.st.unlocked R1 e hr hd, ⟨o, by rw [upd_ne hne]; exact q1, ks, ys, e1, e2, rkOf pr ?_, hl⟩, c.fr⟩
  exact den_lock hd' (fun ys z => by cases z) (fun o ys z => by unfold DO at z; cases z)
/-- whatever is walked -/
def tDcK (X : Cx) (ca : Ca) (E : XK) (i : Nat) (ws own : List Nat) (mt : AV → Loc' → Option Loc') (mk mv : ME) : TE := fun σ H Q =>
  tDcN X.prog X.w X.K (tI (wd X ca E) (miOf fun l h => rOpt (l[i]?.join) h)) (tG (w0 X ca) ws mt) (tE (w0 X ca) mk) (tE (w0 X ca) mv) own σ H Q ∨
  tLockE (tDcN X.prog X.w X.K (fun σ H R => tVar i σ H fun v H1 => ∃ d o xs, v = .ref d ∧ (d == sysModules) = false ∧ H1 d = some (.frz o (DO X.prog X.w d xs)) ∧ R (Idk X.prog X.w d o xs) H1) (tG (w0 X ca) ws mt) (tE (w0 X ca) mk) (tE (w0 X ca) mv) own) σ H Q
theorem dcK_imp {i : Nat} {own : List (Str × Nat)} {mt : AV → Loc' → Option Loc'} {mk mv : ME} (hsl : ∀ i ∈ ws, i ∈ own.map (·.2)) {σ : L2.St} {H : Hp} {Q : VK} (hq : tE (wd X ca E) (mDc (own.map (·.2)) mt (miK i) mk mv) σ H Q) : tDcK X ca E i ws (own.map (·.2)) mt mk mv σ H Q := by
  obtain ⟨ro, μ, l, h, A, p⟩ := hq
  unfold mDc miK at p
  cases ex : l[i]?.join with
  | none => rw [ex] at p; exact False.elim p
  | some v =>
    rw [ex] at p
    have p : postG (dV (wd X ca E)) (wd X ca E) ro μ H ((rOpt (srcW v h) h).bind fun s h1 => (compLoop s (turnD (own.map (·.2)) mt mk mv l) turns 0 (lockH s h1)).bind fun ps h5 => match dictOfL ps [], lim ps.length with | some d, true => alloc (freeH h1.ro h5) (.dct d) | _, _ => .bad) Q := p
    have plain : srcW v h = srcOf v h → tE (wd X ca E) (mDc (own.map (·.2)) mt (miOf fun l h => rOpt (l[i]?.join) h) mk mv) σ H Q := fun e => by
      refine ⟨ro, μ, l, h, A, ?_⟩
      unfold mDc miOf
      dsimp only
      rw [ex]
      rw [e] at p
      exact p
    cases v with
    | obj n =>
      cases g : h.get n with
      | none => exact .inl (dc_imp1 hsl miOf_nd (plain (by unfold srcW; dsimp only; rw [g])))
      | some oo =>
        cases oo with
        | lst ys => exact .inl (dc_imp1 hsl miOf_nd (plain (by unfold srcW; dsimp only; rw [g])))
        | fz ns => exact .inl (dc_imp1 hsl miOf_nd (plain (by unfold srcW; dsimp only; rw [g])))
        | ins c fs => exact .inl (dc_imp1 hsl miOf_nd (plain (by unfold srcW; dsimp only; rw [g])))
        | odd => exact .inl (dc_imp1 hsl miOf_nd (plain (by unfold srcW; dsimp only; rw [g])))
        | dct kvs =>
          right
          have es : srcW (.obj n) h = (match Nat.ble h.ro n with | true => some (.dk n (kvs.map (·.1))) | false => none) := by unfold srcW; dsimp only; rw [g]
          rw [es] at p
          cases eb : Nat.ble h.ro n with
          | false => rw [eb] at p; exact False.elim p
          | true =>
            rw [eb] at p
            have hr : ro ≤ n := by rw [← A.R.roe]; exact Nat.le_of_ble_eq_true eb
            have hli : l[i]? = some (some (.obj n)) := by
              cases q : l[i]? with
              | none => rw [q] at ex; cases ex
              | some o => rw [q] at ex; exact congrArg some ex
            obtain ⟨u, hsi, du⟩ := A.L.2 i _ hli
            cases du with
            | @obj _ d hn =>
              obtain ⟨hS, xs, hd, pr⟩ := A.R.dctW hn g hr
              refine ⟨d, _, hd, trivial, fun od => ?_⟩
              refine ⟨.ref d, hsi, d, od, xs, rfl, hS, upd_same, fun D hD0 hSD => ?_⟩
              have hne : D ≠ d := fun z => by rw [z, upd_same] at hD0; cases hD0
              have hD : H D = none := by rw [upd_ne hne] at hD0; exact hD0
              have RL := A.R.locked (od := od) hn g hS hd pr
              have p1 : postG (dV (wd X ca E)) (wd X ca E) ro μ H ((compLoop (.dk n (kvs.map (·.1))) (turnD (own.map (·.2)) mt mk mv l) turns 0 ⟨h.t, h.n, h.n⟩).bind fun ps h5 => match dictOfL ps [], lim ps.length with | some d, true => alloc (freeH h.ro h5) (.dct d) | _, _ => .bad) Q := p
              have upl := den_lock (K := X.K) (μ := μ) (v := .frz od (DO X.prog X.w d xs)) hd do_not.1 do_not.2.1
              have L1 : RelL X.K μ (upd H d (.frz od (DO X.prog X.w d xs))) l σ := ⟨A.L.1, fun j y e => let ⟨u, h1, h2⟩ := A.L.2 j y e; ⟨u, h1, upl _ _ h2⟩⟩
              cases el : compLoop (.dk n (kvs.map (·.1))) (turnD (own.map (·.2)) mt mk mv l) turns 0 ⟨h.t, h.n, h.n⟩ with
              | bad => rw [el] at p1; exact False.elim p1
              | ex z hz => exact absurd el compLoop_nox
              | ok PSs HF =>
                rw [el, A.R.roe] at p1
                have p2 : postG (dV (wd X ca E)) (wd X ca E) ro μ H (match dictOfL PSs [], lim PSs.length with | some d, true => alloc (freeH ro HF) (.dct d) | _, _ => .bad) Q := p1
                have hz : PSs.length ≤ sizeLine := by
                  cases e2 : lim PSs.length with
                  | false => rw [e2] at p2; cases e1 : dictOfL PSs [] <;> (rw [e1] at p2; exact False.elim p2)
                  | true => exact lim_le e2
                refine dc_imp (X := X) (ca := ca) (Q := fun v H' => H' d = some (.frz od (DO X.prog X.w d xs)) ∧ Q v (upd H' d (DO X.prog X.w d xs))) hsl L1 (RL.to E0) (.dk upd_same (fun k hk z => by rw [A.R.dom hk] at z; cases z) ?_) el hz hD0 fun μ2 H2 c => ?_
                · exact (keysL pr).mono (fun _ _ e => e) fun _ _ s => sq_upd (fun ys z => by rw [hd] at z; exact do_not.1 ys (Option.some.inj z)) (fun o ys z => by rw [hd] at z; exact do_not.2.1 o ys (Option.some.inj z)) s
                · obtain ⟨k1, k2⟩ := unlock_col A.R hn hr hd hD (w0_up c)
                  exact ⟨k1, dc_end (E := E) hD hSD k2 p2⟩
    | _ => exact .inl (dc_imp1 hsl miOf_nd (plain rfl))
theorem sim_dcK {kx vx : Expr} {x : Str} {i : Nat} {scope : Scope} {own : List (Str × Nat)} {mt : AV → Loc' → Option Loc'} {mk mv : ME} {p pos : Pos} (hc : X.calm = true) (hu : X.A.units + 9 < cLine) (hN : X.N.Nodup) (hv' : SimE X (wd X ca E) (.Name x p) (fun l h => rOpt (l[i]?.join) h)) (hv0 : PE X (.Name x p) (tVar i)) (ok : BlkOk X.N X.env.scope scope own)
    (hg : InB X scope fun Y => SimG Y (w0 X ca) tg ws mt) (hk : InB X scope fun Y => SimE Y (w0 X ca) kx mk) (hv : InB X scope fun Y => SimE Y (w0 X ca) vx mv) (hsl : ∀ i ∈ ws, i ∈ own.map (·.2)) (hs : ∀ y, foldedSetIterable (.Name x p) X.env y = pure y) :
    SimE X (wd X ca E) (.DictComp kx vx [⟨tg, .Name x p, [], 0⟩] scope pos) (mDc (own.map (·.2)) mt (miK i) mk mv) :=
  PE.weaken (PE.either (pe_dcN hc hu hN (simi_of hv') ok hg hk hv hs) (pe_lock (pe_dcN hc hu hN (pi_dk hv0) ok hg hk hv hs))) fun σ H Q hq => dcK_imp hsl hq
theorem PS.either {st : Stmt} {t u : TS} (p : PS X st t) (q : PS X st u) : PS X st (fun D σ H => t D σ H ∨ u D σ H) := ⟨fun pins s σ H D I w => w.elim (p.run pins s σ H D I) (q.run pins s σ H D I)⟩
theorem sims_dcK {kx vx : Expr} {x y : Str} {i j : Nat} {py spos : Pos} {scope : Scope} {own : List (Str × Nat)} {mt : AV → Loc' → Option Loc'} {mk mv : ME} {p pos : Pos} (hc : X.calm = true) (hu : X.A.units + 9 < cLine) (hN : X.N.Nodup) (hy : X.N[j]? = some y) (hyl : X.env.scope.names.lookup y = some .local)
    (hsw : swapsWith (.DictComp kx vx [⟨tg, .Name x p, [], 0⟩] scope pos) (some (.Name y py)) spos.line X.env = pure true) (hv' : SimE X (wd X ca E) (.Name x p) (fun l h => rOpt (l[i]?.join) h)) (hv0 : PE X (.Name x p) (tVar i)) (ok : BlkOk X.N X.env.scope scope own)
    (hg : InB X scope fun Y => SimG Y (w0 X ca) tg ws mt) (hk : InB X scope fun Y => SimE Y (w0 X ca) kx mk) (hv : InB X scope fun Y => SimE Y (w0 X ca) vx mv) (hsl : ∀ i ∈ ws, i ∈ own.map (·.2)) (hs : ∀ y, foldedSetIterable (.Name x p) X.env y = pure y) :
    SimS X (wd X ca E) (.Assign [.Name y py] (.DictComp kx vx [⟨tg, .Name x p, [], 0⟩] scope pos) spos) (mSet j (mDc (own.map (·.2)) mt (miK i) mk mv)) :=
  PS.weaken (PS.either (ps_dcN hc hu hN hy hyl hsw (simi_of hv') ok hg hk hv hs) (ps_lock (ps_dcN hc hu hN hy hyl hsw (pi_dk hv0) ok hg hk hv hs))) fun D σ H hq => by
    obtain ⟨ro, μ, l, h, A, p⟩ := hq
    have k := dcK_imp (X := X) (ca := ca) (E := E) (i := i) (own := own) (mt := mt) (mk := mk) (mv := mv) (Q := fun v H1 => D.nx (σ.set j (some v)) H1) hsl ⟨ro, μ, l, h, A, (toS_P (dV _) A p).imp fun u H1 ⟨μ1, v, h1, A1, d, st, q⟩ => q μ1 _ H1 Step.refl ⟨A1.L.set d, A1.R⟩⟩
    rcases k with k | ⟨d, u, h1, h2, k⟩
    · exact .inl k
    · exact .inr ⟨d, u, h1, h2, fun od => k od⟩
end
end Ev
set_option Elab.async false
set_option linter.all false
set_option maxRecDepth 100000
set_option maxHeartbeats 4000000
/-! the rules in short: instances, built-ins, comprehensions, statements -/
namespace Ev
open PySem PySem.Spec PyProof.Rows L2
/-! the names of built-ins -/
theorem bt_isinstance : bootBuiltins "isinstance" = some (.builtin "isinstance") := by kernel_rfl
theorem bt_len : bootBuiltins "len" = some (.builtin "len") := by kernel_rfl
theorem bt_abs : bootBuiltins "abs" = some (.builtin "abs") := by kernel_rfl
theorem bt_max : bootBuiltins "max" = some (.builtin "max") := by kernel_rfl
theorem bt_min : bootBuiltins "min" = some (.builtin "min") := by kernel_rfl
theorem bt_all : bootBuiltins "all" = some (.builtin "all") := by kernel_rfl
theorem bt_any : bootBuiltins "any" = some (.builtin "any") := by kernel_rfl
theorem bt_sum : bootBuiltins "sum" = some (.builtin "sum") := by kernel_rfl
theorem bt_sorted : bootBuiltins "sorted" = some (.builtin "sorted") := by kernel_rfl
theorem bt_int : bootBuiltins "int" = some (.type "int") := by kernel_rfl
theorem bt_bool : bootBuiltins "bool" = some (.type "bool") := by kernel_rfl
theorem bt_str : bootBuiltins "str" = some (.type "str") := by kernel_rfl
theorem bt_tuple : bootBuiltins "tuple" = some (.type "tuple") := by kernel_rfl
theorem bt_list : bootBuiltins "list" = some (.type "list") := by kernel_rfl
theorem bt_dict : bootBuiltins "dict" = some (.type "dict") := by kernel_rfl
section
variable {X : Cx} {ca : Ca} {E : XK} {lv : Nat} {a b d e o tg iter : Expr} {es rest : List Expr} {ma mb mc : ME} {ms : Loc' → AH → R (List AV)} {pos p p2 p3 p4 apos : Pos} {x y : Str} {F : Fn} {f : Addr} {ws : List Nat}
theorem gIsi1 (n : Ty) (hm : X.mg "isinstance" = none) (hym : X.mg y = none) (hyv : bootBuiltins y = some (.type n.name)) (ha : SimE X (wd X ca E) a ma) (hn : n ≠ .nt := by decide) (hg : Gl X "isinstance" := by rfl) (hs : notStar a = true := by rfl) (hy : Gl X y := by rfl) (hy1 : y ≠ "__name__" := by decide) (hy2 : (y == ("__debug__" : Str)) = false := by decide) :
    SimE X (wd X ca E) (.Call (.Name "isinstance" p) [a, .Name y p2] [] pos) (mIsi ma (.ty n)) := sim_isi hg hm ha hs hn hy hym hyv hy1 hy2
theorem gIsiO {c : Nat} {cs : List Nat} (hm : X.mg "isinstance" = none) (K : OwnK X ca c cs) (hym : X.mg y = some (.ref (ca c))) (ha : SimE X (wd X ca E) a ma) (hg : Gl X "isinstance" := by rfl) (hs : notStar a = true := by rfl) (hy : Gl X y := by rfl) (hy2 : (y == ("__debug__" : Str)) = false := by decide) :
    SimE X (wd X ca E) (.Call (.Name "isinstance" p) [a, .Name y p2] [] pos) (mIsi ma (.own c cs)) := sim_isiO hg hm ha hs K hy hym hy2
theorem gLen (hm : X.mg "len" = none) (ha : SimE X (wd X ca E) a ma) (hg : Gl X "len" := by rfl) (hs : notStar a = true := by rfl) : SimE X (wd X ca E) (.Call (.Name "len" p) [a] [] pos) (mB1 (g1 lenA) ma) := sim_B1 call_lenA hg hm bt_len ha hs (by decide) (by decide)
theorem gAbs (hm : X.mg "abs" = none) (ha : SimE X (wd X ca E) a ma) (hg : Gl X "abs" := by rfl) (hs : notStar a = true := by rfl) : SimE X (wd X ca E) (.Call (.Name "abs" p) [a] [] pos) (mB1 (biA .abs) ma) := sim_B1 call_absA hg hm bt_abs ha hs (by decide) (by decide)
theorem gInt (hm : X.mg "int" = none) (ha : SimE X (wd X ca E) a ma) (hg : Gl X "int" := by rfl) (hs : notStar a = true := by rfl) : SimE X (wd X ca E) (.Call (.Name "int" p) [a] [] pos) (mB1 (biA .int) ma) := sim_Ty1 call_intA hg hm bt_int ha hs (by decide) (by decide)
theorem gAll (c : CF X E lv) (hm : X.mg "all" = none) (ha : SimE X (wd X ca E) a ma) (hg : Gl X "all" := by rfl) (hs : notStar a = true := by rfl) : SimE X (wd X ca E) (.Call (.Name "all" p) [a] [] pos) (mB1 (g1 (b1A .all)) ma) := sim_B1 (call_allA c.calm) hg hm bt_all ha hs (by decide) (by decide)
theorem gAny (c : CF X E lv) (hm : X.mg "any" = none) (ha : SimE X (wd X ca E) a ma) (hg : Gl X "any" := by rfl) (hs : notStar a = true := by rfl) : SimE X (wd X ca E) (.Call (.Name "any" p) [a] [] pos) (mB1 (g1 (b1A .any)) ma) := sim_B1 (call_anyA c.calm) hg hm bt_any ha hs (by decide) (by decide)
theorem gSum (c : CF X E lv) (hm : X.mg "sum" = none) (ha : SimE X (wd X ca E) a ma) (hg : Gl X "sum" := by rfl) (hs : notStar a = true := by rfl) : SimE X (wd X ca E) (.Call (.Name "sum" p) [a] [] pos) (mB1 (g1 (b1A .sum)) ma) := sim_B1 (call_sumA c.calm) hg hm bt_sum ha hs (by decide) (by decide)
theorem gSorted (c : CF X E lv) (hm : X.mg "sorted" = none) (ha : SimE X (wd X ca E) a ma) (hg : Gl X "sorted" := by rfl) (hs : notStar a = true := by rfl) : SimE X (wd X ca E) (.Call (.Name "sorted" p) [a] [] pos) (mB1 (g1 (b1A .sorted)) ma) := sim_B1 (call_sortedA c.calm (by have := c.room.un; omega)) hg hm bt_sorted ha hs (by decide) (by decide)
theorem gTuple (hm : X.mg "tuple" = none) (ha : SimE X (wd X ca E) a ma) (hg : Gl X "tuple" := by rfl) (hs : notStar a = true := by rfl) : SimE X (wd X ca E) (.Call (.Name "tuple" p) [a] [] pos) (mB1 (g1 (b1A .tuple)) ma) := sim_Ty1 call_tupleA hg hm bt_tuple ha hs (by decide) (by decide)
theorem gList (c : CF X E lv) (hm : X.mg "list" = none) (ha : SimE X (wd X ca E) a ma) (hg : Gl X "list" := by rfl) (hs : notStar a = true := by rfl) : SimE X (wd X ca E) (.Call (.Name "list" p) [a] [] pos) (mB1 (g1 (b1A .list)) ma) := sim_Ty1 (call_listA c.calm) hg hm bt_list ha hs (by decide) (by decide)
theorem gApp (ho : SimE X (wd X ca E) o ma) (ha : SimE X (wd X ca E) e mb) (hb : baseOk o = true := by rfl) (hs : notStar e = true := by rfl) (hl : (apos.endLine == pos.line) = true := by rfl) : SimE X (wd X ca E) (.Call (.Attribute o "append" apos) [e] [] pos) (mBm .append ma (aC mb a0)) :=
  sim_bm PySem.F.slot_list_append PySem.F.type_list_append mt_appA ho (gA ha g0 hs) hb (by simp [hs]) (by simp) hl
theorem gExt (ho : SimE X (wd X ca E) o ma) (ha : SimE X (wd X ca E) e mb) (hb : baseOk o = true := by rfl) (hs : notStar e = true := by rfl) (hl : (apos.endLine == pos.line) = true := by rfl) : SimE X (wd X ca E) (.Call (.Attribute o "extend" apos) [e] [] pos) (mBm .extend ma (aC mb a0)) :=
  sim_bm PySem.F.slot_list_extend PySem.F.type_list_extend mt_extA ho (gA ha g0 hs) hb (by simp [hs]) (by simp) hl
theorem gPop0 (ho : SimE X (wd X ca E) o ma) (ha : SimE X (wd X ca E) e mb) (hb : baseOk o = true := by rfl) (hs : notStar e = true := by rfl) (hl : (apos.endLine == pos.line) = true := by rfl) : SimE X (wd X ca E) (.Call (.Attribute o "pop" apos) [e] [] pos) (mBm .pop0 ma (aC mb a0)) :=
  sim_bm PySem.F.slot_list_pop PySem.F.type_list_pop mt_pop0A ho (gA ha g0 hs) hb (by simp [hs]) (by simp) hl
theorem gPop (ho : SimE X (wd X ca E) o ma) (hb : baseOk o = true := by rfl) (hl : (apos.endLine == pos.line) = true := by rfl) : SimE X (wd X ca E) (.Call (.Attribute o "pop" apos) [] [] pos) (mBm0 .pop ma) :=
  sim_bm0 PySem.F.slot_list_pop PySem.F.type_list_pop mt_popA ho hb hl
def mSl (ma : ME) (ml mh : Loc' → AH → R (Option Int)) : ME := fun l h => (ma l h).bind fun x h1 => (ml l h1).bind fun v h2 => (mh l h2).bind fun w h3 => slA x v w h3
def oN : Loc' → AH → R (Option Int) := fun _ h => .ok none h
def oS (ma : ME) : Loc' → AH → R (Option Int) := fun l h => (ma l h).bind fun x h1 => match x with | .int i => .ok (some i) h1 | _ => .bad
theorem gSl {lo hi : Option Expr} {ml mh : Loc' → AH → R (Option Int)} (ha : SimE X (wd X ca E) a ma) (hl : SimO X (wd X ca E) lo ml) (hh : SimO X (wd X ca E) hi mh) : SimE X (wd X ca E) (.Subscript a (.Slice lo hi none p2) pos) (mSl ma ml mh) := sim_sl ha hl hh
theorem goN : SimO X (wd X ca E) none oN := simo_none
theorem goS (ha : SimE X (wd X ca E) a ma) : SimO X (wd X ca E) (some a) (oS ma) := simo_some ha
theorem ixC {k : Const} {j : Nat} : PlainIx (.Constant k j pos) := fun _ _ => rfl
theorem gAtt {g : Str} {k i : Nat} (h1 : SlX.SCls X.K (ca k)) {q : Addr} (h2 : SlX.Slot1 X.K (ca k) g q i) (ha : SimE X (wd X ca E) a ma) (hb : baseOk a = true := by rfl) : SimE X (wd X ca E) (.Attribute a g pos) (mAttr ma [(k, i)]) :=
  sim_att ha (fun z hz => by rw [List.mem_singleton.mp hz]; exact ⟨h1, _, h2⟩) hb
theorem gPrp (c : CF X E lv) {m : Str} {n k : Nat} {q g : Addr} (h1 : SlX.SCls X.K (ca k)) (h2 : PySem.W.findIn X.K (.ref (ca k)) m = some (some (.ref q)) ∧ PySem.W.specialIn X.K (.ref q) "__get__" = some (some (.builtin "property.__get__")) ∧ PySem.W.takesIn X.K (.ref q) = some true ∧ ∃ rest, PySem.W.recIn X.K q "property" = some (.ref g :: rest))
    (hf : FnW X.prog X.w X.K X.mg X.base ca n F g) (ha : SimE X (wd X ca E) a ma) (hl : n + 1 ≤ lv := by decide) (hb : baseOk a = true := by rfl) : SimE X (wd X ca E) (.Attribute a m pos) (mPrp (tab1 F) ma [(k, 0)]) :=
  sim_prop (τ := tab1 F) (c.to (n + 1) hl) ha (fun z hz => by rw [List.mem_singleton.mp hz]; exact ⟨h1, q, g, h2.1, h2.2.1, h2.2.2.1, h2.2.2.2, hf⟩) hb
theorem gLenO (c : CF X E lv) {n k : Nat} {g : Addr} (hm : X.mg "len" = none) (h1 : SlX.SCls X.K (ca k)) (h2 : Meth X.K (ca k) "__len__" g) (hf : FnW X.prog X.w X.K X.mg X.base ca n F g) (ha : SimE X (wd X ca E) a ma) (hl : n + 1 ≤ lv := by decide) (hg : Gl X "len" := by rfl) (hs : notStar a = true := by rfl) :
    SimE X (wd X ca E) (.Call (.Name "len" p) [a] [] pos) (mLenO (tab1 F) ma [(k, 0)]) := sim_lenO (τ := tab1 F) (c.to (n + 1) hl) c.tk hg hm ha (fun z hz => by rw [List.mem_singleton.mp hz]; exact ⟨h1, g, h2, hf⟩) hs
def mOeq (τ : Tab) (ng : Bool) (alts : List (Nat × Nat)) (ma mb : ME) : ME := fun l h => (ma l h).bind fun x h1 => (mb l h1).bind fun y h2 => eqK τ ng alts x y h2
theorem gOeq (c : CF X E lv) (ng : Bool) {n k : Nat} {g : Addr} (h1 : SlX.SCls X.K (ca k)) (h2 : PySem.W.subIn X.K (.ref (ca k)) (.type "object") = some true ∧ PySem.W.findIn X.K (.ref (ca k)) "__ne__" = some (some (.builtin "object.__ne__")) ∧ PySem.W.findIn X.K (.ref (ca k)) "__eq__" = some (some (.ref g)) ∧ PySem.W.isFn X.K (.ref g) = true)
    (hf : FnW X.prog X.w X.K X.mg X.base ca n F g) (ha : SimE X (wd X ca E) a ma) (hb : SimE X (wd X ca E) b mb) (hl : n + 1 ≤ lv := by decide) (hm : behindInMarks (if ng then .NotEq else .Eq) b = false := by rfl) :
    SimE X (wd X ca E) (.Compare a [if ng then .NotEq else .Eq] [b] pos) (mOeq (tab1 F) ng [(k, 0)] ma mb) := sim_oeq (τ := tab1 F) (c.to (n + 1) hl) c.tk (fun z hz => by rw [List.mem_singleton.mp hz]; exact ⟨h1, h2.1, h2.2.1, g, h2.2.2.1, h2.2.2.2, hf⟩) ha hb hm
theorem tOeq (c : CF X E lv) (ng : Bool) {n k : Nat} {g : Addr} (h1 : SlX.SCls X.K (ca k)) (h2 : PySem.W.subIn X.K (.ref (ca k)) (.type "object") = some true ∧ PySem.W.findIn X.K (.ref (ca k)) "__ne__" = some (some (.builtin "object.__ne__")) ∧ PySem.W.findIn X.K (.ref (ca k)) "__eq__" = some (some (.ref g)) ∧ PySem.W.isFn X.K (.ref g) = true)
    (hf : FnW X.prog X.w X.K X.mg X.base ca n F g) (ha : SimE X (wd X ca E) a ma) (hb : SimE X (wd X ca E) b mb) (hl : n + 1 ≤ lv := by decide) (hm : behindInMarks (if ng then .NotEq else .Eq) b = false := by rfl) :
    SimT X (wd X ca E) (.Compare a [if ng then .NotEq else .Eq] [b] pos) (mOeq (tab1 F) ng [(k, 0)] ma mb) := simt_oeq (τ := tab1 F) (c.to (n + 1) hl) c.tk (fun z hz => by rw [List.mem_singleton.mp hz]; exact ⟨h1, h2.1, h2.2.1, g, h2.2.2.1, h2.2.2.2, hf⟩) ha hb hm
theorem gNew (c : CF X E lv) {n k : Nat} {g : Addr} (hm : X.mg x = some (.ref (ca k))) (M : Mk X.K (ca k) g) (hf : FnW X.prog X.w X.K X.mg X.base ca n F g) (ha : SimA X (wd X ca E) (e :: es) ms) (hl : n + 1 ≤ lv := by decide) (hg : Gl X x := by rfl) (hs : (e :: es).all notStar = true := by rfl) (hd : (x == ("__debug__" : Str)) = false := by decide) :
    SimE X (wd X ca E) (.Call (.Name x p) (e :: es) [] pos) (newM k F ms) := sim_new M (c.to (n + 1) hl) c.tk hg hm hf.s ha hs hd
theorem gMet (c : CF X E lv) {m : Str} {n k : Nat} {g : Addr} (h1 : SlX.SCls X.K (ca k)) (h2 : Meth X.K (ca k) m g) (hf : FnW X.prog X.w X.K X.mg X.base ca n F g) (ho : SimE X (wd X ca E) o ma) (ha : SimA X (wd X ca E) (e :: es) ms) (hl : n ≤ lv := by decide) (hb : baseOk o = true := by rfl) (hs : (e :: es).all notStar = true := by rfl) (hn : (e :: es).length < 20 := by decide) (hp : (apos.endLine == pos.line) = true := by rfl) :
    SimE X (wd X ca E) (.Call (.Attribute o m apos) (e :: es) [] pos) (mMet (tab1 F) ma [(k, 0)] ms) := sim_meth (τ := tab1 F) (c.to n hl) c.tk ho (fun z hz => by rw [List.mem_singleton.mp hz]; exact ⟨h1, g, h2, hf⟩) ha hb hs hn hp
theorem gMet0 (c : CF X E lv) {m : Str} {n k : Nat} {g : Addr} (h1 : SlX.SCls X.K (ca k)) (h2 : Meth X.K (ca k) m g) (hf : FnW X.prog X.w X.K X.mg X.base ca n F g) (ho : SimE X (wd X ca E) o ma) (hl : n ≤ lv := by decide) (hb : baseOk o = true := by rfl) (hp : (apos.endLine == pos.line) = true := by rfl) :
    SimE X (wd X ca E) (.Call (.Attribute o m apos) [] [] pos) (mMet0 (tab1 F) ma [(k, 0)]) := sim_meth0 (τ := tab1 F) (c.to n hl) c.tk ho (fun z hz => by rw [List.mem_singleton.mp hz]; exact ⟨h1, g, h2, hf⟩) hb hp
/-! and, or: tests -/
theorem tAnd {d : Expr} {rest : List Expr} (ha : SimT X (wd X ca E) a ma) (hb : SimW X (wd X ca E) (.BoolOp .And (d :: rest) pos) mb) : SimT X (wd X ca E) (.BoolOp .And (a :: d :: rest) pos) (andM ma mb) := (simw_and ha hb).pt
theorem tOr {d : Expr} {rest : List Expr} (ha : SimT X (wd X ca E) a ma) (hb : SimW X (wd X ca E) (.BoolOp .Or (d :: rest) pos) mb) : SimT X (wd X ca E) (.BoolOp .Or (a :: d :: rest) pos) (orM ma mb) := (simw_or ha hb).pt
/-! sources, targets -/
theorem iEn {elts : List Expr} {kk : Nat} {tpos : Pos} (hm : X.mg "enumerate" = none) (he : SimE X (wd X ca E) e ma) (hg : Gl X "enumerate" := by rfl) (hs : notStar e = true := by rfl) : SimI X (wd X ca E) (.Tuple elts kk tpos) (.Call (.Name "enumerate" p) [e] [] pos) (miEn ma) := simi_en hg hm he hs
theorem iZp {elts : List Expr} {kk : Nat} {tpos : Pos} (hm : X.mg "zip" = none) (ha : SimE X (wd X ca E) a ma) (hb : SimE X (wd X ca E) b mb) (hg : Gl X "zip" := by rfl) (hs : notStar a = true := by rfl) (hs2 : notStar b = true := by rfl) : SimI X (wd X ca E) (.Tuple elts kk tpos) (.Call (.Name "zip" p) [a, b] [] pos) (miZp ma mb) := simi_zp hg hm ha hb hs hs2
theorem iRg (hm : X.mg "range" = none) (ha : SimE X (wd X ca E) a ma) (hg : Gl X "range" := by rfl) (hs : notStar a = true := by rfl) : SimI X (wd X ca E) tg (.Call (.Name "range" p) [a] [] pos) (miRg ma) := simi_rg hg hm ha hs
theorem uN (c : CF X E lv) (i : Nat) {E' : XK} (hi : X.N[i]? = some x := by rfl) (hx : Loc X.env.scope x := by first | exact Or.inl rfl | exact Or.inr rfl) (hf : X.fn x = true ∨ X.env.scope.names.lookup x = some .local := by first | exact Or.inl rfl | exact Or.inr rfl) : SimG X (wd X ca E') (.Name x pos) [i] (mtN i) := simg_nm c.nd hi hx hf
theorem u0 : SimGs X (wd X ca E) [] [] mt0 := simgs_nil
theorem uC {vs ws : List Nat} {mt : AV → Loc' → Option Loc'} {ms : List AV → Loc' → Option Loc'} (h1 : SimG X (wd X ca E) e vs mt) (h2 : SimGs X (wd X ca E) es ws ms) (hs : (assignEach (e :: es) X.env).map (·.2) = assign e X.env :: (assignEach es X.env).map (·.2) := by rfl) : SimGs X (wd X ca E) (e :: es) (vs ++ ws) (mtC mt ms) := simgs_cons h1 h2 hs
theorem uT (c : CF X E lv) {E' : XK} {k n : Nat} {ms : List AV → Loc' → Option Loc'} (h : SimGs X (wd X ca E') es ws ms) (hl : ∀ xs l l', ms xs l = some l' → xs.length = n) (hn : (assignEach es X.env).length = n := by rfl) (hst : (assignEach es X.env).findIdx? (·.1) = none := by rfl) : SimG X (wd X ca E') (.Tuple es k pos) ws (mtT ms) := simg_tp c.calm h hn hst hl
/-! comprehensions -/
theorem gLc (c : CF X E lv) (own : List (Str × Nat)) {elt : Expr} {ifs : List Expr} {scope : Scope} {mt : AV → Loc' → Option Loc'} {mi : Loc' → AH → R Src} {mc me : ME} (hi : SimI X (wd X ca E) tg iter mi) (hg : InB X scope fun Y => SimG Y (w0 X ca) tg ws mt) (ht : InB X scope fun Y => SimTs Y (w0 X ca) ifs mc) (he : InB X scope fun Y => SimE Y (w0 X ca) elt me)
    (ok : blkC X.N X.env.scope scope own = true := by kernel_rfl) (hsl : ∀ i ∈ ws, i ∈ own.map (·.2) := by decide) (hs : ∀ x, foldedSetIterable iter X.env x = pure x := by intro _; rfl) :
    SimE X (wd X ca E) (.ListComp elt [⟨tg, iter, ifs, 0⟩] scope pos) (mLc (own.map (·.2)) mt mi mc me) := sim_lc c.calm c.nd hi (blkOk_by ok) hg ht he hsl hs
theorem gLc2 (c : CF X E lv) (own : List (Str × Nat)) (vs1 : List Nat) {elt tg1 iter1 : Expr} {ifs1 : List Expr} {scope : Scope} {ws1 : List Nat} {mt mt1 : AV → Loc' → Option Loc'} {mi mi1 : Loc' → AH → R Src} {mc me : ME} (hi : SimI X (wd X ca E) tg iter mi) (hg : InB X scope fun Y => SimG Y (w0 X ca) tg ws mt) (hi1 : InB X scope fun Y => SimI Y (w0 X ca) tg1 iter1 mi1) (hg1 : InB X scope fun Y => SimG Y (w0 X ca) tg1 ws1 mt1) (ht : InB X scope fun Y => SimTs Y (w0 X ca) ifs1 mc) (he : InB X scope fun Y => SimE Y (w0 X ca) elt me)
    (ok : blkC X.N X.env.scope scope own = true := by kernel_rfl) (hv : ∀ i ∈ vs1, i ∈ own.map (·.2) := by decide) (hsl : ∀ i ∈ ws, i ∈ own.map (·.2) := by decide) (hsl1 : ∀ i ∈ ws1, i ∈ vs1 := by decide) (hs : ∀ x, foldedSetIterable iter X.env x = pure x := by intro _; rfl) (hs1 : ∀ env x, foldedSetIterable iter1 env x = pure x := by intro _ _; rfl) :
    SimE X (wd X ca E) (.ListComp elt [⟨tg, iter, [], 0⟩, ⟨tg1, iter1, ifs1, 0⟩] scope pos) (mLc2 (own.map (·.2)) vs1 mt mi mi1 mt1 mc me) := sim_lc2 c.calm c.nd hi (blkOk_by ok) hv hg hi1 hg1 ht he hsl hsl1 hs hs1
theorem gDc (c : CF X E lv) (own : List (Str × Nat)) {kx vx : Expr} {scope : Scope} {mt : AV → Loc' → Option Loc'} {mk mv : ME} (hi : SimE X (wd X ca E) iter ma) (hg : InB X scope fun Y => SimG Y (w0 X ca) tg ws mt) (hk : InB X scope fun Y => SimE Y (w0 X ca) kx mk) (hv : InB X scope fun Y => SimE Y (w0 X ca) vx mv)
    (ok : blkC X.N X.env.scope scope own = true := by kernel_rfl) (hsl : ∀ i ∈ ws, i ∈ own.map (·.2) := by decide) (hs : ∀ x, foldedSetIterable iter X.env x = pure x := by intro _; rfl) :
    SimE X (wd X ca E) (.DictComp kx vx [⟨tg, iter, [], 0⟩] scope pos) (mDc (own.map (·.2)) mt (miOf ma) mk mv) := sim_dc c.calm (by have := c.room.un; omega) c.nd hi (blkOk_by ok) hg hk hv hsl hs
theorem gDcK (c : CF X E lv) (own : List (Str × Nat)) (i : Nat) {kx vx : Expr} {scope : Scope} {mt : AV → Loc' → Option Loc'} {mk mv : ME} (hg : InB X scope fun Y => SimG Y (w0 X ca) tg ws mt) (hk : InB X scope fun Y => SimE Y (w0 X ca) kx mk) (hv : InB X scope fun Y => SimE Y (w0 X ca) vx mv)
    (ok : blkC X.N X.env.scope scope own = true := by kernel_rfl) (hsl : ∀ i ∈ ws, i ∈ own.map (·.2) := by decide) (hs : ∀ y, foldedSetIterable (.Name x p) X.env y = pure y := by intro _; rfl) (hN : X.N[i]? = some x := by rfl) (hvis : Vis X.env.scope x := by first | exact Or.inl rfl | exact Or.inr (Or.inl rfl) | exact Or.inr (Or.inr rfl)) (hd : (x == ("__debug__" : Str)) = false := by decide) (hc : (x == ("__classdict__" : Str)) = false := by decide) :
    SimE X (wd X ca E) (.DictComp kx vx [⟨tg, .Name x p, [], 0⟩] scope pos) (mDc (own.map (·.2)) mt (miK i) mk mv) := sim_dcK c.calm (by have := c.room.un; omega) c.nd (sim_var hN hvis hd hc) (pe_var hN hvis hd hc) (blkOk_by ok) hg hk hv hsl hs
theorem gD1 (c : CF X E lv) {mk mv : ME} (hk : SimE X (wd X ca E) a mk) (hv : SimE X (wd X ca E) b mv) : SimE X (wd X ca E) (.Dict [some a] [b] pos) (mD1 mk mv) := sim_d1 (by have := c.room.un; omega) hk hv
/-! statements -/
theorem xSet (c : CF X E lv) (i : Nat) (he : SimE X (wd X ca E) e ma) (hi : X.N[i]? = some x := by rfl) (hx : Loc X.env.scope x := by first | exact Or.inl rfl | exact Or.inr rfl) (hs : swapsWith e (some (.Name x p)) pos.line X.env = pure false := by rfl) (hf : X.fn x = true ∨ X.env.scope.names.lookup x = some .local := by exact Or.inl rfl) : SimS X (wd X ca E) (.Assign [.Name x p] e pos) (mSet i ma) := sims_set c.nd hi hx he hs hf
theorem xAs {mt : AV → Loc' → Option Loc'} (he : SimE X (wd X ca E) e ma) (hg : SimG X (wd X ca E) tg ws mt) (hs : swapsWithSole [tg] e pos.line X.env = pure false := by rfl) (hw : swappedStores [tg] e X.env = pure none := by rfl) (h1 : (assignEach [tg] X.env).map (·.2) = [assign tg X.env] := by rfl) : SimS X (wd X ca E) (.Assign [tg] e pos) (mAs mt ma) := sims_as he hg hs hw h1
theorem xPar (c : CF X E lv) (i j : Nat) {px py pt pt2 : Pos} {kt k2 : Nat} (ha : SimE X (wd X ca E) a ma) (hb : SimE X (wd X ca E) b mb) (hij : i ≠ j := by decide) (hi : X.N[i]? = some x := by rfl) (hj : X.N[j]? = some y := by rfl) (hx : X.env.scope.names.lookup x = some .local := by rfl) (hy : X.env.scope.names.lookup y = some .local := by rfl) (hna : notStar a = true := by rfl) (hnb : notStar b = true := by rfl)
    (hw : swappedStores [.Tuple [.Name x px, .Name y py] kt pt] (.Tuple [a, b] k2 pt2) X.env = pure (some [x, y]) := by rfl) (hs : swapsWithSole [.Tuple [.Name x px, .Name y py] kt pt] (.Tuple [a, b] k2 pt2) pos.line X.env = pure false := by rfl) :
    SimS X (wd X ca E) (.Assign [.Tuple [.Name x px, .Name y py] kt pt] (.Tuple [a, b] k2 pt2) pos) (mPar i j ma mb) := sims_par c.calm c.nd hi hj hij hx hy ha hb hna hnb hw hs
theorem xAtt {g : Str} {k i : Nat} {mo mv : ME} {q : Addr} (h1 : SlX.SCls X.K (ca k)) (h2 : SlX.Slot1 X.K (ca k) g q i) (ho : SimE X (wd X ca E) o mo) (hv : SimE X (wd X ca E) e mv) (hs : swapsWith e (some (.Attribute o g p)) pos.line X.env = pure false := by rfl) : SimS X (wd X ca E) (.Assign [.Attribute o g p] e pos) (mAtt mo [(k, i)] mv) :=
  sims_att ho hv (fun z hz => by rw [List.mem_singleton.mp hz]; exact ⟨h1, _, h2⟩) hs
theorem xPut (c : CF X E lv) {md mk mv : ME} (ho : SimE X (wd X ca E) o md) (hk : SimE X (wd X ca E) a mk) (hv : SimE X (wd X ca E) e mv) (hs : swapsWith e (some (.Subscript o a p)) pos.line X.env = pure false := by rfl) : SimS X (wd X ca E) (.Assign [.Subscript o a p] e pos) (mPut md mk mv) := sims_put (by have := c.room.un; omega) ho hk hv hs
theorem xEx (he : SimE X (wd X ca E) e ma) (hs : swapsWith e none pos.line X.env = pure false := by rfl) : SimS X (wd X ca E) (.Expr e pos) (mEx ma) := sims_ex he hs
theorem xFor (c : CF X E lv) (po : PassesOwn (model X.prog X.w) X.A X.env X.xe) {mt : AV → Loc' → Option Loc'} {mi : Loc' → AH → R Src} {mb : MS} {body : List Stmt} (hi : SimI X (wd X ca E) tg iter mi) (hg : SimG X (wd X ca E) tg ws mt) (hb : SimSs X (wd X ca E) body mb) (hs : ∀ x, foldedSetIterable iter X.env x = pure x := by intro _; rfl) : SimS X (wd X ca E) (.For tg iter body [] pos) (mFor mt mi mb) := sims_for po c.calm hi hg hb hs
theorem xLc (c : CF X E lv) (i : Nat) (own : List (Str × Nat)) {py : Pos} {elt : Expr} {ifs : List Expr} {scope : Scope} {mt : AV → Loc' → Option Loc'} {mi : Loc' → AH → R Src} {mc me : ME} (hi : SimI X (wd X ca E) tg iter mi) (hg : InB X scope fun Y => SimG Y (w0 X ca) tg ws mt) (ht : InB X scope fun Y => SimTs Y (w0 X ca) ifs mc) (he : InB X scope fun Y => SimE Y (w0 X ca) elt me)
    (hk : X.env.scope.kind = .function := by rfl) (hl : (py.line == p.line) = true := by rfl) (hq : (scope.names.any fun (n, k) => n == y && (k == .local || k == .cell)) = false := by decide +kernel)
    (hy : X.N[i]? = some y := by rfl) (hyl : X.env.scope.names.lookup y = some .local := by rfl) (ok : blkC X.N X.env.scope scope own = true := by kernel_rfl) (hsl : ∀ i ∈ ws, i ∈ own.map (·.2) := by decide) (hs : ∀ x, foldedSetIterable iter X.env x = pure x := by intro _; rfl) :
    SimS X (wd X ca E) (.Assign [.Name y py] (.ListComp elt [⟨tg, iter, ifs, 0⟩] scope p) pos) (mSet i (mLc (own.map (·.2)) mt mi mc me)) := sims_lc c.calm c.nd hy hyl (sw_true hk hyl hl hq) hi (blkOk_by ok) hg ht he hsl hs
theorem xDcK (c : CF X E lv) (j : Nat) (own : List (Str × Nat)) (i : Nat) {py : Pos} {kx vx : Expr} {scope : Scope} {mt : AV → Loc' → Option Loc'} {mk mv : ME} (hg : InB X scope fun Y => SimG Y (w0 X ca) tg ws mt) (hk : InB X scope fun Y => SimE Y (w0 X ca) kx mk) (hv : InB X scope fun Y => SimE Y (w0 X ca) vx mv)
    (hkd : X.env.scope.kind = .function := by rfl) (hl : (py.line == p2.line) = true := by rfl) (hq : (scope.names.any fun (n, k) => n == y && (k == .local || k == .cell)) = false := by decide +kernel) (hy : X.N[j]? = some y := by rfl) (hyl : X.env.scope.names.lookup y = some .local := by rfl)
    (ok : blkC X.N X.env.scope scope own = true := by kernel_rfl) (hsl : ∀ i ∈ ws, i ∈ own.map (·.2) := by decide) (hs : ∀ y, foldedSetIterable (.Name x p) X.env y = pure y := by intro _; rfl) (hN : X.N[i]? = some x := by rfl) (hvis : Vis X.env.scope x := by first | exact Or.inl rfl | exact Or.inr (Or.inl rfl) | exact Or.inr (Or.inr rfl)) (hd : (x == ("__debug__" : Str)) = false := by decide) (hc : (x == ("__classdict__" : Str)) = false := by decide) :
    SimS X (wd X ca E) (.Assign [.Name y py] (.DictComp kx vx [⟨tg, .Name x p, [], 0⟩] scope p2) pos) (mSet j (mDc (own.map (·.2)) mt (miK i) mk mv)) := sims_dcK c.calm (by have := c.room.un; omega) c.nd hy hyl (sw_dc hkd hyl hl hq) (sim_var hN hvis hd hc) (pe_var hN hvis hd hc) (blkOk_by ok) hg hk hv hsl hs
end
end Ev
set_option Elab.async false
set_option linter.all false
set_option maxRecDepth 100000
set_option maxHeartbeats 4000000
/-! a def that gets data and gives data may be run on a heap of its own -/
namespace Ev
open PySem PySem.Spec PyProof.Rows L2
def hE : AH := ⟨.nil, 0, 0⟩
def pureF (F : Fn) : Fn := fun args h => match AV.clns 0 args with
  | true => (match F args hE with
    | .ok v _ => (match AV.cln 0 v with
      | true => .ok v h
      | false => .bad)
    | _ => .bad)
  | false => .bad
/-- all slots hold data -/
def slotsC : List (Option AV) → Bool
  | [] => true
  | some v :: r => AV.cln 0 v && slotsC r
  | none :: r => slotsC r
def hI (c : Nat) (fs : List (Option AV)) : AH := ⟨Tr.put 24 .nil 0 (.ins c fs), 1, 1⟩
/-- the first is an instance that holds data -/
def pureI (F : Fn) : Fn := fun args h => match args with
  | .obj n :: rest => (match h.get n with
    | some (.ins c fs) => (match AV.clns 0 rest && slotsC fs with
      | true => (match F (.obj 0 :: rest) (hI c fs) with
        | .ok v _ => (match AV.cln 0 v with
          | true => .ok v h
          | false => .bad)
        | _ => .bad)
      | false => .bad)
    | _ => .bad)
  | _ => .bad
section
variable {W : Wd} {ro : Nat} {μ : Mu} {h : AH} {H H' : Hp}
theorem RelO.notbl {P : Program} {w : World} {K : PySem.W.Frag} {ca : Ca} {rw : Bool} {a : Addr} {o : AO} (r : RelO P w K ca rw μ H a o) : ∀ u, H a = some u → ∀ ps, u ≠ .tbl ps := by
  intro u hu ps e
  subst e
  cases o with
  | lst xs => obtain ⟨_, vs, e, _⟩ := r; rw [hu] at e; cases e
  | fz ns => obtain ⟨o, e⟩ := r; rw [hu] at e; cases e
  | dct kvs =>
    obtain ⟨_, _, xs, e | ⟨_, o, e⟩, _⟩ := r
    · rw [hu] at e; cases e
    · rw [hu] at e; cases e
  | ins c fs => obtain ⟨dx, vs, e, _⟩ := r; rw [hu] at e; cases e
  | odd => obtain ⟨k, e⟩ := r; rw [hu] at e; cases e
theorem Step.kept (k : ∀ b o, (∀ ps, o ≠ .tbl ps) → H b = some o → H' b = some o) (kp : ∀ b o, H b = some o → ∃ o', H' b = some o') : Step ro μ H μ H' := ⟨fun _ _ e => e, fun _ _ e => .inl e, fun b o _ n e => k b o n e, kp⟩
theorem RelH.still (R : RelH W ro μ h H) (k : ∀ b o, (∀ ps, o ≠ .tbl ps) → H b = some o → H' b = some o) (kp : ∀ b o, H b = some o → ∃ o', H' b = some o') (t : LamX.Tabs W.ca.T H') : RelH W ro μ h H' where
  lim := R.lim
  rol := R.rol
  roe := R.roe
  inj := R.inj
  obj := fun n o e => by
    obtain ⟨a, e1, r⟩ := R.obj n o e
    exact ⟨a, e1, r.keep (fun x v d => R.den (Step.kept k kp) d) (fun v q => k a v (r.notbl v q) q) fun b q => k b _ (fun ps z => by cases z) q⟩
  back := R.back
  full := R.full
  tabs := t
theorem relE (t : LamX.Tabs W.ca.T H) : RelH W 0 (fun _ => none) hE H where
  lim := Nat.zero_le _
  rol := Nat.le_refl _
  roe := rfl
  inj := fun n m a e => by cases e
  obj := fun n o e => by cases e
  back := fun n a e => by cases e
  full := fun n e => absurd e (Nat.not_lt_zero _)
  tabs := t
theorem pureF_sp {F : Fn} {vs : List V} {Q : VK} {E : XK} (s : spF W (pureF F) vs H Q E) : spF W F vs H Q E := by
  obtain ⟨ro, μ, h, args, R, d, p⟩ := s
  unfold pureF at p
  cases c : AV.clns 0 args with
  | false => rw [c] at p; exact False.elim p
  | true =>
    rw [c] at p
    dsimp only at p
    refine ⟨0, fun _ => none, hE, args, relE R.tabs, d.clean (fun k a z => absurd z (Nat.not_lt_zero _)) c, ?_⟩
    cases e : F args hE with
    | bad => rw [e] at p; exact False.elim p
    | ex x h1 => rw [e] at p; exact False.elim p
    | ok v h1 =>
      rw [e] at p
      dsimp only at p
      cases cv : AV.cln 0 v with
      | false => rw [cv] at p; exact False.elim p
      | true =>
        rw [cv] at p
        intro μ' u H' st R' dv
        have k : ∀ b o, (∀ ps, o ≠ .tbl ps) → H b = some o → H' b = some o := fun b o n e => st.frm b o (fun _ _ z => by cases z) n e
        have R2 : RelH (W.to E) ro μ h H' := (R.to E).still k st.kep R'.tabs
        exact p μ u H' (Step.kept k st.kep) R2 (Den.clean (n := 0) (fun k a z => absurd z (Nat.not_lt_zero _)) dv cv)
theorem FnW.pure {P : Program} {w : World} {K : PySem.W.Frag} {mg : Str → Option Value} {base : Heap} {ca : Ca} {lv : Nat} {F : Fn} {f : Addr} (h : FnW P w K mg base ca lv F f) : FnW P w K mg base ca lv (pureF F) f := FnR.imp h fun _ _ _ _ s => pureF_sp s
theorem slots_at : ∀ {fs : List (Option AV)} {i : Nat} {v : AV}, slotsC fs = true → fs[i]? = some (some v) → AV.cln 0 v = true
  | [], i, v, _, e => by simp at e
  | none :: r, 0, v, _, e => by simp at e
  | some x :: r, 0, v, c, e => by
    simp at e; subst e
    exact (Bool.and_eq_true_iff.mp (show (AV.cln 0 x && slotsC r) = true from c)).1
  | none :: r, i + 1, v, c, e => slots_at (fs := r) (i := i) c (by simpa using e)
  | some x :: r, i + 1, v, c, e => slots_at (fs := r) (i := i) (Bool.and_eq_true_iff.mp (show (AV.cln 0 x && slotsC r) = true from c)).2 (by simpa using e)
def muI (a : Addr) : Mu := fun n => if n = 0 then some a else none
theorem muI_at {a b : Addr} {n : Nat} (h : muI a n = some b) : n = 0 ∧ b = a := by
  unfold muI at h
  by_cases e : n = 0
  · rw [if_pos e] at h; exact ⟨e, (Option.some.inj h).symm⟩
  · rw [if_neg e] at h; cases h
theorem hI_get (c : Nat) (fs : List (Option AV)) : (hI c fs).get 0 = some (.ins c fs) := rfl
theorem relI {a : Addr} {c : Nat} {fs : List (Option AV)} {rw : Bool} (t : LamX.Tabs W.ca.T H) (r : RelO W.P W.w W.K W.ca rw μ H a (.ins c fs)) (s : slotsC fs = true) : RelH W 1 (muI a) (hI c fs) H where
  lim := by show 1 ≤ top; decide
  rol := Nat.le_refl _
  roe := rfl
  inj := fun n m b h1 h2 => by rw [(muI_at h1).1, (muI_at h2).1]
  obj := fun n x e => by
    have hn : n < 1 := AH.get_lt e
    have en : n = 0 := by omega
    subst en
    rw [hI_get] at e; cases e
    obtain ⟨dx, vs, h1, h2, h3⟩ := r
    refine ⟨a, rfl, dx, vs, h1, h2, fun i v e => ?_⟩
    obtain ⟨u, q1, q2⟩ := h3 i v e
    exact ⟨u, q1, q2.clean (n := 0) (fun k a z => absurd z (Nat.not_lt_zero _)) (slots_at s e)⟩
  back := fun n b e => by
    obtain ⟨en, _⟩ := muI_at e
    subst en
    exact ⟨_, hI_get c fs⟩
  full := fun n e => by
    have e : n < 1 := e
    have en : n = 0 := by omega
    subst en
    exact ⟨_, hI_get c fs⟩
  tabs := t
theorem pureI_sp {F : Fn} {vs : List V} {Q : VK} {E : XK} (s : spF W (pureI F) vs H Q E) : spF W F vs H Q E := by
  obtain ⟨ro, μ, h, args, R, d, p⟩ := s
  unfold pureI at p
  cases d with
  | nil => exact False.elim p
  | @cons x v0 rest ws d0 dr =>
    cases d0 with
    | @obj n a hn =>
      dsimp only at p
      obtain ⟨o, ho, r1⟩ := R.there hn
      rw [ho] at p
      cases o with
      | ins c fs =>
        dsimp only at p
        cases cc : AV.clns 0 rest && slotsC fs with
        | false => rw [cc] at p; exact False.elim p
        | true =>
          rw [cc] at p
          dsimp only at p
          obtain ⟨c1, c2⟩ := Bool.and_eq_true_iff.mp cc
          refine ⟨1, muI a, hI c fs, .obj 0 :: rest, relI R.tabs r1 c2, .cons (.obj rfl) (dr.clean (fun k a z => absurd z (Nat.not_lt_zero _)) c1), ?_⟩
          cases e : F (.obj 0 :: rest) (hI c fs) with
          | bad => rw [e] at p; exact False.elim p
          | ex x h1 => rw [e] at p; exact False.elim p
          | ok v h1 =>
            rw [e] at p
            dsimp only at p
            cases cv : AV.cln 0 v with
            | false => rw [cv] at p; exact False.elim p
            | true =>
              rw [cv] at p
              intro μ' u H' st R' dv
              have k : ∀ b o, (∀ ps, o ≠ .tbl ps) → H b = some o → H' b = some o := fun b o n e => st.frm b o (fun m hm z => by have := (muI_at z).1; omega) n e
              have R2 : RelH (W.to E) ro μ h H' := (R.to E).still k st.kep R'.tabs
              exact p μ u H' (Step.kept k st.kep) R2 (Den.clean (n := 0) (fun k a z => absurd z (Nat.not_lt_zero _)) dv cv)
      | _ => exact False.elim p
    | _ => exact False.elim p
theorem FnW.pureI {P : Program} {w : World} {K : PySem.W.Frag} {mg : Str → Option Value} {base : Heap} {ca : Ca} {lv : Nat} {F : Fn} {f : Addr} (h : FnW P w K mg base ca lv F f) : FnW P w K mg base ca lv (pureI F) f := FnR.imp h fun _ _ _ _ s => pureI_sp s
/-! the first may be any object that holds data; the answer is data or a new list of data -/
def impO : AO → Bool
  | .lst xs => AV.clns 0 xs
  | .fz _ => true
  | .ins _ fs => slotsC fs
  | .dct _ => false
  | .odd => true
def hO (o : AO) : AH := ⟨Tr.put 24 .nil 0 o, 1, 1⟩
def outV (h : AH) (v : AV) : R AV := match AV.cln 0 v with
  | true => .ok v h
  | false => .bad
def outL (h h1 : AH) (n : Nat) : R AV := match Nat.ble h1.ro n with
  | true => (match h1.get n with
    | some (.lst xs) => (match AV.clns 0 xs with
      | true => alloc h (.lst xs)
      | false => .bad)
    | _ => .bad)
  | false => .bad
def outP (h : AH) (r : R AV) : R AV := match r with
  | .ok v h1 => (match v with
    | .obj n => outL h h1 n
    | v => outV h v)
  | _ => .bad
def pureX (F : Fn) : Fn := fun args h => match args with
  | .obj n :: rest => (match h.get n with
    | some o => (match AV.clns 0 rest && impO o with
      | true => outP h (F (.obj 0 :: rest) (hO o))
      | false => .bad)
    | none => .bad)
  | args => (match AV.clns 0 args with
    | true => outP h (F args hE)
    | false => .bad)
theorem hO_get (o : AO) : (hO o).get 0 = some o := rfl
theorem relO {a : Addr} {o : AO} {rw : Bool} (t : LamX.Tabs W.ca.T H) (r : RelO W.P W.w W.K W.ca rw μ H a o) (s : impO o = true) : RelH W 1 (muI a) (hO o) H where
  lim := by show 1 ≤ top; decide
  rol := Nat.le_refl _
  roe := rfl
  inj := fun n m b h1 h2 => by rw [(muI_at h1).1, (muI_at h2).1]
  obj := fun n x e => by
    have hn : n < 1 := AH.get_lt e
    have en : n = 0 := by omega
    subst en
    rw [hO_get] at e; cases e
    refine ⟨a, rfl, ?_⟩
    cases o with
    | lst xs =>
      obtain ⟨h1, vs, h2, h3⟩ := r
      exact ⟨h1, vs, h2, h3.clean (n := 0) (fun k a z => absurd z (Nat.not_lt_zero _)) s⟩
    | fz ns => exact r
    | odd => exact r
    | dct kvs => cases s
    | ins c fs =>
      obtain ⟨dx, vs, h1, h2, h3⟩ := r
      refine ⟨dx, vs, h1, h2, fun i v e => ?_⟩
      obtain ⟨u, q1, q2⟩ := h3 i v e
      exact ⟨u, q1, q2.clean (n := 0) (fun k a z => absurd z (Nat.not_lt_zero _)) (slots_at s e)⟩
  back := fun n b e => by
    obtain ⟨en, _⟩ := muI_at e
    subst en
    exact ⟨_, hO_get o⟩
  full := fun n e => by
    have e : n < 1 := e
    have en : n = 0 := by omega
    subst en
    exact ⟨_, hO_get o⟩
  tabs := t
theorem out_post {ro1 : Nat} {μ1 : Mu} {r : R AV} {Q : VK} (R : RelH W ro μ h H) (hf : ∀ n, ro1 ≤ n → μ1 n = none) (p : post W ro μ H (outP h r) Q) : post W ro1 μ1 H r Q := by
  cases r with
  | bad => exact False.elim p
  | ex x h1 => exact False.elim p
  | ok v h1 =>
    intro μ' u H' st R' dv
    have k : ∀ b o, (∀ ps, o ≠ .tbl ps) → H b = some o → H' b = some o := fun b o n e => st.frm b o (fun m hm z => by rw [hf m hm] at z; cases z) n e
    have R2 : RelH W ro μ h H' := R.still k st.kep R'.tabs
    have pv : post W ro μ H (outV h v) Q → Q u H' := fun p => by
      unfold outV at p
      cases cv : AV.cln 0 v with
      | false => rw [cv] at p; exact False.elim p
      | true =>
        rw [cv] at p
        exact p μ u H' (Step.kept k st.kep) R2 (Den.clean (n := 0) (fun k a z => absurd z (Nat.not_lt_zero _)) dv cv)
    cases v with
    | obj n =>
      have p : post W ro μ H (outL h h1 n) Q := p
      unfold outL at p
      cases cn : Nat.ble h1.ro n with
      | false => rw [cn] at p; exact False.elim p
      | true =>
        rw [cn] at p
        dsimp only at p
        cases dv with
        | @obj _ b hb =>
          obtain ⟨o, ho, r1⟩ := R'.there hb
          rw [ho] at p
          cases o with
          | lst xs =>
            dsimp only at p
            cases cx : AV.clns 0 xs with
            | false => rw [cx] at p; exact False.elim p
            | true =>
              rw [cx] at p
              dsimp only at p
              unfold Ev.alloc at p
              cases e : Nat.blt h.n top with
              | false => rw [e] at p; exact False.elim p
              | true =>
                rw [e] at p
                have hn := blt_tt.mp e
                have rn : ro1 ≤ n := by rw [← R'.roe]; exact Nat.le_of_ble_eq_true cn
                have hH : H b = none := by
                  rcases st.new n b hb with z | z
                  · rw [hf n rn] at z; cases z
                  · exact z
                obtain ⟨z1, vs, z2, z3⟩ := r1
                refine p (muPut μ h.n b) (.ref b) H' ⟨fun m a e => ?_, fun m a e => ?_, fun b o _ n e => k b o n e, st.kep⟩ (R2.own hn (fun n => R.fresh hH n) ⟨z1, vs, z2, z3.clean (n := 0) (fun k a z => absurd z (Nat.not_lt_zero _)) cx⟩) (.obj ?_)
                · unfold muPut
                  have : m ≠ h.n := fun z => by rw [R.dom (Nat.le_of_eq z.symm)] at e; cases e
                  rw [if_neg this]; exact e
                · unfold muPut at e
                  by_cases z : m = h.n
                  · rw [if_pos z] at e; cases e; exact .inr hH
                  · rw [if_neg z] at e; exact .inl e
                · unfold muPut
                  rw [if_pos rfl]
          | _ => exact False.elim p
    | _ => exact pv p
theorem pureX_sp {F : Fn} {vs : List V} {Q : VK} {E : XK} (s : spF W (pureX F) vs H Q E) : spF W F vs H Q E := by
  obtain ⟨ro, μ, h, args, R, d, p⟩ := s
  have data : ∀ args : List AV, DenL W.K μ H args vs → postG (dV (W.to E)) (W.to E) ro μ H (match AV.clns 0 args with | true => outP h (F args hE) | false => .bad) Q → spF W F vs H Q E := fun args d p => by
    cases c : AV.clns 0 args with
    | false => rw [c] at p; exact False.elim p
    | true =>
      rw [c] at p
      exact ⟨0, fun _ => none, hE, args, relE R.tabs, d.clean (fun k a z => absurd z (Nat.not_lt_zero _)) c, out_post (R.to E) (fun _ _ => rfl) p⟩
  cases args with
  | nil => exact data [] d p
  | cons x rest =>
    cases x with
    | obj n =>
      have p : postG (dV (W.to E)) (W.to E) ro μ H (match h.get n with | some o => (match AV.clns 0 rest && impO o with | true => outP h (F (.obj 0 :: rest) (hO o)) | false => .bad) | none => .bad) Q := p
      cases d with
      | @cons _ v0 _ ws d0 dr =>
        cases d0 with
        | @obj _ a hn =>
          obtain ⟨o, ho, r1⟩ := R.there hn
          rw [ho] at p
          dsimp only at p
          cases cc : AV.clns 0 rest && impO o with
          | false => rw [cc] at p; exact False.elim p
          | true =>
            rw [cc] at p
            obtain ⟨c1, c2⟩ := Bool.and_eq_true_iff.mp cc
            exact ⟨1, muI a, hO o, .obj 0 :: rest, relO R.tabs r1 c2, .cons (.obj rfl) (dr.clean (fun k a z => absurd z (Nat.not_lt_zero _)) c1), out_post (R.to E) (fun m hm => by unfold muI; rw [if_neg (by omega)]) p⟩
    | _ => exact data _ d p
theorem FnW.pureX {P : Program} {w : World} {K : PySem.W.Frag} {mg : Str → Option Value} {base : Heap} {ca : Ca} {lv : Nat} {F : Fn} {f : Addr} (h : FnW P w K mg base ca lv F f) : FnW P w K mg base ca lv (pureX F) f := FnR.imp h fun _ _ _ _ s => pureX_sp s
end
end Ev
set_option Elab.async false
set_option linter.all false
set_option maxRecDepth 100000
set_option maxHeartbeats 400000
/-! a lambda with one parameter, called by the def that got it -/
namespace Ev
open PySem PySem.Spec PyProof.Rows L2
/-- the one parameter b, captured names, globals -/
structure LamP (sc scope : Scope) (b : Str) : Prop where
  kind : scope.kind = .function
  co : scope.isCoroutine = false
  gen : scope.isGenerator = false
  par : scope.names.lookup b = some .local
  own : ∀ y ∈ scope.names, (y.2 = .local → y.1 = b) ∧ y.2 ≠ .cell
  free : ∀ y ∈ scope.names, y.2 = .free → sc.names.lookup y.1 = some .cell ∨ sc.names.lookup y.1 = some .free
def lamPB (sc scope : Scope) (b : Str) : Bool := decide (scope.kind = .function) && (!scope.isCoroutine && (!scope.isGenerator && (decide (scope.names.lookup b = some .local) &&
  scope.names.all fun y => (!decide (y.2 = .local) || decide (y.1 = b)) && (!decide (y.2 = .cell) && (!decide (y.2 = .free) || (decide (sc.names.lookup y.1 = some .cell) || decide (sc.names.lookup y.1 = some .free)))))))
theorem lamP_by {sc scope : Scope} {b : Str} (h : lamPB sc scope b = true) : LamP sc scope b := by
  unfold lamPB at h
  simp only [Bool.and_eq_true, Bool.or_eq_true, Bool.not_eq_true', decide_eq_true_eq, decide_eq_false_iff_not, List.all_eq_true] at h
  obtain ⟨h1, h2, h3, h4, h5⟩ := h
  refine ⟨h1, h2, h3, h4, fun y hy => ⟨fun e => ?_, (h5 y hy).2.1⟩, fun y hy e => ?_⟩
  · rcases (h5 y hy).1 with z | z
    · exact absurd e z
    · exact z
  · rcases (h5 y hy).2.2 with z | z
    · exact absurd e z
    · exact z
/-- the context of its body -/
def lamC (X : Cx) (A : Around) (outer : List Env) (s : Shared) (H : Hp) (E : XK) (scope : Scope) (f c' : Addr) (b : Str) : Cx := { LamX.lamCx X A outer s H E scope f c' with N := X.N ++ [b], xe := fun e s' => wpAny (model X.prog X.w) (A.deeper (LamX.lamEnv X scope s.heap.objs.size f c')) (leaving (LamX.lamEnv X scope s.heap.objs.size f c') e) (fun _ s'' => L2N.CX X.prog X.w outer H s E e s'') (fun e' s'' => L2N.CX X.prog X.w outer H s E e' s'') s' }
section
variable {X : Cx} {pins : List (Addr × Obj)} {σ : L2.St} {H HZ : Hp} {s s1 : Shared}
theorem LamP.has {scope : Scope} {b : Str} (L : LamP X.env.scope scope b) (ok : X.Ok) : ∀ y ∈ scope.names, y.2 = .free → ∃ c, X.env.cells.lookup y.1 = some c := fun y hy e =>
  (L.free y hy e).elim (fun k => ok.has _ (.inl k)) fun k => ok.has _ (.inr k)
theorem lam_in {A : Around} {outer : List Env} {E : XK} {scope : Scope} {f c' : Addr} {h₁ : Heap} {tk : Nat} {b : Str} {v : V} {u : Value} (I : Inv X pins σ H s) (L : LamP X.env.scope scope b) (nb : b ∉ X.N) (e0 : Env0 X.prog X.w X.K X.mg X.base A outer s1 HZ) (hd : A.handled = none)
    (un : Un (frs X.stack) [] H HZ s.heap s1.heap) (rv : RelV v u) (hns : h₁.Ns s1.heap.objs.size fun y => [(b, u)].reverse.lookup y) (kp : ∀ b o, s1.heap.get? b = some o → h₁.get? b = some o) :
    Inv (lamC X A outer s1 HZ E scope f c' b) [] (σ ++ [some v]) HZ { s1 with heap := h₁, toks := tk } := by
  have fr := L.has I.ok
  have back : ∀ {y c}, (cloFrom X.env.cells scope.names []).lookup y = some c → X.env.cells.lookup y = some c := fun {y c} e => by
    rcases cloFrom_mem (PySem.mem_of_lookup e) with q | ⟨q1, q2⟩
    · cases q
    · obtain ⟨c1, hc⟩ := fr _ q1 rfl
      have hc : X.env.cells.lookup y = some c1 := hc
      have z : c = c1 := by
        rw [q2, hc] <;> rfl
      rw [z]
      exact hc
  have there : ∀ {y}, scope.names.lookup y = some .free → ∃ c, (cloFrom X.env.cells scope.names []).lookup y = some c := fun {y} q => mem_lookup (cloFrom_has (cells := X.env.cells) (acc := []) (show (y, NameKind.free) ∈ scope.names from PySem.mem_of_lookup q))
  have cellK : ∀ {c : Addr} {z : Option Value}, H c = none → s.heap.IsCell c z → h₁.IsCell c z := fun {c z} n ⟨o, ho, hd⟩ => by
    obtain ⟨sl, q⟩ := un.any ho n (by simp)
    exact ⟨_, kp _ _ q, hd⟩
  have none_ : ∀ a : Addr, a ∉ (lamC X A outer s1 HZ E scope f c' b).ex := fun a z => absurd (show a ∈ ([] : List Addr) from z) (by simp)
  have len := I.len
  refine ⟨⟨e0.mod, L.kind, rfl, rfl, Nat.le_refl _, fun y z c e1 e2 => I.ok.inj y z c (back e1) (back e2), fun y hy => ?_, fun y c z _ => ?_, fun _ => hd, Around.frames_deeper e0.frames, .inr ⟨rfl, rfl⟩, fun a z => absurd z (none_ a), e0.bs, e0.bsz, fun a _ _ => none_ a,
      fun a z => absurd z (none_ a), e0.funs, e0.frf⟩,
    rfl, e0.bare, Un.kept kp, ⟨_, hns, fun i y w e1 e2 e3 => ?_⟩, fun y c e => ?_, e0.hok.fresh (Nat.le_refl _), fun y c e => ?_, fun q hq => absurd (show q ∈ ([] : List (Addr × Obj)) ++ [] from hq) (by simp), e0.hok.kept kp, ?_⟩
  · have hy : scope.names.lookup y = some .cell ∨ scope.names.lookup y = some .free := hy
    rcases hy with hy | hy
    · exact absurd rfl (L.own _ (PySem.mem_of_lookup hy)).2
    · exact there hy
  · have z : false = true := z
    cases z
  · have e3 : Vis scope y := e3
    have e1 : (X.N ++ [b])[i]? = some y := e1
    by_cases hi : i < X.N.length
    · rw [List.getElem?_append_left hi] at e1
      rw [List.getElem?_append_left (by omega)] at e2
      have ny : y ≠ b := fun z => nb (by rw [← z]; exact List.mem_of_getElem? e1)
      rcases e3 with k | k | k
      · exact absurd ((L.own _ (PySem.mem_of_lookup k)).1 rfl) ny
      · exact absurd rfl (L.own _ (PySem.mem_of_lookup k)).2
      · obtain ⟨m, hn, hl⟩ := I.loc
        have hv : Vis X.env.scope y := (L.free _ (PySem.mem_of_lookup k) rfl).elim (fun k => .inr (.inl k)) (fun k => .inr (.inr k))
        obtain ⟨w', r, q⟩ := hl i y w e1 e2 hv
        obtain ⟨c2, h2⟩ := there k
        refine ⟨w', r, .inr ⟨.inr k, c2, h2, ?_⟩⟩
        have c1 := back h2
        rcases q with ⟨k', _⟩ | ⟨_, c3, e', z⟩
        · have k' : X.env.scope.names.lookup y = some .local := k'
          rcases L.free _ (PySem.mem_of_lookup k) rfl with k2 | k2
          · rw [show X.env.scope.names.lookup y = _ from k2] at k'; cases k'
          · rw [show X.env.scope.names.lookup y = _ from k2] at k'; cases k'
        · rw [c1] at e'
          cases e'
          exact cellK (I.freeC y _ c1) z
    · have hi' : i = X.N.length := by
        have := (List.getElem?_eq_some_iff.mp e1).1
        simp at this
        omega
      subst hi'
      have ey : y = b := by
        rw [List.getElem?_append_right (Nat.le_refl _), Nat.sub_self] at e1
        exact (Option.some.inj e1).symm
      have ew : w = v := by
        rw [← len, List.getElem?_append_right (Nat.le_refl _), Nat.sub_self] at e2
        exact (Option.some.inj (Option.some.inj e2)).symm
      subst ey
      subst ew
      exact ⟨u, rv, .inl ⟨L.par, by simp⟩⟩
  · obtain ⟨w', z⟩ := I.cell y c (back e)
    exact ⟨w', cellK (I.freeC y c (back e)) z⟩
  · obtain ⟨z, o, ho, hd⟩ := I.cell y c (back e)
    exact un.free c o ho (I.freeC y c (back e)) (by simp)
  · show (σ ++ [some v]).length = (X.N ++ [b]).length
    simp [len]
open LamX in
/-- a(t), in the def that got the lambda -/
theorem pe_act1 {CXg : CXT} {Eg : XK} {Ng : List Str} {qg : Str} {sg : Scope} {g f c' : Addr} {cdg pm ctv : Value} {params : Arguments} {body : Expr} {scope : Scope} {k i j : Nat} {a tn b : Str} {pn : List (Addr × Obj)} {xe : Value → Shared → Prop} {W : WX} {E : XK} {tb : TE} {p1 p2 p3 : Pos}
    (I : Inv X pins σ H s) (L : LamP X.env.scope scope b) (nb : b ∉ X.N) (hf : s.heap.get? f = some (PySem.W.kla_obj "<lambda>" (X.env.qual ++ "<lambda>") params body scope (cloFrom X.env.cells scope.names []) pm c' ctv)) (hfn : H f = none) (hfr : f ∉ frs X.stack)
    (hbind : ∀ u, bindArgs (PySem.W.kla_fn "<lambda>" (X.env.qual ++ "<lambda>") params body scope (cloFrom X.env.cells scope.names []) pm (.ref c') ctv) ⟨[u], []⟩ = pure [(b, u)])
    (tk : L2N.Takes ((cxOf CXg X.prog X.w X.K X.mg X.base Ng qg sg g cdg X.A X.stack s H Eg).tr pn xe) W) (hW : ∀ cls d σ' H', E cls d H' → W cls d σ' H') (hr : Room (k + 1) (X.A.deeper (envOfC qg sg s.heap.objs.size g cdg)))
    (hbody : ∀ (A : Around) (outer : List Env) (s : Shared) (H : Hp), Room k (A.deeper (lamEnv X scope s.heap.objs.size f c')) → PE (lamC X A outer s H E scope f c' b) body tb)
    (hN : Ng[i]? = some a) (hv : Vis sg a) (hNt : Ng[j]? = some tn) (hvt : Vis sg tn) (hd : (a == ("__debug__" : Str)) = false := by decide) (hcd : (a == ("__classdict__" : Str)) = false := by decide) (hdt : (tn == ("__debug__" : Str)) = false := by decide) (hct : (tn == ("__classdict__" : Str)) = false := by decide) :
    PE ((cxOf CXg X.prog X.w X.K X.mg X.base Ng qg sg g cdg X.A X.stack s H Eg).tr pn xe) (.Call (.Name a p1) [.Name tn p3] [] p2)
      (fun σZ HZ Q => σZ[i]? = some (some (.ref f)) ∧ HZ c' = some (CodeO c' (X.env.qual ++ "<lambda>")) ∧ ∃ v, σZ[j]? = some (some v) ∧ tb (σ ++ [some v]) HZ Q) := by
  refine ⟨fun pinsZ sZ σZ HZ Q IZ ⟨hs, hc, v, hv1, ht⟩ => ?_⟩
  refine wpAny_Call_Name_kw (thn ((pe_var (pos := p1) (i := i) hN hv hd hcd).run pinsZ sZ σZ HZ (fun w H1 => w = .ref f ∧ H1 = HZ) IZ ⟨.ref f, hs, rfl, rfl⟩) fun u0 s0 ⟨w0, H0, I0, r0, q0⟩ => ?_)
  obtain ⟨e0, eH0⟩ := q0
  subst e0
  rw [eH0] at I0
  obtain rfl : u0 = Value.ref f := r0
  have of0 : s0.heap.get? f = some (PySem.W.kla_obj "<lambda>" (X.env.qual ++ "<lambda>") params body scope (cloFrom X.env.cells scope.names []) pm c' ctv) := I0.base.keep f _ hf hfn hfr (fun z => nomatch (show f ∈ ([] : List Addr) from z))
  refine PySem.W.callWith_F (e := .Name tn p3) (rest := []) ⟨_, _, _, _, of0⟩ ?_
  show wpAny _ _ (spliced ((false, eval (.Name tn p3) _) :: backTo p2 (starEach [] _))) _ _ s0
  refine Calls.spliced_cons (thn ((pe_var (pos := p3) (i := j) hNt hvt hdt hct).run pinsZ s0 σZ HZ (fun w H1 => w = v ∧ H1 = HZ) I0 ⟨v, hv1, rfl, rfl⟩) fun u s1 ⟨w1, H1, I1, r1, q1⟩ => ?_)
  obtain ⟨e1, eH1⟩ := q1
  subst e1
  rw [eH1] at I1
  have of1 : s1.heap.get? f = some (PySem.W.kla_obj "<lambda>" (X.env.qual ++ "<lambda>") params body scope (cloFrom X.env.cells scope.names []) pm c' ctv) := I1.base.keep f _ hf hfn hfr (fun z => nomatch (show f ∈ ([] : List Addr) from z))
  refine Calls.spliced_nil ⟨⟨_, _, _, _, of1⟩, ?_⟩
  have un : Un (frs X.stack) [] H HZ s.heap s1.heap := I1.base
  obtain ⟨⟨oc, vs, t, hoc, hdc, hvc⟩, _, _⟩ := I1.hok c' _ hc
  have rc : codeAny (model X.prog X.w) (X.A.deeper (envOfC qg sg s.heap.objs.size g cdg)) (.call (.ref f) ⟨[u], []⟩) (CR (L2N.CX X.prog X.w) (envOfC qg sg s.heap.objs.size g cdg :: X.stack) X.prog X.w HZ s1 Q E) s1 := by
    refine PySem.W.kla_callFunE hr.depth of1 rfl L.co L.gen rfl ⟨c', oc, vs, t, rfl, hoc, hdc, hvc⟩ ?_
    rw [hbind]
    refine wpAny_pure (wpAny_newFunctionEnv (fun y hy => (L.own y hy).2) (fun y hy => ?_) (fun h₁ hns hsb => ⟨I1.nolimit.fresh _ hsb, ?_⟩) L.kind)
    · rw [List.mem_singleton.mp hy]
      exact L.par
    show codeAny _ _ (.expr body (lamEnv X scope s1.heap.objs.size f c')) _ _
    have kp : ∀ b o, s1.heap.get? b = some o → h₁.get? b = some o := fun b o e => hsb.extBut b o (Nat.ne_of_lt (Heap.lt_size e)) (Heap.get?_push_of_some _ e)
    have J : Inv (lamC X (X.A.deeper (envOfC qg sg s.heap.objs.size g cdg)) (envOfC qg sg s.heap.objs.size g cdg :: X.stack) s1 HZ E scope f c' b) [] (σ ++ [some w1]) HZ { s1 with heap := h₁, toks := s1.toks + [(b, u)].length } :=
      lam_in I L nb I1.env0 hr.hd un r1 hns kp
    refine PySem.W.kla_codeExpr (wpAny_mono ((hbody _ _ s1 HZ (hr.deeper _)).run [] _ _ HZ Q J ht) (fun v' s' hq => ?_) fun e s' hq => hq)
    obtain ⟨w', H', J', rv, q⟩ := hq
    exact ⟨w', H', J'.os, J'.bare, J'.base, J'.hok, rv, q⟩
  have hx : Passes (L2N.CX X.prog X.w) ((cxOf CXg X.prog X.w X.K X.mg X.base Ng qg sg g cdg X.A X.stack s H Eg).tr pn xe) E := L2N.passes_call tk hW
  refine wpAny_call (codeAny_mono rc fun r s' hq => ?_)
  cases r with
  | error e => exact hx pinsZ σZ HZ s1 e s' I1 hq
  | ok fl =>
    cases fl with
    | ret z => exact I1.after hq
    | next => exact False.elim hq
    | brk => exact False.elim hq
    | cont => exact False.elim hq
end
end Ev
set_option Elab.async false
set_option linter.all false
set_option maxRecDepth 100000
set_option maxHeartbeats 1000000
/-! an own exception over ValueError whose __init__ says super().__init__('..') and keeps one field -/
namespace Ev
open PySem PySem.Spec PyProof.Rows L2
/-- the context of such an __init__ -/
def iniC (P : Program) (w : World) (K : PySem.W.Frag) (mg : Str → Option Value) (base : Heap) (A : Around) (outer : List Env) (s : Shared) (H : Hp) (env : Env) (N : List Str) : Cx where
  prog := P
  w := w
  K := K
  mg := mg
  base := base
  A := A.deeper env
  N := N
  s_0 := s
  H_0 := H
  env := env
  outer := outer
  stack := env :: outer
  ex := []
  fn := fun _ => false
  calm := true
  pn := []
  xe := fun _ _ => False
section
variable {P : Program} {w : World} {K : PySem.W.Frag} {mg : Str → Option Value} {base : Heap} {A : Around} {outer : List Env} {s : Shared} {H : Hp}
theorem ini_in {env : Env} {cc L : Addr} {h₁ : Heap} {tk : Nat} {a b : Str} {va vb : V} {ua ub : Value} {o : Obj} {z : Option Value} (e0 : Env0 P w K mg base A outer s H) (hd : A.handled = none) (eL : env.locals = L) (hL : L = s.heap.objs.size) (eg : env.globals = mainGlobals) (eb : env.builtins = builtinsNs) (ec : env.cells = [(("__class__" : Str), cc)]) (ef : env.frame = some L)
    (kind : env.scope.kind = .function) (nc : ∀ y ∈ env.scope.names, y.2 ≠ .cell) (nf : ∀ y, env.scope.names.lookup y = some .free → y = "__class__") (la : env.scope.names.lookup a = some .local) (lb : env.scope.names.lookup b = some .local)
    (lc : K.lookup cc = some o) (lo : o.data = .cell z) (ra : RelV va ua) (rb : RelV vb ub) (hns : h₁.Ns L fun y => [(a, ua), (b, ub)].reverse.lookup y) (nab : (a == b) = false) (kp : ∀ b o, s.heap.get? b = some o → h₁.get? b = some o) :
    Inv (iniC P w K mg base A outer s H env [a, b]) [] [some va, some vb] H { s with heap := h₁, toks := tk } := by
  have kb : ∀ b o, base.get? b = some o → s.heap.get? b = some o := fun b o e => (e0.bs b o e).1
  have cs : ∀ {y c}, env.cells.lookup y = some c → c = cc := fun {y c} e => by
    rw [ec] at e
    by_cases q : (y == ("__class__" : Str)) = true
    · have e : (match y == ("__class__" : Str) with | true => some cc | false => none) = some c := e
      rw [q] at e
      exact (Option.some.inj e).symm
    · have e : (match y == ("__class__" : Str) with | true => some cc | false => none) = some c := e
      rw [Bool.eq_false_iff.mpr q] at e
      cases e
  have cn : ∀ {y c}, env.cells.lookup y = some c → y = "__class__" := fun {y c} e => by
    rw [ec] at e
    by_cases q : (y == ("__class__" : Str)) = true
    · exact eq_of_beq q
    · have e : (match y == ("__class__" : Str) with | true => some cc | false => none) = some c := e
      rw [Bool.eq_false_iff.mpr q] at e
      cases e
  have none_ : ∀ x : Addr, x ∉ (iniC P w K mg base A outer s H env [a, b]).ex := fun x z => absurd (show x ∈ ([] : List Addr) from z) (by simp)
  have bcc := e0.mod.kin _ _ lc
  refine ⟨⟨e0.mod, kind, eg, eb, by show _ ≤ env.locals; rw [eL, hL]; exact Nat.le_refl _, fun y z c e1 e2 => (cn e1).trans (cn e2).symm, fun y hy => ?_, fun y c z _ => ?_, fun _ => hd, Around.frames_deeper e0.frames, .inr ⟨rfl, by show env.frame = some env.locals; rw [ef, eL]⟩, fun x z => absurd z (none_ x), e0.bs, e0.bsz, fun x _ _ => none_ x,
      fun x z => absurd z (none_ x), e0.funs, e0.frf⟩,
    rfl, e0.bare, Un.kept kp, ⟨_, by show h₁.Ns env.locals _; rw [eL]; exact hns, fun i y v e1 e2 e3 => ?_⟩, fun y c e => ?_, ?_, fun y c e => ?_, fun q hq => absurd (show q ∈ ([] : List (Addr × Obj)) ++ [] from hq) (by simp), e0.hok.kept kp, rfl⟩
  · have hy : env.scope.names.lookup y = some .cell ∨ env.scope.names.lookup y = some .free := hy
    rcases hy with hy | hy
    · exact absurd rfl (nc _ (PySem.mem_of_lookup hy))
    · refine ⟨cc, ?_⟩
      show env.cells.lookup y = some cc
      rw [ec, nf y hy]
      rfl
  · have z : false = true := z
    cases z
  · have e1 : [a, b][i]? = some y := e1
    have e2 : [some va, some vb][i]? = some (some v) := e2
    match i, e1, e2 with
    | 0, e1, e2 =>
      cases e1
      cases e2
      refine ⟨ua, ra, .inl ⟨la, ?_⟩⟩
      show [(b, ub), (a, ua)].lookup a = some ua
      simp [List.lookup, nab]
    | 1, e1, e2 =>
      cases e1
      cases e2
      refine ⟨ub, rb, .inl ⟨lb, ?_⟩⟩
      show [(b, ub), (a, ua)].lookup b = some ub
      simp [List.lookup]
    | i + 2, e1, e2 => simp at e1
  · rw [cs e]
    exact ⟨z, o, kp _ _ (kb _ _ bcc), lo⟩
  · show H env.locals = none
    rw [eL, hL]
    exact e0.hok.fresh (Nat.le_refl _)
  · rw [cs e]
    exact (e0.bs _ _ bcc).2
end
/-- the method-wrapper of ValueError.__init__, called -/
theorem call_mw {X : Cx} {pins : List (Addr × Obj)} {σ : L2.St} {H : Hp} {s : Shared} {a C u : Addr} {us : List Value} {Q : Value → Shared → Prop} {E : Value → Shared → Prop} {A : Around} (T : OexC X.K C) (I : Inv X pins σ H s) (e : H a = some (exo a C none)) (hu : s.heap.get? u = some (PySem.W.kxs_mw "ValueError.__init__" a)) (hl : us.length ≤ sizeLine) (h : ∀ s', Inv X pins σ H s' → Q .none s') :
    wpAny (model X.prog X.w) A (call (.ref u) us) Q E s := by
  obtain ⟨nm, q, N, bs, bm, sn, sub, ab, col, dd, k0, k1, k2, k3, k5, hC, hbm⟩ := T.cls
  obtain ⟨t1, ho⟩ := exo_at I.hok e
  have hC' := I.kIn _ _ hC
  obtain ⟨hp, g, d, t, os⟩ := s
  refine wpAny_call (codeAny_of_tree ?_)
  show wpAny _ A.in1 (callAny (.ref u) ⟨us, []⟩) _ _ _
  simp only [callAny]
  refine wpAny_bind (wpAny_load hu ?_)
  simp only [PySem.W.kxs_mw, show (Value.type "method-wrapper" == Value.type "method" || Value.type "method-wrapper" == Value.type "builtin_function_or_method" || Value.type "method-wrapper" == Value.type "method-wrapper") = true by decide, if_true]
  refine PySem.W.KFB.if_so (by decide) ?_
  refine wpAny_bind (PySem.W.check_bound_init F.excBase_ValueError.toExcCallFacts hC' ho rfl ?_)
  refine wpAny_bind (wpAny_pure (wpAny_pure ?_))
  refine ⟨plainId_quiet F.excBase_ValueError.init.plain _, codeAny_builtin F.excBase_ValueError.initEntry ?_⟩
  refine PySem.W.exc_init_tree (cls := .ref C) (t0 := t1) (dv := none) (c2 := .none) (c3 := .none) (b4 := .bool false) ho hl fun h' k hx _ => ?_
  have J := I.write (t' := t) (x := a) (e := a) (o := exo a C none) (by rw [e]; exact True.intro) (.inl rfl) k ⟨_, hx⟩ (exo_ok hx)
  have eu : upd H a (exo a C none) = H := by
    funext b
    by_cases hb : b = a
    · rw [hb, upd_same, e]
    · rw [upd_ne hb]
  rw [eu] at J
  exact h _ J
theorem meth_at {M : Model} {A : Around} {E : Value → Shared → Prop} {s : Shared} {env : Env} {c : Code} {o : Expr} {m : Str} {apos pos : Pos} {es : List Expr} {Q : Value → Shared → Prop} (hs : es.all notStar = true) (hn : es.length < 20) (hl : (apos.endLine == pos.line) = true)
    (h : _root_.PySem.wpAt M A c (attributeBase o m env (eval o env)) (fun ov s₁ => wpAny M A (getMethod ov m (do return (← importBound o env).getD true)) (fun fx s₂ => wpAny M A (callWith pos fx.1 fx.2 (backTo pos (starEach es env)) (backToKw pos (keywordEach [] env))) Q E s₂) E s₁) E s) :
    _root_.PySem.wpAt M A c (eval (.Call (.Attribute o m apos) es [] pos) env) Q E s := by
  have hform : methodCallForm (es.length + ([] : List Keyword).length) (backTo pos (starEach es env)) (backToKw pos (keywordEach [] env)) = true := by
    show ((backTo pos (starEach es env)).all (fun x => !x.1) && true && decide (es.length + 0 + 0 < 30)) = true
    rw [star_all hs, decide_eq_true (by omega)]
    rfl
  have hpos : methodCallPos true o env apos pos = pure pos := by
    unfold methodCallPos
    simp [hl]
  rw [arm_eval_Call]
  refine _root_.PySem.wpAt_bind (_root_.PySem.wpAt_mono h (fun ov s₁ h₁ => _root_.PySem.wpAt_of_wpAny (wpAny_bind (wpAny_standAt ?_))) fun _ _ x => x)
  unfold methodCall
  rw [hform]
  refine wpAny_bind (wpAny_holding (thn h₁ fun fx s₂ h₂ => ?_))
  exact wpAny_bind (wpAny_of_eq hpos h₂)
/-- what the written part says of the class C and its __init__ (at fI): super().__init__(z), self.f = b -/
structure SupC (P : Program) (K : PySem.W.Frag) (mg : Str → Option Value) (C fI : Addr) (b f : Str) (fd : FuncData) : Prop where
  T : OexC K C
  no : PySem.W.findIn K (.ref C) f = some none
  fn : ∃ name qual params scope dV kV doc pm an cda ct cc oc od osl z p0 p1 p2 j p3 p4 p5 p6 p7 p8 p9, fd = PySem.W.ksFn name qual params
      [.Expr (.Call (.Attribute (.Call (.Name "super" p0) [] [] p1) "__init__" p2) [.Constant (.str z) j p3] [] p4) p5, .Assign [.Attribute (.Name "self" p6) f p7] (.Name b p8) p9] scope dV kV doc pm an (.ref cda) ct cc ∧
    K.lookup fI = some ⟨oc, od, .func fd, osl⟩ ∧ PySem.W.codeIn K (.ref cda) qual = true ∧
    (∃ ar, (params.posonlyargs ++ params.args).head? = some ar ∧ ar.arg = "self") ∧
    (∃ ccl cdd vs ccs file tf, K.lookup cda = some ⟨ccl, cdd, .fields vs, ccs⟩ ∧ vs[2]? = some (.str file tf) ∧ ((P.main.file : Str) == file) = true) ∧
    (∃ cl cld csl, K.lookup cc = some ⟨cl, cld, .cell (some (.ref C)), csl⟩) ∧
    (p2.endLine == p4.line) = true ∧ scope.kind = .function ∧ scope.isCoroutine = false ∧ scope.isGenerator = false ∧ (∀ y ∈ scope.names, y.2 ≠ .cell) ∧ (∀ y, scope.names.lookup y = some .free → y = "__class__") ∧
    scope.names.lookup ("super" : Str) = some .globalImplicit ∧ scope.names.lookup ("__class__" : Str) = some .free ∧ scope.names.lookup ("self" : Str) = some .local ∧ scope.names.lookup b = some .local
  cl : ∃ cd, PySem.W.clsIn K C = some cd
  su : PySem.W.mroIn K C (.ref C) = some true
  op : PySem.W.nsIn K cStatics "thirdparty.any" = some none
  me : PySem.W.ks_superIn K C C "__init__" = some (some (.builtin "ValueError.__init__"))
  ve : PySem.W.subIn K (.ref C) (.type "ValueError") = some true
  tp : (P.main.scope.names.lookup ("super" : Str)).isSome = false
  sm : mg "super" = none
  nb : (("self" : Str) == b) = false
  nd : (b == ("__debug__" : Str)) = false
  nx : (b == ("__classdict__" : Str)) = false
/-- what that __init__ does -/
def spSup (C : Addr) (f : Str) : Sp := fun vs H Q _ => ∃ a v, vs = [.ref a, v] ∧ H a = some (exo a C none) ∧ ∀ d, H d = none → d ≠ a → Q .non (upd (upd H d (exd d [(f, v)])) a (exo a C (some d)))
theorem sup_fn {P : Program} {w : World} {K : PySem.W.Frag} {mg : Str → Option Value} {base : Heap} {CX : CXT} {k : Nat} {C fI : Addr} {b f : Str} {fd : FuncData} (S : SupC P K mg C fI b f fd) : FnOk P w K mg base CX k fI fd ["self", b] (spSup C f) := by
  obtain ⟨name, qual, params, scope, dV, kV, doc, pm, an, cda, ct, cc, oc, od, osl, z, p0, p1, p2, j, p3, p4, p5, p6, p7, p8, p9, efd, lk, hcd, ⟨ar, har, hself⟩, ⟨ccl, cdd, vs0, ccs, file, tf, lcode, hvs, hfile⟩, ⟨cl, cld, csl, lcell⟩, hline, kind, hco, hgen, nc, nf, ks, kc, la, lb⟩ := S.fn
  subst efd
  obtain ⟨cd, hcl⟩ := S.cl
  refine ⟨fun vs H Q E ⟨a, v, e, _⟩ => by rw [e]; rfl, fun A outer s H args us vs Q E hr e0 hb rv ⟨a, v, ev, ea, hq⟩ => ?_⟩
  subst ev
  cases rv with
  | cons r1 rv =>
  cases rv with
  | cons r2 rv =>
  cases rv
  cases r1
  rename_i u
  have KX : K.In s.heap := e0.mod.kin.keeps fun b o e => (e0.bs b o e).1
  have lim : s.heap.NoLimit := e0.mod.nolimit.keeps fun b o e => (e0.bs b o e).1
  refine ks_codeAny_call_defAt hr.depth (KX _ _ lk) rfl lim (PySem.W.codeRec_of KX hcd) rfl hb nc (fun y hy => ?_) (fun h₁ hns kp => ?_) hco hgen kind
  · have hy : y ∈ [(("self" : Str), Value.ref a), (b, u)] := hy
    rcases List.mem_cons.mp hy with e | e
    · rw [e]; exact la
    · rw [List.mem_singleton.mp e]; exact lb
  · have I : L2.Inv (iniC P w K mg base A outer s H (PySem.W.ksEnv qual scope s.heap.objs.size fI (.ref cda) cc) ["self", b]) [] [some (V.ref a), some v] H { s with heap := h₁, toks := s.toks + 2 } :=
      ini_in (env := PySem.W.ksEnv qual scope s.heap.objs.size fI (.ref cda) cc) (L := s.heap.objs.size) (cc := cc) (a := "self") (b := b) (va := .ref a) (ua := .ref a) (vb := v) (ub := u) e0 hr.hd rfl rfl rfl rfl rfl rfl kind nc nf la lb lcell rfl (show L2.RelV (V.ref a) (Value.ref a) from rfl) r2 hns S.nb kp
    obtain ⟨t1, ho⟩ := exo_at I.hok ea
    have K1 : K.In h₁ := I.kIn
    obtain ⟨mb, hb1, hb2⟩ := I.mod.blt
    obtain ⟨oD, hD1, hD2⟩ : ∃ oD, h₁.get? C = some oD ∧ oD.data = .cls cd := by
      unfold PySem.W.clsIn at hcl
      split at hcl
      · rename_i c d cd' sl ho'
        cases hcl
        exact ⟨_, K1 _ _ ho', rfl⟩
      · cases hcl
    obtain ⟨env, eenv⟩ : ∃ env, env = PySem.W.ksEnv qual scope s.heap.objs.size fI (.ref cda) cc := ⟨_, rfl⟩
    have hi : interactive env = false := by
      rw [eenv]
      show (scope.kind == .module && _) = false
      rw [kind]
      rfl
    have ksE : env.kindOf "super" = some .globalImplicit := by rw [eenv]; exact ks
    have kcE : env.kindOf "__class__" = some .free := by rw [eenv]; exact kc
    show _root_.PySem.wpAt (model P w) (A.deeper (PySem.W.ksEnv qual scope s.heap.objs.size fI (.ref cda) cc)) (.func _ (PySem.W.ksEnv qual scope s.heap.objs.size fI (.ref cda) cc)) (execs _ (PySem.W.ksEnv qual scope s.heap.objs.size fI (.ref cda) cc)) _ _ _
    rw [← eenv]
    refine ks_wpAt_execs_cons (ks_wpAt_Expr_any (meth_at (es := [.Constant (.str z) j p3]) rfl (by simp) hline (ks_wpAt_super_base ksE kcE (by decide) (by rw [eenv]) (K1 _ _ lk) rfl har (by rw [eenv]) (K1 _ _ lcode) rfl hvs hfile S.tp ?_)) hi)
    rw [eenv]
    have hG : h₁.Ns mainGlobals mg := I.mod.glob.keeps I.bk
    have hB : h₁.Ns builtinsNs mb := hb1.keeps I.bk
    refine PySem.W.ks_loadName_global kind ks (Calls.loadGlobal_builtin hG S.sm hB ((hb2 _ (by decide)).trans (by rfl)) ⟨rfl, ?_⟩)
    refine wpAny_loadName_free kind kc rfl ⟨_, K1 _ _ lcell, rfl⟩ ?_
    rw [hself]
    refine wpAny_loadName_local kind la hns (v := .ref a) (by show [(b, u), (("self" : Str), Value.ref a)].lookup ("self" : Str) = some (Value.ref a); simp [List.lookup, S.nb]) ?_
    refine ks_wpAny_isType_cls hD1 hD2 ⟨rfl, ?_⟩
    refine ks_wpAny_call_super hD1 hD2 ho rfl (fun c e => by cases e) (PySem.W.looks_mroIn K1 S.su) (fun h₂ hso k2 => ?_)
    have I2 : L2.Inv (iniC P w K mg base A outer s H (PySem.W.ksEnv qual scope s.heap.objs.size fI (.ref cda) cc) ["self", b]) [] [some (V.ref a), some v] H { s with heap := h₂, toks := s.toks + 2 } := I.kept (t' := s.toks + 2) k2
    have K2 : K.In h₂ := I2.kIn
    have ho2 := k2 _ _ ho
    have inst : PySem.W.InstAt h₂ a _ C none := ⟨ho2, rfl, rfl, trivial⟩
    have hm : PySem.W.alongIn K "__init__" ((cd.mro.dropWhile (· != .ref C)).drop 1) = some (some (.builtin "ValueError.__init__")) := by
      have z := S.me
      unfold PySem.W.ks_superIn at z
      rw [hcl] at z
      exact z
    refine PySem.W.kxs_getMethod PySem.W.kxs_ValueError hso (PySem.W.looks_opaque K2 S.op) (l₀ := cd.mro) ?_ rfl K2 hm (inst.type.andThen (PySem.W.looks_subIn K2 S.ve)) (PySem.W.ks_ne K2 inst hcl) (by decide) ?_
    · exact fun A Q E s k q => wpAny_bind ((PySem.W.looks_clsIn K2 hcl) A _ E s k (wpAny_pure q))
    have k3 : ∀ b o, h₂.get? b = some o → (h₂.push (PySem.W.kxs_mw "ValueError.__init__" a)).get? b = some o := fun b o e => Heap.get?_push_of_some _ e
    have hu : (h₂.push (PySem.W.kxs_mw "ValueError.__init__" a)).get? h₂.objs.size = some (PySem.W.kxs_mw "ValueError.__init__" a) := Heap.get?_push_size _ rfl
    refine PySem.W.kxs_callWith (i := "ValueError.__init__") (x := a) rfl (Calls.evalArgs_plain (Calls.spliced_cons (Calls.Constant_str (x := z) (k := j) (pos := p3) (Calls.spliced_nil ⟨hu, ?_⟩))))
    have I3 := I2.kept (t' := s.toks + 2 + 1 + 1) k3
    refine call_mw S.T I3 ea hu (by simp [sizeLine_eq]) fun s4 J => ?_
    have v1 : PE (iniC P w K mg base A outer s H (PySem.W.ksEnv qual scope s.heap.objs.size fI (.ref cda) cc) ["self", b]) (.Name b p8) (tVar 1) := pe_var (i := 1) rfl (.inl lb) S.nd S.nx
    have v0 : PE (iniC P w K mg base A outer s H (PySem.W.ksEnv qual scope s.heap.objs.size fI (.ref cda) cc) ["self", b]) (.Name "self" p6) (tVar 0) := pe_var (i := 0) rfl (.inl la)
    show _root_.PySem.wpAt (model P w) (A.deeper (PySem.W.ksEnv qual scope s.heap.objs.size fI (.ref cda) cc)) _ (execs [.Assign [.Attribute (.Name "self" p6) f p7] (.Name b p8) p9] (PySem.W.ksEnv qual scope s.heap.objs.size fI (.ref cda) cc)) _ _ s4
    refine ks_wpAt_execs_cons (ks_wpAt_Assign_Attr (_root_.PySem.wpAt_of_wpAny ?_))
    have q1 := v1.run [] s4 [some (V.ref a), some v] H (fun y H1 => y = v ∧ H1 = H) J ⟨v, rfl, rfl, rfl⟩
    refine wpAny_mono q1 (fun u1 s5 ⟨y, H1, J5, r5, ey, eH⟩ => ?_) (fun e s' z => False.elim z)
    subst ey
    rw [eH] at J5
    have q0 := v0.run [] s5 [some (V.ref a), some y] H (fun y0 H0 => y0 = .ref a ∧ H0 = H) J5 ⟨.ref a, rfl, rfl, rfl⟩
    refine wpAny_mono q0 (fun u0 s6 ⟨y0, H0, J6, r6, ey0, eH0⟩ => ?_) (fun e s' z => False.elim z)
    subst ey0
    rw [eH0] at J6
    obtain rfl : u0 = Value.ref a := r6
    refine ost_new S.T J6 ea S.no r5 fun dx s7 n ne J7 => ?_
    refine _root_.PySem.wpAt_of_wpAny (wpAny_execs_nil ?_)
    exact ⟨.non, _, J7.os, J7.bare, J7.base, J7.hok, rfl, hq dx n ne⟩
end Ev
set_option Elab.async false
set_option linter.all false
set_option maxRecDepth 100000
set_option maxHeartbeats 1000000
/-! raise of an own exception with one field -/
namespace Ev
open PySem PySem.Spec PyProof.Rows L2
/-- C(e), its context is None -/
theorem pmkN {X : Cx} {CX : CXT} {x : Str} {C fI : Addr} {k : Nat} {fd : FuncData} {ps : List Str} {sp : Sp} {e : Expr} {es : List Expr} {ta : TA} {p pos : Pos} (T : OexC X.K C)
    (iC : PySem.W.findIn X.K (.ref C) "__init__" = some (some (.ref fI)))
    (tI : PySem.W.typeIn X.K (.ref fI) = some (.type "function")) (FO : FnOk X.prog X.w X.K X.mg X.base CX k fI fd ps sp) (ro : Room (k + 1) X.A)
    (bi : Binds X.K fd ps []) (no : Passes CX X (fun _ _ _ => False)) (hg : Gl X x) (hm : X.mg x = some (.ref C)) (ha : PA X (e :: es) ta) (db : (x == ("__debug__" : Str)) = false)
    (st : starEach (e :: es) X.env = (false, eval e X.env) :: starEach es X.env) (pl : (backTo pos (starEach es X.env)).any (·.1) = false) :
    L2N.PMk X (.Call (.Name x p) (e :: es) [] pos) (tMkO C sp [] ta) := by
  intro pins s σ H Q I hh
  obtain ⟨_, _, _, _, bm, _, _, _, _, _, _, _, _, _, _, cl, mb⟩ := T.cls
  refine wpAny_Call_Name_kw (ld_glob I hg hm ?_ db)
  refine PySem.W.callWith_K (h₀ := X.base) I.ok.mod.kin T.kC (thn (ha.run pos pins s σ H _ I hh) fun us s1 ⟨vs, H1, J1, rr, lz, q1⟩ => ⟨J1.kIn, ?_⟩) st pl
  obtain ⟨m, g, dr, tk, os⟩ := s1
  -- the new object
  generalize ea : m.objs.size + 1 = a
  have le : m.objs.size ≤ a := by omega
  have fr : H1 a = none := J1.hok.fresh le
  have asked := q1 a fr
  rw [List.append_nil] at asked
  let m2 : Heap := (m.push (PySem.W.kdv_tup us)).push (PySem.HandSPX.excO C m.objs.size)
  have grow : ∀ b o, m.get? b = some o → m2.get? b = some o := fun b o z => Heap.get?_push_of_some _ (Heap.get?_push_of_some _ z)
  have at_ : m2.get? a = some (PySem.HandSPX.excO C m.objs.size) := by
    subst ea
    show ((m.push (PySem.W.kdv_tup us)).push (PySem.HandSPX.excO C m.objs.size)).get? (m.objs.size + 1) = _
    heap_get
  have J2 : Inv X pins σ (upd H1 a (exo a C none)) ⟨m2, g, dr, tk, os⟩ :=
    J1.laid (t' := tk) (a := a) (o := exo a C none) (h' := m2) grow le (exo_ok at_)
  have vals : Vals (V.ref a :: vs) (Value.ref a :: us) := .cons rfl rr
  have lens : (Value.ref a :: us ++ []).length = ps.length := by
    rw [List.append_nil, ← vals.length]
    exact FO.len _ _ _ _ asked
  have few : us.length ≤ sizeLine := by
    rw [← rr.length, sizeLine_eq]; omega
  have bind_ := bi _ (Value.ref a :: us) J2.kIn lens
  rw [List.append_nil] at bind_
  have ran := FO.run _ X.stack ⟨m2, g, dr, tk, os⟩ _ ⟨Value.ref a :: us, []⟩ (Value.ref a :: us) _ _ (fun _ _ _ => False) (ro.make C us []) (J2.env0.make C us []) bind_ vals asked
  subst ea
  refine wpAny_call (PySem.HandSPX.call_own F.excBase_ValueError (fun Y => PySem.HandSPX.refsVE_contains Y bm mb) (J1.kIn _ _ cl) (PySem.W.looks_findIn J1.kIn iC)
    (fun self => PySem.W.bind_fn J1.kIn self tI) few (codeAny_mono ran fun r s' got => ?_))
  cases r with
  | error er => exact no pins σ _ _ er s' J2 got
  | ok fl =>
    cases fl with
    | next => exact got.elim
    | brk => exact got.elim
    | cont => exact got.elim
    | ret u =>
      obtain ⟨v, H2, os2, bare2, un2, hok2, rv, ev, d, fs, e1, e2, e3, q2⟩ := got
      subst ev
      obtain ⟨m3, g3, d3, t3, os3⟩ := s'
      obtain ⟨t0, G, J, kG, gone, there, na⟩ := mk_end0 (d2 := d3) (t2 := t3) J1 le grow un2 hok2 os2 bare2 e1 e2 e3
      exact ⟨rv, _, _, _, ⟨G, g3, d3, t3, os3⟩, _, .ref C, some d, rfl, J, kG, gone, there, ⟨rfl, rfl, fun ws ew => (by cases ew; rfl)⟩, rfl, rfl, na, rfl, bare2, raises_own T.exC T.tyC, q2⟩
def mRaise (c : Nat) (f : Str) (me : ME) : MS := fun l h => (me l h).toS fun v h1 => .ex ⟨c, some (f, v)⟩ h1
section
variable {X : Cx} {ca : Ca} {E : XK} {lv : Nat}
theorem sims_raise {c : Nat} {f b x : Str} {fI : Addr} {fd : FuncData} {e : Expr} {me : ME} {p pos pos' : Pos} (cf : CF X E lv) (S : SupC X.prog X.K X.mg (ca c) fI b f fd) (iC : PySem.W.findIn X.K (.ref (ca c)) "__init__" = some (some (.ref fI))) (tI : PySem.W.typeIn X.K (.ref fI) = some (.type "function"))
    (hb : Binds X.K fd ["self", b] []) (hm : X.mg x = some (.ref (ca c))) (he : SimE X (wd X ca E) e me) (hl : 1 ≤ lv := by decide) (hg : Gl X x := by rfl) (hs : notStar e = true := by rfl) (hd : (x == ("__debug__" : Str)) = false := by decide) :
    SimS X (wd X ca E) (.Raise (some (.Call (.Name x p) [e] [] pos')) none pos) (mRaise c f me) :=
  PS.weaken (L2N.ps_raise cf.calm cf.tk (pmkN (CX := L2N.CX X.prog X.w) (k := 0) S.T iC tI (sup_fn S) (cf.room.mono (by omega)) hb (L2N.passes_call cf.tk fun _ _ _ _ z => False.elim z) hg hm (pa_cons he pa_nil (star_one hs)) hd (star_one hs) rfl)) fun D σ H ⟨ro, μ, l, h, A, p⟩ => by
    refine ⟨ro, μ, l, h, A, (toS_P (dV _) A p).imp fun u H1 ⟨μ1, v, h1, A1, dn, st, q⟩ => ⟨by simp, fun a na => ⟨a, u, rfl, upd_same, fun d nd ne => ⟨rfl, d, [(f, u)], upd_same, ?_, ?_, ?_⟩⟩⟩⟩
    · rw [upd_ne ne, upd_same]
    · rw [upd_ne ne] at nd
      exact nd
    · rw [upd_ne ne] at nd
      have eH : upd (del (upd (upd (upd H1 a (exo a (ca c) none)) d (exd d [(f, u)])) a (exo a (ca c) (some d))) a) d (.xd [(f, u)]) = upd H1 d (.xd [(f, u)]) := by
        funext y
        by_cases h1 : y = d
        · rw [h1, upd_same, upd_same]
        · rw [upd_ne h1, upd_ne h1]
          by_cases h2 : y = a
          · rw [h2, del_same, na]
          · rw [del_ne h2, upd_ne h2, upd_ne h1, upd_ne h2]
      rw [eH]
      exact q μ1 (upd H1 d (.xd [(f, u)])) (.ref (ca c)) (some d) (Step.laid nd) (A1.R.laid nd) ⟨rfl, d, u, rfl, upd_same, A1.R.den (Step.laid nd) dn⟩
end
end Ev
set_option Elab.async false
set_option linter.all false
set_option maxRecDepth 100000
set_option maxHeartbeats 1000000
/-! the answer may be a new instance that holds data, or an exception that holds data -/
namespace Ev
open PySem PySem.Spec PyProof.Rows L2
def outI (h h1 : AH) (n : Nat) : R AV := match Nat.ble h1.ro n with
  | true => (match h1.get n with
    | some (.lst xs) => (match AV.clns 0 xs with
      | true => alloc h (.lst xs)
      | false => .bad)
    | some (.ins c fs) => (match slotsC fs with
      | true => alloc h (.ins c fs)
      | false => .bad)
    | _ => .bad)
  | false => .bad
def outX (h : AH) (x : AX) : R AV := match x.f with
  | some (g, v) => (match AV.cln 0 v with
    | true => .ex x h
    | false => .bad)
  | none => .bad
def outY (h : AH) (r : R AV) : R AV := match r with
  | .ok v h1 => (match v with
    | .obj n => outI h h1 n
    | v => outV h v)
  | .ex x _ => outX h x
  | .bad => .bad
def pureY (F : Fn) : Fn := fun args h => match args with
  | .obj n :: rest => (match h.get n with
    | some o => (match AV.clns 0 rest && impO o with
      | true => outY h (F (.obj 0 :: rest) (hO o))
      | false => .bad)
    | none => .bad)
  | args => (match AV.clns 0 args with
    | true => outY h (F args hE)
    | false => .bad)
section
variable {W : Wd} {ro : Nat} {μ : Mu} {h : AH} {H H' : Hp}
theorem outY_post {ro1 : Nat} {μ1 : Mu} {r : R AV} {Q : VK} (R : RelH W ro μ h H) (hf : ∀ n, ro1 ≤ n → μ1 n = none) (p : post W ro μ H (outY h r) Q) : post W ro1 μ1 H r Q := by
  cases r with
  | bad => exact False.elim p
  | ex x h1 =>
    have p : post W ro μ H (outX h x) Q := p
    unfold outX at p
    cases ef : x.f with
    | none => rw [ef] at p; exact False.elim p
    | some gv =>
      obtain ⟨g, v⟩ := gv
      rw [ef] at p
      dsimp only at p
      cases cv : AV.cln 0 v with
      | false => rw [cv] at p; exact False.elim p
      | true =>
        rw [cv] at p
        intro μ' H' cls d st R' ⟨e1, xr⟩
        rw [ef] at xr
        obtain ⟨a, u, e2, e3, dv⟩ := xr
        have k : ∀ b o, (∀ ps, o ≠ .tbl ps) → H b = some o → H' b = some o := fun b o n e => st.frm b o (fun m hm z => by rw [hf m hm] at z; cases z) n e
        refine p μ H' cls d (Step.kept k st.kep) (R.still k st.kep R'.tabs) ⟨e1, ?_⟩
        rw [ef]
        exact ⟨a, u, e2, e3, Den.clean (n := 0) (fun k a z => absurd z (Nat.not_lt_zero _)) dv cv⟩
  | ok v h1 =>
    intro μ' u H' st R' dv
    have k : ∀ b o, (∀ ps, o ≠ .tbl ps) → H b = some o → H' b = some o := fun b o n e => st.frm b o (fun m hm z => by rw [hf m hm] at z; cases z) n e
    have R2 : RelH W ro μ h H' := R.still k st.kep R'.tabs
    have pv : post W ro μ H (outV h v) Q → Q u H' := fun p => by
      unfold outV at p
      cases cv : AV.cln 0 v with
      | false => rw [cv] at p; exact False.elim p
      | true =>
        rw [cv] at p
        exact p μ u H' (Step.kept k st.kep) R2 (Den.clean (n := 0) (fun k a z => absurd z (Nat.not_lt_zero _)) dv cv)
    cases v with
    | obj n =>
      have p : post W ro μ H (outI h h1 n) Q := p
      unfold outI at p
      cases cn : Nat.ble h1.ro n with
      | false => rw [cn] at p; exact False.elim p
      | true =>
        rw [cn] at p
        dsimp only at p
        cases dv with
        | @obj _ b hb =>
          obtain ⟨o, ho, r1⟩ := R'.there hb
          rw [ho] at p
          have rn : ro1 ≤ n := by rw [← R'.roe]; exact Nat.le_of_ble_eq_true cn
          have hH : H b = none := by
            rcases st.new n b hb with z | z
            · rw [hf n rn] at z; cases z
            · exact z
          have fin : ∀ o', post W ro μ H (Ev.alloc h o') Q → RelO W.P W.w W.K W.ca true μ H' b o' → Q (.ref b) H' := fun o' p r2 => by
            unfold Ev.alloc at p
            cases e : Nat.blt h.n top with
            | false => rw [e] at p; exact False.elim p
            | true =>
              rw [e] at p
              have hn := blt_tt.mp e
              refine p (muPut μ h.n b) (.ref b) H' ⟨fun m a e => ?_, fun m a e => ?_, fun b o _ n e => k b o n e, st.kep⟩ (R2.own hn (fun n => R.fresh hH n) r2) (.obj ?_)
              · unfold muPut
                have : m ≠ h.n := fun z => by rw [R.dom (Nat.le_of_eq z.symm)] at e; cases e
                rw [if_neg this]; exact e
              · unfold muPut at e
                by_cases z : m = h.n
                · rw [if_pos z] at e; cases e; exact .inr hH
                · rw [if_neg z] at e; exact .inl e
              · unfold muPut
                rw [if_pos rfl]
          cases o with
          | lst xs =>
            dsimp only at p
            cases cx : AV.clns 0 xs with
            | false => rw [cx] at p; exact False.elim p
            | true =>
              rw [cx] at p
              obtain ⟨z1, vs, z2, z3⟩ := r1
              exact fin _ p ⟨z1, vs, z2, z3.clean (n := 0) (fun k a z => absurd z (Nat.not_lt_zero _)) cx⟩
          | ins c fs =>
            dsimp only at p
            cases cx : slotsC fs with
            | false => rw [cx] at p; exact False.elim p
            | true =>
              rw [cx] at p
              obtain ⟨dx, vs, z1, z2, z3⟩ := r1
              exact fin _ p ⟨dx, vs, z1, z2, fun i v e => by
                obtain ⟨u, q1, q2⟩ := z3 i v e
                exact ⟨u, q1, q2.clean (n := 0) (fun k a z => absurd z (Nat.not_lt_zero _)) (slots_at cx e)⟩⟩
          | _ => exact False.elim p
    | _ => exact pv p
theorem pureY_sp {F : Fn} {vs : List V} {Q : VK} {E : XK} (s : spF W (pureY F) vs H Q E) : spF W F vs H Q E := by
  obtain ⟨ro, μ, h, args, R, d, p⟩ := s
  have data : ∀ args : List AV, DenL W.K μ H args vs → postG (dV (W.to E)) (W.to E) ro μ H (match AV.clns 0 args with | true => outY h (F args hE) | false => .bad) Q → spF W F vs H Q E := fun args d p => by
    cases c : AV.clns 0 args with
    | false => rw [c] at p; exact False.elim p
    | true =>
      rw [c] at p
      exact ⟨0, fun _ => none, hE, args, relE R.tabs, d.clean (fun k a z => absurd z (Nat.not_lt_zero _)) c, outY_post (R.to E) (fun _ _ => rfl) p⟩
  cases args with
  | nil => exact data [] d p
  | cons x rest =>
    cases x with
    | obj n =>
      have p : postG (dV (W.to E)) (W.to E) ro μ H (match h.get n with | some o => (match AV.clns 0 rest && impO o with | true => outY h (F (.obj 0 :: rest) (hO o)) | false => .bad) | none => .bad) Q := p
      cases d with
      | @cons _ v0 _ ws d0 dr =>
        cases d0 with
        | @obj _ a hn =>
          obtain ⟨o, ho, r1⟩ := R.there hn
          rw [ho] at p
          dsimp only at p
          cases cc : AV.clns 0 rest && impO o with
          | false => rw [cc] at p; exact False.elim p
          | true =>
            rw [cc] at p
            obtain ⟨c1, c2⟩ := Bool.and_eq_true_iff.mp cc
            exact ⟨1, muI a, hO o, .obj 0 :: rest, relO R.tabs r1 c2, .cons (.obj rfl) (dr.clean (fun k a z => absurd z (Nat.not_lt_zero _)) c1), outY_post (R.to E) (fun m hm => by unfold muI; rw [if_neg (by omega)]) p⟩
    | _ => exact data _ d p
theorem FnW.pureY {P : Program} {w : World} {K : PySem.W.Frag} {mg : Str → Option Value} {base : Heap} {ca : Ca} {lv : Nat} {F : Fn} {f : Addr} (h : FnW P w K mg base ca lv F f) : FnW P w K mg base ca lv (pureY F) f := FnR.imp h fun _ _ _ _ s => pureY_sp s
end
end Ev
set_option Elab.async false
set_option linter.all false
set_option maxRecDepth 100000
set_option maxHeartbeats 1000000
/-! try: return a call / except C as n: return n.f -/
namespace Ev
open PySem PySem.Spec PyProof.Rows L2
def catchE (C : Addr) (f : Str) (Q : VK) : XK := fun cls d H => cls = .ref C ∧ ∃ dd u, d = some dd ∧ H dd = some (.xd [(f, u)]) ∧ Q u H
section
variable {X : Cx}
theorem takes_len {W : WX} (t : L2N.Takes X W) : L2N.Takes X (fun cls d σ H => σ.length = X.N.length → W cls d σ H) := fun u s' x => by
  obtain ⟨a, B, sI, pins', σ', H', cls, d, e, J, nb, up, sky, na, os, ag, q⟩ := x
  exact t u s' ⟨a, B, sI, pins', σ', H', cls, d, e, J, nb, up, sky, na, os, ag, q J.len⟩
theorem pss_read {i : Nat} {x n f : Str} {C : Addr} {call : Expr} {tact : XK → TE} {np p1 p2 p3 p4 pos pos' : Pos} (hs : X.stack = X.env :: X.outer) (hf : X.env.frame = some X.env.locals) (hN : X.N.Nodup) (hi : X.N[i]? = some n) (hln : X.env.kindOf n = some .local)
    (hg : Gl X x) (hm : X.mg x = some (.ref C)) (T : XfC X.K C) (hno : PySem.W.findIn X.K (.ref C) f = some none) (hx : PySem.W.exmOne X.K (.ref C) (.ref C) = some true)
    (act : ∀ (W : WX) (pn : List (Addr × Obj)) (xe : Value → Shared → Prop) (E : XK), L2N.Takes (X.tr pn xe) W → (∀ cls d σ' H', E cls d H' → W cls d σ' H') → PE (X.tr pn xe) call (tact E))
    (hd : (x == ("__debug__" : Str)) = false := by decide) (hd1 : (n == ("__debug__" : Str)) = false := by decide) (hd2 : (n == ("__classdict__" : Str)) = false := by decide) :
    PSs X [.Try [.Return (some call) p1] [.ExceptHandler (some (.Name x np)) (some n) [.Return (some (.Attribute (.Name n p2) f p3)) p4] pos'] [] [] pos] (fun D σ H => tact (catchE C f D.rt) σ H D.rt) := by
  have il : i < X.N.length := (List.getElem?_eq_some_iff.mp hi).1
  refine PSs.weaken (pss_one (L2N.ps_try_as (c := .ref C) (i := i) (tb := fun W D σ H => ∃ Ech : XK, (∀ cls d σ' H', Ech cls d H' → σ'.length = X.N.length → W cls d σ' H') ∧ tact Ech σ H D.rt) (Wout := fun _ _ _ _ => False)
    (ts := fun a cls d D σ H => tXf a cls d C f (tVar i) σ H D.rt) hs hf hN hi hln ⟨hg, hd, .inl hm⟩ takesF (fun W pn xe tk _ => ?_) (fun a oe cls d pn hz hv => ?_))) ?_
  · refine ⟨fun pins s σ H D I ⟨Ech, hW, ht⟩ => ?_⟩
    exact (pss_one (ps_ret (act _ pn xe Ech (takes_len tk) fun cls d σ' H' q => hW cls d σ' H' q))).run pins s σ H D I ht
  · exact pss_one (ps_ret (pe_xf T hno hz.zc hv (pe_var (i := i) hi (.inl hln) hd1 hd2)))
  · intro D σ H ht
    refine ⟨catchE C f D.rt, fun cls d σ' H' ⟨ec, dd, u, ed, eh, q⟩ hl => ⟨true, by rw [ec]; exact hx, fun _ a na => ?_, fun z => by cases z⟩, ht⟩
    exact ⟨.ref a, by rw [List.getElem?_set_self (by omega)], rfl, ec, dd, [(f, u)], u, ed, eh, by simp, q⟩
end
end Ev
set_option Elab.async false
set_option linter.all false
set_option maxRecDepth 100000
set_option maxHeartbeats 1000000
/-! a def that calls what it got and catches -/
namespace Ev
open PySem PySem.Spec PyProof.Rows L2
def catchR (c : Nat) (f : Str) (r : R AV) : R AV := match r with
  | .ex x h => (match Nat.beq x.c c with
    | true => (match x.f with
      | some (g, v) => (match decide (g = f) with
        | true => .ok v h
        | false => .bad)
      | none => .bad)
    | false => .bad)
  | r => r
theorem catch_post {W : Wd} {ro : Nat} {μ : Mu} {H : Hp} {c : Nat} {f : Str} {r : R AV} {Q : VK} (p : postG (dV W) W ro μ H (catchR c f r) Q) : postG (dV (W.to (catchE (W.ca c) f Q))) (W.to (catchE (W.ca c) f Q)) ro μ H r Q := by
  cases r with
  | bad => exact p
  | ok v h => exact fun μ' u H' st R d => p μ' u H' st (R.to W.E) d
  | ex x h =>
    unfold catchR at p
    dsimp only at p
    cases e1 : Nat.beq x.c c with
    | false => rw [e1] at p; exact False.elim p
    | true =>
      rw [e1] at p
      dsimp only at p
      cases e2 : x.f with
      | none => rw [e2] at p; exact False.elim p
      | some gv =>
        obtain ⟨g, v⟩ := gv
        rw [e2] at p
        dsimp only at p
        cases e3 : decide (g = f) with
        | false => rw [e3] at p; exact False.elim p
        | true =>
          rw [e3] at p
          intro μ' H' cls d st R ⟨ec, xr⟩
          rw [e2] at xr
          obtain ⟨a, u, ed, eh, du⟩ := xr
          rw [of_decide_eq_true e3] at eh
          refine ⟨by rw [ec, beq_tt e1], a, u, ed, eh, p μ' u H' st (R.to W.E) du⟩
/-- what such a def promises, given the def at f -/
def spRead (P : Program) (w : World) (K : PySem.W.Frag) (ca : Ca) (c : Nat) (fld : Str) (F : Fn) (f : Addr) : Sp := fun vs H Q E => ∃ tv ro μ h v, vs = [.ref f, tv] ∧ RelH ⟨P, w, K, ca, E⟩ ro μ h H ∧ Den K μ H v tv ∧ postG (dV ⟨P, w, K, ca, E⟩) ⟨P, w, K, ca, E⟩ ro μ H (catchR c fld (F [v] h)) Q
/-- what the written part says of the exception's class, for reading its field -/
structure RdC (K : PySem.W.Frag) (mg : Str → Option Value) (x fld : Str) (C : Addr) : Prop where
  m : mg x = some (.ref C)
  T : XfC K C
  no : PySem.W.findIn K (.ref C) fld = some none
  ex : PySem.W.exmOne K (.ref C) (.ref C) = some true
theorem read_fn {P : Program} {w : World} {K : PySem.W.Frag} {mg : Str → Option Value} {base : Heap} {ca : Ca} {k c : Nat} {F : Fn} {f g : Addr} {q a t n x fld : Str} {params : Arguments} {scope : Scope} {fd : FuncData} {np p1 p2 p3 p4 p5 p6 p7 pos pos' : Pos} (FW : FnW P w K mg base ca k F f) (hk : PySem.W.keepIn K (.ref f) = true)
    (D : FunD K q q params [.Try [.Return (some (.Call (.Name a p1) [.Name t p2] [] p3)) p4] [.ExceptHandler (some (.Name x np)) (some n) [.Return (some (.Attribute (.Name n p5) fld p6)) p7] pos'] [] [] pos] scope [] [] g fd) (S : FnScope [a, t, n] [a, t] scope) (hb : Binds K fd [a, t] [])
    (R : RdC K mg x fld (ca c)) (la : Vis scope a) (lt : Vis scope t) (ln : scope.names.lookup n = some .local) (lx : scope.names.lookup x = some .globalImplicit)
    (h1 : (a == ("__debug__" : Str)) = false := by decide) (h2 : (a == ("__classdict__" : Str)) = false := by decide) (h3 : (t == ("__debug__" : Str)) = false := by decide) (h4 : (t == ("__classdict__" : Str)) = false := by decide) (h5 : (x == ("__debug__" : Str)) = false := by decide) (h6 : (n == ("__debug__" : Str)) = false := by decide) (h7 : (n == ("__classdict__" : Str)) = false := by decide) :
    FnR P w K mg base (L2N.CX P w) (k + 1) g (spRead P w K ca c fld F f) := by
  have ok : FnOk P w K mg base (L2N.CX P w) (k + 1) g fd [a, t] (spRead P w K ca c fld F f) := by
    refine D.ok S (fun vs H Q E ⟨tv, ro, μ, h, v, e, _⟩ => by rw [e]; rfl) fun cdv A outer s H vs Q E hr ⟨tv, ro, μ, h, v, e, Rh, d, p⟩ => ?_
    subst e
    refine ⟨_, pss_read (X := cxOf (L2N.CX P w) P w K mg base [a, t, n] q scope g cdv A outer s H E) (i := 2) (C := ca c) (tact := fun E' => ItX.tCallV 0 f (spF ⟨P, w, K, ca, E0⟩ F) E' (fun σ H Q => tVar 1 σ H fun v H1 => Q [v] H1)) rfl rfl S.nd rfl ln lx R.m R.T R.no R.ex (fun W pn xe E' tk hW => ?_) h5 h6 h7, ?_⟩
    · exact ItX.pe_callV FW hr hk (L2N.passes_call tk hW) (i := 0) rfl la (pa_cons (pe_var (i := 1) rfl lt h3 h4) pa_nil rfl) h1 h2
    · refine ⟨rfl, tv, rfl, ro, μ, h, [v], ?_, .cons d .nil, catch_post (W := ⟨P, w, K, ca, E⟩) p⟩
      exact Rh.to E0
  intro A outer s H us vs Q E hr e0 rv sp
  exact ok.raw hb .nil A outer s H us vs Q E hr e0 rv (show spRead P w K ca c fld F f (vs ++ []) H Q E by rw [List.append_nil]; exact sp)
end Ev
set_option Elab.async false
set_option linter.all false
set_option maxRecDepth 100000
set_option maxHeartbeats 1000000
/-! a lambda of one parameter handed to such a def -/
namespace Ev
open PySem PySem.Spec PyProof.Rows L2
def mRead (c : Nat) (fld : Str) (F : Fn) (me : ME) : ME := fun l h => (me l h).bind fun v h1 => catchR c fld (F [v] h1)
section
variable {X : Cx} {ca : Ca} {E : XK} {lv : Nat}
theorem gRead {c k : Nat} {fld x y : Str} {F : Fn} {f g : Addr} {e : Expr} {me : ME} {p p' pos : Pos} (cf : CF X E lv) (hm : X.mg x = some (.ref g)) (hk : PySem.W.keepIn X.K (.ref g) = true) (hR : FnR X.prog X.w X.K X.mg X.base (L2N.CX X.prog X.w) k g (spRead X.prog X.w X.K ca c fld F f)) (hy : X.mg y = some (.ref f)) (he : SimE X (wd X ca E) e me)
    (hl : k ≤ lv := by decide) (hg : Gl X x := by rfl) (hgy : Gl X y := by rfl) (hs : notStar e = true := by rfl) (hd : (x == ("__debug__" : Str)) = false := by decide) (hdy : (y == ("__debug__" : Str)) = false := by decide) :
    SimE X (wd X ca E) (.Call (.Name x p) [.Name y p', e] [] pos) (mRead c fld F me) := by
  have ha : PA X [.Name y p', e] (fun σ H Q => tE (wd X ca E) me σ H fun v H1 => Q [.ref f, v] H1) := pa_cons (pe_glob (v := V.ref f) hgy hy (show L2.RelV (V.ref f) (Value.ref f) from rfl) hdy) (pa_cons he pa_nil (star_one hs)) rfl
  refine ⟨fun pins s σ H Q I ⟨ro, μ, l, h, A, q⟩ => ?_⟩
  refine wpAny_Call_Name_kw (ld_glob I hg hm ?_ hd)
  refine PySem.W.callWith_K (h₀ := X.base) I.ok.mod.kin hk (thn (ha.run pos pins s σ H (fun vs H1 => spRead X.prog X.w X.K ca c fld F f vs H1 Q E) I ⟨ro, μ, l, h, A, (bindP (dV _) A q).imp fun u H1 ⟨μ1, v, h1, A1, d1, st1, q1⟩ => ⟨u, ro, μ1, h1, v, rfl, A1.R, d1, q1⟩⟩) fun us s1 ⟨vs, H1, I1, r, q1⟩ => ⟨I1.kIn, ?_⟩) rfl (star_any (by rw [List.all_cons, hs]; rfl))
  exact wpAny_call (run_fnR hR (cf.room.mono hl) (passE cf.tk) I1 r q1)
/-- the lambda is made; nothing is lost -/
theorem lam_mk {pins : List (Addr × Obj)} {σ : L2.St} {H : Hp} {s : Shared} {T : List (Addr × Str)} {c tb : Addr} {params : Arguments} {body : Expr} {scope : Scope} {pos : Pos} {Ee : Value → Shared → Prop} {Q : Value → Shared → Prop} (I : Inv X pins σ H s) (B : LamX.TabB X.base X.mg c tb) (hcode : X.env.code = .ref c)
    (hin : (tb, X.env.qual ++ "<lambda>") ∈ T) (one : ∀ p ∈ T, p.1 = tb → p.2 = X.env.qual ++ "<lambda>") (hT : LamX.Tabs T H) (hdef : defaultsOf params X.env = ([], [])) (hfree : ∀ y ∈ scope.names, y.2 = .free → ∃ c, X.env.cells.lookup y.1 = some c)
    (go : ∀ (f c' : Addr) (pm ctv : Value) (H1 : Hp) (s' : Shared), Inv X pins σ H1 s' → LamX.ExtN H H1 → (∀ b o, H b = some o → ∃ o', H1 b = some o') → LamX.Tabs T H1 →
      s'.heap.get? f = some (PySem.W.kla_obj "<lambda>" (X.env.qual ++ "<lambda>") params body scope (cloFrom X.env.cells scope.names []) pm c' ctv) → H1 f = none → f ∉ frs X.stack → H1 c' = some (LamX.CodeO c' (X.env.qual ++ "<lambda>")) → Q (.ref f) s') :
    wpAny (model X.prog X.w) X.A (eval (.Lambda params body scope pos) X.env) Q Ee s := by
  obtain ⟨ps, hP, tri, am⟩ := hT _ hin
  have atP : s.heap.get? tb = some { cls := .none, data := .fields ps } := I.hok tb _ hP
  have bP : s.heap.BuiltinsAt X.mg tb := B.bm.keeps I.bk
  have high : ∀ f, s.heap.objs.size ≤ f → f ∉ frs X.stack := fun f hf z => by
    rcases List.mem_cons.mp (I.stkSub _ z) with e | e
    · have lt := I.lt
      rw [← e] at lt
      exact absurd (Nat.lt_of_lt_of_le lt hf) (Nat.lt_irrefl _)
    · exact I.nofs hf e
  refine PySem.W.kla_eval hdef ?_
  cases found : codeAmong pos ps.toList with
  | some cv =>
    obtain ⟨c', e, co⟩ := am pos cv found
    subst e
    refine PySem.W.kla_makeFunctionHit (mg := X.mg) (c := c) (P := tb) (ps := ps) (closure_ok hfree) I.ok.glob (I.mod.glob.keeps I.bk) hcode (B.code.keeps I.bk) atP tri found bP fun ctv h' tk up big => ?_
    have I1 : Inv X pins σ H { s with heap := h'.push (PySem.W.kla_obj "<lambda>" (X.env.qual ++ "<lambda>") params body scope (cloFrom X.env.cells scope.names []) ((X.mg "__name__").getD .none) c' ctv), toks := tk } := I.kept fun b o e => Heap.get?_push_of_some _ (up b o e)
    exact go h'.objs.size c' _ ctv H _ I1 (LamX.ExtN.refl H) (fun b o e => ⟨o, e⟩) hT (Heap.get?_push_size _ rfl) (I.hok.fresh big) (high _ big) co
  | none =>
    refine PySem.W.kla_makeFunction (mg := X.mg) (c := c) (P := tb) (ps := ps) (closure_ok hfree) I.ok.glob (I.mod.glob.keeps I.bk) hcode (B.code.keeps I.bk) atP tri found B.gP bP fun c' ctv h' tk up ge lt rec_ tbl => ?_
    obtain ⟨c2, oc, vs, t, e2, hoc, hd, hv⟩ := rec_
    cases e2
    have big : s.heap.objs.size ≤ h'.objs.size := by omega
    have nC : H c' = none := I.hok.fresh ge
    obtain ⟨ps', eps⟩ : ∃ ps', ps' = ps ++ #[rawInt pos.line, rawInt pos.col, .ref c'] := ⟨_, rfl⟩
    have I1 := LamX.inv_table (t' := tk) (more := #[rawInt pos.line, rawInt pos.col, .ref c']) (h' := h'.push (PySem.W.kla_obj "<lambda>" (X.env.qual ++ "<lambda>") params body scope (cloFrom X.env.cells scope.names []) ((X.mg "__name__").getD .none) c' ctv)) I hP
      (fun b o nb e => Heap.get?_push_of_some _ (up b o nb e)) (Heap.get?_push_of_some _ tbl) ge ⟨oc, vs, t, Heap.get?_push_of_some _ hoc, hd, hv⟩
    rw [← eps] at I1
    have ext : LamX.ExtN H (upd (upd H tb (.tbl ps')) c' (LamX.CodeO c' (X.env.qual ++ "<lambda>"))) := fun b o e n => by
      have b1 : b ≠ c' := ne_of_none e nC
      have b2 : b ≠ tb := fun z => n ps (Option.some.inj (e.symm.trans (by rw [z]; exact hP)))
      rw [upd_ne b1, upd_ne b2]
      exact e
    have kep : ∀ b o, H b = some o → ∃ o', upd (upd H tb (.tbl ps')) c' (LamX.CodeO c' (X.env.qual ++ "<lambda>")) b = some o' := fun b o e => by
      by_cases b1 : b = c'
      · exact ⟨_, by rw [b1, upd_same]⟩
      · rw [upd_ne b1]
        by_cases b2 : b = tb
        · exact ⟨_, by rw [b2, upd_same]⟩
        · exact ⟨o, by rw [upd_ne b2]; exact e⟩
    have eL : ps'.toList = ps.toList ++ [rawInt pos.line, rawInt pos.col, .ref c'] := by rw [eps]; simp
    refine go h'.objs.size c' _ ctv _ _ I1 ext kep (fun p hp => ?_) (Heap.get?_push_size _ rfl) ?_ (high _ big) upd_same
    · by_cases hb : p.1 = tb
      · rw [one p hp hb, hb]
        refine ⟨ps', by rw [upd_ne (ne_of_none hP nC), upd_same], by rw [eL]; exact PySem.TriplesOk_snoc _ _ _ _ tri, fun p' cv hcv => ?_⟩
        rw [eL] at hcv
        rcases LamX.among_app _ tri hcv with z | z
        · obtain ⟨c0, e1, e2⟩ := am p' cv z
          exact ⟨c0, e1, ext _ _ e2 LamX.codeO_ne⟩
        · exact ⟨c', z, upd_same⟩
      · obtain ⟨qs, a1, a2, a3⟩ := hT p hp
        refine ⟨qs, by rw [upd_ne (ne_of_none a1 nC), upd_ne hb]; exact a1, a2, fun p' cv hcv => ?_⟩
        obtain ⟨c0, e1, e2⟩ := a3 p' cv hcv
        exact ⟨c0, e1, ext _ _ e2 LamX.codeO_ne⟩
    · rw [upd_ne (show h'.objs.size ≠ c' by omega), upd_ne (fun z => absurd (Nat.lt_of_lt_of_le (Heap.lt_size atP) big) (by rw [z]; exact Nat.lt_irrefl _))]
      exact I.hok.fresh big
end
end Ev
set_option Elab.async false
set_option linter.all false
set_option maxRecDepth 100000
set_option maxHeartbeats 1000000
/-! x(lambda b: body, t) where the def x calls and catches -/
namespace Ev
open PySem PySem.Spec PyProof.Rows L2
def mReadL (c : Nat) (fld : Str) (j : Nat) (mb : ME) : ME := fun l h => match l[j]?.join with
  | some v => catchR c fld (mb (l ++ [some v]) h)
  | none => .bad
section
variable {X : Cx} {ca : Ca} {E : XK} {lv : Nat}
theorem ld_at {pins : List (Addr × Obj)} {σ : L2.St} {H : Hp} {s : Shared} {i : Nat} {x : Str} {pos : Pos} {v : V} {Q : Value → Shared → Prop} {Ee : Value → Shared → Prop} (I : Inv X pins σ H s) (hN : X.N[i]? = some x) (hv : Vis X.env.scope x) (e : σ[i]? = some (some v)) (h : ∀ u, L2.RelV v u → Q u s) (hd : (x == ("__debug__" : Str)) = false := by decide) (hcd : (x == ("__classdict__" : Str)) = false := by decide) :
    wpAny (model X.prog X.w) X.A (eval (.Name x pos) X.env) Q Ee s := by
  obtain ⟨m, hn, hl⟩ := I.loc
  obtain ⟨u, r, l⟩ := hl i x v hN e hv
  have fin := h u r
  rcases l with ⟨k1, k2⟩ | ⟨k1, c, k2, k3⟩
  · exact wpAny_Name (wpAny_loadName_local I.ok.kind k1 hn k2 fin) hd
  · rcases k1 with k1 | k1
    · exact wpAny_Name (wpAny_loadName_cell I.ok.kind k1 k2 k3 fin) hd
    · exact wpAny_Name (wpAny_loadName_free I.ok.kind k1 k2 k3 fin hcd) hd
theorem RelL.snoc {K : PySem.W.Frag} {μ : Mu} {H : Hp} {l : Loc'} {σ : L2.St} {v : AV} {u : V} (r : RelL K μ H l σ) (d : Den K μ H v u) : RelL K μ H (l ++ [some v]) (σ ++ [some u]) := by
  obtain ⟨len, at_⟩ := r
  refine ⟨by simp [len], fun i w e => ?_⟩
  by_cases hi : i < l.length
  · rw [List.getElem?_append_left hi] at e
    obtain ⟨z, q1, q2⟩ := at_ i w e
    exact ⟨z, by rw [List.getElem?_append_left (by omega)]; exact q1, q2⟩
  · have ei : i = l.length := by
      have := (List.getElem?_eq_some_iff.mp e).1
      simp at this
      omega
    subst ei
    rw [List.getElem?_append_right (Nat.le_refl _), Nat.sub_self] at e
    cases e
    exact ⟨u, by rw [len, List.getElem?_append_right (Nat.le_refl _), Nat.sub_self]; rfl, d⟩
/-- what the written part says of the def x and of its code's table -/
theorem gReadL {c k j : Nat} {fld x xc a t n b tn : Str} {g cd tb : Addr} {params pg : Arguments} {body : Expr} {scope sg : Scope} {dV kV doc pm cdv ct oc : Value} {an od : Option Addr} {osl : Array (Option Value)} {mb : ME} {p lpos tp pos np p1 p2 p3 p4 p5 p6 p7 q1 q2 : Pos} (cf : CF X E lv)
    (hm : X.mg x = some (.ref g)) (hk : PySem.W.keepIn X.K (.ref g) = true)
    (lk : X.K.lookup g = some ⟨oc, od, .func (PySem.W.fnOf x x pg [.Try [.Return (some (.Call (.Name a p1) [.Name t p2] [] p3)) p4] [.ExceptHandler (some (.Name xc np)) (some n) [.Return (some (.Attribute (.Name n p5) fld p6)) p7] q1] [] [] q2] sg dV kV doc pm an cdv ct), osl⟩) (hcg : PySem.W.codeIn X.K cdv x = true)
    (hb : L2.Binds X.K (PySem.W.fnOf x x pg [.Try [.Return (some (.Call (.Name a p1) [.Name t p2] [] p3)) p4] [.ExceptHandler (some (.Name xc np)) (some n) [.Return (some (.Attribute (.Name n p5) fld p6)) p7] q1] [] [] q2] sg dV kV doc pm an cdv ct) [a, t] []) (Sg : FnScope [a, t, n] [a, t] sg)
    (R : RdC X.K X.mg xc fld (ca c)) (la : Vis sg a) (lt : Vis sg t) (ln : sg.names.lookup n = some .local) (lx : sg.names.lookup xc = some .globalImplicit)
    (B : LamX.TabB X.base X.mg cd tb) (hcode : X.env.code = .ref cd) (hin : (tb, X.env.qual ++ "<lambda>") ∈ ca.T) (one : ∀ p ∈ ca.T, p.1 = tb → p.2 = X.env.qual ++ "<lambda>")
    (hN : X.N[j]? = some tn) (hvt : Vis X.env.scope tn) (L : LamP X.env.scope scope b) (nb : b ∉ X.N) (hdef : defaultsOf params X.env = ([], []))
    (hbind : ∀ (q : Str) (cl : List (Str × Addr)) (pm cv ctv u : Value), bindArgs (PySem.W.kla_fn "<lambda>" q params body scope cl pm cv ctv) ⟨[u], []⟩ = pure [(b, u)])
    (hbody : ∀ (A : Around) (outer : List Env) (s : Shared) (H : Hp) (E' : XK) (f c' : Addr), Room k (A.deeper (LamX.lamEnv X scope s.heap.objs.size f c')) → L2N.Takes (lamC X A outer s H E' scope f c' b) (WE0 E') → SimE (lamC X A outer s H E' scope f c' b) ⟨X.prog, X.w, X.K, ca, E'⟩ body mb)
    (htk : ∀ (A : Around) (outer : List Env) (s : Shared) (H : Hp) (E' : XK) (f c' : Addr), L2N.Takes (lamC X A outer s H E' scope f c' b) (WE0 E'))
    (hl : k + 2 ≤ lv := by decide) (hg : Gl X x := by rfl) (hd : (x == ("__debug__" : Str)) = false := by decide) (h0 : (tn == ("__debug__" : Str)) = false := by decide) (h0' : (tn == ("__classdict__" : Str)) = false := by decide)
    (h1 : (a == ("__debug__" : Str)) = false := by decide) (h2 : (a == ("__classdict__" : Str)) = false := by decide) (h3 : (t == ("__debug__" : Str)) = false := by decide) (h4 : (t == ("__classdict__" : Str)) = false := by decide) (h5 : (xc == ("__debug__" : Str)) = false := by decide) (h6 : (n == ("__debug__" : Str)) = false := by decide) (h7 : (n == ("__classdict__" : Str)) = false := by decide) :
    SimE X (wd X ca E) (.Call (.Name x p) [.Lambda params body scope lpos, .Name tn tp] [] pos) (mReadL c fld j mb) := by
  refine ⟨fun pins s σ H Q I ⟨ro, μ, l, h, A, q⟩ => ?_⟩
  unfold mReadL at q
  cases ev : l[j]?.join with
  | none => rw [ev] at q; exact False.elim q
  | some v =>
    rw [ev] at q
    dsimp only at q
    have ev' : l[j]? = some (some v) := by
      cases z : l[j]? with
      | none => rw [z] at ev; cases ev
      | some o => rw [z] at ev; exact congrArg some ev
    obtain ⟨u, hu, du⟩ := A.L.2 j v ev'
    refine wpAny_Call_Name_kw (ld_glob I hg hm ?_ hd)
    refine PySem.W.callWith_K (h₀ := X.base) I.ok.mod.kin hk ?_ (by rfl) (by rfl)
    show wpAny _ _ (spliced ((false, eval (.Lambda params body scope lpos) X.env) :: backTo pos (starEach [.Name tn tp] X.env))) _ _ s
    refine Calls.spliced_cons (lam_mk I B hcode hin one A.R.tabs hdef (L.has I.ok) fun f c' pm' ctv H1 s' I1 eN kep T1 hf hfn hfr hco => ?_)
    show wpAny _ _ (spliced ((false, eval (.Name tn tp) X.env) :: backTo pos (starEach [] X.env))) _ _ s'
    refine Calls.spliced_cons (ld_at I1 hN hvt hu (fun uu ru => ?_) h0 h0')
    refine Calls.spliced_nil ⟨I1.kIn, ?_⟩
    have st1 : Step ro μ H μ H1 := Step.kept (fun b o no e => eN b o e no) kep
    have R1 := A.R.still (fun b o no e => eN b o e no) kep T1
    have du1 : Den X.K μ H1 v u := A.R.den st1 du
    have q1 := catch_post (postG.later q st1)
    have rc : codeAny (model X.prog X.w) X.A (.call (.ref g) ⟨[.ref f, uu], []⟩) (CR (L2N.CX X.prog X.w) X.stack X.prog X.w H1 s' Q E) s' := by
      refine LamX.run_ofS (N := [a, t, n]) (ps := [a, t]) (us := [.ref f, uu]) (vs := [.ref f, u]) lk hcg Sg (cf.room.mono hl) I1.env0 (hb s' [.ref f, uu] I1.kIn rfl) (.cons rfl (.cons ru .nil)) rfl fun hr' => ?_
      refine ⟨_, pss_read (X := cxOf (L2N.CX X.prog X.w) X.prog X.w X.K X.mg X.base [a, t, n] x sg g cdv X.A X.stack s' H1 E) (i := 2) (C := ca c) (tact := fun E' σZ HZ Q => σZ[0]? = some (some (.ref f)) ∧ HZ c' = some (LamX.CodeO c' (X.env.qual ++ "<lambda>")) ∧ ∃ v, σZ[1]? = some (some v) ∧ tE ⟨X.prog, X.w, X.K, ca, E'⟩ mb (σ ++ [some v]) HZ Q) rfl rfl Sg.nd rfl ln lx R.m R.T R.no R.ex (fun W pn xe E' tk hW => ?_) h5 h6 h7, ?_⟩
      · exact pe_act1 (i := 0) (j := 1) I1 L nb hf hfn hfr (fun u => hbind _ _ _ _ _ u) tk hW hr' (fun A outer s H hr2 => hbody A outer s H E' f c' hr2 (htk A outer s H E' f c')) rfl la rfl lt h1 h2 h3 h4
      · exact ⟨rfl, hco, u, rfl, ro, μ, l ++ [some v], h, ⟨(A.L.step A.R st1).snoc du1, R1.to _⟩, q1⟩
    refine wpAny_call (codeAny_mono rc fun r s2 hq => ?_)
    cases r with
    | error e => exact passE cf.tk pins σ H1 s' e s2 I1 hq
    | ok fl =>
      cases fl with
      | ret z => exact I1.after hq
      | next => exact False.elim hq
      | brk => exact False.elim hq
      | cont => exact False.elim hq
end
end Ev
set_option Elab.async false
set_option linter.all false
set_option maxRecDepth 100000
set_option maxHeartbeats 1000000
/-! head facts: a def by its code object, an own exception's __init__, tables left out -/
namespace Ev
open PySem PySem.Spec PyProof.Rows L2
section
variable {P : Program} {w : World} {K : PySem.W.Frag} {mg : Str → Option Value} {base : Heap} {ca : Ca} {x qual : Str} {params : Arguments} {body : List Stmt} {scope : Scope} {f : Addr} {fd : FuncData} {N ps : List Str} {k : Nat} {m : MS}
theorem fn_okC (F : FunD K x qual params body scope [] [] f fd) (S : FnScope N ps scope)
    (hbody : ∀ (A : Around) (outer : List Env) (s : Shared) (H : Hp) (E : XK), Room k (A.deeper (envOfC qual scope s.heap.objs.size f fd.code)) → SimSs (cxOf (L2N.CX P w) P w K mg base N qual scope f fd.code A outer s H E) ⟨P, w, K, ca, E⟩ body m) :
    FnOk P w K mg base (L2N.CX P w) (k + 1) f fd ps (spF ⟨P, w, K, ca, E0⟩ (fnM ps.length N.length m)) := by
  obtain ⟨oc, od, dV, kV, doc, pm, an, cdv, ct, osl, rfl, lk, hcd, _, _⟩ := F.ex
  refine fn_of lk hcd S (fun vs H Q E ⟨ro, μ, h, args, R, d, p⟩ => ?_) (fun A outer s H vs Q E hr ⟨ro, μ, h, args, R, d, p⟩ => ⟨_, hbody A outer s H E hr, ro, μ, args.map some ++ List.replicate (N.length - args.length) none, h, ⟨start_rel d, R.to E⟩, ?_⟩)
  · unfold fnM at p
    cases e : Nat.beq args.length ps.length with
    | false => rw [e] at p; exact False.elim p
    | true => rw [← d.length]; exact Nat.eq_of_beq_eq_true e
  · unfold fnM at p
    cases e : Nat.beq args.length ps.length with
    | false => rw [e] at p; exact False.elim p
    | true =>
      rw [e] at p
      dsimp only at p
      cases e2 : m (args.map some ++ List.replicate (N.length - args.length) none) h with
      | nx l h1 => rw [e2] at p; exact fun μ1 σ1 H1 st A1 => p μ1 .non H1 st A1.R .non
      | rt v h1 => rw [e2] at p; exact p
      | ex z h1 => rw [e2] at p; exact p
      | bad => rw [e2] at p; exact p
theorem fn_simC (F : FunD K x qual params body scope [] [] f fd) (S : FnScope N ps scope) (hb : Binds K fd ps [])
    (hbody : ∀ (A : Around) (outer : List Env) (s : Shared) (H : Hp) (E : XK), Room k (A.deeper (envOfC qual scope s.heap.objs.size f fd.code)) → SimSs (cxOf (L2N.CX P w) P w K mg base N qual scope f fd.code A outer s H E) ⟨P, w, K, ca, E⟩ body m) :
    FnW P w K mg base ca (k + 1) (fnM ps.length N.length m) f := by
  have q := (fn_okC (ca := ca) (mg := mg) (base := base) F S hbody).raw hb .nil
  exact q.imp fun vs H Q E h => by rw [List.append_nil]; exact h
/-- the code object of a def of the module -/
theorem code_at (F : FunD K x qual params body scope [] [] (pG x K) fd) : fd.code = .ref (He.cT K (x, none)).1 := by
  obtain ⟨oc, od, dV, kV, doc, pm, an, cdv, ct, osl, rfl, lk, hcd, _, _⟩ := F.ex
  obtain ⟨c, e⟩ := He.codeIn_ref hcd
  subst e
  have := He.codeOf_eq (p := (x, none)) lk rfl
  show Value.ref c = .ref (He.codeOf K (x, none))
  rw [this]
end
theorem fnScopeB {N P : List Str} {sc : Scope} (h : (decide (sc.kind = .function) && !sc.isCoroutine && !sc.isGenerator && decide N.Nodup && decide (N.take P.length = P) && P.all (fun x => decide (sc.names.lookup x = some .local) || decide (sc.names.lookup x = some .cell)) && sc.names.all (fun y => !decide (y.2 = .free))) = true) : FnScope N P sc := by
  simp only [Bool.and_eq_true, Bool.not_eq_true', decide_eq_true_eq, List.all_eq_true, Bool.or_eq_true, decide_eq_false_iff_not] at h
  obtain ⟨⟨⟨⟨⟨⟨h1, h2⟩, h3⟩, h4⟩, h5⟩, h6⟩, h7⟩ := h
  exact ⟨h1, h2, h3, h4, h5, h6, h7⟩
/-! ### an own exception's __init__ -/
structure XiP where
  cls : Str
  qual : Str
  par : Str
  fld : Str
  params : Arguments
  body : List Stmt
  scope : Scope
abbrev ObX : Type := Option (Str × Str × Arguments × FuncBody × Scope × Addr × Addr)
def obX (K : PySem.W.Frag) (a : Addr) : ObX := match K.lookup a with
  | some ⟨_, _, .func fd, _⟩ => some (fd.name, fd.qualname, fd.params, fd.body, fd.scope, fd.globals, fd.builtins)
  | _ => none
def XiP.val (d : XiP) : ObX := some ("__init__", d.qual, d.params, .stmts d.body, d.scope, mainGlobals, builtinsNs)
def XiP.at_ (d : XiP) (K : PySem.W.Frag) : Addr := pM d.cls "__init__" K
def oexB (K : PySem.W.Frag) (C : Addr) : Bool := (match K.lookup C with
  | some ⟨.type t, _, .cls cd, sl⟩ => decide (t = "type") && ((match cd.mro with
      | .ref C' :: bm => Nat.beq C' C && PySem.HandSPX.refsVE bm
      | _ => false) && (cd.hasDict && (!cd.hasDel && (match sl.toList with
      | [_, _, _, _, some (.builtin n), _] => decide (n = "ValueError.__new__")
      | _ => false))))
  | _ => false) && (eqD (PySem.W.findIn K (.ref C) "__setattr__") (some (some (.builtin "object.__setattr__"))) && (eqD (PySem.W.subIn K (.ref C) (.type "BaseException")) (some true) && (eqD (PySem.W.typeIn K (.ref C)) (some (.type "type")) && PySem.W.keepIn K (.ref C))))
theorem oexB_ok {K : PySem.W.Frag} {C : Addr} (h : oexB K C = true) : OexC K C := by
  obtain ⟨h1, h⟩ := Bool.and_eq_true_iff.mp h
  obtain ⟨h2, h⟩ := Bool.and_eq_true_iff.mp h
  obtain ⟨h3, h⟩ := Bool.and_eq_true_iff.mp h
  obtain ⟨h4, h5⟩ := Bool.and_eq_true_iff.mp h
  refine ⟨?_, eqD_ok h2, eqD_ok h3, eqD_ok h4, h5⟩
  cases e : K.lookup C with
  | none => rw [e] at h1; cases h1
  | some o =>
    obtain ⟨oc, od, dt, sl⟩ := o
    rw [e] at h1
    cases oc with
    | type t =>
      cases dt with
      | cls cd =>
        dsimp only at h1
        obtain ⟨a1, h1⟩ := Bool.and_eq_true_iff.mp h1
        obtain ⟨a2, h1⟩ := Bool.and_eq_true_iff.mp h1
        obtain ⟨a3, h1⟩ := Bool.and_eq_true_iff.mp h1
        obtain ⟨a4, a5⟩ := Bool.and_eq_true_iff.mp h1
        obtain ⟨nm, bs, mro, N, q, hd, sn, sub, ab, col, del⟩ := cd
        dsimp only at a2 a3 a4
        cases mro with
        | nil => cases a2
        | cons c bm =>
          cases c with
          | ref C' =>
            dsimp only at a2
            obtain ⟨b1, b2⟩ := Bool.and_eq_true_iff.mp a2
            have e1 := beq_tt b1
            have e2 : del = false := by cases del <;> first | rfl | cases a4
            have e3 := of_decide_eq_true a1
            subst e1 e2 a3 e3
            obtain ⟨sl⟩ := sl
            dsimp only at a5
            rcases sl with _ | ⟨k0, _ | ⟨k1, _ | ⟨k2, _ | ⟨k3, _ | ⟨k4, _ | ⟨k5, _ | ⟨k6, sl⟩⟩⟩⟩⟩⟩⟩ <;> try cases a5
            · cases k4 with
              | none => cases a5
              | some v => cases v <;> cases a5
            · cases k4 with
              | none => cases a5
              | some v =>
                cases v with
                | builtin n =>
                  have e4 := of_decide_eq_true (show decide (n = "ValueError.__new__") = true from a5)
                  subst e4
                  exact ⟨nm, q, N, bs, bm, sn, sub, ab, col, od, k0, k1, k2, k3, k5, rfl, b2⟩
                | _ => cases a5
            · cases k4 with
              | none => cases a5
              | some v => cases v <;> cases a5
          | _ => cases a2
      | _ => cases h1
    | _ => cases dt <;> cases h1
def XiP.ok (file : Str) (K : PySem.W.Frag) (d : XiP) : Bool := oexB K (He.ga K d.cls) && (eqD (PySem.W.findIn K (.ref (He.ga K d.cls)) d.fld) (some none) && ((match K.lookup (d.at_ K) with
    | some ⟨_, _, .func fd, _⟩ => (match fd.defaults with
      | .none => true
      | _ => false) && (PySem.W.codeIn K fd.code d.qual && ((match fd.code with
      | .ref cda => (match K.lookup cda with
        | some ⟨_, _, .fields vs, _⟩ => (match (vs[2]? : Option Value) with
          | some (.str z _) => file == z
          | _ => false)
        | _ => false)
      | _ => false) && (match fd.closure with
      | [(y, cc)] => decide (y = "__class__") && (match K.lookup cc with
        | some ⟨_, _, .cell (some (.ref C')), _⟩ => Nat.beq C' (He.ga K d.cls)
        | _ => false)
      | _ => false)))
    | _ => false) && ((PySem.W.clsIn K (He.ga K d.cls)).isSome && (eqD (PySem.W.mroIn K (He.ga K d.cls) (.ref (He.ga K d.cls))) (some true) && (eqD (PySem.W.nsIn K cStatics "thirdparty.any") (some none) && (eqD (PySem.W.ks_superIn K (He.ga K d.cls) (He.ga K d.cls) "__init__") (some (some (.builtin "ValueError.__init__"))) &&
    (eqD (PySem.W.subIn K (.ref (He.ga K d.cls)) (.type "ValueError")) (some true) && (eqD (PySem.W.findIn K (.ref (He.ga K d.cls)) "__init__") (some (some (.ref (d.at_ K)))) && (eqD (PySem.W.typeIn K (.ref (d.at_ K))) (some (.type "function")) && (xfB K (He.ga K d.cls) && eqD (PySem.W.exmOne K (.ref (He.ga K d.cls)) (.ref (He.ga K d.cls))) (some true)))))))))))
/-- what is to be shown of the scope of such an __init__ -/
def xscB (sc : Scope) (b : Str) : Bool := decide (sc.kind = .function) && (!sc.isCoroutine && (!sc.isGenerator && ((sc.names.all fun y => !decide (y.2 = .cell) && (!decide (y.2 = .free) || decide (y.1 = "__class__"))) && (eqD (sc.names.lookup ("super" : Str)) (some .globalImplicit) && (eqD (sc.names.lookup ("__class__" : Str)) (some .free) && (eqD (sc.names.lookup ("self" : Str)) (some .local) && (eqD (sc.names.lookup b) (some .local) && (!(("self" : Str) == b) && (!(b == ("__debug__" : Str)) && !(b == ("__classdict__" : Str)))))))))))
structure XiR (P : Program) (K : PySem.W.Frag) (mg : Str → Option Value) (d : XiP) : Prop where
  fn : ∃ fd, SupC P K mg (He.ga K d.cls) (d.at_ K) d.par d.fld fd ∧ Binds K fd ["self", d.par] []
  ini : PySem.W.findIn K (.ref (He.ga K d.cls)) "__init__" = some (some (.ref (d.at_ K)))
  ty : PySem.W.typeIn K (.ref (d.at_ K)) = some (.type "function")
  xf : XfC K (He.ga K d.cls)
  ex : PySem.W.exmOne K (.ref (He.ga K d.cls)) (.ref (He.ga K d.cls)) = some true
theorem XiP.say {P : Program} {K : PySem.W.Frag} {mg : Str → Option Value} {d : XiP} {z : Str} {p0 p1 p2 p3 p4 p5 p6 p7 p8 p9 : Pos} {j : Nat} (hP : (P.main.scope.names.lookup ("super" : Str)).isSome = false) (sm : mg "super" = none)
    (e : obX K (d.at_ K) = d.val) (c : d.ok P.main.file K = true) (hs : xscB d.scope d.par = true)
    (hb : d.body = [.Expr (.Call (.Attribute (.Call (.Name "super" p0) [] [] p1) "__init__" p2) [.Constant (.str z) j p3] [] p4) p5, .Assign [.Attribute (.Name "self" p6) d.fld p7] (.Name d.par p8) p9])
    (hl : (p2.endLine == p4.line) = true) (hself : ∃ ar, (d.params.posonlyargs ++ d.params.args).head? = some ar ∧ ar.arg = "self")
    (hbind : ∀ (kV doc pm : Value) (an : Option Addr) (cdv ct : Value) (cc : Addr) (us : List Value), us.length = 2 → bindArgs (PySem.W.ksFn "__init__" d.qual d.params d.body d.scope .none kV doc pm an cdv ct cc) ⟨us, []⟩ = pure ([("self" : Str), d.par].zip us)) : XiR P K mg d := by
  obtain ⟨c1, c⟩ := Bool.and_eq_true_iff.mp c
  obtain ⟨c2, c⟩ := Bool.and_eq_true_iff.mp c
  obtain ⟨c3, c⟩ := Bool.and_eq_true_iff.mp c
  obtain ⟨c4, c⟩ := Bool.and_eq_true_iff.mp c
  obtain ⟨c5, c⟩ := Bool.and_eq_true_iff.mp c
  obtain ⟨c6, c⟩ := Bool.and_eq_true_iff.mp c
  obtain ⟨c7, c⟩ := Bool.and_eq_true_iff.mp c
  obtain ⟨c8, c⟩ := Bool.and_eq_true_iff.mp c
  obtain ⟨c9, c⟩ := Bool.and_eq_true_iff.mp c
  obtain ⟨c10, c⟩ := Bool.and_eq_true_iff.mp c
  obtain ⟨c11, c12⟩ := Bool.and_eq_true_iff.mp c
  refine ⟨?_, eqD_ok c9, eqD_ok c10, xfB_ok c11, eqD_ok c12⟩
  unfold xscB at hs
  simp only [Bool.and_eq_true, Bool.or_eq_true, Bool.not_eq_true', decide_eq_true_eq, decide_eq_false_iff_not, List.all_eq_true] at hs
  obtain ⟨s1, s2, s3, s4, s5, s6, s7, s8, s9, s10, s11⟩ := hs
  unfold obX at e
  cases lk : K.lookup (d.at_ K) with
  | none => rw [lk] at c3; cases c3
  | some o =>
    obtain ⟨oc, od, dt, osl⟩ := o
    rw [lk] at c3 e
    cases dt with
    | func fd =>
      dsimp only at c3 e
      obtain ⟨k1, c3⟩ := Bool.and_eq_true_iff.mp c3
      obtain ⟨k2, c3⟩ := Bool.and_eq_true_iff.mp c3
      obtain ⟨k3, k4⟩ := Bool.and_eq_true_iff.mp c3
      obtain ⟨f1, f2, f3, f4, f5, f6, f7, f8, f9, f10, f11, f12, f13, f14, f15⟩ := fd
      have e2 : (some (f1, f2, f3, f4, f5, f6, f15) : ObX) = some (("__init__" : Str), d.qual, d.params, FuncBody.stmts d.body, d.scope, mainGlobals, builtinsNs) := e
      simp only [Option.some.injEq, Prod.mk.injEq] at e2
      obtain ⟨g1, g2, g3, g4, g5, g6, g7⟩ := e2
      subst g1 g2 g3 g4 g5 g6 g7
      dsimp only at k1 k2 k3 k4
      have hf8 : f8 = .none := by cases f8 <;> first | rfl | cases k1
      subst hf8
      obtain ⟨cda, ecd⟩ := He.codeIn_ref k2
      subst ecd
      dsimp only at k3
      rcases f7 with _ | ⟨⟨y, cc⟩, _ | ⟨q, r⟩⟩
      · cases k4
      · dsimp only at k4
        obtain ⟨k5, k6⟩ := Bool.and_eq_true_iff.mp k4
        have ey := of_decide_eq_true k5
        subst ey
        have hcode : ∃ ccl cdd vs ccs file tf, K.lookup cda = some ⟨ccl, cdd, .fields vs, ccs⟩ ∧ vs[2]? = some (.str file tf) ∧ ((P.main.file : Str) == file) = true := by
          cases lc : K.lookup cda with
          | none => rw [lc] at k3; cases k3
          | some oc2 =>
            obtain ⟨a1, a2, a3, a4⟩ := oc2
            rw [lc] at k3
            cases a3 with
            | fields vs =>
              dsimp only at k3
              cases hv : (vs[2]? : Option Value) with
              | none => rw [hv] at k3; cases k3
              | some v =>
                rw [hv] at k3
                cases v with
                | str z t => exact ⟨_, _, vs, _, z, t, rfl, hv, k3⟩
                | _ => cases k3
            | _ => cases k3
        have hcell : ∃ cl cld csl, K.lookup cc = some ⟨cl, cld, .cell (some (.ref (He.ga K d.cls))), csl⟩ := by
          cases lc : K.lookup cc with
          | none => rw [lc] at k6; cases k6
          | some oc2 =>
            obtain ⟨a1, a2, a3, a4⟩ := oc2
            rw [lc] at k6
            cases a3 with
            | cell v =>
              cases v with
              | none => cases k6
              | some v =>
                cases v with
                | ref C' => exact ⟨_, _, _, by rw [← beq_tt k6]⟩
                | _ => cases k6
            | _ => cases k6
        have hcl : ∃ cd, PySem.W.clsIn K (He.ga K d.cls) = some cd := Option.isSome_iff_exists.mp c4
        refine ⟨PySem.W.ksFn "__init__" d.qual d.params d.body d.scope .none f9 f10 f11 f12 (.ref cda) f14 cc, ⟨oexB_ok c1, eqD_ok c2, ⟨"__init__", d.qual, d.params, d.scope, .none, f9, f10, f11, f12, cda, f14, cc, oc, od, osl, z, p0, p1, p2, j, p3, p4, p5, p6, p7, p8, p9, by rw [hb], lk, k2, hself, hcode, hcell, hl, s1, s2, s3, fun y hy => (s4 y hy).1, fun y hy => ?_, eqD_ok s5, eqD_ok s6, eqD_ok s7, eqD_ok s8⟩, hcl, eqD_ok c5, eqD_ok c6, eqD_ok c7, eqD_ok c8, hP, sm, s9, s10, s11⟩, .all (hbind f9 f10 f11 f12 (.ref cda) f14 cc)⟩
        rcases (s4 _ (PySem.mem_of_lookup hy)).2 with z | z
        · exact absurd rfl z
        · exact z
      · cases k4
    | _ => cases c3
/-! ### the hook -/
abbrev AlQ : Type := Bool × List ObF × List ObX
/-- what the module's names reach in n steps; a mask keeps the addresses seen (a plain list's doubles cost the kernel gigabytes) -/
def adNew : Nat → List Addr → List Addr → Nat × List Addr
  | seen, [], nw => (seen, nw)
  | seen, a :: r, nw => match Nat.testBit seen a with
    | true => adNew seen r nw
    | false => adNew (seen ||| (1 <<< a)) r (a :: nw)
def adB (g : Addr → Option Obj) : Nat → Nat → List Addr → List Addr → List Addr
  | 0, _, _, acc => acc
  | n + 1, seen, fr, acc => match adNew seen (fr.flatMap fun a => match g a with
    | some o => He.refsD o
    | none => []) [] with
    | (seen', nw) => adB g n seen' nw (nw ++ acc)
def frQ (n : Nat) (g : Addr → Option Obj) : PySem.W.Frag := He.frT g (adB g n (1 <<< mainGlobals) [mainGlobals] [mainGlobals] ++ [cStatics])
def obQ (file : Str) (ex : PySem.W.Frag → Bool) (fn : List DefP) (xs : List XiP) (K : PySem.W.Frag) : AlQ := (ex K && ((fn.all fun d => d.ok K) && (xs.all fun d => d.ok file K)), fn.map fun d => obF K (d.at_ K), xs.map fun d => obX K (d.at_ K))
def obQG (n : Nat) (file : Str) (ex : PySem.W.Frag → Bool) (fn : List DefP) (xs : List XiP) (tf : List He.Defn) (g : Addr → Option Obj) : AlQ × Bool := (obQ file ex fn xs (frQ n g), He.tabsB g tf (frQ n g))
def vaQ (fn : List DefP) (xs : List XiP) : AlQ × Bool := ((true, fn.map DefP.val, xs.map XiP.val), true)
structure SaysQ (file : Str) (ex : PySem.W.Frag → Bool) (fn : List DefP) (xs : List XiP) (tf : List He.Defn) (h : Heap) (K : PySem.W.Frag) : Prop where
  t : obQ file ex fn xs K = (true, fn.map DefP.val, xs.map XiP.val)
  hd : ∀ p ∈ tf, PySem.W.codeHdIn K (He.cT K p).1 (He.cT K p).2 = true
  out : ∀ p ∈ tf, K.lookup (He.cT K p).2 = none
  empty : ∀ p ∈ tf, h.get? (He.cT K p).2 = some { cls := .none, data := .fields #[] }
theorem saysQ_of {n : Nat} {file : Str} {ex : PySem.W.Frag → Bool} {fn : List DefP} {xs : List XiP} {tf : List He.Defn} {h : Heap} (e : obQG n file ex fn xs tf h.get? = vaQ fn xs) : SaysQ file ex fn xs tf h (frQ n h.get?) := by
  have e1 : obQ file ex fn xs (frQ n h.get?) = _ := congrArg (fun z : AlQ × Bool => z.1) e
  have e2 : He.tabsB h.get? tf (frQ n h.get?) = true := congrArg (fun z : AlQ × Bool => z.2) e
  have key : ∀ p ∈ tf, PySem.W.codeHdIn (frQ n h.get?) (He.cT (frQ n h.get?) p).1 (He.cT (frQ n h.get?) p).2 = true ∧ ∃ o, h.get? (He.cT (frQ n h.get?) p).2 = some o ∧ He.emptyTab o = true := fun p hp => by
    have q := List.all_eq_true.mp (show (tf.all fun p => PySem.W.codeHdIn (frQ n h.get?) (He.cT (frQ n h.get?) p).1 (He.cT (frQ n h.get?) p).2 && (match h.get? (He.cT (frQ n h.get?) p).2 with | some o => He.emptyTab o | none => false)) = true from e2) p hp
    obtain ⟨q1, q2⟩ := Bool.and_eq_true_iff.mp q
    refine ⟨q1, ?_⟩
    cases z : h.get? (He.cT (frQ n h.get?) p).2 with
    | none => rw [z] at q2; cases q2
    | some o => rw [z] at q2; exact ⟨o, rfl, q2⟩
  refine ⟨e1, fun p hp => (key p hp).1, fun p hp => ?_, fun p hp => ?_⟩
  · obtain ⟨_, o, q, z⟩ := key p hp
    exact He.frT_none q z
  · obtain ⟨_, o, q, z⟩ := key p hp
    rw [q, He.emptyTab_eq z]
def hookQ (n : Nat) (file : Str) (ex : PySem.W.Frag → Bool) (fn : List DefP) (xs : List XiP) (tf : List He.Defn) : PySem.W.Hook where
  α := AlQ × Bool
  obs := fun s => obQG n file ex fn xs tf s.heap.get?
  val := fun _ => vaQ fn xs
  says := fun _ h => ∃ K : PySem.W.Frag, K.In h ∧ SaysQ file ex fn xs tf h K
  of := fun _ _ e => ⟨_, He.frT_in, saysQ_of e⟩
  keeps := fun _ _ _ ⟨K, hK, c⟩ k => ⟨K, PySem.W.Frag.In.keeps hK k, ⟨c.t, c.hd, c.out, fun p hp => k _ _ (c.empty p hp)⟩⟩
theorem obQG_eq {n : Nat} {file : Str} {ex : PySem.W.Frag → Bool} {fn : List DefP} {xs : List XiP} {tf : List He.Defn} {g : Addr → Option Obj} {s : Shared} (h : ∀ a, g a = s.heap.get? a) : obQG n file ex fn xs tf g = (hookQ n file ex fn xs tf).obs s := by
  have e : g = s.heap.get? := funext h
  rw [e]
  rfl
section
variable {file : Str} {ex : PySem.W.Frag → Bool} {fn : List DefP} {xs : List XiP} {tf : List He.Defn} {h : Heap} {K : PySem.W.Frag}
theorem SaysQ.three (c : SaysQ file ex fn xs tf h K) : ex K = true ∧ (fn.all fun d => d.ok K) = true ∧ (xs.all fun d => d.ok file K) = true := by
  obtain ⟨h1, h2⟩ := Bool.and_eq_true_iff.mp (congrArg (fun z : AlQ => z.1) c.t)
  obtain ⟨h3, h4⟩ := Bool.and_eq_true_iff.mp h2
  exact ⟨h1, h3, h4⟩
theorem SaysQ.def_ (c : SaysQ file ex fn xs tf h K) (i : Nat) {d : DefP} (hi : fn[i]? = some d) : ∃ fd, FunD K d.name d.qual d.params d.body d.scope [] [] (d.at_ K) fd := by
  have e : fn.map (fun d => obF K (d.at_ K)) = fn.map DefP.val := congrArg (fun z : AlQ => z.2.1) c.t
  have e2 : (fn.map fun d => obF K (d.at_ K))[i]? = (fn.map DefP.val)[i]? := by rw [e]
  rw [List.getElem?_map, List.getElem?_map, hi] at e2
  exact DefP.fun_ (Option.some.inj e2) (List.all_eq_true.mp c.three.2.1 d (List.mem_of_getElem? hi))
theorem SaysQ.xi (c : SaysQ file ex fn xs tf h K) (i : Nat) {d : XiP} (hi : xs[i]? = some d) : obX K (d.at_ K) = d.val ∧ d.ok file K = true := by
  have e : xs.map (fun d => obX K (d.at_ K)) = xs.map XiP.val := congrArg (fun z : AlQ => z.2.2) c.t
  have e2 : (xs.map fun d => obX K (d.at_ K))[i]? = (xs.map XiP.val)[i]? := by rw [e]
  rw [List.getElem?_map, List.getElem?_map, hi] at e2
  exact ⟨Option.some.inj e2, List.all_eq_true.mp c.three.2.2 d (List.mem_of_getElem? hi)⟩
end
end Ev
set_option Elab.async false
set_option linter.all false
set_option maxRecDepth 100000
set_option maxHeartbeats 1000000
/-! *xs, y = a list -/
namespace Ev
open PySem PySem.Spec PyProof.Rows L2
def gStar (K : PySem.W.Frag) (t : TGs) : TG := fun v σ H Q => ∃ a xs z, v = .ref a ∧ SqL K H a xs ∧ xs.length ≤ 16384 ∧ xs.getLast? = some z ∧ ∀ p, H p = none → t [.ref p, z] σ (upd H p (.lst xs.dropLast)) Q
theorem paired_last : ∀ {xs : List V} {us : List Value} {z : V} {w : Value}, Vals xs us → xs.getLast? = some z → us.getLast? = some w → Vals xs.dropLast us.dropLast ∧ us.drop (us.length - 1) = [w] ∧ L2.RelV z w
  | _, _, z, w, .nil, e, _ => by cases e
  | _, _, z, w, .cons (a := a) (b := b) r .nil, e1, e2 => by
    cases e1
    cases e2
    exact ⟨.nil, rfl, r⟩
  | _, _, z, w, .cons (a := a) (b := b) r (.cons (a := a') (b := b') r' q), e1, e2 => by
    obtain ⟨h1, h2, h3⟩ := paired_last (.cons r' q) (by rw [List.getLast?_cons_cons] at e1; exact e1) (by rw [List.getLast?_cons_cons] at e2; exact e2)
    refine ⟨.cons r h1, ?_, h3⟩
    simp only [List.length_cons, Nat.add_sub_cancel] at h2 ⊢
    exact h2
section
variable {X : Cx}
theorem pg_star {x y : Str} {px ps py pos : Pos} {k : Nat} {t : TGs} (hc : X.calm = true) (h : PGs X [.Name x px, .Name y py] t) : PG X (.Tuple [.Starred (.Name x px) ps, .Name y py] k pos) (gStar X.K t) := by
  refine ⟨fun pins s σ H v u Q I r hw => ?_⟩
  obtain ⟨a, xs, z, e1, hq, hl, hz, hw⟩ := hw
  subst e1
  cases r
  obtain ⟨its, rv, pl, _⟩ := I.list hq
  have len : xs.length = its.length := rv.length
  have isl := pl.isList
  have hh := I.ok.hd hc
  rw [PyProof.Rows.assign_Tuple]
  refine wpAny_bind (wpAny_standAt ?_)
  unfold unpack
  rw [show (assignEach [.Starred (.Name x px) ps, .Name y py] X.env).length = 2 from rfl, show (assignEach [.Starred (.Name x px) ps, .Name y py] X.env).findIdx? (·.1) = some 0 from rfl]
  have hne : a ≠ s.heap.objs.size := by obtain ⟨o, ho, _⟩ := isl; exact Nat.ne_of_lt (Heap.lt_size ho)
  have hal : a < s.heap.objs.size := by obtain ⟨o, ho, _⟩ := isl; exact Heap.lt_size ho
  refine wpAny_bind (wpAny_holding ?_)
  unfold unpackItems
  refine wpAny_bind ?_
  unfold notIterableAtAll
  refine wpAny_bind (wpAny_specialOf isl.typeIs slot_list_iter.lookup ?_)
  refine wpAny_pure ?_
  simp only [Bool.false_eq_true, if_false]
  refine wpAny_bind (wpAny_holding (wpAny_pyIter_list isl ?_))
  refine wpAny_bind (wpAny_holding (PySem.W.kun_draw hne 0 0 _ _ ⟨_, Heap.get?_push_size _ rfl, rfl, rfl⟩ (isl.push _) (by omega) fun h₁ hit₁ hs₁ => ?_))
  have hl₁ : h₁.IsList a its.toArray := (isl.push _).extBut hs₁.extBut hne
  obtain ⟨w, ew⟩ : ∃ w, its.getLast? = some w := by
    cases its with
    | nil =>
      rw [List.length_nil] at len
      rw [List.length_eq_zero_iff.mp len] at hz
      cases hz
    | cons i r => exact ⟨_, List.getLast?_eq_some_getLast (List.cons_ne_nil _ _)⟩
  have pos1 : 1 ≤ its.length := by
    cases its with
    | nil => cases ew
    | cons i r => simp
  have hoi := hit₁
  obtain ⟨oi, hoi, _⟩ := hoi
  have hol := hl₁
  obtain ⟨ol, hol, _⟩ := hol
  show wpAny _ _ (if (([] : List Value).length < 0) then _ else _) _ _ _
  rw [if_neg (by simp)]
  refine wpAny_bind (wpAny_holding (PySem.W.kun_collect (s := { s with heap := h₁ }) (T := "list_iterator") (.inr (.inr (.inl rfl))) (Walks.list (A := X.A.in1) hh s.heap.objs.size a hne its.toArray) (fun j u st => st.1.typeIs) (k := 0) (Nat.zero_le _) ⟨hit₁, hl₁⟩ (Heap.lt_size hoi) (Heap.lt_size hol) (fun h₂ tk hk => ?_) (by rw [sizeLine_eq]; simp; omega)))
  rw [List.drop_zero]
  show wpAny _ _ (if its.toArray.toList.length < 1 then _ else _) _ _ _
  have ea : its.toArray.toList = its := by simp
  rw [ea, if_neg (by omega)]
  show wpAny _ _ (newList (its.take (its.length - 1)) >>= fun d => pure (([] : List Value) ++ [d] ++ its.drop (its.length - 1))) _ _ _
  have k2 : ∀ b o, s.heap.get? b = some o → h₂.get? b = some o := fun b o e => hk b o (Nat.ne_of_lt (Heap.lt_size e)) (hs₁.extBut b o (Nat.ne_of_lt (Heap.lt_size e)) (Heap.get?_push_of_some _ e))
  have I2 : L2.Inv X pins σ H { s with heap := h₂, toks := tk } := I.kept (t' := tk) k2
  refine wpAny_bind (wpAny_newList (wpAny_pure ?_) (by rw [sizeLine_eq]; simp; omega))
  have hf : H h₂.objs.size = none := I2.hok.fresh (Nat.le_refl _)
  have dl : its.take (its.length - 1) = its.dropLast := by rw [List.dropLast_eq_take]
  obtain ⟨rd, dr, rw_⟩ := paired_last rv hz ew
  have I3 : L2.Inv X pins σ (upd H h₂.objs.size (.lst xs.dropLast)) { s with heap := h₂.push { cls := .type "list", data := .seq (its.take (its.length - 1)).toArray }, toks := tk } := by
    refine I2.laid (t' := tk) (fun b u e => Heap.get?_push_of_some _ e) (Nat.le_refl _) ?_
    rw [dl]
    exact ⟨by rw [sizeLine_eq]; simp; omega, its.dropLast, 0, rd, Heap.get?_push_size _ rfl⟩
  rw [dr]
  exact h.run pins _ σ _ [.ref h₂.objs.size, z] [.ref h₂.objs.size, w] Q I3 (.cons rfl (.cons rw_ .nil)) (hw _ hf)
end
end Ev
set_option Elab.async false
set_option linter.all false
set_option maxRecDepth 100000
set_option maxHeartbeats 1000000
/-! texts -/
namespace Ev
open PySem PySem.Spec PyProof.Rows L2
def binX (op : Operator) (x y : AV) (h : AH) : R AV := match op, x, y with
  | .Add, .str a, .str b => (match lim (a.length + b.length) with
    | true => .ok (.str (a ++ b)) h
    | false => .bad)
  | .FloorDiv, .int i, .int j => (match decide (0 < j ∧ j.natAbs.log2 < 9000) with
    | true => .ok (.int (i / j)) h
    | false => .bad)
  | op, x, y => binA op x y h
def mBinX (op : Operator) (ma mb : ME) : ME := fun l h => (ma l h).bind fun x h1 => (mb l h1).bind fun y h2 => binX op x y h2
def slX (x : AV) (lo hi : Option Int) (h : AH) : R AV := match x with
  | .str z => (match lim z.length with
    | true => .ok (.str (cutS z lo hi)) h
    | false => .bad)
  | x => slA x lo hi h
def mSlX (ma : ME) (ml mh : Loc' → AH → R (Option Int)) : ME := fun l h => (ma l h).bind fun x h1 => (ml l h1).bind fun v h2 => (mh l h2).bind fun w h3 => slX x v w h3
def occ (j i : Str) : Bool := !(Builtin.Str.occurrences j i 0 j.length 1).isEmpty
def inX (neg : Bool) (x y : AV) (h : AH) : R AV := match x, y with
  | .str i, .str j => .ok (.bl (if neg then !occ j i else occ j i)) h
  | x, y => cmpA (if neg then .NotIn else .In) x y h
def mInX (neg : Bool) (ma mb : ME) : ME := fun l h => (ma l h).bind fun x h1 => (mb l h1).bind fun y h2 => inX neg x y h2
section
variable {X : Cx} {ca : Ca} {E : XK} {lv : Nat} {a b : Expr} {ma mb : ME} {pos : Pos}
theorem binX_ok (op : Operator) : OpR X (binaryOp op) (trOp2 (wd X ca E) (binX op)) := by
  intro pins s σ H x y v u Q I rx ry ⟨ro, μ, h, ax, ay, R, dx, dy, p⟩
  have old : post (wd X ca E) ro μ H (binA op ax ay h) Q → wpAny (model X.prog X.w) X.A (binaryOp op v u) (EP X pins σ Q) X.xe s := fun q => bin_ok op pins s σ H x y v u Q I rx ry ⟨ro, μ, h, ax, ay, R, dx, dy, q⟩
  cases op with
  | Add =>
    cases ax with
    | str i =>
      cases ay with
      | str j =>
        cases dx
        cases dy
        unfold binX at p
        dsimp only at p
        cases e : lim (i.length + j.length) with
        | false => rw [e] at p; exact False.elim p
        | true =>
          rw [e] at p
          exact op_add_str pins s σ H _ _ v u Q I rx ry ⟨i, j, rfl, rfl, lim_le e, postG.val R p (.str _)⟩
      | _ => exact old p
    | _ => exact old p
  | FloorDiv =>
    cases ax with
    | int i =>
      cases ay with
      | int j =>
        cases dx
        cases dy
        unfold binX at p
        dsimp only at p
        cases e : decide (0 < j ∧ j.natAbs.log2 < 9000) with
        | false => rw [e] at p; exact False.elim p
        | true =>
          rw [e] at p
          exact op_fdivW pins s σ H _ _ v u Q I rx ry ⟨i, j, rfl, rfl, (show CDivW i j from (of_decide_eq_true e : 0 < j ∧ j.natAbs.log2 < 9000)), postG.val R p (.int _)⟩
      | _ => exact old p
    | _ => exact old p
  | _ => exact old p
theorem gBinX {op : Operator} (ha : SimE X (wd X ca E) a ma) (hb : SimE X (wd X ca E) b mb) : SimE X (wd X ca E) (.BinOp a op b pos) (mBinX op ma mb) :=
  PE.weaken (pe_op (binX_ok op) ha hb) fun σ H Q ⟨ro, μ, l, h, A, p⟩ => go2 A p
theorem slX_ok : SlR X (fun x lo hi H Q => ∃ ro μ h v, RelH (wd X ca E) ro μ h H ∧ Den X.K μ H v x ∧ postG (dV (wd X ca E)) (wd X ca E) ro μ H (slX v lo hi h) Q) := by
  intro pins s σ H x v vl vu lo hi sl Q I rx hs pl pu ⟨ro, μ, h, ax, R, d, p⟩
  cases ax with
  | str z =>
    cases d
    unfold slX at p
    dsimp only at p
    cases e : lim z.length with
    | false => rw [e] at p; exact False.elim p
    | true =>
      rw [e] at p
      exact sl_str pins s σ H _ v vl vu lo hi sl Q I rx hs pl pu ⟨z, rfl, lim_le e, postG.val' R p (.str _)⟩
  | _ => exact sl_ok pins s σ H x v vl vu lo hi sl Q I rx hs pl pu ⟨ro, μ, h, _, R, d, p⟩
theorem inX_ok (hu : X.A.units + 65 < cLine) (neg : Bool) : OpR X (compareOp (if neg then .NotIn else .In)) (trOp2 (wd X ca E) (inX neg)) := by
  intro pins s σ H x y v u Q I rx ry ⟨ro, μ, h, ax, ay, R, dx, dy, p⟩
  have old : post (wd X ca E) ro μ H (cmpA (if neg then .NotIn else .In) ax ay h) Q → wpAny (model X.prog X.w) X.A (compareOp (if neg then .NotIn else .In) v u) (EP X pins σ Q) X.xe s := fun q => kin_ok hu pins s σ H x y v u Q I rx ry ⟨ro, μ, h, ax, ay, R, dx, dy, q⟩
  cases ax with
  | str i =>
    cases ay with
    | str j =>
      cases dx
      cases dy
      have q := postG.val R (show post (wd X ca E) ro μ H (.ok (.bl (if neg then !occ j i else occ j i)) h) Q from p) (.bl _)
      cases neg with
      | true => exact op_notin_str pins s σ H _ _ v u Q I rx ry ⟨i, j, rfl, rfl, q⟩
      | false => exact op_in_str pins s σ H _ _ v u Q I rx ry ⟨i, j, rfl, rfl, q⟩
    | _ => exact old p
  | _ => exact old p
theorem gSlX {lo hi : Option Expr} {ml mh : Loc' → AH → R (Option Int)} {p2 : Pos} (ha : SimE X (wd X ca E) a ma) (hl : SimO X (wd X ca E) lo ml) (hh : SimO X (wd X ca E) hi mh) : SimE X (wd X ca E) (.Subscript a (.Slice lo hi none p2) pos) (mSlX ma ml mh) :=
  PE.weaken (pe_slice slX_ok ha hl hh) fun σ H Q ⟨ro, μ, l, h, A, q⟩ => ⟨ro, μ, l, h, A, (bindP (dV _) A q).imp fun w H1 ⟨μ1, v, h1, A1, d1, st1, q1⟩ => ⟨ro, μ1, l, h1, A1, (bindP dO A1 q1).imp fun i H2 ⟨μ2, i', h2, A2, d2, st2, q2⟩ => ⟨ro, μ2, l, h2, A2, (bindP dO A2 q2).imp fun j H3 ⟨μ3, j', h3, A3, d3, st3, q3⟩ => by
    cases d2
    cases d3
    exact ⟨ro, μ3, h3, v, A3.R, A1.R.den (st2.trans st3) d1, q3⟩⟩⟩⟩
theorem gInX (c : CF X E lv) (ha : SimE X (wd X ca E) a ma) (hb : SimE X (wd X ca E) b mb) (hm : behindInMarks .In b = false := by rfl) : SimE X (wd X ca E) (.Compare a [.In] [b] pos) (mInX false ma mb) :=
  PE.weaken (pe_cmpR (inX_ok c.hu false) ha hb hm) fun σ H Q ⟨ro, μ, l, h, A, p⟩ => go2 A p
theorem gNiX (c : CF X E lv) (ha : SimE X (wd X ca E) a ma) (hb : SimE X (wd X ca E) b mb) (hm : behindInMarks .NotIn b = false := by rfl) : SimE X (wd X ca E) (.Compare a [.NotIn] [b] pos) (mInX true ma mb) :=
  PE.weaken (pe_cmpR (inX_ok c.hu true) ha hb hm) fun σ H Q ⟨ro, μ, l, h, A, p⟩ => go2 A p
/-! ### methods of texts -/
def splitA (x y : AV) (h : AH) : R AV := match x, y with
  | .str a, .str b => (match !(b.length == 0) && lim (a.length + 2) with
    | true => (match lim (Txt.split a b).length with
      | true => alloc h (.lst ((Txt.split a b).map .str))
      | false => .bad)
    | false => .bad)
  | _, _ => .bad
def partA (x y : AV) (h : AH) : R AV := match x, y with
  | .str a, .str b => (match !(b.length == 0) && lim a.length with
    | true => .ok (.tup [.str (Txt.partition a b).1, .str (Txt.partition a b).2.1, .str (Txt.partition a b).2.2]) h
    | false => .bad)
  | _, _ => .bad
def strsA : List AV → Option (List Str)
  | [] => some []
  | .str x :: r => (strsA r).map (x :: ·)
  | _ :: _ => none
def joinA (x y : AV) (h : AH) : R AV := match x, y with
  | .str a, .obj n => (match h.get n with
    | some (.lst xs) => (match strsA xs with
      | some ys => (match Nat.ble ((ys.map (·.length)).sum + ys.length * a.length) 16777216 with
        | true => .ok (.str (Txt.join a ys)) h
        | false => .bad)
      | none => .bad)
    | _ => .bad)
  | _, _ => .bad
def indexA (x y : AV) (h : AH) : R AV := match x, y with
  | .str a, .str b => (match Builtin.Str.occurrences a b 0 a.length 1 with
    | i :: _ => .ok (.int (i : Nat)) h
    | [] => .bad)
  | _, _ => .bad
/-- a method of a text: the text is looked at first -/
def mTm (f : AV → AV → AH → R AV) (ma mb : ME) : ME := fun l h => (ma l h).bind fun x h1 => match x with
  | .str z => (mb l h1).bind fun y h2 => f (.str z) y h2
  | _ => .bad
theorem den_strs {K : PySem.W.Frag} {μ : Mu} {H : Hp} : ∀ ys : List Str, DenL K μ H (ys.map AV.str) (ys.map V.str)
  | [] => .nil
  | y :: r => .cons (.str y) (den_strs r)
theorem strs_den {K : PySem.W.Frag} {μ : Mu} {H : Hp} : ∀ {xs : List AV} {vs : List V} {ys : List Str}, DenL K μ H xs vs → strsA xs = some ys → vs = ys.map V.str
  | _, _, ys, .nil, e => by cases e; rfl
  | _, _, ys, .cons (x := x) (xs := xs) d r, e => by
    cases x with
    | str z =>
      cases d
      have e : (strsA xs).map (z :: ·) = some ys := e
      cases q : strsA xs with
      | none => rw [q] at e; cases e
      | some zs =>
        rw [q] at e
        cases e
        rw [strs_den r q]
        rfl
    | _ => cases e
theorem gTm {f : AV → AV → AH → R AV} {r : V → List V → Hp → VK → Prop} {x : Expr} {e : Expr}
    (he : PE X x (tM1 r (tE (wd X ca E) ma) (tE (wd X ca E) mb)))
    (hr : ∀ (z : Str) (ro : Nat) (μ : Mu) (h : AH) (H : Hp) (y : V) (ay : AV) (Q : VK), RelH (wd X ca E) ro μ h H → Den X.K μ H ay y → postG (dV (wd X ca E)) (wd X ca E) ro μ H (f (.str z) ay h) Q → r (.str z) [y] H Q) : SimE X (wd X ca E) x (mTm f ma mb) :=
  PE.weaken he fun σ H Q ⟨ro, μ, l, h, A, p⟩ => ⟨ro, μ, l, h, A, (bindP (dV _) A p).imp fun u H1 ⟨μ1, v, h1, A1, d1, st1, q1⟩ => by
    cases v with
    | str z =>
      cases d1
      exact ⟨⟨z, rfl⟩, ro, μ1, l, h1, A1, (bindP (dV _) A1 q1).imp fun y H2 ⟨μ2, ay, h2, A2, d2, st2, q2⟩ => hr z ro μ2 h2 H2 y ay Q A2.R d2 q2⟩
    | _ => exact False.elim q1⟩
theorem gSplit {o e : Expr} {apos : Pos} (ho : SimE X (wd X ca E) o ma) (he : SimE X (wd X ca E) e mb) (hs : starEach [e] X.env = [(false, eval e X.env)] := by rfl) (hbase : attributeBase o "split" X.env (eval o X.env) = eval o X.env := by rfl) (hline : (apos.endLine == pos.line) = true := by rfl) :
    SimE X (wd X ca E) (.Call (.Attribute o "split" apos) [e] [] pos) (mTm splitA ma mb) :=
  gTm (e := e) (pe_split ho he hs hbase hline) fun z ro μ h H y ay Q R d p => by
    cases ay with
    | str w =>
      cases d
      unfold splitA at p
      dsimp only at p
      cases e1 : !(w.length == 0) && lim (z.length + 2) with
      | false => rw [e1] at p; exact False.elim p
      | true =>
        rw [e1] at p
        dsimp only at p
        obtain ⟨c1, c2⟩ := Bool.and_eq_true_iff.mp e1
        cases e2 : lim (Txt.split z w).length with
        | false => rw [e2] at p; exact False.elim p
        | true =>
          rw [e2] at p
          obtain ⟨_, q⟩ := postG.alloc R p
          refine ⟨z, w, rfl, rfl, by simpa using c1, lim_le c2, fun c hc => q c _ hc ⟨by rw [List.length_map]; exact lim_le e2, _, upd_same, den_strs _⟩⟩
    | _ => exact False.elim p
theorem gPart {o e : Expr} {apos : Pos} (ho : SimE X (wd X ca E) o ma) (he : SimE X (wd X ca E) e mb) (hs : starEach [e] X.env = [(false, eval e X.env)] := by rfl) (hbase : attributeBase o "partition" X.env (eval o X.env) = eval o X.env := by rfl) (hline : (apos.endLine == pos.line) = true := by rfl) :
    SimE X (wd X ca E) (.Call (.Attribute o "partition" apos) [e] [] pos) (mTm partA ma mb) :=
  gTm (e := e) (pe_partition ho he hs hbase hline) fun z ro μ h H y ay Q R d p => by
    cases ay with
    | str w =>
      cases d
      unfold partA at p
      dsimp only at p
      cases e1 : !(w.length == 0) && lim z.length with
      | false => rw [e1] at p; exact False.elim p
      | true =>
        rw [e1] at p
        obtain ⟨c1, c2⟩ := Bool.and_eq_true_iff.mp e1
        exact ⟨z, w, rfl, rfl, by simpa using c1, lim_le c2, fun c hc => p μ _ _ (Step.laid hc) (R.laid hc) (.tup (SqT.of upd_same) (.cons (.str _) (.cons (.str _) (.cons (.str _) .nil))))⟩
    | _ => exact False.elim p
theorem gJoin {o e : Expr} {apos : Pos} (ho : SimE X (wd X ca E) o ma) (he : SimE X (wd X ca E) e mb) (hs : starEach [e] X.env = [(false, eval e X.env)] := by rfl) (hbase : attributeBase o "join" X.env (eval o X.env) = eval o X.env := by rfl) (hline : (apos.endLine == pos.line) = true := by rfl) :
    SimE X (wd X ca E) (.Call (.Attribute o "join" apos) [e] [] pos) (mTm joinA ma mb) :=
  gTm (e := e) (pe_join ho he hs hbase hline) fun z ro μ h H y ay Q R d p => by
    cases ay with
    | obj n =>
      cases d with
      | @obj n a hn =>
        obtain ⟨o, ho, r1⟩ := R.there hn
        unfold joinA at p
        dsimp only at p
        rw [ho] at p
        cases o with
        | lst xs =>
          dsimp only at p
          obtain ⟨hz, vs, e1, dl⟩ := r1
          cases e2 : strsA xs with
          | none => rw [e2] at p; exact False.elim p
          | some ys =>
            rw [e2] at p
            dsimp only at p
            cases e3 : Nat.ble ((ys.map (·.length)).sum + ys.length * z.length) 16777216 with
            | false => rw [e3] at p; exact False.elim p
            | true =>
              rw [e3] at p
              refine ⟨z, a, ys, rfl, rfl, .inl (SqL.of (by rw [← strs_den dl e2]; exact e1)), Nat.le_of_ble_eq_true e3, postG.val' R p (.str _)⟩
        | _ => exact False.elim p
    | _ => exact False.elim p
end
end Ev
set_option Elab.async false
set_option linter.all false
set_option maxRecDepth 100000
set_option maxHeartbeats 1000000
/-! texts: f-strings, numbers as texts; stars; items of lists -/
namespace Ev
open PySem PySem.Spec PyProof.Rows L2
def mFmt (ma : ME) : ME := fun l h => (ma l h).bind fun x h1 => match x with
  | .str y => (match lim y.length with
    | true => .ok (.str y) h1
    | false => .bad)
  | .int i => (match decide (i.natAbs.log2 < 1920) with
    | true => .ok (.str (toString i)) h1
    | false => .bad)
  | _ => .bad
def jsM : List ME → Str → ME
  | [], acc => fun _ h => .ok (.str acc) h
  | m :: ms, acc => fun l h => (m l h).bind fun x h1 => match x with
    | .str y => (match lim (acc ++ y).length with
      | true => jsM ms (acc ++ y) l h1
      | false => .bad)
    | _ => .bad
def mJs (ms : List ME) : ME := jsM ms Str.empty
/-- str of an int -/
def strA : List AV → AH → R AV := fun vs h => match vs with
  | [.int i] => (match decide (i.natAbs.log2 < 1920) with
    | true => .ok (.str (toString i)) h
    | false => .bad)
  | _ => .bad
/-- int of an int or a text -/
def intX : List AV → AH → R AV := fun vs h => match vs with
  | [.int i] => .ok (.int i) h
  | [.str a] => (match PySem.intText? a, Nat.ble a.length 640 with
    | some n, true => .ok (.int n) h
    | _, _ => .bad)
  | _ => .bad
def aS (ma : ME) (ms : Loc' → AH → R (List AV)) : Loc' → AH → R (List AV) := fun l h => (ma l h).bind fun x h1 => match itemsIn h1 x with
  | some xs => (ms l h1).bind fun ys h2 => .ok (xs ++ ys) h2
  | none => .bad
def mStar (i j : Nat) (ma : ME) : MS := fun l h => (ma l h).toS fun v h1 => match v with
  | .obj n => (match h1.get n with
    | some (.lst xs) => (match xs.getLast?, Nat.ble xs.length 16384 with
      | some z, true => (alloc h1 (.lst xs.dropLast)).toS fun u h2 => .nx ((l.set i (some u)).set j (some z)) h2
      | _, _ => .bad)
    | _ => .bad)
  | _ => .bad
def setLA (x y v : AV) (h : AH) : R AV := match x, y with
  | .obj n, .int i => (match h.get n with
    | some (.lst xs) => (match Nat.ble h.ro n, ixN xs.length i with
      | true, some j => .ok .non (h.set n (.lst (xs.set j v)))
      | _, _ => .bad)
    | _ => .bad)
  | _, _ => .bad
def mPutL (md mk mv : ME) : MS := fun l h => (mv l h).toS fun v h1 => (md l h1).toS fun x h2 => (mk l h2).toS fun y h3 => (setLA x y v h3).toS fun _ h4 => .nx l h4
section
variable {X : Cx} {ca : Ca} {E : XK} {lv : Nat} {a b e o : Expr} {es : List Expr} {ma mb : ME} {ms : Loc' → AH → R (List AV)} {pos p : Pos}
theorem gFmt (ha : SimE X (wd X ca E) a ma) : SimE X (wd X ca E) (.FormattedValue a (-1) none pos) (mFmt ma) :=
  PE.weaken (pe_fmt ha) fun σ H Q ⟨ro, μ, l, h, A, q⟩ => ⟨ro, μ, l, h, A, (bindP (dV _) A q).imp fun u H1 ⟨μ1, v, h1, A1, d1, st1, q1⟩ => by
    cases d1 with
    | str y =>
      dsimp only at q1
      cases e : lim y.length with
      | false => rw [e] at q1; exact False.elim q1
      | true => rw [e] at q1; exact .inl ⟨y, rfl, lim_le e, postG.val A1.R q1 (.str _)⟩
    | int i =>
      dsimp only at q1
      cases e : decide (i.natAbs.log2 < 1920) with
      | false => rw [e] at q1; exact False.elim q1
      | true => rw [e] at q1; exact .inr ⟨i, rfl, of_decide_eq_true e, postG.val A1.R q1 (.str _)⟩
    | _ => exact False.elim q1⟩
inductive SimJ (X : Cx) (W : Wd) : List Expr → List ME → Prop where
  | nil : SimJ X W [] []
  | cons {e : Expr} {m : ME} {es : List Expr} {ms : List ME} (h : SimE X W e m) (r : SimJ X W es ms) : SimJ X W (e :: es) (m :: ms)
theorem SimJ.pj {W : Wd} : ∀ {es : List Expr} {ms : List ME}, SimJ X W es ms → PJ X es (ms.map (tE W))
  | _, _, .nil => .nil
  | _, _, .cons h r => .cons h r.pj
theorem js_t {W : Wd} : ∀ (ms : List ME) (acc : Str) (σ : L2.St) (H : Hp) (Q : VK), tE W (jsM ms acc) σ H Q → tJs (ms.map (tE W)) acc σ H fun out H1 => Q (.str out) H1
  | [], acc, σ, H, Q, ⟨ro, μ, l, h, A, q⟩ => postG.val A.R q (.str _)
  | m :: ms, acc, σ, H, Q, ⟨ro, μ, l, h, A, q⟩ => ⟨ro, μ, l, h, A, (bindP (dV _) A (show postG (dV W) W ro μ H ((m l h).bind fun x h1 => match x with | .str y => (match lim (acc ++ y).length with | true => jsM ms (acc ++ y) l h1 | false => .bad) | _ => .bad) Q from q)).imp fun u H1 ⟨μ1, v, h1, A1, d1, st1, q1⟩ => by
      cases d1 with
      | str y =>
        dsimp only at q1
        cases e : lim (acc ++ y).length with
        | false => rw [e] at q1; exact False.elim q1
        | true => rw [e] at q1; exact ⟨y, rfl, lim_le e, js_t ms (acc ++ y) σ H1 Q ⟨ro, μ1, l, h1, A1, q1⟩⟩
      | _ => exact False.elim q1⟩
theorem gJs {v1 v2 : Expr} {rest : List Expr} {ms : List ME} (h : SimJ X (wd X ca E) (v1 :: v2 :: rest) ms) : SimE X (wd X ca E) (.JoinedStr (v1 :: v2 :: rest) pos) (mJs ms) :=
  PE.weaken (pe_joined h.pj) fun σ H Q q => js_t ms Str.empty σ H Q q
theorem gIndex {apos : Pos} (ho : SimE X (wd X ca E) o ma) (he : SimE X (wd X ca E) e mb) (hs : starEach [e] X.env = [(false, eval e X.env)] := by rfl) (hbase : attributeBase o "index" X.env (eval o X.env) = eval o X.env := by rfl) (hline : (apos.endLine == pos.line) = true := by rfl) :
    SimE X (wd X ca E) (.Call (.Attribute o "index" apos) [e] [] pos) (mTm indexA ma mb) :=
  gTm (e := e) (pe_m1 F.slot_str_index F.type_str_index mt_sindex ho he hs hbase hline) fun z ro μ h H y ay Q R d p => by
    cases ay with
    | str w =>
      cases d
      unfold indexA at p
      dsimp only at p
      cases e1 : Builtin.Str.occurrences z w 0 z.length 1 with
      | nil => rw [e1] at p; exact False.elim p
      | cons i r =>
        rw [e1] at p
        exact ⟨z, w, i, r, rfl, rfl, e1, postG.val' R p (.int _)⟩
    | _ => exact False.elim p
theorem call_strA : CallR X (.type "str") (trC (wd X ca E) strA) := by
  intro pins s σ H xs us Q I r ⟨ro, μ, h, args, R, d, p⟩
  cases d with
  | nil => exact False.elim p
  | @cons x v _ _ d1 d2 =>
    cases d2 with
    | cons _ _ => cases d1 <;> exact False.elim p
    | nil =>
      cases d1 with
      | int i =>
        unfold strA at p
        dsimp only at p
        cases e : decide (i.natAbs.log2 < 1920) with
        | false => rw [e] at p; exact False.elim p
        | true =>
          rw [e] at p
          exact call_str_int pins s σ H _ us Q I r ⟨i, rfl, of_decide_eq_true e, postG.val R p (.str _)⟩
      | _ => exact False.elim p
theorem call_intX : CallR X (.type "int") (trC (wd X ca E) intX) := by
  intro pins s σ H xs us Q I r ⟨ro, μ, h, args, R, d, p⟩
  cases d with
  | nil => exact False.elim p
  | @cons x v _ _ d1 d2 =>
    cases d2 with
    | cons _ _ => cases d1 <;> exact False.elim p
    | nil =>
      cases d1 with
      | int i => exact call_int1 pins s σ H _ us Q I r (.inl ⟨i, rfl, postG.val R (show postG (dV (wd X ca E)) _ ro μ H (.ok (.int i) h) Q from p) (.int _)⟩)
      | str a =>
        unfold intX at p
        dsimp only at p
        cases e1 : PySem.intText? a with
        | none => rw [e1] at p; exact False.elim p
        | some n =>
          rw [e1] at p
          cases e2 : Nat.ble a.length 640 with
          | false => rw [e2] at p; exact False.elim p
          | true =>
            rw [e2] at p
            exact call_int_str pins s σ H _ us Q I r ⟨a, n, rfl, e1, Nat.le_of_ble_eq_true e2, postG.val R p (.int _)⟩
      | _ => exact False.elim p
theorem gStr (hm : X.mg "str" = none) (ha : SimE X (wd X ca E) a ma) (hg : Gl X "str" := by rfl) (hs : notStar a = true := by rfl) : SimE X (wd X ca E) (.Call (.Name "str" p) [a] [] pos) (mB1 strA ma) := sim_Ty1 call_strA hg hm bt_str ha hs (by decide) (by decide)
theorem gIntX (hm : X.mg "int" = none) (ha : SimE X (wd X ca E) a ma) (hg : Gl X "int" := by rfl) (hs : notStar a = true := by rfl) : SimE X (wd X ca E) (.Call (.Name "int" p) [a] [] pos) (mB1 intX ma) := sim_Ty1 call_intX hg hm bt_int ha hs (by decide) (by decide)
theorem gMax2 (c : CF X E lv) (hm : X.mg "max" = none) (ha : SimA X (wd X ca E) [a, b] ms) (hg : Gl X "max" := by rfl) (hs : [a, b].all notStar = true := by rfl) : SimE X (wd X ca E) (.Call (.Name "max" p) [a, b] [] pos) (mBs (biA .max2) ms) := sim_B (call_maxA c.calm) hg hm bt_max ha hs (by decide) (by decide)
theorem gMin2 (c : CF X E lv) (hm : X.mg "min" = none) (ha : SimA X (wd X ca E) [a, b] ms) (hg : Gl X "min" := by rfl) (hs : [a, b].all notStar = true := by rfl) : SimE X (wd X ca E) (.Call (.Name "min" p) [a, b] [] pos) (mBs (biA .min2) ms) := sim_B (call_minA c.calm) hg hm bt_min ha hs (by decide) (by decide)
theorem gIsi2 (n m : Ty) {y z : Str} {k : Nat} {p2 p3 p4 : Pos} (hm : X.mg "isinstance" = none) (hym : X.mg y = none) (hyv : bootBuiltins y = some (.type n.name)) (hzm : X.mg z = none) (hzv : bootBuiltins z = some (.type m.name)) (ha : SimE X (wd X ca E) a ma) (hn : n ≠ .nt := by decide) (hn' : m ≠ .nt := by decide) (hg : Gl X "isinstance" := by rfl) (hs : notStar a = true := by rfl) (hy : Gl X y := by rfl) (hy1 : y ≠ "__name__" := by decide) (hy2 : (y == ("__debug__" : Str)) = false := by decide) (hz : Gl X z := by rfl) (hz1 : z ≠ "__name__" := by decide) (hz2 : (z == ("__debug__" : Str)) = false := by decide) :
    SimE X (wd X ca E) (.Call (.Name "isinstance" p) [a, .Tuple [.Name y p2, .Name z p3] k p4] [] pos) (mIsi ma (.tys n m)) := sim_isi2 hg hm ha hs hn hn' hy hym hyv hy1 hy2 hz hzm hzv hz1 hz2
theorem gNew0 (c : CF X E lv) {n k : Nat} {g : Addr} {x : Str} {F : Fn} (hm : X.mg x = some (.ref (ca k))) (M : Mk X.K (ca k) g) (hf : FnW X.prog X.w X.K X.mg X.base ca n F g) (hl : n + 1 ≤ lv := by decide) (hg : Gl X x := by rfl) (hd : (x == ("__debug__" : Str)) = false := by decide) :
    SimE X (wd X ca E) (.Call (.Name x p) [] [] pos) (newM k F a0) := sim_new0 M (c.to (n + 1) hl) c.tk hg hm hf.s hd
theorem tInX (c : CF X E lv) (ha : SimE X (wd X ca E) a ma) (hb : SimE X (wd X ca E) b mb) (hm : behindInMarks .In b = false := by rfl) : SimT X (wd X ca E) (.Compare a [.In] [b] pos) (mInX false ma mb) :=
  PT.weaken (pt_cmpR (inX_ok c.hu false) ha hb hm) fun σ H Q ⟨ro, μ, l, h, A, p⟩ => go2 A (bool_of p)
theorem tNiX (c : CF X E lv) (ha : SimE X (wd X ca E) a ma) (hb : SimE X (wd X ca E) b mb) (hm : behindInMarks .NotIn b = false := by rfl) : SimT X (wd X ca E) (.Compare a [.NotIn] [b] pos) (mInX true ma mb) :=
  PT.weaken (pt_cmpR (inX_ok c.hu true) ha hb hm) fun σ H Q ⟨ro, μ, l, h, A, p⟩ => go2 A (bool_of p)
/-! stars -/
theorem items_sq {ro : Nat} {μ : Mu} {h : AH} {H : Hp} {x : AV} {v : V} {xs : List AV} (R : RelH (wd X ca E) ro μ h H) (d : Den X.K μ H x v) (e : itemsIn h x = some xs) : ∃ q vs, v = .ref q ∧ (SqT X.K H q vs ∨ SqL X.K H q vs) ∧ DenL X.K μ H xs vs := by
  cases d with
  | @tup q vs ys sq dl => cases e; exact ⟨q, vs, rfl, .inl sq, dl⟩
  | @obj n q hn =>
    obtain ⟨o, ho, r⟩ := R.there hn
    unfold itemsIn at e
    dsimp only at e
    rw [ho] at e
    cases o with
    | lst ys =>
      obtain ⟨_, vs, h1, h2⟩ := r
      cases e
      exact ⟨q, vs, rfl, .inr (SqL.of h1), h2⟩
    | _ => cases e
  | _ => cases e
theorem gStarA {sp : Pos} (ha : SimE X (wd X ca E) a ma) (hr : SimA X (wd X ca E) es ms) (hs : starEach (.Starred a sp :: es) X.env = (true, eval a X.env) :: starEach es X.env := by rfl) : SimA X (wd X ca E) (.Starred a sp :: es) (aS ma ms) :=
  PA.weaken (StX.pa_star ha hr hs) fun σ H Q ⟨ro, μ, l, h, A, q⟩ => ⟨ro, μ, l, h, A, (bindP (dV _) A q).imp fun u H1 ⟨μ1, v, h1, A1, d1, st1, q1⟩ => by
    cases e : itemsIn h1 v with
    | none => rw [e] at q1; exact False.elim q1
    | some xs =>
      rw [e] at q1
      obtain ⟨r, vs, e1, sq, dl⟩ := items_sq A1.R d1 e
      refine ⟨r, vs, e1, sq, ro, μ1, l, h1, A1, (bindP (dL _) A1 q1).imp fun us H2 ⟨μ2, ys, h2, A2, d2, st2, q2⟩ => postG.val A2.R q2 ((A1.R.denL st2 dl).append d2)⟩⟩
theorem den_last {K : PySem.W.Frag} {μ : Mu} {H : Hp} {xs : List AV} {vs : List V} {z : AV} (d : DenL K μ H xs vs) (e : xs.getLast? = some z) : (∃ u, vs.getLast? = some u ∧ Den K μ H z u) ∧ DenL K μ H xs.dropLast vs.dropLast := by
  rw [List.getLast?_eq_getElem?] at e
  obtain ⟨u, h1, h2⟩ := d.get e
  refine ⟨⟨u, by rw [List.getLast?_eq_getElem?, ← d.length]; exact h1, h2⟩, ?_⟩
  rw [List.dropLast_eq_take, List.dropLast_eq_take, ← d.length]
  exact d.take _
theorem xStar (c : CF X E lv) (i j : Nat) {x y : Str} {px ps py tpos : Pos} {k : Nat} (he : SimE X (wd X ca E) e ma) (hi : X.N[i]? = some x := by rfl) (hj : X.N[j]? = some y := by rfl) (hx : Loc X.env.scope x := by first | exact Or.inl rfl | exact Or.inr rfl) (hy : Loc X.env.scope y := by first | exact Or.inl rfl | exact Or.inr rfl) (hf : X.fn x = true ∨ X.env.scope.names.lookup x = some .local := by first | exact Or.inl rfl | exact Or.inr rfl) (hf2 : X.fn y = true ∨ X.env.scope.names.lookup y = some .local := by first | exact Or.inl rfl | exact Or.inr rfl)
    (hs : swapsWithSole [.Tuple [.Starred (.Name x px) ps, .Name y py] k tpos] e pos.line X.env = pure false := by rfl) (hw : swappedStores [.Tuple [.Starred (.Name x px) ps, .Name y py] k tpos] e X.env = pure none := by rfl)
    (h1 : (assignEach [.Tuple [.Starred (.Name x px) ps, .Name y py] k tpos] X.env).map (·.2) = [assign (.Tuple [.Starred (.Name x px) ps, .Name y py] k tpos) X.env] := by rfl) :
    SimS X (wd X ca E) (.Assign [.Tuple [.Starred (.Name x px) ps, .Name y py] k tpos] e pos) (mStar i j ma) :=
  PS.weaken (ps_asg he (pg_star c.calm (pgs_cons (pg_name c.nd hi hx hf) (pgs_cons (pg_name c.nd hj hy hf2) pgs_nil))) hs hw h1) fun D σ H ⟨ro, μ, l, h, A, q⟩ => ⟨ro, μ, l, h, A, (toS_P (dV _) A q).imp fun u H1 ⟨μ1, v, h1, A1, d, st, q⟩ => by
    cases d with
    | @obj n r hn =>
      obtain ⟨o, ho, ro'⟩ := A1.R.there hn
      dsimp only at q
      rw [ho] at q
      cases o with
      | lst xs =>
        obtain ⟨hz, vs, h2, dl⟩ := ro'
        dsimp only at q
        cases e1 : xs.getLast? with
        | none => rw [e1] at q; exact False.elim q
        | some z =>
          rw [e1] at q
          cases e2 : Nat.ble xs.length 16384 with
          | false => rw [e2] at q; exact False.elim q
          | true =>
            rw [e2] at q
            dsimp only at q
            obtain ⟨⟨w, e3, dw⟩, dd⟩ := den_last dl e1
            refine ⟨r, vs, w, rfl, SqL.of h2, by rw [← dl.length]; exact Nat.le_of_ble_eq_true e2, e3, fun p hp => ?_⟩
            obtain ⟨_, q3⟩ := postG.alloc A1.R (toS_P (dV _) A1 q)
            obtain ⟨μ2, v2, h3, A2, d2, st2, q4⟩ := q3 p (.lst vs.dropLast) hp ⟨by rw [List.length_dropLast]; omega, _, upd_same, A1.R.denL (Step.laid hp) dd⟩
            exact ⟨_, _, rfl, _, _, rfl, rfl, q4 μ2 _ _ Step.refl ⟨(A2.L.set d2).set (A1.R.den st2 dw), A2.R⟩⟩
      | _ => exact False.elim q
    | _ => exact False.elim q⟩
/-! an item of a list is set -/
theorem set_den {K : PySem.W.Frag} {μ : Mu} {H : Hp} : ∀ {xs : List AV} {vs : List V} {j : Nat} {x : AV} {v : V}, DenL K μ H xs vs → Den K μ H x v → DenL K μ H (xs.set j x) (vs.set j v)
  | _, _, _, _, _, .nil, _ => .nil
  | _, _, 0, _, _, .cons d r, q => .cons q r
  | _, _, j + 1, _, _, .cons d r, q => .cons d (set_den r q)
theorem setLA_ok : PSet X (fun o i v H Q => ∃ ro μ h ao ai av, RelH (wd X ca E) ro μ h H ∧ Den X.K μ H ao o ∧ Den X.K μ H ai i ∧ Den X.K μ H av v ∧ postG (dV (wd X ca E)) (wd X ca E) ro μ H (setLA ao ai av h) fun _ H' => Q H') := by
  intro pins s σ H o i v ov iv u Q I r1 r2 r3 ⟨ro, μ, h, ao, ai, av, R, d1, d2, d3, q⟩
  cases d1 with
  | @obj n r hn =>
    cases d2 with
    | int k =>
      obtain ⟨ob, ho, ro'⟩ := R.there hn
      unfold setLA at q
      dsimp only at q
      rw [ho] at q
      cases ob with
      | lst xs =>
        dsimp only at q
        obtain ⟨hz, vs, h2, dl⟩ := ro'
        cases e1 : Nat.ble h.ro n with
        | false => rw [e1] at q; exact False.elim q
        | true =>
          rw [e1] at q
          cases e2 : ixN xs.length k with
          | none => rw [e2] at q; exact False.elim q
          | some j =>
            rw [e2] at q
            have hr : ro ≤ n := by have := Nat.le_of_ble_eq_true e1; rw [R.roe] at this; exact this
            refine set_list pins s σ H _ _ _ ov iv u Q I r1 r2 r3 ⟨r, vs, k, j, rfl, rfl, h2, by rw [← dl.length]; exact e2, ?_⟩
            exact lst_put (x := .non) (u := .non) R hn ho h2 hr (by rw [List.length_set]; exact hz) (set_den dl d3) .non q
      | _ => exact False.elim q
    | _ => exact False.elim q
  | _ => exact False.elim q
theorem xPutL {mo mk mv : ME} (ho : SimE X (wd X ca E) o mo) (hk : SimE X (wd X ca E) a mk) (hv : SimE X (wd X ca E) e mv) (hs : swapsWith e (some (.Subscript o a p)) pos.line X.env = pure false := by rfl) :
    SimS X (wd X ca E) (.Assign [.Subscript o a p] e pos) (mPutL mo mk mv) := by
  refine ⟨fun pins s σ H D I ⟨ro, μ, l, h, A, p⟩ => ?_⟩
  refine wpAny_Assign_Subscript (thn (hv.run pins s σ H _ I ⟨ro, μ, l, h, A, toS_P (dV _) A p⟩) fun r s1 ⟨v, H1, I1, rv, μ1, vx, h1, A1, d1, st1, p1⟩ => thn (ho.run pins s1 σ H1 _ I1 ⟨ro, μ1, l, h1, A1, toS_P (dV _) A1 p1⟩) fun u s2 ⟨x, H2, I2, rx, μ2, dx, h2, A2, d2, st2, p2⟩ =>
    thn (hk.run pins s2 σ H2 _ I2 ⟨ro, μ2, l, h2, A2, toS_P (dV _) A2 p2⟩) fun iv s3 ⟨y, H3, I3, ry, μ3, kx, h3, A3, d3, st3, p3⟩ => ?_) hs
  refine thn (setLA_ok pins s3 σ H3 x y v u iv r (fun H4 => D.nx σ H4) I3 rx ry rv ⟨ro, μ3, h3, dx, kx, vx, A3.R, A2.R.den st3 d2, d3, A1.R.den (st2.trans st3) d1, (toS_P (dV _) A3 p3).imp fun w H4 ⟨μ4, z, h4, A4, d4, st4, q4⟩ => q4 μ4 σ H4 Step.refl A4⟩) fun _ s4 ⟨H4, I4, q4⟩ => ⟨σ, H4, I4, q4⟩
end
end Ev
set_option Elab.async false
set_option linter.all false
set_option maxRecDepth 100000
set_option maxHeartbeats 1000000
/-! o.f, o.g = a tuple; o.f += e -/
namespace Ev
open PySem PySem.Spec PyProof.Rows L2
def mtAs : List (ME × List (Nat × Nat)) → List AV → Loc' → AH → RS
  | [], xs, l, h => (match xs with
    | [] => .nx l h
    | _ :: _ => .bad)
  | (mo, alts) :: r, xs, l, h => (match xs with
    | [] => .bad
    | v :: vs => (mo l h).toS fun x h1 => (setA x alts v h1).toS fun _ h2 => mtAs r vs l h2)
def mAsA (ts : List (ME × List (Nat × Nat))) (me : ME) : MS := fun l h => (me l h).toS fun v h1 => match v with
  | .tup xs => (match Nat.beq xs.length ts.length with
    | true => mtAs ts xs l h1
    | false => .bad)
  | _ => .bad
section
variable {X : Cx} {ca : Ca} {E : XK} {lv : Nat} {o e : Expr} {f : Str} {pos tpos : Pos}
/-- o.f as a target -/
def gSlT (K : PySem.W.Frag) (ta : TE) (f : Str) : TG := fun v σ H Q => ta σ H fun x H1 => ∃ a C dx p vs i, x = .ref a ∧ SlX.Slt H1 a C dx vs ∧ SlX.SCls K C ∧ SlX.Slot1 K C f p i ∧ Q σ (SlX.slH H1 a C dx (SlX.putS i v vs))
theorem pg_slT {ta : TE} (ha : PE X o ta) : PG X (.Attribute o f pos) (gSlT X.K ta f) := by
  refine ⟨fun pins s σ H v u Q I r h => ?_⟩
  rw [assign_Attribute]
  refine wpAny_bind (wpAny_holding (thn (ha.run pins s σ H _ I h) fun ov s1 ⟨x, H1, I1, rx, a, C, dx, p, vs, i, ex, hsl, c, t, q⟩ => ?_))
  subst ex
  obtain rfl : ov = Value.ref a := rx
  refine wpAny_bind (wpAny_standAt (wpAny_bind (wpAny_holding (SlX.setslot_ok I1 hsl c t r fun s2 I2 => ?_))))
  exact wpAny_release ⟨σ, _, I2, q⟩
/-- targets, by the machine -/
def tMt (W : Wd) (ts : List (ME × List (Nat × Nat))) : TGs := fun us σ H Q => ∃ ro μ l h xs, At W ro μ l h σ H ∧ DenL W.K μ H xs us ∧ postS W ro μ H (mtAs ts xs l h) { nx := Q, rt := fun _ _ => False, bk := fun _ _ => False, ct := fun _ _ => False }
theorem PGs.weaken' {es : List Expr} {t t' : TGs} (p : PGs X es t) (h : ∀ vs σ H Q, t' vs σ H Q → t vs σ H Q) : PGs X es t' := ⟨fun pins s σ H vs us Q I r q => p.run pins s σ H vs us Q I r (h vs σ H Q q)⟩
theorem mt_nil : PGs X [] (tMt (wd X ca E) []) := PGs.weaken' pgs_nil fun us σ H Q ⟨ro, μ, l, h, xs, A, d, p⟩ => by
  cases d with
  | nil => exact ⟨rfl, p μ σ H Step.refl A⟩
  | cons _ _ => exact False.elim p
theorem mt_cons {es : List Expr} {ts : List (ME × List (Nat × Nat))} {mo : ME} {k i : Nat} {q : Addr} (h1 : SlX.SCls X.K (ca k)) (h2 : SlX.Slot1 X.K (ca k) f q i) (ho : SimE X (wd X ca E) o mo) (hr : PGs X es (tMt (wd X ca E) ts))
    (hs : (assignEach (.Attribute o f pos :: es) X.env).map (·.2) = assign (.Attribute o f pos) X.env :: (assignEach es X.env).map (·.2) := by rfl) : PGs X (.Attribute o f pos :: es) (tMt (wd X ca E) ((mo, [(k, i)]) :: ts)) :=
  PGs.weaken' (pgs_cons (pg_slT ho) hr hs) fun us σ H Q ⟨ro, μ, l, h, xs, A, d, p⟩ => by
    cases d with
    | nil => exact False.elim p
    | @cons x u xs us dx dr =>
      refine ⟨_, _, rfl, ro, μ, l, h, A, (toS_P (dV _) A p).imp fun u1 H1 ⟨μ1, y, h1', A1, dy, st1, p1⟩ => ?_⟩
      cases es : setA y [(k, i)] x h1' with
      | bad => rw [es] at p1; exact False.elim p1
      | ex z hz => exact absurd es setA_nox
      | ok r h2' =>
        rw [es] at p1
        have p1 : postS (wd X ca E) ro μ1 H1 (mtAs ts xs l h2') _ := p1
        obtain ⟨a, C, ddx, pp, vs, j, eu, k1, k2, k3, k4, k5⟩ := setA_of A1.R dy (A.R.den st1 dx) (f := f) (fun z hz => by rw [List.mem_singleton.mp hz]; exact ⟨h1, _, h2⟩) es
        refine ⟨a, C, ddx, pp, vs, j, eu, k1, k2, k3, ro, μ1, l, h2', xs, ⟨A1.L.step A1.R k4, k5⟩, ?_, p1.later k4⟩
        exact A.R.denL (st1.trans k4) dr
theorem tup_den {ro : Nat} {μ : Mu} {h : AH} {H : Hp} {xs : List AV} {u : V} (d : Den X.K μ H (.tup xs) u) : ∃ a us, u = .ref a ∧ SqT X.K H a us ∧ DenL X.K μ H xs us := by
  cases d with
  | tup hq hd => exact ⟨_, _, rfl, hq, hd⟩
theorem denL_len {K : PySem.W.Frag} {μ : Mu} {H : Hp} : ∀ {xs : List AV} {us : List V}, DenL K μ H xs us → us.length = xs.length
  | _, _, .nil => rfl
  | _, _, .cons _ r => by rw [List.length_cons, List.length_cons, denL_len r]
/-- o.f, o.g = e -/
theorem sims_asA {es : List Expr} {ts : List (ME × List (Nat × Nat))} {me : ME} {k : Nat} (c : CF X E lv) (he : SimE X (wd X ca E) e me) (ht : PGs X es (tMt (wd X ca E) ts)) (hn : (assignEach es X.env).length = ts.length := by rfl) (hst : (assignEach es X.env).findIdx? (·.1) = none := by rfl)
    (hs : swapsWithSole [.Tuple es k tpos] e pos.line X.env = pure false := by rfl) (hw : swappedStores [.Tuple es k tpos] e X.env = pure none := by rfl) (h1 : (assignEach [.Tuple es k tpos] X.env).map (·.2) = [assign (.Tuple es k tpos) X.env] := by rfl) :
    SimS X (wd X ca E) (.Assign [.Tuple es k tpos] e pos) (mAsA ts me) :=
  PS.weaken (ps_asg he (pg_tup c.calm ht hn hst) hs hw h1) fun D σ H ⟨ro, μ, l, h, A, p⟩ => ⟨ro, μ, l, h, A, (toS_P (dV _) A p).imp fun u H1 ⟨μ1, v, h1', A1, d, st, q⟩ => by
    cases v with
    | tup xs =>
      dsimp only at q
      obtain ⟨a, us, rfl, hq, hd⟩ := tup_den (ro := ro) (h := h1') d
      cases e3 : Nat.beq xs.length ts.length with
      | false => rw [e3] at q; exact False.elim q
      | true =>
        rw [e3] at q
        refine ⟨a, us, rfl, hq, by rw [denL_len hd, beq_tt e3], ro, μ1, l, h1', xs, A1, hd, ?_⟩
        have q : postS (wd X ca E) ro μ1 H1 (mtAs ts xs l h1') D := q
        have nort : ∀ (ts : List (ME × List (Nat × Nat))) (xs : List AV) (l : Loc') (h : AH) (v : AV) (h' : AH), mtAs ts xs l h ≠ .rt v h' := by
          intro ts
          induction ts with
          | nil => intro xs l h v h' z; cases xs <;> cases z
          | cons t r ih =>
            obtain ⟨mo, alts⟩ := t
            intro xs l h v h' z
            cases xs with
            | nil => cases z
            | cons x xs =>
              have z : ((mo l h).toS fun y h1 => (setA y alts x h1).toS fun _ h2 => mtAs r xs l h2) = .rt v h' := z
              cases e1 : mo l h with
              | bad => rw [e1] at z; cases z
              | ex _ _ => rw [e1] at z; cases z
              | ok y h1 =>
                rw [e1] at z
                have z : ((setA y alts x h1).toS fun _ h2 => mtAs r xs l h2) = .rt v h' := z
                cases e2 : setA y alts x h1 with
                | bad => rw [e2] at z; cases z
                | ex _ _ => rw [e2] at z; cases z
                | ok _ h2 => rw [e2] at z; exact ih xs l h2 v h' z
        cases em : mtAs ts xs l h1' with
        | rt v2 h2 => exact absurd em (nort _ _ _ _ _ _)
        | nx l2 h2 => rw [em] at q; exact q
        | ex x2 h2 => rw [em] at q; exact q
        | bad => rw [em] at q; exact q
    | _ => exact False.elim q⟩
/-- o.f += e, whole numbers -/
theorem sims_augA {mo mv : ME} {k i : Nat} {q : Addr} (h1 : SlX.SCls X.K (ca k)) (h2 : SlX.Slot1 X.K (ca k) f q i) (ho : SimE X (wd X ca E) o mo) (hv : SimE X (wd X ca E) e mv) : SimS X (wd X ca E) (.AugAssign (.Attribute o f tpos) .Add e pos) (mAug mo [(k, i)] mv) := by
  refine ⟨fun pins s σ H D I ⟨ro, μ, l, h, A, p⟩ => ?_⟩
  refine wpAny_AugAssign_AttributeAny (thn (ho.run pins s σ H _ I ⟨ro, μ, l, h, A, toS_P (dV _) A p⟩) fun ov s1 ⟨x, H1, I1, rx, μ1, y, h1', A1, d1, st1, q1⟩ => ?_)
  unfold attA at q1
  cases e1 : insOf h1' y with
  | none => rw [e1] at q1; exact False.elim q1
  | some z =>
    obtain ⟨c, fs⟩ := z
    rw [e1] at q1
    dsimp only at q1
    obtain ⟨n, b, dx, vs, rfl, hn, rfl, hg, hsl, _, _, hf⟩ := ins_slt A1.R d1 e1
    obtain rfl : ov = Value.ref b := rx
    cases e2 : altOf c [(k, i)] with
    | none => rw [e2] at q1; exact False.elim q1
    | some i' =>
      rw [e2] at q1
      dsimp only at q1
      have ek := alt_mem e2
      have ek := List.mem_singleton.mp ek
      cases ek
      cases e3 : fs[i]?.join with
      | none => rw [e3] at q1; exact False.elim q1
      | some w =>
        rw [e3] at q1
        change postS (wd X ca E) ro μ1 H1 ((mv l h1').toS _) D at q1
        have e3' : fs[i]? = some (some w) := by
          cases e4 : fs[i]? with
          | none => rw [e4] at e3; cases e3
          | some o => rw [e4] at e3; exact congrArg some e3
        obtain ⟨t, ht, dt⟩ := hf i w e3'
        refine SlX.getslot_ok I1 hsl h1 h2 ht fun u s2 I2 ru => thn (hv.run pins s2 σ H1 _ I2 ⟨ro, μ1, l, h1', A1, toS_P (dV _) A1 q1⟩) fun w3 s3 ⟨y3, H3, I3, ry, μ3, z3, h3, A3, d3, st3, q3⟩ => ?_
        have dt3 := A1.R.den st3 dt
        cases w with
        | int iw =>
          cases z3 with
          | int jw =>
            dsimp only at q3
            cases dt3
            cases d3
            refine thn (in_add pins s3 σ H3 _ _ u w3 (fun z H' => z = .int (iw + jw) ∧ H' = H3) I3 ru ry ⟨iw, jw, rfl, rfl, rfl, rfl⟩) fun w4 s4 ⟨z, H4, I4, rz, ez, eh⟩ => ?_
            subst ez eh
            cases es : setA (.obj n) [(k, i)] (.int (iw + jw)) h3 with
            | bad => rw [es] at q3; exact False.elim q3
            | ex z hz => exact absurd es setA_nox
            | ok r h4 =>
              rw [es] at q3
              obtain ⟨a, C, ddx, pp, vs', j, eu, k1, k2, k3, k4, k5⟩ := setA_of A3.R (A1.R.den st3 d1) (Den.int (iw + jw)) (f := f) (fun z hz => by rw [List.mem_singleton.mp hz]; exact ⟨h1, _, h2⟩) es
              cases eu
              exact SlX.setslot_ok I4 k1 k2 k3 rz fun s5 I5 => ⟨σ, _, I5, q3 μ3 σ _ k4 ⟨A3.L.step A3.R k4, k5⟩⟩
          | _ => exact False.elim q3
        | _ => exact False.elim q3
end
end Ev
set_option Elab.async false
set_option linter.all false
set_option maxRecDepth 100000
set_option maxHeartbeats 2000000
/-! the end of a zip while an exception is handled -/
namespace Ev
open PySem PySem.Spec PyProof.Rows L2 HotX
section
variable {prog : Program} {w : World} {A : Around} {E : Value → Shared → Prop} {s : Shared}
theorem lit_end_hot {i l p : Addr} {n : Nat} {vs : Array Value} {Q : Value → Shared → Prop} (hot : HotAt A p s.heap) (np : p ≠ i) (hi : s.heap.IsListIter i l n) (hl : s.heap.IsList l vs) (no : vs[n]? = none)
    (fin : ∀ m e, Heap.ExtBut i s.heap m → (∃ o, m.get? e = some o ∧ o.cls = .type "StopIteration") → E (.ref e) { s with heap := m }) : wpAny (model prog w) A (Builtin.SmallTypes.nextOf (.ref i)) Q E s := by
  obtain ⟨hh, o1, f1, a1, b1, c1⟩ := hot
  obtain ⟨oi, gi, ci, di⟩ := id hi
  obtain ⟨ol, gl, _, nl, dl⟩ := hl
  unfold Builtin.SmallTypes.nextOf
  refine wpAny_bind (wpAny_callSpecial?_slot (name := Str.ofString "__next__") hi.typeIs slot_listiter_next (wpAny_call_entry slot_listiter_next hi.typeIs entry_listiter_next ?_ (args_listiter_next _)))
  show wpAny _ _ (field (.ref i) 0 >>= _) _ _ s
  refine wpAny_bind (wpAny_field gi di (x := .ref l) rfl ?_)
  show wpAny _ _ (if (Value.ref l == Value.none) = true then _ else _) _ _ s
  have nn : ¬ ((Value.ref l == Value.none) = true) := Bool.false_ne_true
  rw [if_neg nn]
  show wpAny _ _ (field (.ref i) 1 >>= _) _ _ s
  refine wpAny_bind (wpAny_field gi di (x := .int n 0) rfl ?_)
  show wpAny _ _ (seqItems? (.ref l) >>= _) _ _ s
  refine wpAny_bind (wpAny_seqItems gl dl ?_)
  simp only [Int.toNat_natCast, no]
  refine wpAny_bind (wpAny_rule (wpAny_bind (wpAny_setField gi di (by simp) ?_)))
  show wpAny _ _ (newExc (.type "StopIteration") [] >>= _) _ _ _
  refine wpAny_bind ?_
  simp only [newExc, newTuple]
  refine wpAny_bind (wpAny_newObj_type ?_ (by size_fits))
  have fa : firstArgMember (.type "StopIteration") [] = pure Value.none := by first | rfl | simp only [firstArgMember]
  refine wpAny_bind (m := firstArgMember _ _) (wpAny_of_eq (a := Value.none) (by first | rfl | (simp only [firstArgMember]; rfl)) ?_)
  refine wpAny_newObj_type ?_ (by size_fits)
  have keepP : (s.heap.update i (Obj.mapFields (·.setIfInBounds 0 Value.none))).get? p = some o1 := by
    rw [Heap.get?_update_other _ _ (Ne.symm np)]
    exact a1
  have keepP2 := fun (u v : Obj) => Heap.get?_push_of_some v (Heap.get?_push_of_some u keepP)
  refine raiseNew_hot ⟨hh, o1, f1, keepP2 _ _, b1, c1⟩ (Nat.ne_of_lt (Heap.lt_size (Heap.get?_push_of_some _ keepP))) (Heap.get?_push_size _ rfl) rfl (by first | (simp; done) | (simp; omega)) ?_
  refine fin _ _ (fun b o nb gb => ?_) ⟨_, Heap.get?_update_self _ (Heap.get?_push_size _ rfl) rfl, rfl⟩
  have q0 : (s.heap.update i (Obj.mapFields (·.setIfInBounds 0 Value.none))).get? b = some o := by
    rw [Heap.get?_update_other _ _ (Ne.symm nb)]
    exact gb
  have q1 := fun (u : Obj) => Heap.get?_push_of_some u q0
  rw [Heap.get?_update_other _ _ (Nat.ne_of_gt (Heap.lt_size (q1 _)))]
  exact Heap.get?_push_of_some _ (q1 _)
/-- one of the two lists has come to its end -/
theorem zip_end_hot {z TI TO i j l m p : Addr} {n : Nat} {us ws : Array Value} {x0 y0 : Value} {Q : Option Value → Shared → Prop} (hot : HotAt A p s.heap) (pz : p ≠ z) (pi : p ≠ i) (pj : p ≠ j) (pO : p ≠ TO) (D : ZipApart z TI TO i j l m)
    (gz : IsZip s.heap z TI TO .none) (gT : IsPair s.heap TI (.ref i) (.ref j)) (gO : IsPair s.heap TO x0 y0) (gi : s.heap.IsListIter i l n) (gj : s.heap.IsListIter j m n) (gl : s.heap.IsList l us) (gm : s.heap.IsList m ws) (no : us[n]? = none ∨ ws[n]? = none)
    (fin : ∀ h', (∀ c o, c ≠ z → c ≠ TO → c ≠ i → c ≠ j → s.heap.get? c = some o → h'.get? c = some o) → Q none { s with heap := h' }) : wpAny (model prog w) A (pyNext (.ref z)) Q E s := by
  have ty : s.TypeIs (.ref z) "zip" := ⟨_, gz, rfl⟩
  unfold pyNext
  refine wpAny_bind (wpAny_attempt (wpAny_callSpecial?_slot (name := Str.ofString "__next__") ty F.slot_zip_next (wpAny_call_entry F.slot_zip_next ty F.entry_zip_next ?_ (F.args_zip_next_1 _))))
  show wpAny _ _ (field (.ref z) 2 >>= _) _ _ _ -- strict
  refine wpAny_bind (wpAny_field gz rfl (x := .bool false) rfl ?_)
  show wpAny _ _ (field (.ref z) 3 >>= _) _ _ _ -- its iterators
  refine wpAny_bind (wpAny_field gz rfl (x := .ref TI) rfl ?_)
  refine wpAny_bind (wpAny_seqItems gT rfl ?_)
  show wpAny _ _ (Builtin.SmallTypes.ownedTupleIsFree (.ref z) >>= _) _ _ _ -- its own tuple
  refine wpAny_bind ?_
  unfold Builtin.SmallTypes.ownedTupleIsFree
  refine wpAny_bind (wpAny_field gz rfl (x := .none) rfl (wpAny_pure ?_))
  simp only [if_true]
  refine wpAny_bind (wpAny_rule (wpAny_bind (wpAny_field gz rfl (x := .ref TO) rfl ?_)))
  refine wpAny_bind (wpAny_setField_rec gz (by simp) fun m1 g1 b1 => ?_)
  have g1' : IsZip m1 z TI TO .ellipsis := g1
  refine wpAny_bind ?_
  simp only [List.zipIdx_cons, List.zipIdx_nil, List.forIn_cons, List.forIn_nil]
  refine wpAny_bind (wpAny_bind (wpAny_onRaise ?_))
  show wpAny _ _ (Builtin.SmallTypes.nextOf (.ref i) >>= _) _ _ _
  obtain ⟨hh, o1, f1, a1, c1, d1⟩ := hot
  cases hx : us[n]? with
  | none =>
    refine wpAny_bind (lit_end_hot ⟨hh, o1, f1, b1.extBut _ _ pz a1, c1, d1⟩ pi (gi.extBut b1.extBut D.i1z) (gl.extBut b1.extBut D.l1z) hx fun m2 e b2 ⟨oe, ge, ce⟩ => ?_)
    have g2 : IsZip m2 z TI TO .ellipsis := b2 _ _ D.i1z.symm g1'
    have ez : e ≠ z := fun q => by
      rw [q, g2] at ge
      cases ge
      simp at ce
    refine wpAny_setField_rec g2 (by simp) fun m3 _ b3 => ?_
    refine wpAny_bind (wpAny_isInstance (T := "StopIteration") (b := true) ⟨oe, b3.extBut _ _ ez ge, ce⟩ isSubtype_stop ?_)
    exact wpAny_pure (fin _ fun c o n1 _ n3 _ gc => b3.extBut _ _ n1 (b2 _ _ n3 (b1.extBut _ _ n1 gc)))
  | some x =>
    have hy : ws[n]? = none := by
      rcases no with h | h
      · rw [hx] at h; cases h
      · exact h
    refine wpAny_bind (wpAny_nextOf_list_item (gi.extBut b1.extBut D.i1z) (gl.extBut b1.extBut D.l1z) hx fun m2 i2 b2 => wpAny_pure ?_)
    have gO2 : IsPair m2 TO x0 y0 := b2.extBut _ _ D.TOi1 (b1.extBut _ _ D.TOz gO)
    refine wpAny_bind (wpAny_seqItems gO2 rfl ?_)
    refine wpAny_bind (wpAny_updateSeq_pair gO2 fun m3 gO3 b3 => ?_)
    refine wpAny_bind (wpAny_letGo (wpAny_pure ?_))
    refine wpAny_bind (wpAny_bind (wpAny_onRaise ?_))
    show wpAny _ _ (Builtin.SmallTypes.nextOf (.ref j) >>= _) _ _ _
    have up3 : ∀ c o, c ≠ z → c ≠ i → c ≠ TO → s.heap.get? c = some o → m3.get? c = some o := fun c o n1 n2 n3 g => b3.extBut _ _ n3 (b2.extBut _ _ n2 (b1.extBut _ _ n1 g))
    refine wpAny_bind (lit_end_hot ⟨hh, o1, f1, up3 _ _ pz pi pO a1, c1, d1⟩ pj (gj.at fun o g => up3 _ o D.i2z D.i12.symm D.TOi2.symm g) (((gm.extBut b1.extBut D.l2z).extBut b2.extBut D.l2i1).extBut b3.extBut D.l2TO) hy fun m4 e b4 ⟨oe, ge, ce⟩ => ?_)
    have g4 : IsZip m4 z TI TO .ellipsis := b4 _ _ D.i2z.symm (b3.extBut _ _ D.TOz.symm (b2.extBut _ _ D.i1z.symm g1'))
    have ez : e ≠ z := fun q => by
      rw [q, g4] at ge
      cases ge
      simp at ce
    refine wpAny_setField_rec g4 (by simp) fun m5 _ b5 => ?_
    refine wpAny_bind (wpAny_isInstance (T := "StopIteration") (b := true) ⟨oe, b5.extBut _ _ ez ge, ce⟩ isSubtype_stop ?_)
    exact wpAny_pure (fin _ fun c o n1 n2 n3 n4 gc => b5.extBut _ _ n1 (b4 _ _ n4 (up3 c o n1 n3 n2 gc)))
end
end Ev
set_option Elab.async false
set_option linter.all false
set_option maxRecDepth 100000
set_option maxHeartbeats 2000000
/-! [e for x, y in zip(a, b) if t] while an exception is handled -/
namespace Ev
open PySem PySem.Spec PyProof.Rows L2 HotX L2H
/-- the two lists -/
def iZpH (K : PySem.W.Frag) (ta : TA) : TI := fun σ H R => ta σ H fun vs H1 => ∃ a b us ws, vs = [.ref a, .ref b] ∧ SqL K H1 a us ∧ SqL K H1 b ws ∧ R (Itz K a b) H1
def ZSt (z TI TO i j a b : Addr) (n : Nat) (m : Heap) : Prop := IsZip m z TI TO .none ∧ IsPair m TI (.ref i) (.ref j) ∧ (∃ x y, IsPair m TO x y) ∧ m.IsListIter i a n ∧ m.IsListIter j b n
section
variable {X : Cx} {pins : List (Addr × Obj)} {σ : L2.St} {H : Hp} {s : Shared} {E : Value → Shared → Prop}
theorem zip_item {es : List Expr} {q : Nat} {tp : Pos} {z TI TO i j a b : Addr} {n : Nat} (D : ZipApart z TI TO i j a b) (I : Inv X pins σ H s) (ok : ∀ c ∈ [z, TI, TO, i, j], FpOk X pins H c) (st : ZSt z TI TO i j a b n s.heap) (go : (Itz X.K a b).go n H) :
    wpAny (model X.prog X.w) X.A (pyNext (.ref z)) (fun r s1 => ∃ u, r = some u ∧ wpAny (model X.prog X.w) X.A (letOwnedTupleGo (.Tuple es q tp) (.ref z) u) (fun _ s2 => ∃ x H', Inv X pins σ H' s2 ∧ RelV x u ∧ (Itz X.K a b).yld n H x H' ∧ ZSt z TI TO i j a b (n + 1) s2.heap ∧ ∀ c ∈ [z, TI, TO, i, j], H' c = none) E s1) E s := by
  obtain ⟨gz, gT, ⟨x0, y0, gO⟩, gi, gj⟩ := st
  obtain ⟨us, ws, x, y, qu, qw, hx, hy⟩ := go
  obtain ⟨au, ru, pu, _⟩ := I.list qu
  obtain ⟨aw, rw_, pw, _⟩ := I.list qw
  obtain ⟨u, eu, vu⟩ := ru.get hx
  obtain ⟨v, ew, vw⟩ := rw_.get hy
  have lz : z < s.heap.objs.size := Heap.lt_size gz
  refine wpAny_pyNext_zip_item D gz gT gO gi gj pu.isList pw.isList (x := u) (y := v) (by simpa using eu) (by simpa using ew) fun m z1 O1 i1 j1 T1 sz1 k1 => ⟨_, rfl, ?_⟩
  refine wpAny_letOwnedTupleGo_zip (s := { s with heap := m }) z1 fun m2 z2 b2 => ?_
  have away : ∀ c o, c ∉ [z, TI, TO, i, j] → s.heap.get? c = some o → m2.get? c = some o := fun c o nc g => by
    simp only [List.mem_cons, List.not_mem_nil, or_false, not_or] at nc
    obtain ⟨n1, n2, n3, n4, n5⟩ := nc
    exact (b2.2 c n1).trans (k1 c o n1 n3 n4 n5 g)
  have T2 : m2.get? s.heap.objs.size = some { cls := .type "tuple", data := .seq #[u, v] } := (b2.2 _ (Nat.ne_of_gt lz)).trans T1
  have obj : ObjOk X.prog X.w (upd H s.heap.objs.size (.tup [x, y])) m2 s.heap.objs.size (.tup [x, y]) := ⟨(by show 2 ≤ sizeLine; decide), [u, v], .cons vu (.cons vw .nil), ⟨_, T2, rfl, _, rfl⟩⟩
  have J : Inv X pins σ (upd H s.heap.objs.size (.tup [x, y])) { s with heap := m2 } := I.turnedNew (t' := s.toks) (ch := [z, TI, TO, i, j]) away ok (Nat.le_refl _) obj
  refine ⟨.ref s.heap.objs.size, _, J, rfl, ⟨_, x, y, rfl, I.hok.fresh (Nat.le_refl _), rfl, fun l hl => ?_, fun l hl => ?_⟩, ⟨z2, (b2.2 _ D.TIz).trans (k1 _ _ D.TIz D.TITO D.TIi1 D.TIi2 gT), ⟨u, v, (b2.2 _ D.TOz).trans O1⟩, i1.at fun o g => (b2.2 _ D.i1z).trans g, j1.at fun o g => (b2.2 _ D.i2z).trans g⟩, fun c hc => ?_⟩
  · rw [I.list_inj hl qu]; exact hx
  · rw [I.list_inj hl qw]; exact hy
  · have lt : c < s.heap.objs.size := by
      obtain ⟨o1, e1, _⟩ := gi
      obtain ⟨o2, e2, _⟩ := gj
      simp only [List.mem_cons, List.not_mem_nil, or_false] at hc
      rcases hc with e | e | e | e | e <;> subst e
      · exact lz
      · exact Heap.lt_size gT
      · exact Heap.lt_size gO
      · exact Heap.lt_size e1
      · exact Heap.lt_size e2
    rw [upd_ne (Nat.ne_of_lt lt)]
    exact (ok c hc).1
theorem zip_done {z TI TO i j a b p : Addr} {n : Nat} (hot : HotAt X.A p s.heap) (np : p ∉ [z, TI, TO, i, j]) (D : ZipApart z TI TO i j a b) (I : Inv X pins σ H s) (ok : ∀ c ∈ [z, TI, TO, i, j], FpOk X pins H c) (st : ZSt z TI TO i j a b n s.heap) (stop : (Itz X.K a b).stop n H) :
    wpAny (model X.prog X.w) X.A (pyNext (.ref z)) (fun r s1 => r = none ∧ Inv X pins σ H s1) E s := by
  obtain ⟨gz, gT, ⟨x0, y0, gO⟩, gi, gj⟩ := st
  obtain ⟨us, ws, qu, qw, he⟩ := stop
  obtain ⟨au, ru, pu, _⟩ := I.list qu
  obtain ⟨aw, rw_, pw, _⟩ := I.list qw
  have lu := ru.length
  have lw := rw_.length
  simp only [List.mem_cons, List.not_mem_nil, or_false, not_or] at np
  obtain ⟨n1, n2, n3, n4, n5⟩ := np
  refine zip_end_hot hot n1 n4 n5 n3 D gz gT gO gi gj pu.isList pw.isList ?_ fun m k => ⟨rfl, I.turnedL (t' := s.toks) (ch := [z, TI, TO, i, j]) (fun c o nc g => by
    simp only [List.mem_cons, List.not_mem_nil, or_false, not_or] at nc
    obtain ⟨m1, m2, m3, m4, m5⟩ := nc
    exact k c o m1 m3 m4 m5 g) ok⟩
  rcases he with q | q
  · exact .inl (by simp; omega)
  · exact .inr (by simp; omega)
end
end Ev
set_option Elab.async false
set_option linter.all false
set_option maxRecDepth 100000
set_option maxHeartbeats 2000000
/-! a tuple target and a comprehension over zip while an exception is handled -/
namespace Ev
open PySem PySem.Spec PyProof.Rows L2 HotX L2H
section
variable {prog : Program} {w : World} {A : Around} {E : Value → Shared → Prop} {s : Shared}
theorem tit_end_hot {t u p : Addr} {n : Nat} {vs : Array Value} {Q : Option Value → Shared → Prop} (hot : HotAt A p s.heap) (np : p ≠ u) (hi : s.heap.IsTupleIter u t n) (hl : s.heap.IsTuple t vs) (no : vs[n]? = none)
    (fin : ∀ m, Heap.ExtBut u s.heap m → Q none { s with heap := m }) : wpAny (model prog w) A (pyNext (.ref u)) Q E s := by
  obtain ⟨hh, o1, f1, a1, b1, c1⟩ := hot
  obtain ⟨oi, gi, ci, di⟩ := id hi
  obtain ⟨ol, gl, _, nl, dl⟩ := hl
  unfold pyNext
  refine wpAny_bind (wpAny_attempt (wpAny_callSpecial?_slot (name := Str.ofString "__next__") hi.typeIs F.slot_tuple_iterator_next (wpAny_call_entry F.slot_tuple_iterator_next hi.typeIs F.entry_tuple_iterator_next ?_ (F.args_tuple_iterator_next_1 _))))
  show wpAny _ _ (field (.ref u) 0 >>= _) _ _ s
  refine wpAny_bind (wpAny_field gi di (x := .ref t) rfl ?_)
  show wpAny _ _ (if (Value.ref t == Value.none) = true then _ else _) _ _ s
  have nn : ¬ ((Value.ref t == Value.none) = true) := Bool.false_ne_true
  rw [if_neg nn]
  show wpAny _ _ (field (.ref u) 1 >>= _) _ _ s
  refine wpAny_bind (wpAny_field gi di (x := .int n 0) rfl ?_)
  show wpAny _ _ (seqItems? (.ref t) >>= _) _ _ s
  refine wpAny_bind (wpAny_seqItems gl dl ?_)
  simp only [Int.toNat_natCast, no]
  refine wpAny_bind (wpAny_rule (wpAny_bind (wpAny_setField gi di (by simp) ?_)))
  show wpAny _ _ (newExc (.type "StopIteration") [] >>= _) _ _ _
  refine wpAny_bind ?_
  simp only [newExc, newTuple]
  refine wpAny_bind (wpAny_newObj_type ?_ (by size_fits))
  have fa : firstArgMember (.type "StopIteration") [] = pure Value.none := by first | rfl | simp only [firstArgMember]
  refine wpAny_bind (m := firstArgMember _ _) (wpAny_of_eq (a := Value.none) (by first | rfl | (simp only [firstArgMember]; rfl)) ?_)
  refine wpAny_newObj_type ?_ (by size_fits)
  have keepP : (s.heap.update u (Obj.mapFields (·.setIfInBounds 0 Value.none))).get? p = some o1 := by
    rw [Heap.get?_update_other _ _ (Ne.symm np)]
    exact a1
  have keepP2 := fun (u v : Obj) => Heap.get?_push_of_some v (Heap.get?_push_of_some u keepP)
  refine raiseNew_hot ⟨hh, o1, f1, keepP2 _ _, b1, c1⟩ (Nat.ne_of_lt (Heap.lt_size (Heap.get?_push_of_some _ keepP))) (Heap.get?_push_size _ rfl) rfl (by first | (simp; done) | (simp; omega)) ?_
  refine wpAny_bind (wpAny_isInstance (T := "StopIteration") (b := true) ⟨_, Heap.get?_update_self _ (Heap.get?_push_size _ rfl) rfl, rfl⟩ isSubtype_stop ?_)
  refine wpAny_pure (fin _ fun b o nb gb => ?_)
  have q0 : (s.heap.update u (Obj.mapFields (·.setIfInBounds 0 Value.none))).get? b = some o := by
    rw [Heap.get?_update_other _ _ (Ne.symm nb)]
    exact gb
  have q1 := fun (u : Obj) => Heap.get?_push_of_some u q0
  rw [Heap.get?_update_other _ _ (Nat.ne_of_gt (Heap.lt_size (q1 _)))]
  exact Heap.get?_push_of_some _ (q1 _)
theorem unpI_hot {t p : Addr} {vs : Array Value} {Q : List Value → Shared → Prop} (hot : HotAt A p s.heap) (ht : s.heap.IsTuple t vs) (fin : ∀ m, Heap.ExtBut s.heap.objs.size s.heap m → Q vs.toList { s with heap := m }) : wpAny (model prog w) A (unpackItems (.ref t) vs.size none) Q E s := by
  have hlt : t ≠ s.heap.objs.size := by
    obtain ⟨o, g, _⟩ := ht
    exact Nat.ne_of_lt (Heap.lt_size g)
  obtain ⟨hh, o1, f1, a1, b1, c1⟩ := hot
  have pl : p < s.heap.objs.size := Heap.lt_size a1
  unfold unpackItems
  refine wpAny_bind ?_
  unfold notIterableAtAll
  refine wpAny_bind (wpAny_specialOf ht.typeIs F.slot_tuple_iter.lookup (wpAny_pure ?_))
  simp only [Bool.false_eq_true, if_false]
  refine wpAny_bind (wpAny_holding (wpAny_pyIter_tuple ht ?_))
  refine wpAny_bind (wpAny_holding (wpAny_draw_tuple hlt vs.size 0 _ _ ⟨_, Heap.get?_push_size _ rfl, rfl, rfl⟩ (ht.push _) (by omega) fun m1 i1 k1 => ?_))
  have all : List.take vs.size (List.drop 0 vs.toList) = vs.toList := by
    rw [List.drop_zero]
    exact List.take_of_length_le (by simp)
  rw [all]
  rw [if_neg (by simp)]
  refine wpAny_bind (wpAny_holding (tit_end_hot ⟨hh, o1, f1, k1.extBut _ _ (Nat.ne_of_lt pl) (Heap.get?_push_of_some _ a1), b1, c1⟩ (Nat.ne_of_lt pl) i1 ((ht.push _).extBut k1.extBut hlt) (by simp) fun m2 k2 => ?_))
  simp only [Option.isSome_none, Bool.false_eq_true, if_false]
  exact wpAny_pure (fin m2 fun b o nb g => k2 b o nb (k1.extBut b o nb (Heap.get?_push_of_some _ g)))
theorem asgT_hot {env : Env} {es : List Expr} {x1} {pos : Pos} {t p : Addr} {vs : Array Value} {Q : Unit → Shared → Prop} (hot : HotAt A p s.heap) (ht : s.heap.IsTuple t vs) (hn : (assignEach es env).length = vs.size) (hst : (assignEach es env).findIdx? (·.1) = none)
    (fin : ∀ m, Heap.ExtBut s.heap.objs.size s.heap m → wpAny (model prog w) A (assignInOrder ((assignEach es env).map (·.2)) vs.toList) Q E { s with heap := m }) : wpAny (model prog w) A (assign (.Tuple es x1 pos) env (.ref t)) Q E s := by
  rw [arm_assign_Tuple]
  refine wpAny_bind (wpAny_standAt ?_)
  unfold unpack
  rw [hn, hst]
  exact wpAny_bind (wpAny_holding (unpI_hot hot ht fin))
end
def HotP (X : Cx) (p : Addr) : Prop := ∀ (pins : List (Addr × Obj)) (σ : L2.St) (H : Hp) (s : Shared), Inv X pins σ H s → HotAt X.A p s.heap
theorem blk_hot {X : Cx} {pins : List (Addr × Obj)} {σ : L2.St} {H : Hp} {s : Shared} {scope : Scope} {ce : Env} {fp : List Addr} (hot : HotC X) (I : Inv X pins σ H s) (ok : ∀ b ∈ fp, FpOk X pins H b) : ∃ p, p ∉ fp ∧ HotP (X.blk s H scope ce fp) p := by
  obtain ⟨p, ⟨hh, v1, e1, c1⟩, hp⟩ := hot
  obtain ⟨g, n, nl, nf, nc⟩ := I.pin p (List.mem_append_left _ hp)
  have nfp : p.1 ∉ fp := fun z => (ok p.1 z).2.2.2.2.2 p (List.mem_append_left _ hp) rfl
  refine ⟨p.1, nfp, fun pins' σ' H' s' J => ⟨hh, p.2, v1, J.base.keep p.1 p.2 g n (fun z => ?_) nfp, e1, c1⟩⟩
  rcases List.mem_cons.mp (I.stkSub p.1 z) with z | z
  · exact nl z
  · exact nf z
section
variable {X : Cx}
theorem pgT_hot {es : List Expr} {k : Nat} {t : TGs} {n : Nat} {p : Addr} {pos : Pos} (hot : HotP X p) (h : PGs X es t) (hn : (assignEach es X.env).length = n := by rfl) (hst : (assignEach es X.env).findIdx? (·.1) = none := by rfl) : PG X (.Tuple es k pos) (L2.gTup X.K n t) := by
  refine ⟨fun pins s σ H v u Q I r ⟨a, xs, e1, hq, hl, hw⟩ => ?_⟩
  subst e1
  cases r
  obtain ⟨its, rv, ht, _⟩ := I.tuple hq
  refine asgT_hot (hot _ _ _ _ I) (by first | exact ht | exact ht.isTuple | (obtain ⟨o, go, co, r⟩ := ht; exact ⟨o, go, co, r⟩)) (by simp [hn, ← hl, rv.length]) hst fun m hx => ?_
  have J : Inv X pins σ H { s with heap := m } := I.kept (t' := s.toks) fun b o e => hx b o (Nat.ne_of_lt (Heap.lt_size e)) e
  exact h.run pins _ σ H xs _ Q J (by simpa using rv) hw
end
end Ev
set_option Elab.async false
set_option linter.all false
set_option maxRecDepth 100000
set_option maxHeartbeats 4000000
namespace Ev
open PySem PySem.Spec PyProof.Rows L2 HotX L2H
theorem zst_keep {z TI TO i j a b : Addr} {n : Nat} {h h' : Heap} (st : ZSt z TI TO i j a b n h) (k : ∀ c ∈ [z, TI, TO, i, j], ∀ o, h.get? c = some o → h'.get? c = some o) : ZSt z TI TO i j a b n h' := by
  obtain ⟨gz, gT, ⟨x, y, gO⟩, gi, gj⟩ := st
  exact ⟨k z (by simp) _ gz, k TI (by simp) _ gT, ⟨x, y, k TO (by simp) _ gO⟩, gi.at fun o q => k i (by simp) o q, gj.at fun o q => k j (by simp) o q⟩
theorem zst_obj {z TI TO i j a b : Addr} {n : Nat} {h : Heap} (st : ZSt z TI TO i j a b n h) : ∀ c ∈ [z, TI, TO, i, j], ∃ o, h.get? c = some o ∧ ∀ v, o.data ≠ .cell v := fun c hc => by
  obtain ⟨gz, gT, ⟨x, y, gO⟩, ⟨o1, e1, _, d1⟩, ⟨o2, e2, _, d2⟩⟩ := st
  simp only [List.mem_cons, List.not_mem_nil, or_false] at hc
  rcases hc with q | q | q | q | q <;> rw [q]
  · exact ⟨_, gz, fun v q => nomatch q⟩
  · exact ⟨_, gT, fun v q => nomatch q⟩
  · exact ⟨_, gO, fun v q => nomatch q⟩
  · exact ⟨o1, e1, fun v q => by rw [d1] at q; cases q⟩
  · exact ⟨o2, e2, fun v q => by rw [d2] at q; cases q⟩
section
variable {X : Cx}
/-- what the making of a zip of two lists gives -/
def PZ (X : Cx) (pins : List (Addr × Obj)) (σ : L2.St) (R : L2.It → Hp → Prop) (v : Value) (s : Shared) : Prop :=
  ∃ z TI TO i j a b H us ws, v = .ref z ∧ Inv X pins σ H s ∧ ZipApart z TI TO i j a b ∧ ZSt z TI TO i j a b 0 s.heap ∧ (∀ c ∈ [z, TI, TO, i, j], FpOk X pins H c) ∧ SqL X.K H a us ∧ SqL X.K H b ws ∧ R (Itz X.K a b) H
theorem mk_zip {pins : List (Addr × Obj)} {σ : L2.St} {H : Hp} {s : Shared} {R : L2.It → Hp → Prop} {e e2 : Expr} {ta : TA} {p pos : Pos} (hg : Gl X "zip") (hm : X.mg "zip" = none) (ha : PA X [e, e2] ta) (I : Inv X pins σ H s) (h : iZpH X.K ta σ H R)
    (hs : starEach [e, e2] X.env = (false, eval e X.env) :: starEach [e2] X.env := by rfl) (hpl : (backTo pos (starEach [e2] X.env)).any (·.1) = false := by rfl) :
    wpAny (model X.prog X.w) X.A (eval (.Call (.Name "zip" p) [e, e2] [] pos) X.env) (fun v s1 => wpAny (model X.prog X.w) X.A (pyIter v) (PZ X pins σ R) X.xe s1) X.xe s := by
  refine Call_ (ld_blt I hg hm PyProof.Rows.boot_zip (PyProof.Rows.callWith_type1 (thn (ha.run pos pins s σ H _ I h) fun us s1 ⟨vs, H1, J, r1, ⟨a, b, xs, ys, ex, qx, qy, q⟩⟩ => ?_) hs hpl))
  subst ex
  cases r1 with
  | cons r rr =>
    cases rr with
    | cons r' rr =>
      cases rr
      cases r
      cases r'
      obtain ⟨its, rv, p1, _⟩ := J.list qx
      obtain ⟨its2, rv2, p2, _⟩ := J.list qy
      have la : a < s1.heap.objs.size := p1.lt
      have lb : b < s1.heap.objs.size := p2.lt
      refine call_zip_2 p1.isList p2.isList fun m gz gT gO gi gj sz k => wpAny_pyIter_zip gz ?_
      have J2 : Inv X pins σ H1 { s1 with heap := m } := J.kept (t' := s1.toks) k
      refine ⟨s1.heap.objs.size + 4, s1.heap.objs.size + 2, s1.heap.objs.size + 3, s1.heap.objs.size, s1.heap.objs.size + 1, a, b, H1, xs, ys, rfl, J2, PySem.W.ktu_apart s1.heap.objs.size a b la lb, ⟨gz, gT, ⟨_, _, gO⟩, gi, gj⟩, fun c hc => ?_, qx, qy, q⟩
      have hle : s1.heap.objs.size ≤ c := by
        simp only [List.mem_cons, List.not_mem_nil, or_false] at hc
        rcases hc with z | z | z | z | z <;> rw [z] <;> omega
      exact J.fpOk hle (J.hok.fresh hle)
theorem lcZ_core {pins : List (Addr × Obj)} {s : Shared} {σ : L2.St} {H : Hp} {Q : VK} {elt e1 e2 : Expr} {es : List Expr} {kk : Nat} {tpos zp cp : Pos} {ifs : List Expr} {scope : Scope} {own : List (Str × Nat)} {pos pos' : Pos} {ta : TA} {g : TG} {tt : TT} {te : TE} {use : Option (Value → Sem Unit)} {Qf : Value → Shared → Prop}
    (hot : HotC X) (hN : X.N.Nodup) (I : Inv X pins σ H s) (hgl : Gl X "zip") (hmg : X.mg "zip" = none) (ha : PA X [e1, e2] ta) (ok : BlkOk X.N X.env.scope scope own)
    (hg : ∀ (s : Shared) (H : Hp) (C : Addr) (cl : List (Str × Addr)) (fp : List Addr) (p : Addr), HotP (X.blk s H scope (compEnvC scope cl C X.env) fp) p → PG (X.blk s H scope (compEnvC scope cl C X.env) fp) (.Tuple es kk tpos) g)
    (ht : ∀ (s : Shared) (H : Hp) (C : Addr) (cl : List (Str × Addr)) (fp : List Addr), PTs (X.blk s H scope (compEnvC scope cl C X.env) fp) ifs tt) -- the tests
    (he : ∀ (s : Shared) (H : Hp) (C : Addr) (cl : List (Str × Addr)) (fp : List Addr), PE (X.blk s H scope (compEnvC scope cl C X.env) fp) elt te) -- the element
    (hst : starEach [e1, e2] X.env = (false, eval e1 X.env) :: starEach [e2] X.env) (hpl : (backTo cp (starEach [e2] X.env)).any (·.1) = false)
    (hs : ∀ x, foldedSetIterable (.Call (.Name "zip" zp) [e1, e2] [] cp) X.env x = pure x) (h : tLc (iZpH X.K ta) g tt te (own.map (·.2)) σ H Q)
    (hRR : ∀ D C s' m H', Inv X pins σ H' s' → Q (.ref D) H' → s'.heap.Ns C m → FpOk X pins H' C → compPost (model X.prog X.w) X.A X.xe use Qf (.ref D) C (.ok .next) s') : -- what follows
    wpAny (model X.prog X.w) X.A (comprehension (.ListComp elt [⟨.Tuple es kk tpos, .Call (.Name "zip" zp) [e1, e2] [] cp, ifs, 0⟩] scope pos) scope X.env pos' (newList []) false (eval (.Call (.Name "zip" zp) [e1, e2] [] cp) X.env) use) Qf X.xe s := by
  have hfree : ∀ y ∈ scope.names, y.2 = .free → ∃ c, X.env.cells.lookup y.1 = some c := fun y hy e => (ok.free y hy e).elim (fun k => I.ok.has _ (.inl k)) fun k => I.ok.has _ (.inr k)
  refine wpAny_comprehension_free (use := use) rfl hs (closure_ok hfree) ok.kind (fun y hy e => by rw [ok.uniq y hy, e])
    (thn (mk_zip hgl hmg ha I h hst hpl) fun xv s1 hx => thn hx fun itv s2 h2 => ?_)
  obtain ⟨z, TI, TO, i0, j0, a, b, H2, us, ws, e, I2, T, st2, f2, qu, qw, q⟩ := h2
  subst e
  generalize hfp : [z, TI, TO, i0, j0] = fp at f2
  refine wpAny_newObj_type (newEnv_comp ?_) (by show 0 ≤ sizeLine; decide)
  generalize hD : s2.heap.objs.size = D
  have hDn : H2 D = none := I2.hok.fresh (Nat.le_of_eq hD)
  obtain ⟨W, ⟨m0, w0⟩, turn⟩ := q D hDn
  generalize hs3 : ({ s2 with heap := s2.heap.push { cls := .type "list", data := .seq ([] : List Value).toArray } } : Shared) = s3
  have I3 : Inv X pins σ (upd H2 D (.lst [])) s3 := by
    rw [← hs3]
    refine I2.laid (t' := s2.toks) (fun b o e => Heap.get?_push_of_some _ e) (Nat.le_of_eq hD) ⟨Nat.zero_le _, [], 0, .nil, ?_⟩
    rw [← hD]
    exact Heap.get?_push_size _ rfl
  have h3 : s3.heap = s2.heap.push { cls := .type "list", data := .seq ([] : List Value).toArray } := by rw [← hs3]
  have obj2 := zst_obj st2
  rw [hfp] at obj2
  have sz : ∀ b ∈ fp, b < s2.heap.objs.size := fun b hb => by
    obtain ⟨o, e, _⟩ := obj2 b hb
    exact Heap.lt_size e
  have f3 : ∀ b ∈ fp, FpOk X pins (upd H2 D (.lst [])) b ∧ b < s3.heap.objs.size := fun b hb => by
    have hlt := sz b hb
    refine ⟨⟨?_, (f2 b hb).2⟩, by rw [h3, Heap.size_push]; exact Nat.lt_succ_of_lt hlt⟩
    rw [upd_ne (by rw [← hD]; exact Nat.ne_of_lt hlt)]
    exact (f2 b hb).1
  have st3 : ZSt z TI TO i0 j0 a b 0 s3.heap := zst_keep st2 fun b _ o e => by rw [h3]; exact Heap.get?_push_of_some _ e
  have I4 := block_start I3 ok hN f3
  obtain ⟨p, npf, hp⟩ := blk_hot (scope := scope) (ce := (compEnvC scope (cellsFrom (s3.heap.objs.size + 1) scope.names (cloFrom X.env.cells scope.names [])) s3.heap.objs.size X.env)) hot I3 fun b hb => (f3 b hb).1
  have pg := hg s3 (upd H2 D (.lst [])) s3.heap.objs.size (cellsFrom (s3.heap.objs.size + 1) scope.names (cloFrom X.env.cells scope.names [])) fp p hp
  have pt := ht s3 (upd H2 D (.lst [])) s3.heap.objs.size (cellsFrom (s3.heap.objs.size + 1) scope.names (cloFrom X.env.cells scope.names [])) fp -- here
  have pe := he s3 (upd H2 D (.lst [])) s3.heap.objs.size (cellsFrom (s3.heap.objs.size + 1) scope.names (cloFrom X.env.cells scope.names [])) fp -- here
  show codeAny _ _ (.compStart (.ListComp elt [⟨.Tuple es kk tpos, .Call (.Name "zip" zp) [e1, e2] [] cp, ifs, 0⟩] scope pos) 0 (.ref z) (.ref D) (compEnvC scope (cellsFrom (s3.heap.objs.size + 1) scope.names (cloFrom X.env.cells scope.names [])) s3.heap.objs.size X.env)) (compPost (model X.prog X.w) X.A X.xe use Qf (.ref D) s3.heap.objs.size) { s3 with heap := pushCells (s3.heap.push { cls := .type "dict", data := .dict #[] }) scope.names }
  have nfp : ∀ b ∈ fp, (upd H2 D (.lst [])) b = none := fun b hb => (f3 b hb).1.1
  generalize hce : compEnvC scope (cellsFrom (s3.heap.objs.size + 1) scope.names (cloFrom X.env.cells scope.names [])) s3.heap.objs.size X.env = ce at I4 pg pt pe hp ⊢
  have cL : ce.locals = s3.heap.objs.size := by subst hce; rfl
  generalize hH3 : upd H2 D (.lst []) = H3 at I3 I4 pg pt pe w0 nfp f3 hp
  generalize hs4 : ({ s3 with heap := pushCells (s3.heap.push { cls := .type "dict", data := .dict #[] }) scope.names } : Shared) = s4 at I4 ⊢
  have st4 : ZSt z TI TO i0 j0 a b 0 s4.heap := zst_keep st3 fun b _ o e => by rw [← hs4]; exact pushCells_keeps _ _ _ _ (Heap.get?_push_of_some _ e)
  have stat : ∀ {σ' : L2.St} {H' : Hp} {s' : Shared}, Inv (X.blk s3 H3 scope ce fp) [] σ' H' s' → (∀ b ∈ fp, H' b = none) → ∀ b ∈ fp, FpOk (X.blk s3 H3 scope ce fp) [] H' b := fun {σ' H' s'} I' hn b hb =>
    ⟨hn b hb, (I'.ok.exf b hb).1, I'.ok.exfs b hb, .inl hb, fun x c e => (I'.ok.exf b hb).2 x c e, fun p hp => absurd (show p ∈ ([] : List (Addr × Obj)) ++ [] from hp) (by simp)⟩ -- nothing is pinned
  have loop : codeAny (model X.prog X.w) X.A (.compLoop (.ListComp elt [⟨.Tuple es kk tpos, .Call (.Name "zip" zp) [e1, e2] [] cp, ifs, 0⟩] scope pos) 0 (.ref z) (.ref D) ce) (compPost (model X.prog X.w) X.A X.xe use Qf (.ref D) s3.heap.objs.size) s4 := by
    refine compLoop_any (fun n s' => ∃ i H', Inv (X.blk s3 H3 scope ce fp) [] (L2.wipe σ (own.map (·.2))) H' s' ∧ ZSt z TI TO i0 j0 a b i s'.heap ∧ (∀ b ∈ fp, H' b = none) ∧ W i n H') ?_ m0 ⟨0, H3, I4, st4, nfp, w0⟩
    rintro n s5 ⟨i, H5, I5, st5, n5, w5⟩
    have sok : ∀ c ∈ [z, TI, TO, i0, j0], FpOk (X.blk s3 H3 scope ce fp) [] H5 c := fun c hc => stat I5 n5 c (by rw [← hfp]; exact hc)
    rcases turn i n H5 w5 with ⟨stop, qq⟩ | ⟨go, Nx, hNx, step⟩
    · have td := zip_done (E := fun _ _ => False) (hp _ _ _ _ I5) (by rw [hfp]; exact npf) T I5 sok st5 stop
      refine thnF td fun r s6 ⟨hr, I6⟩ => ?_
      subst hr
      have I7 : Inv X pins σ H5 s6 := I3.call' (ch := fp) I6.os I6.base I6.hok I6.bare fun b hb => ⟨(f3 b hb).1.2.2.2.1, (f3 b hb).1.2.1, (f3 b hb).1.2.2.2.2.1, (f3 b hb).1.2.2.2.2.2⟩ -- back
      have nC : H5 s3.heap.objs.size = none := by
        have y : H5 ce.locals = none := I6.free
        rw [cL] at y
        exact y
      obtain ⟨m, hn, _⟩ := I6.loc
      have hn : s6.heap.Ns ce.locals m := hn
      rw [cL] at hn
      exact hRR D s3.heap.objs.size s6 m H5 I7 qq hn (I3.fpOk (Nat.le_refl _) nC)
    · have ti := zip_item (es := es) (q := kk) (tp := tpos) (E := fun _ _ => False) T I5 sok st5 go
      refine thnF ti fun r s6 ⟨u, hr, h6⟩ => ?_
      subst hr
      refine thnF h6 fun _ s7 ⟨x, H7, I7, r7, y7, st7, n7⟩ => ?_
      rw [hfp] at n7
      have obj7 := zst_obj st7
      rw [hfp] at obj7
      have I7' := I7.pinned (stat I7 n7) obj7
      refine thnF (pg.run _ s7 _ H7 x u _ I7' r7 (step x H7 y7)) fun _ s8 ⟨σ8, H8, I8, hw8, q8⟩ => ?_
      refine thnF (pt.run _ s8 σ8 H8 _ I8 q8) fun bo s9 ⟨H9, I9, q9⟩ => ?_
      have fin : ∀ {s' : Shared} {H' : Hp}, Inv (X.blk s3 H3 scope ce fp) ([] ++ pinsAt fp s7.heap) σ8 H' s' → Nx H' → ∃ m, m < n ∧ ∃ i H', Inv (X.blk s3 H3 scope ce fp) [] (L2.wipe σ (own.map (·.2))) H' s' ∧ ZSt z TI TO i0 j0 a b i s'.heap ∧ (∀ b ∈ fp, H' b = none) ∧ W i m H' := fun {s' H'} I' nx => by
        obtain ⟨m', hm, w'⟩ := hNx H' nx
        have pin' : ∀ b ∈ fp, ∀ o, s7.heap.get? b = some o → s'.heap.get? b = some o ∧ H' b = none := fun b hb o e =>
          (I'.pin (b, o) (List.mem_append_right _ (List.mem_append_right _ (mem_pinsAt hb e)))).imp id fun y => y.1
        have hl : (L2.wipe σ (own.map (·.2))).length = σ8.length := by rw [← hw8, wipe_length]
        refine ⟨m', hm, i + 1, H', (I'.unpinned (pins := [])).weak hl (fun j v e => ?_), zst_keep st7 fun b hb o e => (pin' b (by rw [← hfp]; exact hb) o e).1, fun b hb => ?_, w'⟩
        · rw [← hw8] at e
          exact (wipe_some e).1
        · obtain ⟨o, e, _⟩ := obj7 b hb
          exact (pin' b hb o e).2
      cases bo with
      | false =>
        simp only [Bool.false_eq_true, if_false] at q9 ⊢
        exact fin I9 q9
      | true =>
        simp only [if_true] at q9 ⊢
        refine thnF (pe.run _ s9 σ8 H9 _ I9 q9) fun z s10 ⟨yv, H10, I10, r10, acc, hD10, hz10, nx⟩ => ?_
        exact app_ok (X := X.blk s3 H3 scope ce fp) I10 hD10 hz10 r10 fun s11 I11 => fin I11 nx
  exact codeAny_compStart_list loop (wpAny_pyIter_zip st4.1 loop)
theorem pe_lcZ {elt e1 e2 : Expr} {es : List Expr} {kk : Nat} {tpos zp cp : Pos} {ifs : List Expr} {scope : Scope} {own : List (Str × Nat)} {pos : Pos} {ta : TA} {g : TG} {tt : TT} {te : TE}
    (hot : HotC X) (hN : X.N.Nodup) (hgl : Gl X "zip") (hmg : X.mg "zip" = none) (ha : PA X [e1, e2] ta) (ok : BlkOk X.N X.env.scope scope own)
    (hg : ∀ (s : Shared) (H : Hp) (C : Addr) (cl : List (Str × Addr)) (fp : List Addr) (p : Addr), HotP (X.blk s H scope (compEnvC scope cl C X.env) fp) p → PG (X.blk s H scope (compEnvC scope cl C X.env) fp) (.Tuple es kk tpos) g)
    (ht : ∀ (s : Shared) (H : Hp) (C : Addr) (cl : List (Str × Addr)) (fp : List Addr), PTs (X.blk s H scope (compEnvC scope cl C X.env) fp) ifs tt) -- the tests
    (he : ∀ (s : Shared) (H : Hp) (C : Addr) (cl : List (Str × Addr)) (fp : List Addr), PE (X.blk s H scope (compEnvC scope cl C X.env) fp) elt te) -- the element
    (hst : starEach [e1, e2] X.env = (false, eval e1 X.env) :: starEach [e2] X.env) (hpl : (backTo cp (starEach [e2] X.env)).any (·.1) = false)
    (hs : ∀ x, foldedSetIterable (.Call (.Name "zip" zp) [e1, e2] [] cp) X.env x = pure x := by intro _; rfl) :
    PE X (.ListComp elt [⟨.Tuple es kk tpos, .Call (.Name "zip" zp) [e1, e2] [] cp, ifs, 0⟩] scope pos) (tLc (iZpH X.K ta) g tt te (own.map (·.2))) := by
  refine ⟨fun pins s σ H Q I h => ?_⟩
  rw [eval_ListComp]
  refine lcZ_core hot hN I hgl hmg ha ok hg ht he hst hpl hs h fun D C s' m H' I' q hn f => ⟨m, hn, fun h'' sb => ?_⟩
  obtain ⟨f0, f1, f2, f3, f4, f5⟩ := f
  exact ⟨.ref D, H', I'.turned (t' := s'.toks) (fun b o hb e => (sb.2 b hb).trans e) f0 f1 f3 f4 f5, rfl, q⟩ -- as in the calm case
end
end Ev
set_option Elab.async false
set_option linter.all false
set_option maxRecDepth 100000
set_option maxHeartbeats 4000000
/-! isinstance of a caught error that has a dict -/
namespace Ev
open PySem PySem.Spec PySem.Calls PyProof.Rows
section
open PySem.W
variable {prog : Program} {w : World} {A : Around} {E : Value → Shared → Prop} {s : Shared} {K : Frag} {a D : Addr} {oe : Obj} {dd : Option Obj}
theorem find_classE {C : Addr} (hc : hasDictIn K C = true) (ha : findIn K (.ref C) "__class__" = some (some (.builtin "object.__class__"))) (hn : specialIn K (.builtin "object.__class__") "__get__" = some (some (.builtin "getset_descriptor.__get__"))) (ht : takesIn K (.builtin "object.__class__") = some true) :
    findObj K C dd "__class__" = some (.bind (.builtin "getset_descriptor.__get__") (.builtin "object.__class__")) := by
  obtain ⟨cd, q, _⟩ := any_some hc
  unfold findObj
  rw [q, Option.bind_some, ha, Option.bind_some]
  simp [hn, ht]
theorem class_ofE {Q : Option Value → Shared → Prop} (T : L2.ExcC K D) (J : K.In s.heap) (Z : InstAt s.heap a oe D dd) (fin : Q (some (.ref D)) { s with toks := s.toks + 1 }) : wpAny (model prog w) A (getAttr? (.ref a) "__class__") Q E s := by
  have fo := find_classE (dd := dd) T.hd T.ha T.hn T.ht
  obtain ⟨m, g, dr, tk, os⟩ := s
  have y0 := Z.type (M := model prog w)
  have y1 := looks_findIn (M := model prog w) J T.hg
  have y2 := looks_findIn (M := model prog w) J T.hk
  have y3 := looks_find (M := model prog w) J Z fo
  have sub : Looks (model prog w) m (isInstance (.ref a) (.type "BaseException")) true := y0.andThen (looks_subIn J T.hs)
  have n0 : (false && onTheHeap (Value.builtin "BaseException.__getattribute__")) = false := rfl -- so
  have n2 : (Value.builtin "BaseException.__getattribute__" == Value.builtin "object.__getattribute__") = false := by decide +kernel -- so
  have n1 : (onTheHeap (Value.ref D) && Value.builtin "BaseException.__getattribute__" == Value.builtin "object.__getattribute__") = false := by rw [n2]; rfl -- so
  unfold getAttr? getAttrBy? getAttrBy
  refine wpAny_bind (wpAny_mkText (wpAny_bind (wpAny_attempt (wpAny_holding (wpAny_bind (y0.at (wpAny_bind (y1.at ?_))))))))
  show wpAny _ _ (if (onTheHeap (Value.ref D) && Value.builtin "BaseException.__getattribute__" == Value.builtin "object.__getattribute__") = true then _ else _) _ _ _ -- own
  rw [n1, if_neg Bool.false_ne_true]
  unfold getAttrByItsOwn hookBefore
  refine wpAny_bind ?_
  rw [if_pos (show onTheHeap (Value.ref D) = true from rfl)]
  refine y2.at ?_
  refine wpAny_bind (wpAny_attempt (wpAny_holding ?_))
  unfold callGetattribute
  rw [n0, if_neg Bool.false_ne_true]
  unfold boundAndCalled
  rw [PySem.F.excAttr_ValueError.ga.bind (.ref a)]
  refine wpAny_bind (wpAny_pure ?_)
  show wpAny _ _ (call (.builtin "BaseException.__getattribute__") [.ref a, .str "__class__" tk]) _ _ _
  refine wpAny_call (codeAny_call_builtin PySem.F.excAttr_ValueError.ga.plain PySem.F.entry_bexc_ga ?_) -- its own
  refine @check_slot (model prog w) _ _ ⟨m, g, dr, tk + 1, os⟩ "BaseException.__getattribute__" "BaseException" "__getattribute__" (.ref a) [.str "__class__" tk] [] _ (by decide +kernel) (by decide +kernel) sub (PySem.F.args_bexc_ga (.ref a) (.str "__class__" tk)) ?_
  unfold Builtin.«object.__getattribute__»
  refine wpAny_bind (wpAny_of_eq (a := ((Value.ref a : Value), [Value.str "__class__" tk])) (by first | rfl | (simp only [slotArgs]; rfl)) ?_)
  refine wpAny_bind (wpAny_pure (wpAny_bind (y0.at (wpAny_bind (y3.at ?_)))))
  show wpAny _ _ (holding [Value.builtin "object.__class__"] (call (.builtin "getset_descriptor.__get__") [.builtin "object.__class__", .ref a, .ref D]) >>= ret) _ _ _
  refine wpAny_bind (wpAny_holding (wpAny_call (class_get (s := ⟨m, g, dr, tk + 1, os⟩) (ox := oe) (od := dd) J Z T.hm ?_)))
  refine wpAny_pure ?_
  show wpAny _ _ (handedOut (.ref D)) _ _ _
  rw [handedOut_of (v := .ref D) rfl]
  first
    | exact wpAny_pure (wpAny_pure fin)
    | exact wpAny_pure fin
    | exact wpAny_pure (wpAny_bind (wpAny_pure (wpAny_pure fin)))
theorem kitE (T : L2.ExcC K D) : KitX K (.ref a) (.ref D) (fun h => InstAt h a oe D dd) where
  ty := fun _ _ _ Z => Z.type
  it := fun _ _ J _ => by
    obtain ⟨cd, hc, _⟩ := any_some T.hd
    unfold clsIn at hc
    split at hc
    · rename_i c' d' cd' sl' ho
      intro A' Q' E' s' k q
      unfold isType loadHead
      exact wpAny_bind (wpAny_loadPart (k _ _ (J _ _ ho)) (wpAny_pure q))
    · cases hc
  ne := fun h tp dt its n sl J htp => by
    obtain ⟨cd, hc, _⟩ := any_some T.hd
    unfold clsIn at hc
    split at hc
    · rename_i c' d' cd' sl' ho
      refine Bool.eq_false_iff.mpr fun q => ?_
      have e : D = tp := Value.ref.inj (beq_iff_eq.mp q)
      subst e
      have z := (J _ _ ho).symm.trans htp
      cases z
    · cases hc
  ca := fun J Z k => class_ofE T J Z k
end
open L2
/-- isinstance(e, c), e the exception that the suite holds, with a dict -/
def rIsD (K : PySem.W.Frag) (D a d : Addr) : List V → Hp → VK → Prop := fun xs H Q => ∃ (c : V) (cv : Value) (b : Bool) (fs : List (Str × V)), xs = [.ref a, c] ∧ H d = some (.xd fs) ∧ (∀ u, L2.RelV c u → u = cv) ∧ PySem.W.kitOne K (.ref D) cv = some b ∧ Q (.bl b) H
theorem call_isD {X : Cx} {a D d : Addr} {oe : Obj} {pn : List (Addr × Obj)} (T : ExcC X.K D) (hz : Zc (.ref D) (some d) oe) (hf : ∃ vs, oe.data = .fields vs) : CallR (X.suite a ((a, oe) :: pn)) (.builtin "isinstance") (rIsD X.K D a d) := by
  intro pins s σ H xs us Q I r ⟨c, cv, b, fs, ex, hx, hcv, e, q⟩
  subst ex
  cases r with
  | cons rx rr =>
    cases rr with
    | cons rt rr =>
      cases rr
      cases rx
      have ec := hcv _ rt
      subst ec
      obtain ⟨ga, _⟩ := I.pin (a, oe) (List.mem_append_left _ List.mem_cons_self)
      obtain ⟨vs, hv⟩ := hf
      have ok : ObjOk X.prog X.w H s.heap d (.xd fs) := I.hok d _ hx
      obtain ⟨mA, hns, _⟩ := ok
      obtain ⟨od, ho, _⟩ := lookIn_ns hns
      have J : PySem.W.InstAt s.heap a oe D (some od) := ⟨ga, hz.1, by unfold PySem.W.notCls; rw [hv] <;> rfl, by rw [hz.2]; exact ho⟩
      exact PySem.W.kia_one (kitE T) I.kIn J e (fun z => nomatch z) fun tk => ⟨.bl b, H, I.kept (t' := tk) fun _ _ z => z, rfl, q⟩
end Ev
set_option Elab.async false
set_option linter.all false
set_option maxRecDepth 100000
set_option maxHeartbeats 4000000
namespace Ev
open PySem PySem.Spec PyProof.Rows L2 HotX L2H
section
variable {X : Cx}
/-- name = [.. for .. in zip(..)] on one line -/
theorem ps_setLcZ {i : Nat} {y : Str} {py spos : Pos} {elt e1 e2 : Expr} {es : List Expr} {kk : Nat} {tpos zp cp : Pos} {ifs : List Expr} {scope : Scope} {own : List (Str × Nat)} {pos : Pos} {ta : TA} {g : TG} {tt : TT} {te : TE}
    (hot : HotC X) (hN : X.N.Nodup) (hy : X.N[i]? = some y) (hyl : X.env.scope.names.lookup y = some .local)
    (hsw : swapsWith (.ListComp elt [⟨.Tuple es kk tpos, .Call (.Name "zip" zp) [e1, e2] [] cp, ifs, 0⟩] scope pos) (some (.Name y py)) spos.line X.env = pure true)
    (hgl : Gl X "zip") (hmg : X.mg "zip" = none) (ha : PA X [e1, e2] ta) (ok : BlkOk X.N X.env.scope scope own)
    (hg : ∀ (s : Shared) (H : Hp) (C : Addr) (cl : List (Str × Addr)) (fp : List Addr) (p : Addr), HotP (X.blk s H scope (compEnvC scope cl C X.env) fp) p → PG (X.blk s H scope (compEnvC scope cl C X.env) fp) (.Tuple es kk tpos) g)
    (ht : ∀ (s : Shared) (H : Hp) (C : Addr) (cl : List (Str × Addr)) (fp : List Addr), PTs (X.blk s H scope (compEnvC scope cl C X.env) fp) ifs tt) -- the tests
    (he : ∀ (s : Shared) (H : Hp) (C : Addr) (cl : List (Str × Addr)) (fp : List Addr), PE (X.blk s H scope (compEnvC scope cl C X.env) fp) elt te) -- the element
    (hst : starEach [e1, e2] X.env = (false, eval e1 X.env) :: starEach [e2] X.env) (hpl : (backTo cp (starEach [e2] X.env)).any (·.1) = false)
    (hs : ∀ x, foldedSetIterable (.Call (.Name "zip" zp) [e1, e2] [] cp) X.env x = pure x := by intro _; rfl) :
    PS X (.Assign [.Name y py] (.ListComp elt [⟨.Tuple es kk tpos, .Call (.Name "zip" zp) [e1, e2] [] cp, ifs, 0⟩] scope pos) spos) (tAsg (tLc (iZpH X.K ta) g tt te (own.map (·.2))) (gName i)) := by
  refine ⟨fun pins s σ H D I h => ?_⟩
  rw [exec_Assign_Name_used _ _ _ _ hsw]
  refine wpAny_bind (wpAny_standAt (wpAny_bind ?_))
  show wpAny _ X.A (do let _ ← comprehension (.ListComp elt [⟨.Tuple es kk tpos, .Call (.Name "zip" zp) [e1, e2] [] cp, ifs, 0⟩] scope pos) scope X.env (firstIterPos [⟨.Tuple es kk tpos, .Call (.Name "zip" zp) [e1, e2] [] cp, ifs, 0⟩] pos) (newList []) false (eval (.Call (.Name "zip" zp) [e1, e2] [] cp) X.env) (some (assign (.Name y py) X.env))) _ _ s
  have h' : tLc (iZpH X.K ta) g tt te (own.map (·.2)) σ H (fun x H1 => gName i x σ H1 D.nx) := h
  refine wpAny_bind (thn (lcZ_core (Qf := fun _ s' => SP X pins D .next s') hot hN I hgl hmg ha ok hg ht he hst hpl hs h' fun L C s' m H' J q hn f => ?_) fun _ s' hq => wpAny_pure (wpAny_pure hq))
  show wpAny _ _ (assign (.Name y py) X.env (.ref L)) _ _ _
  refine wpAny_assign_Name (store_ok2 (v := V.ref L) J hN hy (.inl hyl) rfl (fun s2 I2 ⟨a, sb, ha⟩ => ?_) (.inr hyl))
  obtain ⟨f0, f1, f2, f3, f4, f5⟩ := f
  have apart : C ≠ a := by
    rcases ha with z | z
    · rw [z]
      exact f1
    · exact fun e => f4 y a z e.symm
  exact ⟨m, hn.sameBut sb apart, fun h3 sb3 => ⟨_, H', I2.turned (t' := s2.toks) (fun b o hb e => (sb3.2 b hb).trans e) f0 f1 f3 f4 f5, q⟩⟩
end
end Ev
set_option Elab.async false
set_option linter.all false
set_option maxRecDepth 100000
set_option maxHeartbeats 4000000
/-! the except suite that tells the error's name -/
namespace Ev
open PySem PySem.Spec PyProof.Rows L2 HotX L2H
def nmN : List Str := ["_law_ask", "error", "_law_found", "_law_some", "_law_is_one", "_law_name_here"]
def nmOwn : List (Str × Nat) := [("_law_is_one", 4), ("_law_name_here", 5)]
def nmT : Nat → Str
  | 0 => "house"
  | 1 => "modes"
  | 2 => "plan"
  | 3 => "step"
  | _ => "view"
abbrev lkS (sc : Scope) (x : Str) : Option NameKind := sc.names.lookup x
structure NmK (K : PySem.W.Frag) (mg : Str → Option Value) (C : Nat → Addr) : Prop where
  ec : ∀ k < 5, ExcC K (C k)
  xf : ∀ k < 5, XfC K (C k)
  tab : ∀ k < 5, ∀ j < 5, PySem.W.kitOne K (.ref (C k)) (.ref (C j)) = some (Nat.beq k j)
  ve : ∀ k < 5, PySem.W.kitOne K (.ref (C k)) (.type "ValueError") = some true
  np : PySem.W.findIn K (.ref (C 0)) "part" = some none
  ni : PySem.W.findIn K (.ref (C 2)) "index" = some none
  m0 : mg "BadHouse" = some (.ref (C 0))
  m1 : mg "BadModes" = some (.ref (C 1))
  m2 : mg "BadPlan" = some (.ref (C 2))
  m3 : mg "BadStep" = some (.ref (C 3))
  m4 : mg "BadView" = some (.ref (C 4))
  b : mg "isinstance" = none ∧ mg "len" = none ∧ mg "zip" = none ∧ mg "str" = none ∧ mg "ValueError" = none
structure NmS (sg sc : Scope) : Prop where
  kind : sg.kind = .function
  lo : lkS sg "error" = some .local ∧ lkS sg "_law_found" = some .local ∧ lkS sg "_law_some" = some .local
  gl : lkS sg "BadHouse" = some .globalImplicit ∧ lkS sg "BadModes" = some .globalImplicit ∧ lkS sg "BadPlan" = some .globalImplicit ∧ lkS sg "BadStep" = some .globalImplicit ∧ lkS sg "BadView" = some .globalImplicit
  gb : lkS sg "isinstance" = some .globalImplicit ∧ lkS sg "len" = some .globalImplicit ∧ lkS sg "zip" = some .globalImplicit ∧ lkS sg "str" = some .globalImplicit ∧ lkS sg "ValueError" = some .globalImplicit
  blk : BlkOk nmN sg sc nmOwn
  v4 : lkS (relS sc sg) "_law_is_one" = some .local ∧ lkS sc "_law_is_one" = some .local
  v5 : lkS (relS sc sg) "_law_name_here" = some .local ∧ lkS sc "_law_name_here" = some .local
  ns : (sc.names.any fun (n, k) => n == ("_law_some" : Str) && (k == .local || k == .cell)) = false
def Dk (f : Option (Str × V)) (d : Option Addr) (H : Hp) : Prop := match f with
  | none => d = none
  | some p => ∃ dd, d = some dd ∧ H dd = some (.xd [p])
def rIs (K : PySem.W.Frag) (cls : Value) (d : Option Addr) (a : Addr) : List V → Hp → VK → Prop := fun xs H Q => ∃ D f c cv b, cls = .ref D ∧ ExcC K D ∧ Dk f d H ∧ xs = [.ref a, c] ∧ (∀ u, L2.RelV c u → u = cv) ∧ PySem.W.kitOne K (.ref D) cv = some b ∧ Q (.bl b) H
section
variable {X : Cx} {a : Addr} {oe : Obj} {pn : List (Addr × Obj)} {cls : Value} {d : Option Addr} {C : Nat → Addr} {k : Nat} {f : Option (Str × V)} {sc : Scope}
theorem call_isX (hz : L2N.Zn cls d oe) (hf : ∃ vs, oe.data = .fields vs) : CallR (X.suite a ((a, oe) :: pn)) (.builtin "isinstance") (rIs X.K cls d a) := by
  intro pins s σ H xs us Q I r ⟨D, f, c, cv, b, ec, T, hd, ex, hcv, e, q⟩
  subst ec
  cases f with
  | none =>
    cases (show d = none from hd)
    exact call_isE T hz.zc hf pins s σ H xs us Q I r ⟨c, cv, b, ex, hcv, e, q⟩
  | some p =>
    obtain ⟨dd, ed, hx⟩ := hd
    subst ed
    exact call_isD T hz.zc hf pins s σ H xs us Q I r ⟨c, cv, b, [p], ex, hx, hcv, e, q⟩
/-- the error in its slot, its class the k-th, its field f -/
def PE0 (a : Addr) (cls : Value) (d : Option Addr) (C : Nat → Addr) (k : Nat) (f : Option (Str × V)) (σ : L2.St) (H : Hp) : Prop := σ[1]? = some (some (.ref a)) ∧ cls = .ref (C k) ∧ Dk f d H
def PE1 (a : Addr) (cls : Value) (d : Option Addr) (C : Nat → Addr) (k : Nat) (f : Option (Str × V)) (σ : L2.St) (H : Hp) : Prop := PE0 a cls d C k f σ H ∧ ∃ D, σ[3]? = some (some (.ref D)) ∧ H D = some (.lst [.str (nmT k)])
theorem isE (hz : L2N.Zn cls d oe) (hf : ∃ vs, oe.data = .fields vs) (NK : NmK X.K X.mg C) (NS : NmS X.env.scope sc) (hN : X.N = nmN) (hk : k < 5) {j : Nat} (hj : j < 5) {y : Str} (hm : X.mg y = some (.ref (C j))) (hy : X.env.scope.names.lookup y = some .globalImplicit) (dy : (y == ("__debug__" : Str)) = false) {p p1 p2 p3 : Pos} :
    PE (X.suite a ((a, oe) :: pn)) (.Call (.Name "isinstance" p) [.Name "error" p1, .Name y p2] [] p3) (fun σ H Q => PE0 a cls d C k f σ H ∧ Q (.bl (Nat.beq k j)) H) :=
  PE.weaken (pe_callB (id := "isinstance") (call_isX hz hf) NS.gb.1 NK.b.1 (by rfl) (pa_cons (pe_var (i := 1) (by show X.N[1]? = _; rw [hN]; rfl) (.inl NS.lo.1)) (pa_cons (pe_glob (v := .ref (C j)) hy hm rfl dy) pa_nil))) fun σ H Q ⟨⟨h1, h2, h3⟩, q⟩ =>
    ⟨.ref a, h1, C k, f, .ref (C j), .ref (C j), _, h2, NK.ec k hk, h3, rfl, fun u r => r, NK.tab k hk j hj, q⟩
theorem isV (hz : L2N.Zn cls d oe) (hf : ∃ vs, oe.data = .fields vs) (NK : NmK X.K X.mg C) (NS : NmS X.env.scope sc) (hN : X.N = nmN) (hk : k < 5) {p p1 p2 p3 : Pos} :
    PE (X.suite a ((a, oe) :: pn)) (.Call (.Name "isinstance" p) [.Name "error" p1, .Name "ValueError" p2] [] p3) (fun σ H Q => PE0 a cls d C k f σ H ∧ Q (.bl true) H) :=
  PE.weaken (pe_callB (id := "isinstance") (call_isX hz hf) NS.gb.1 NK.b.1 (by rfl) (pa_cons (pe_var (i := 1) (by show X.N[1]? = _; rw [hN]; rfl) (.inl NS.lo.1)) (pa_cons (pe_bltn (v := .ty "ValueError") NS.gb.2.2.2.2 NK.b.2.2.2.2 (by rfl) rfl) pa_nil))) fun σ H Q ⟨⟨h1, h2, h3⟩, q⟩ =>
    ⟨.ref a, h1, C k, f, .ty "ValueError", .type "ValueError", _, h2, NK.ec k hk, h3, rfl, fun u r => r, NK.ve k hk, q⟩
def bitsV (k : Nat) : List V := [.bl (Nat.beq k 0), .bl (Nat.beq k 1), .bl (Nat.beq k 2), .bl (Nat.beq k 3), .bl (Nat.beq k 4)]
def nmsV : List V := [.str "house", .str "modes", .str "plan", .str "step", .str "view"]
theorem suS1 (hz : L2N.Zn cls d oe) (hf : ∃ vs, oe.data = .fields vs) (NK : NmK X.K X.mg C) (NS : NmS X.env.scope sc) (hN : X.N = nmN) (hk : k < 5) {q1 q2 q3 q4 q5 q6 q7 q8 q9 q10 q11 q12 q13 q14 q15 q16 q17 q18 q19 q20 q21 q22 q23 : Pos} :
    PS (X.suite a ((a, oe) :: pn)) (.Assign [.Name "_law_found" q1] (.List [.Call (.Name "isinstance" q2) [.Name "error" q3, .Name "BadHouse" q4] [] q5, .Call (.Name "isinstance" q6) [.Name "error" q7, .Name "BadModes" q8] [] q9, .Call (.Name "isinstance" q10) [.Name "error" q11, .Name "BadPlan" q12] [] q13, .Call (.Name "isinstance" q14) [.Name "error" q15, .Name "BadStep" q16] [] q17, .Call (.Name "isinstance" q18) [.Name "error" q19, .Name "BadView" q20] [] q21] q22) q23) (fun D σ H => PE0 a cls d C k f σ H ∧ ∀ b, H b = none → D.nx (σ.set 2 (some (.ref b))) (upd H b (.lst (bitsV k)))) :=
  PS.weaken (ps_set (i := 2) (by show X.N.Nodup; rw [hN]; decide) (by show X.N[2]? = _; rw [hN]; rfl) (.inl NS.lo.2.1) (pe_lst (pa_cons (isE (k := k) (f := f) hz hf NK NS hN hk (by decide) NK.m0 NS.gl.1 (by decide)) (pa_cons (isE (k := k) (f := f) hz hf NK NS hN hk (by decide) NK.m1 NS.gl.2.1 (by decide)) (pa_cons (isE (k := k) (f := f) hz hf NK NS hN hk (by decide) NK.m2 NS.gl.2.2.1 (by decide)) (pa_cons (isE (k := k) (f := f) hz hf NK NS hN hk (by decide) NK.m3 NS.gl.2.2.2.1 (by decide)) (pa_cons (isE (k := k) (f := f) hz hf NK NS hN hk (by decide) NK.m4 NS.gl.2.2.2.2 (by decide)) pa_nil)))))) (by rfl) (.inr NS.lo.2.1)) fun D σ H ⟨p, q⟩ =>
    ⟨p, p, p, p, p, (by show 5 ≤ sizeLine; decide), fun b nb => q b nb⟩
def Gw (H H' : Hp) : Prop := ∀ x o, H x = some o → H' x = some o
theorem Gw.trans {H H1 H2 : Hp} (h : Gw H H1) (k : Gw H1 H2) : Gw H H2 := fun x o e => k x o (h x o e)
theorem Gw.upd {H : Hp} {b : Addr} {o : HO} (n : H b = none) : Gw H (L2.upd H b o) := fun x u e => by
  rw [upd_ne (ne_of_none e n)]
  exact e
def accV (k i : Nat) : List V := match Nat.blt k i with
  | true => [.str (nmT k)]
  | false => []
theorem bits_get (k : Nat) {i : Nat} (h : i < 5) : (bitsV k)[i]? = some (.bl (Nat.beq k i)) := by
  match i with
  | 0 | 1 | 2 | 3 | 4 => rfl
  | n + 5 => omega
theorem nms_get {i : Nat} (h : i < 5) : nmsV[i]? = some (.str (nmT i)) := by
  match i with
  | 0 | 1 | 2 | 3 | 4 => rfl
  | n + 5 => omega
theorem suHot (hz : L2N.Zn cls d oe) (hf : ∃ vs, oe.data = .fields vs) : HotC (X.suite a ((a, oe) :: pn)) := by
  obtain ⟨vs, hv⟩ := hf
  exact ⟨(a, oe), ⟨rfl, vs, hv, hz.2.2 vs hv⟩, List.mem_cons_self⟩
theorem suS2 (hz : L2N.Zn cls d oe) (hf : ∃ vs, oe.data = .fields vs) (NK : NmK X.K X.mg C) (NS : NmS X.env.scope sc) (hN : X.N = nmN) (hk : k < 5) {q24 q25 q26 q28 q30 q32 q34 q36 q37 q38 q39 q40 q41 q42 q44 q45 q46 : Pos} {k27 k29 k31 k33 k35 k43 : Nat} (line : (q24.line == q39.line) = true) :
    PS (X.suite a ((a, oe) :: pn)) (.Assign [.Name "_law_some" q24] (.ListComp (.Name "_law_name_here" q40) [⟨.Tuple [.Name "_law_is_one" q41, .Name "_law_name_here" q42] k43 q44, .Call (.Name "zip" q25) [.Name "_law_found" q26, .List [.Constant (.str "house") k27 q28, .Constant (.str "modes") k29 q30, .Constant (.str "plan") k31 q32, .Constant (.str "step") k33 q34, .Constant (.str "view") k35 q36] q37] [] q38, [.Name "_law_is_one" q45], 0⟩] sc q39) q46) (fun D σ H => σ.length = 6 ∧ ∃ b, σ[2]? = some (some (.ref b)) ∧ H b = some (.lst (bitsV k)) ∧ ∀ H' D3, Gw H H' → H' D3 = some (.lst [.str (nmT k)]) → D.nx (σ.set 3 (some (.ref D3))) H') := by
  have nd : X.N.Nodup := by rw [hN]; decide
  refine PS.weaken (ps_setLcZ (X := X.suite a ((a, oe) :: pn)) (i := 3) (own := nmOwn) (g := L2.gTup X.K 2 (gCons (gName 4) (gCons (gName 5) gNil))) (suHot hz hf) nd (by show X.N[3]? = _; rw [hN]; rfl) NS.lo.2.2 (sw_true NS.kind NS.lo.2.2 line NS.ns) NS.gb.2.2.1 NK.b.2.2.1
    (pa_cons (pe_var (i := 2) (by show X.N[2]? = _; rw [hN]; rfl) (.inl NS.lo.2.1)) (pa_cons (pe_lst (pa_cons pe_str (pa_cons pe_str (pa_cons pe_str (pa_cons pe_str (pa_cons pe_str pa_nil)))))) pa_nil)) (by show BlkOk X.N _ _ _; rw [hN]; exact NS.blk)
    (fun s1 H1 C1 l1 q1 p1 hp => pgT_hot hp (pgs_cons (pg_name nd (by show X.N[4]? = _; rw [hN]; rfl) (.inl NS.v4.1) (.inr NS.v4.1)) (pgs_cons (pg_name nd (by show X.N[5]? = _; rw [hN]; rfl) (.inl NS.v5.1) (.inr NS.v5.1)) pgs_nil (by rfl)) (by rfl)))
    (fun s1 H1 C1 l1 q1 => pts_one (pt_val (pe_var (i := 4) (by show X.N[4]? = _; rw [hN]; rfl) (.inl NS.v4.1))))
    (fun s1 H1 C1 l1 q1 => pe_var (i := 5) (by show X.N[5]? = _; rw [hN]; rfl) (.inl NS.v5.1)) (by rfl) (by rfl)) ?_
  intro D σ H ⟨hl, b, h2, hb, q⟩
  match σ, hl with
  | [s0, s1, s2, s3, s4, s5], _ =>
  refine ⟨.ref b, h2, (by show 5 ≤ sizeLine; decide), fun p np => ⟨b, p, bitsV k, nmsV, rfl, SqL.of (Gw.upd np _ _ hb), SqL.of upd_same, ?_⟩⟩
  have g0 : Gw H (upd H p (.lst nmsV)) := Gw.upd np
  intro A nA
  refine ⟨fun i m H' => m + i = 5 ∧ Gw (upd H p (.lst nmsV)) H' ∧ H' A = some (.lst (accV k i)), ⟨5, rfl, Gw.upd nA, upd_same⟩, fun i m H' ⟨e, gw, hA⟩ => ?_⟩
  have qb : SqL X.K H' b (bitsV k) := SqL.of (gw _ _ (g0 _ _ hb))
  have qn : SqL X.K H' p nmsV := SqL.of (gw _ _ upd_same)
  by_cases hi : i < 5
  · refine .inr ⟨⟨bitsV k, nmsV, _, _, qb, qn, bits_get k hi, nms_get hi⟩, fun H2 => Gw (upd H p (.lst nmsV)) H2 ∧ H2 A = some (.lst (accV k (i + 1))), fun H2 y => ⟨m - 1, by omega, by omega, y.1, y.2⟩, ?_⟩
    rintro x H2 ⟨T, u, v, rfl, nT, rfl, hu, hv⟩
    have eu := hu _ qb
    have ev := hv _ qn
    rw [bits_get k hi] at eu
    rw [nms_get hi] at ev
    cases eu
    cases ev
    have gT : ∀ o, Gw H' (upd H' T o) := fun o => Gw.upd nT
    refine ⟨T, _, rfl, SqT.of upd_same, rfl, _, _, rfl, _, _, rfl, rfl, rfl, _, rfl, _, rfl, ?_⟩
    cases ek : Nat.beq k i with
    | true =>
      rw [if_pos rfl]
      have : k = i := Nat.eq_of_beq_eq_true ek
      subst this
      have a0 : accV k k = [] := by
        unfold accV
        rw [show Nat.blt k k = false by rw [blt_ff]; omega] <;> rfl
      have a1 : accV k (k + 1) = [.str (nmT k)] := by
        unfold accV
        rw [show Nat.blt k (k + 1) = true by rw [blt_tt]; omega] <;> rfl
      rw [a0] at hA
      refine ⟨_, rfl, [], gT _ _ _ hA, by decide, ?_, ?_⟩
      · exact fun y o e => by
          rw [upd_ne (ne_of_none e nA)]
          exact gT _ _ _ (gw y o e)
      · rw [upd_same, a1] <;> rfl
    | false =>
      rw [if_neg Bool.false_ne_true]
      have nk : k ≠ i := fun z => by
        rw [z, Nat.beq_refl] at ek
        cases ek
      refine ⟨gw.trans (gT _), ?_⟩
      rw [gT _ _ _ hA]
      unfold accV
      cases e1 : Nat.blt k i with
      | true => rw [show Nat.blt k (i + 1) = true by rw [blt_tt] at e1 ⊢; omega]
      | false => rw [show Nat.blt k (i + 1) = false by rw [blt_ff] at e1 ⊢; omega]
  · have e5 : i = 5 := by omega
    subst e5
    refine .inl ⟨⟨bitsV k, nmsV, qb, qn, .inl (Nat.le_refl _)⟩, ?_⟩
    have a5 : accV k 5 = [.str (nmT k)] := by
      unfold accV
      rw [show Nat.blt k 5 = true by rw [blt_tt]; omega] <;> rfl
    rw [a5] at hA
    exact q H' A (g0.trans gw) hA
theorem sub_pe (hN : X.N = nmN) (NS : NmS X.env.scope sc) {p p1 p2 : Pos} {z : Nat} : PE (X.suite a ((a, oe) :: pn)) (.Subscript (.Name "_law_some" p) (.Constant (.int 0) z p1) p2) (tOp (rIxL X.K) (tVar 3) (tC (.int 0))) :=
  pe_ix ix_list (pe_var (i := 3) (by show X.N[3]? = _; rw [hN]; rfl) (.inl NS.lo.2.2)) pe_int (fun _ _ => rfl)
theorem sub_go {K : PySem.W.Frag} {σ : L2.St} {H : Hp} {D : Addr} {y : Str} {Q : VK} (h3 : σ[3]? = some (some (.ref D))) (hL : H D = some (.lst [.str y])) (q : Q (.str y) H) : tOp (rIxL K) (tVar 3) (tC (.int 0)) σ H Q := ⟨.ref D, h3, D, [.str y], 0, .str y, rfl, rfl, SqL.of hL, rfl, q⟩
theorem suS3 (hz : L2N.Zn cls d oe) (hf : ∃ vs, oe.data = .fields vs) (NK : NmK X.K X.mg C) (NS : NmS X.env.scope sc) (hN : X.N = nmN) (hk : k < 5) {q47 q48 q49 q51 q52 q53 q54 q55 q56 q57 q58 q60 q61 q62 : Pos} {k50 k59 : Nat} :
    PS (X.suite a ((a, oe) :: pn)) (.If (.BoolOp .Or [.Compare (.Call (.Name "len" q47) [.Name "_law_some" q48] [] q49) [.NotEq] [.Constant (.int 1) k50 q51] q52, .UnaryOp .Not (.Call (.Name "isinstance" q53) [.Name "error" q54, .Name "ValueError" q55] [] q56) q57] q58) [.Return (some (.Constant (.str "else") k59 q60)) q61] [] q62) (fun D σ H => PE1 a cls d C k f σ H ∧ D.nx σ H) :=
  PS.weaken (ps_if (X := X.suite a ((a, oe) :: pn)) (pw_or (X := X.suite a ((a, oe) :: pn)) (pt_cmp (pc_neI (pe_callB (id := "len") call_len_seq NS.gb.2.1 NK.b.2.1 (by rfl) (pa_cons (pe_var (i := 3) (by show X.N[3]? = _; rw [hN]; rfl) (.inl NS.lo.2.2)) pa_nil)) pe_int)) (pw_or1 (X := X.suite a ((a, oe) :: pn)) (pt_not (X := X.suite a ((a, oe) :: pn)) (pt_val (X := X.suite a ((a, oe) :: pn)) (isV (k := k) (f := f) hz hf NK NS hN hk))))).pt (pss_one (ps_ret pe_str)) pss_nil) fun D σ H ⟨⟨p0, L, h3, hL⟩, q⟩ =>
    ⟨.ref L, h3, L, [.str (nmT k)], rfl, .inl (SqL.of hL), 1, 1, rfl, rfl, _, rfl, p0, _, rfl, q⟩
theorem part_pe {fd : Str} {j : Nat} (hz : L2N.Zn cls d oe) (hf : ∃ vs, oe.data = .fields vs) (T : XfC X.K (C j)) (no : PySem.W.findIn X.K (.ref (C j)) fd = some none) (hN : X.N = nmN) (NS : NmS X.env.scope sc) {p p2 : Pos} (nk : attributeBase (.Name "error" p) fd X.env (eval (.Name "error" p) X.env) = eval (.Name "error" p) X.env) : PE (X.suite a ((a, oe) :: pn)) (.Attribute (.Name "error" p) fd p2) (tXf a cls d (C j) fd (tVar 1)) :=
  pe_xf T no hz.zc hf (pe_var (i := 1) (by show X.N[1]? = _; rw [hN]; rfl) (.inl NS.lo.1)) nk
theorem part_go {fd : Str} {j : Nat} {v : V} {σ : L2.St} {H : Hp} {Q : VK} (p : PE0 a cls d C j (some (fd, v)) σ H) (q : Q v H) : tXf a cls d (C j) fd (tVar 1) σ H Q := by
  obtain ⟨h1, h2, dd, e, g⟩ := p
  refine ⟨.ref a, h1, rfl, h2, dd, [(fd, v)], v, e, g, ?_, q⟩
  simp [List.lookup]
theorem ifB_t {p q : Prop} (h : p) : if true = true then p else q := by
  rw [if_pos rfl]
  exact h
theorem ifB_f {p q : Prop} (h : q) : if false = true then p else q := by
  rw [if_neg Bool.false_ne_true]
  exact h
inductive NmR : Nat → Option (Str × V) → Str → Prop
  | h0 : NmR 0 (some ("part", .non)) "house"
  | h1 (z : Str) : z.length ≤ 64 → NmR 0 (some ("part", .str z)) (("house" : Str) ++ " " ++ z)
  | m : NmR 1 none "modes"
  | p0 : NmR 2 (some ("index", .non)) "plan"
  | p1 (i : Int) : i.natAbs < 100 → ((toString i : String) : Str).length ≤ 64 → NmR 2 (some ("index", .int i)) (("plan" : Str) ++ " " ++ (toString i : String))
  | s : NmR 3 none "step"
  | v : NmR 4 none "view"
theorem suS45 (hz : L2N.Zn cls d oe) (hf : ∃ vs, oe.data = .fields vs) (NK : NmK X.K X.mg C) (NS : NmS X.env.scope sc) (hN : X.N = nmN) {r : Str} (hr : NmR k f r) {q63 q65 q66 q68 q69 q70 q71 q73 q74 q75 q76 q78 q79 q81 q82 q83 q84 q85 q86 q87 : Pos} {k64 k67 k72 k77 k80 : Nat} {q88 q90 q91 q93 q94 q95 q96 q98 q99 q100 q101 q103 q104 q106 q107 q108 q109 q110 q111 q112 q113 q115 q116 q117 q118 : Pos} {k89 k92 k97 k102 k105 k114 : Nat} :
    PSs (X.suite a ((a, oe) :: pn)) [(.If (.BoolOp .And [.Compare (.Subscript (.Name "_law_some" q63) (.Constant (.int 0) k64 q65) q66) [.Eq] [.Constant (.str "house") k67 q68] q69, .Compare (.Attribute (.Name "error" q70) "part" q71) [.IsNot] [.Constant .none k72 q73] q74] q75) [.Return (some (.BinOp (.BinOp (.Subscript (.Name "_law_some" q76) (.Constant (.int 0) k77 q78) q79) .Add (.Constant (.str " ") k80 q81) q82) .Add (.Attribute (.Name "error" q83) "part" q84) q85)) q86] [] q87), (.Return (some (.IfExp (.BoolOp .And [.Compare (.Subscript (.Name "_law_some" q88) (.Constant (.int 0) k89 q90) q91) [.Eq] [.Constant (.str "plan") k92 q93] q94, .Compare (.Attribute (.Name "error" q95) "index" q96) [.IsNot] [.Constant .none k97 q98] q99] q100) (.BinOp (.BinOp (.Subscript (.Name "_law_some" q101) (.Constant (.int 0) k102 q103) q104) .Add (.Constant (.str " ") k105 q106) q107) .Add (.Call (.Name "str" q108) [.Attribute (.Name "error" q109) "index" q110] [] q111) q112) (.Subscript (.Name "_law_some" q113) (.Constant (.int 0) k114 q115) q116) q117)) q118)] (fun D σ H => PE1 a cls d C k f σ H ∧ D.rt (.str r) H) := by
  refine PSs.weaken (pss_cons (ps_if (X := X.suite a ((a, oe) :: pn)) (pw_and (X := X.suite a ((a, oe) :: pn)) (pt_cmpR (X := X.suite a ((a, oe) :: pn)) op_eq (sub_pe hN NS) pe_str (by rfl)) (pw_and1 (X := X.suite a ((a, oe) :: pn)) (pt_cmp (X := X.suite a ((a, oe) :: pn)) (pc_notN (part_pe (fd := "part") (j := 0) hz hf (NK.xf 0 (by decide)) NK.np hN NS (by rfl)))))).pt
    (pss_one (ps_ret (pe_op (X := X.suite a ((a, oe) :: pn)) op_add_str (pe_op (X := X.suite a ((a, oe) :: pn)) op_add_str (sub_pe hN NS) pe_str) (part_pe (fd := "part") (j := 0) hz hf (NK.xf 0 (by decide)) NK.np hN NS (by rfl))))) pss_nil)
    (pss_one (ps_ret (pe_ifExp (X := X.suite a ((a, oe) :: pn)) (pw_and (X := X.suite a ((a, oe) :: pn)) (pt_cmpR (X := X.suite a ((a, oe) :: pn)) op_eq (sub_pe hN NS) pe_str (by rfl)) (pw_and1 (X := X.suite a ((a, oe) :: pn)) (pt_cmp (X := X.suite a ((a, oe) :: pn)) (pc_notN (part_pe (fd := "index") (j := 2) hz hf (NK.xf 2 (by decide)) NK.ni hN NS (by rfl)))))).pt
      (pe_op (X := X.suite a ((a, oe) :: pn)) op_add_str (pe_op (X := X.suite a ((a, oe) :: pn)) op_add_str (sub_pe hN NS) pe_str) (pe_callTy (X := X.suite a ((a, oe) :: pn)) (T := "str") call_str_int NS.gb.2.2.2.1 NK.b.2.2.2.1 (by rfl) (pa_cons (part_pe (fd := "index") (j := 2) hz hf (NK.xf 2 (by decide)) NK.ni hN NS (by rfl)) pa_nil)))
      (sub_pe hN NS))))) ?_
  intro D σ H ⟨⟨p0, L, h3, hL⟩, q⟩
  have sz : (64 : Nat) + 64 ≤ sizeLine := by decide
  cases hr with
  | h0 =>
    refine sub_go h3 hL ⟨by rfl, true, by decide, ?_⟩
    refine ifB_t ?_
    refine part_go p0 ⟨false, rfl, ?_⟩
    refine ifB_f ?_
    refine sub_go h3 hL ⟨by rfl, false, by decide, ?_⟩
    refine ifB_f (ifB_f ?_)
    exact sub_go h3 hL q
  | h1 z hz =>
    refine sub_go h3 hL ⟨by rfl, true, by decide, ?_⟩
    refine ifB_t ?_
    refine part_go p0 ⟨true, rfl, ?_⟩
    refine ifB_t ?_
    refine sub_go h3 hL ⟨_, _, rfl, rfl, by decide, part_go p0 ⟨_, _, rfl, rfl, ?_, q⟩⟩
    have : (("house" : Str) ++ " ").length = 6 := by decide
    rw [show (nmT 0 ++ (" " : Str)).length = 6 from this]
    omega
  | p0 =>
    refine sub_go h3 hL ⟨by rfl, false, by decide, ?_⟩
    refine ifB_f (ifB_f ?_)
    refine sub_go h3 hL ⟨by rfl, true, by decide, ?_⟩
    refine ifB_t ?_
    refine part_go p0 ⟨false, rfl, ?_⟩
    refine ifB_f ?_
    exact sub_go h3 hL q
  | p1 i h1 h2 =>
    refine sub_go h3 hL ⟨by rfl, false, by decide, ?_⟩
    refine ifB_f (ifB_f ?_)
    refine sub_go h3 hL ⟨by rfl, true, by decide, ?_⟩
    refine ifB_t ?_
    refine part_go p0 ⟨true, rfl, ?_⟩
    refine ifB_t ?_
    refine sub_go h3 hL ⟨_, _, rfl, rfl, by decide, part_go p0 ⟨i, rfl, ?_, _, _, rfl, rfl, ?_, q⟩⟩
    · exact Nat.lt_of_lt_of_le (Nat.lt_of_le_of_lt (Nat.log2_le_self _) h1) (by decide)
    · have : (("plan" : Str) ++ " ").length = 5 := by decide
      rw [show (nmT 2 ++ (" " : Str)).length = 5 from this]
      omega
  | m =>
    refine sub_go h3 hL ⟨by rfl, false, by decide, ?_⟩
    refine ifB_f (ifB_f ?_)
    refine sub_go h3 hL ⟨by rfl, false, by decide, ?_⟩
    refine ifB_f (ifB_f ?_)
    exact sub_go h3 hL q
  | s =>
    refine sub_go h3 hL ⟨by rfl, false, by decide, ?_⟩
    refine ifB_f (ifB_f ?_)
    refine sub_go h3 hL ⟨by rfl, false, by decide, ?_⟩
    refine ifB_f (ifB_f ?_)
    exact sub_go h3 hL q
  | v =>
    refine sub_go h3 hL ⟨by rfl, false, by decide, ?_⟩
    refine ifB_f (ifB_f ?_)
    refine sub_go h3 hL ⟨by rfl, false, by decide, ?_⟩
    refine ifB_f (ifB_f ?_)
    exact sub_go h3 hL q
/-- what is asked of the error -/
def SuP (a : Addr) (cls : Value) (d : Option Addr) (C : Nat → Addr) (D : Ends) (σ : L2.St) (H : Hp) : Prop := ∃ k f r, k < 5 ∧ σ.length = 6 ∧ PE0 a cls d C k f σ H ∧ NmR k f r ∧ ∀ H', Gw H H' → D.rt (.str r) H'
theorem NmR.lt {k : Nat} {f : Option (Str × V)} {r : Str} (h : NmR k f r) : k < 5 := by cases h <;> decide
theorem PE0.gw {σ σ' : L2.St} {H H' : Hp} (p : PE0 a cls d C k f σ H) (g : Gw H H') (e : σ'[1]? = σ[1]?) : PE0 a cls d C k f σ' H' := by
  obtain ⟨h1, h2, h3⟩ := p
  refine ⟨e.trans h1, h2, ?_⟩
  cases f with
  | none => exact h3
  | some p =>
    obtain ⟨dd, e1, e2⟩ := h3
    exact ⟨dd, e1, g _ _ e2⟩
theorem suite_ok (hz : L2N.Zn cls d oe) (hf : ∃ vs, oe.data = .fields vs) (NK : NmK X.K X.mg C) (NS : NmS X.env.scope sc) (hN : X.N = nmN) {q1 q2 q3 q4 q5 q6 q7 q8 q9 q10 q11 q12 q13 q14 q15 q16 q17 q18 q19 q20 q21 q22 q23 q24 q25 q26 q28 q30 q32 q34 q36 q37 q38 q39 q40 q41 q42 q44 q45 q46 q47 q48 q49 q51 q52 q53 q54 q55 q56 q57 q58 q60 q61 q62 q63 q65 q66 q68 q69 q70 q71 q73 q74 q75 q76 q78 q79 q81 q82 q83 q84 q85 q86 q87 q88 q90 q91 q93 q94 q95 q96 q98 q99 q100 q101 q103 q104 q106 q107 q108 q109 q110 q111 q112 q113 q115 q116 q117 q118 : Pos} {k27 k29 k31 k33 k35 k43 k50 k59 k64 k67 k72 k77 k80 k89 k92 k97 k102 k105 k114 : Nat} (line : (q24.line == q39.line) = true) :
    PSs (X.suite a ((a, oe) :: pn)) [.Assign [.Name "_law_found" q1] (.List [.Call (.Name "isinstance" q2) [.Name "error" q3, .Name "BadHouse" q4] [] q5, .Call (.Name "isinstance" q6) [.Name "error" q7, .Name "BadModes" q8] [] q9, .Call (.Name "isinstance" q10) [.Name "error" q11, .Name "BadPlan" q12] [] q13, .Call (.Name "isinstance" q14) [.Name "error" q15, .Name "BadStep" q16] [] q17, .Call (.Name "isinstance" q18) [.Name "error" q19, .Name "BadView" q20] [] q21] q22) q23, .Assign [.Name "_law_some" q24] (.ListComp (.Name "_law_name_here" q40) [⟨.Tuple [.Name "_law_is_one" q41, .Name "_law_name_here" q42] k43 q44, .Call (.Name "zip" q25) [.Name "_law_found" q26, .List [.Constant (.str "house") k27 q28, .Constant (.str "modes") k29 q30, .Constant (.str "plan") k31 q32, .Constant (.str "step") k33 q34, .Constant (.str "view") k35 q36] q37] [] q38, [.Name "_law_is_one" q45], 0⟩] sc q39) q46, .If (.BoolOp .Or [.Compare (.Call (.Name "len" q47) [.Name "_law_some" q48] [] q49) [.NotEq] [.Constant (.int 1) k50 q51] q52, .UnaryOp .Not (.Call (.Name "isinstance" q53) [.Name "error" q54, .Name "ValueError" q55] [] q56) q57] q58) [.Return (some (.Constant (.str "else") k59 q60)) q61] [] q62, .If (.BoolOp .And [.Compare (.Subscript (.Name "_law_some" q63) (.Constant (.int 0) k64 q65) q66) [.Eq] [.Constant (.str "house") k67 q68] q69, .Compare (.Attribute (.Name "error" q70) "part" q71) [.IsNot] [.Constant .none k72 q73] q74] q75) [.Return (some (.BinOp (.BinOp (.Subscript (.Name "_law_some" q76) (.Constant (.int 0) k77 q78) q79) .Add (.Constant (.str " ") k80 q81) q82) .Add (.Attribute (.Name "error" q83) "part" q84) q85)) q86] [] q87, .Return (some (.IfExp (.BoolOp .And [.Compare (.Subscript (.Name "_law_some" q88) (.Constant (.int 0) k89 q90) q91) [.Eq] [.Constant (.str "plan") k92 q93] q94, .Compare (.Attribute (.Name "error" q95) "index" q96) [.IsNot] [.Constant .none k97 q98] q99] q100) (.BinOp (.BinOp (.Subscript (.Name "_law_some" q101) (.Constant (.int 0) k102 q103) q104) .Add (.Constant (.str " ") k105 q106) q107) .Add (.Call (.Name "str" q108) [.Attribute (.Name "error" q109) "index" q110] [] q111) q112) (.Subscript (.Name "_law_some" q113) (.Constant (.int 0) k114 q115) q116) q117)) q118] (SuP a cls d C) := by
  refine ⟨fun pins s σ H D I ⟨k, f, r, hk, hl, p, hr, q⟩ => ?_⟩
  refine (pss_cons (suS1 (k := k) (f := f) hz hf NK NS hN hk) (pss_cons (suS2 hz hf NK NS hN hk line) (pss_cons (suS3 (k := k) (f := f) hz hf NK NS hN hk) (suS45 hz hf NK NS hN hr)))).run pins s σ H D I ⟨p, fun b nb => ?_⟩
  refine ⟨by rw [List.length_set]; exact hl, b, ?_, upd_same, fun H' D3 g hD => ?_⟩
  · rw [List.getElem?_set_self (by omega)]
  · have g' : Gw H H' := (Gw.upd nb).trans g
    have p1 : PE1 a cls d C k f ((σ.set 2 (some (.ref b))).set 3 (some (.ref D3))) H' := by
      refine ⟨p.gw g' ?_, D3, ?_, hD⟩
      · rw [List.getElem?_set_ne (by decide), List.getElem?_set_ne (by decide)]
      · rw [List.getElem?_set_self (by rw [List.length_set]; omega)]
    exact ⟨p1, p1, q H' g'⟩
end
end Ev
set_option Elab.async false
set_option linter.all false
set_option maxRecDepth 100000
set_option maxHeartbeats 2000000
/-! a lambda without parameters, called by the def that got it -/
namespace Ev
open PySem PySem.Spec PyProof.Rows L2
/-- the context of its body -/
def lamZ (X : Cx) (A : Around) (outer : List Env) (s : Shared) (H : Hp) (E : XK) (scope : Scope) (f c' : Addr) : Cx := { LamX.lamCx X A outer s H E scope f c' with xe := fun e s' => wpAny (model X.prog X.w) (A.deeper (LamX.lamEnv X scope s.heap.objs.size f c')) (leaving (LamX.lamEnv X scope s.heap.objs.size f c') e) (fun _ s'' => L2N.CX X.prog X.w outer H s E e s'') (fun e' s'' => L2N.CX X.prog X.w outer H s E e' s'') s' }
section
variable {X : Cx} {pins : List (Addr × Obj)} {σ : L2.St} {H HZ : Hp} {s s1 : Shared}
theorem inv_lamZ {A : Around} {outer : List Env} {E : XK} {scope : Scope} {f c' : Addr} {ps : List (Addr × Obj)} {σ' : L2.St} {H' : Hp} {s' : Shared} (J : Inv (LamX.lamCx X A outer s1 HZ E scope f c') ps σ' H' s') : Inv (lamZ X A outer s1 HZ E scope f c') ps σ' H' s' := by
  obtain ⟨ok, a1, a2, a3, a4, a5, a6, a7, a8, a9, a10⟩ := J
  exact ⟨⟨ok.mod, ok.kind, ok.glob, ok.blt, ok.above, ok.inj, ok.has, ok.cab, ok.hd, ok.frames, ok.stk, ok.exf, ok.bs, ok.bsz, ok.noex, ok.exfs, ok.funs, ok.frf⟩, a1, a2, a3, a4, a5, a6, a7, a8, a9, a10⟩
open LamX in
/-- a(), in the def that got the lambda -/
theorem pe_actZ {CXg : CXT} {Eg : XK} {Ng : List Str} {qg : Str} {sg : Scope} {g f c' : Addr} {cdg pm ctv : Value} {params : Arguments} {body : Expr} {scope : Scope} {k i : Nat} {a : Str} {pn : List (Addr × Obj)} {xe : Value → Shared → Prop} {W : WX} {E : XK} {tb : TE} {p1 p2 : Pos}
    (I : Inv X pins σ H s) (L : LamS X.env.scope scope) (gf : s.heap.get? f = some (PySem.W.kla_obj "<lambda>" (X.env.qual ++ "<lambda>") params body scope (cloFrom X.env.cells scope.names []) pm c' ctv)) (nf : H f = none) (fr : f ∉ frs X.stack)
    (bnd : bindArgs (PySem.W.kla_fn "<lambda>" (X.env.qual ++ "<lambda>") params body scope (cloFrom X.env.cells scope.names []) pm (.ref c') ctv) ⟨[], []⟩ = pure [])
    (tk : L2N.Takes ((cxOf CXg X.prog X.w X.K X.mg X.base Ng qg sg g cdg X.A X.stack s H Eg).tr pn xe) W) (hW : ∀ cls d σ' H', E cls d H' → W cls d σ' H') (ro : Room (k + 1) (X.A.deeper (envOfC qg sg s.heap.objs.size g cdg)))
    (hbody : ∀ (A : Around) (outer : List Env) (s : Shared) (H : Hp), Room k (A.deeper (lamEnv X scope s.heap.objs.size f c')) → PE (lamZ X A outer s H E scope f c') body tb)
    (hN : Ng[i]? = some a) (hv : Vis sg a) (hd : (a == ("__debug__" : Str)) = false := by decide) (hcd : (a == ("__classdict__" : Str)) = false := by decide) :
    PE ((cxOf CXg X.prog X.w X.K X.mg X.base Ng qg sg g cdg X.A X.stack s H Eg).tr pn xe) (.Call (.Name a p1) [] [] p2)
      (fun σZ HZ Q => σZ[i]? = some (some (.ref f)) ∧ HZ c' = some (CodeO c' (X.env.qual ++ "<lambda>")) ∧ tb σ HZ Q) := by
  refine ⟨fun pinsZ sZ σZ HZ Q IZ ⟨hs, hc, ht⟩ => ?_⟩
  refine wpAny_Call_Name_kw (thn ((pe_var (pos := p1) (i := i) hN hv hd hcd).run pinsZ sZ σZ HZ (fun y H1 => y = .ref f ∧ H1 = HZ) IZ ⟨.ref f, hs, rfl, rfl⟩) fun u s1 ⟨y, H1, I1, r1, q1⟩ => ?_)
  obtain ⟨ey, eH⟩ := q1
  subst ey
  rw [eH] at I1
  obtain rfl : u = Value.ref f := r1
  have g1 : s1.heap.get? f = some (PySem.W.kla_obj "<lambda>" (X.env.qual ++ "<lambda>") params body scope (cloFrom X.env.cells scope.names []) pm c' ctv) := I1.base.keep f _ gf nf fr (fun z => nomatch (show f ∈ ([] : List Addr) from z))
  refine PySem.W.callWith_F0 ⟨_, _, _, _, g1⟩ ?_
  have un : Un (frs X.stack) [] H HZ s.heap s1.heap := I1.base
  obtain ⟨⟨oc, vs, t, hoc, hdc, hvc⟩, _, _⟩ := I1.hok c' _ hc
  have ran : codeAny (model X.prog X.w) (X.A.deeper (envOfC qg sg s.heap.objs.size g cdg)) (.call (.ref f) ⟨[], []⟩) (CR (L2N.CX X.prog X.w) (envOfC qg sg s.heap.objs.size g cdg :: X.stack) X.prog X.w HZ s1 Q E) s1 := by
    refine PySem.W.kla_callFunE ro.depth g1 rfl L.co L.gen rfl ⟨c', oc, vs, t, rfl, hoc, hdc, hvc⟩ ?_
    rw [bnd]
    refine wpAny_pure (wpAny_newFunctionEnv (fun y hy => (L.own y hy).2) (fun y hy => absurd hy (by simp)) (fun m hns hsb => ⟨I1.nolimit.fresh _ hsb, ?_⟩) L.kind)
    show codeAny _ _ (.expr body (lamEnv X scope s1.heap.objs.size f c')) _ _
    have kp : ∀ b o, s1.heap.get? b = some o → m.get? b = some o := fun b o e => hsb.extBut b o (Nat.ne_of_lt (Heap.lt_size e)) (Heap.get?_push_of_some _ e)
    have J : Inv (lamZ X (X.A.deeper (envOfC qg sg s.heap.objs.size g cdg)) (envOfC qg sg s.heap.objs.size g cdg :: X.stack) s1 HZ E scope f c') [] σ HZ { s1 with heap := m, toks := s1.toks + ([] : List (Str × Value)).length } :=
      inv_lamZ (lam_start2 I L I1.env0 ro.hd un hns kp)
    refine PySem.W.kla_codeExpr (wpAny_mono ((hbody _ _ s1 HZ (ro.deeper _)).run [] _ _ HZ Q J ht) (fun v' s' hq => ?_) fun e s' hq => hq)
    obtain ⟨w', H', J', rv, q⟩ := hq
    exact ⟨w', H', J'.os, J'.bare, J'.base, J'.hok, rv, q⟩
  have hx : Passes (L2N.CX X.prog X.w) ((cxOf CXg X.prog X.w X.K X.mg X.base Ng qg sg g cdg X.A X.stack s H Eg).tr pn xe) E := L2N.passes_call tk hW
  refine wpAny_call (codeAny_mono ran fun r s' hq => ?_)
  cases r with
  | error e => exact hx pinsZ σZ HZ s1 e s' I1 hq
  | ok fl =>
    cases fl with
    | ret z => exact I1.after hq
    | next => exact False.elim hq
    | brk => exact False.elim hq
    | cont => exact False.elim hq
end
end Ev
set_option Elab.async false
set_option linter.all false
set_option maxRecDepth 100000
set_option maxHeartbeats 4000000
/-! x(lambda: body), where the def x calls it and names the error -/
namespace Ev
open PySem PySem.Spec PyProof.Rows L2 HotX L2H
/-- the name of an error; cs: the numbers of its classes -/
def nmOf (cs : Nat → Nat) (x : AX) : Option Str := match x.f with
  | none => (match Nat.beq x.c (cs 1) with
    | true => some "modes"
    | false => (match Nat.beq x.c (cs 3) with
      | true => some "step"
      | false => (match Nat.beq x.c (cs 4) with
        | true => some "view"
        | false => none)))
  | some (g, v) => (match Nat.beq x.c (cs 0) && decide (g = "part") with
    | true => (match v with
      | .non => some "house"
      | .str z => (match decide (z.length ≤ 64) with
        | true => some (("house" : Str) ++ " " ++ z)
        | false => none)
      | _ => none)
    | false => (match Nat.beq x.c (cs 2) && decide (g = "index") with
      | true => (match v with
        | .non => some "plan"
        | .int i => (match decide (i.natAbs < 100) && decide (((toString i : String) : Str).length ≤ 64) with
          | true => some (("plan" : Str) ++ " " ++ (toString i : String))
          | false => none)
        | _ => none)
      | false => none))
def nameR (cs : Nat → Nat) (r : R AV) : R AV := match r with
  | .ok _ h => .ok (.str "") h
  | .ex x h => (match nmOf cs x with
    | some z => .ok (.str z) h
    | none => .bad)
  | .bad => .bad
def mName (cs : Nat → Nat) (mb : ME) : ME := fun l h => nameR cs (mb l h)
def catchN (C : Nat → Addr) (Q : VK) : XK := fun cls d H => ∃ k f r, cls = .ref (C k) ∧ Dk f d H ∧ NmR k f r ∧ ∀ H', Gw H H' → Q (.str r) H'
theorem nmOf_ok {W : Wd} {μ : Mu} {H : Hp} {cs : Nat → Nat} {x : AX} {z : Str} {cls : Value} {d : Option Addr} (e : nmOf cs x = some z) (xr : XRel W μ H x cls d) : ∃ k f, cls = .ref (W.ca (cs k)) ∧ Dk f d H ∧ NmR k f z := by
  obtain ⟨ec, xf⟩ := xr
  unfold nmOf at e
  cases ef : x.f with
  | none =>
    rw [ef] at e xf
    dsimp only at e xf
    cases e1 : Nat.beq x.c (cs 1) with
    | true =>
      rw [e1] at e
      cases e
      exact ⟨1, none, by rw [ec, beq_tt e1], xf, .m⟩
    | false =>
      rw [e1] at e
      dsimp only at e
      cases e2 : Nat.beq x.c (cs 3) with
      | true =>
        rw [e2] at e
        cases e
        exact ⟨3, none, by rw [ec, beq_tt e2], xf, .s⟩
      | false =>
        rw [e2] at e
        dsimp only at e
        cases e3 : Nat.beq x.c (cs 4) with
        | true =>
          rw [e3] at e
          cases e
          exact ⟨4, none, by rw [ec, beq_tt e3], xf, .v⟩
        | false => rw [e3] at e; cases e
  | some gv =>
    obtain ⟨g, v⟩ := gv
    rw [ef] at e xf
    dsimp only at e xf
    obtain ⟨a, u, ed, eh, du⟩ := xf
    cases e1 : Nat.beq x.c (cs 0) && decide (g = "part") with
    | true =>
      rw [e1] at e
      obtain ⟨b1, b2⟩ := Bool.and_eq_true_iff.mp e1
      have eg := of_decide_eq_true b2
      subst eg
      cases v with
      | non =>
        cases e
        cases du
        exact ⟨0, some ("part", .non), by rw [ec, beq_tt b1], ⟨a, ed, eh⟩, .h0⟩
      | str y =>
        dsimp only at e
        cases e2 : decide (y.length ≤ 64) with
        | false => rw [e2] at e; cases e
        | true =>
          rw [e2] at e
          cases e
          cases du
          exact ⟨0, some ("part", .str y), by rw [ec, beq_tt b1], ⟨a, ed, eh⟩, .h1 y (of_decide_eq_true e2)⟩
      | _ => cases e
    | false =>
      rw [e1] at e
      dsimp only at e
      cases e3 : Nat.beq x.c (cs 2) && decide (g = "index") with
      | false => rw [e3] at e; cases e
      | true =>
        rw [e3] at e
        obtain ⟨b1, b2⟩ := Bool.and_eq_true_iff.mp e3
        have eg := of_decide_eq_true b2
        subst eg
        cases v with
        | non =>
          cases e
          cases du
          exact ⟨2, some ("index", .non), by rw [ec, beq_tt b1], ⟨a, ed, eh⟩, .p0⟩
        | int i =>
          dsimp only at e
          cases e2 : decide (i.natAbs < 100) && decide (((toString i : String) : Str).length ≤ 64) with
          | false => rw [e2] at e; cases e
          | true =>
            rw [e2] at e
            cases e
            cases du
            obtain ⟨c1, c2⟩ := Bool.and_eq_true_iff.mp e2
            exact ⟨2, some ("index", .int i), by rw [ec, beq_tt b1], ⟨a, ed, eh⟩, .p1 i (of_decide_eq_true c1) (of_decide_eq_true c2)⟩
        | _ => cases e
theorem name_post {W : Wd} {ro : Nat} {μ : Mu} {H : Hp} {cs : Nat → Nat} {r : R AV} {Q : VK} (p : postG (dV W) W ro μ H (nameR cs r) Q) : postG (dV (W.to (catchN (fun k => W.ca (cs k)) Q))) (W.to (catchN (fun k => W.ca (cs k)) Q)) ro μ H r (fun _ H' => Q (.str "") H') := by
  cases r with
  | bad => exact p
  | ok v h => exact fun μ' u H' st R d => p μ' (.str "") H' st (R.to W.E) (.str _)
  | ex x h =>
    have p' : postG (dV W) W ro μ H (match nmOf cs x with | some z => .ok (.str z) h | none => .bad) Q := p
    cases e : nmOf cs x with
    | none => rw [e] at p'; exact False.elim p'
    | some z =>
      rw [e] at p'
      intro μ' H' cls d st R xr
      obtain ⟨k, f, e1, dk, nr⟩ := nmOf_ok e xr
      refine ⟨k, f, z, e1, dk, nr, fun H2 g => ?_⟩
      have k1 : ∀ b o, (∀ ps, o ≠ .tbl ps) → H' b = some o → H2 b = some o := fun b o _ q => g b o q
      have k2 : ∀ b o, H' b = some o → ∃ o', H2 b = some o' := fun b o q => ⟨o, g b o q⟩
      exact p' μ' (.str z) H2 (st.trans (Step.kept k1 k2)) ((R.to W.E).still k1 k2 (R.tabs.ext fun b o q => g b o q)) (.str _)
theorem pss_name {X : Cx} {C : Nat → Addr} {S : Addr} {sc : Scope} {tact : XK → TE} {q1 q2 q3 q4 q5 q6 q7 q8 q9 q10 q11 q12 q13 q14 q15 q16 q17 q18 q19 q20 q21 q22 q23 q24 q25 q26 q28 q30 q32 q34 q36 q37 q38 q39 q40 q41 q42 q44 q45 q46 q47 q48 q49 q51 q52 q53 q54 q55 q56 q57 q58 q60 q61 q62 q63 q65 q66 q68 q69 q70 q71 q73 q74 q75 q76 q78 q79 q81 q82 q83 q84 q85 q86 q87 q88 q90 q91 q93 q94 q95 q96 q98 q99 q100 q101 q103 q104 q106 q107 q108 q109 q110 q111 q112 q113 q115 q116 q117 q118 : Pos} {k27 k29 k31 k33 k35 k43 k50 k59 k64 k67 k72 k77 k80 k89 k92 k97 k102 k105 k114 : Nat} {n1 n2 n3 n4 n5 n6 n7 n8 : Pos} {z1 : Nat} (hs : X.stack = X.env :: X.outer) (hf : X.env.frame = some X.env.locals) (hN : X.N = nmN)
    (NK : NmK X.K X.mg C) (NS : NmS X.env.scope sc) (hg : lkS X.env.scope "ShelfError" = some .globalImplicit) (hm : X.mg "ShelfError" = some (.ref S)) (hx : ∀ k < 5, PySem.W.exmOne X.K (.ref (C k)) (.ref S) = some true) (line : (q24.line == q39.line) = true)
    (act : ∀ (W : WX) (pn : List (Addr × Obj)) (xe : Value → Shared → Prop) (E : XK), L2N.Takes (X.tr pn xe) W → (∀ cls d σ' H', E cls d H' → W cls d σ' H') → PE (X.tr pn xe) (.Call (.Name "_law_ask" n1) [] [] n2) (tact E)) :
    PSs X [.Try [.Expr (.Call (.Name "_law_ask" n1) [] [] n2) n3] [.ExceptHandler (some (.Name "ShelfError" n4)) (some "error") [.Assign [.Name "_law_found" q1] (.List [.Call (.Name "isinstance" q2) [.Name "error" q3, .Name "BadHouse" q4] [] q5, .Call (.Name "isinstance" q6) [.Name "error" q7, .Name "BadModes" q8] [] q9, .Call (.Name "isinstance" q10) [.Name "error" q11, .Name "BadPlan" q12] [] q13, .Call (.Name "isinstance" q14) [.Name "error" q15, .Name "BadStep" q16] [] q17, .Call (.Name "isinstance" q18) [.Name "error" q19, .Name "BadView" q20] [] q21] q22) q23, .Assign [.Name "_law_some" q24] (.ListComp (.Name "_law_name_here" q40) [⟨.Tuple [.Name "_law_is_one" q41, .Name "_law_name_here" q42] k43 q44, .Call (.Name "zip" q25) [.Name "_law_found" q26, .List [.Constant (.str "house") k27 q28, .Constant (.str "modes") k29 q30, .Constant (.str "plan") k31 q32, .Constant (.str "step") k33 q34, .Constant (.str "view") k35 q36] q37] [] q38, [.Name "_law_is_one" q45], 0⟩] sc q39) q46, .If (.BoolOp .Or [.Compare (.Call (.Name "len" q47) [.Name "_law_some" q48] [] q49) [.NotEq] [.Constant (.int 1) k50 q51] q52, .UnaryOp .Not (.Call (.Name "isinstance" q53) [.Name "error" q54, .Name "ValueError" q55] [] q56) q57] q58) [.Return (some (.Constant (.str "else") k59 q60)) q61] [] q62, .If (.BoolOp .And [.Compare (.Subscript (.Name "_law_some" q63) (.Constant (.int 0) k64 q65) q66) [.Eq] [.Constant (.str "house") k67 q68] q69, .Compare (.Attribute (.Name "error" q70) "part" q71) [.IsNot] [.Constant .none k72 q73] q74] q75) [.Return (some (.BinOp (.BinOp (.Subscript (.Name "_law_some" q76) (.Constant (.int 0) k77 q78) q79) .Add (.Constant (.str " ") k80 q81) q82) .Add (.Attribute (.Name "error" q83) "part" q84) q85)) q86] [] q87, .Return (some (.IfExp (.BoolOp .And [.Compare (.Subscript (.Name "_law_some" q88) (.Constant (.int 0) k89 q90) q91) [.Eq] [.Constant (.str "plan") k92 q93] q94, .Compare (.Attribute (.Name "error" q95) "index" q96) [.IsNot] [.Constant .none k97 q98] q99] q100) (.BinOp (.BinOp (.Subscript (.Name "_law_some" q101) (.Constant (.int 0) k102 q103) q104) .Add (.Constant (.str " ") k105 q106) q107) .Add (.Call (.Name "str" q108) [.Attribute (.Name "error" q109) "index" q110] [] q111) q112) (.Subscript (.Name "_law_some" q113) (.Constant (.int 0) k114 q115) q116) q117)) q118] n5] [] [] n6, .Return (some (.Constant (.str "") z1 n8)) n7] (fun D σ H => tact (catchN C D.rt) σ H (fun _ H' => D.rt (.str "") H')) := by
  have nd : X.N.Nodup := by rw [hN]; decide
  have hi : X.N[1]? = some ("error" : Str) := by rw [hN]; rfl
  refine PSs.weaken (pss_cons (L2N.ps_try_as (c := .ref S) (i := 1) (tb := fun W D σ H => ∃ Ech : XK, (∀ cls d σ' H', Ech cls d H' → σ'.length = X.N.length → W cls d σ' H') ∧ tact Ech σ H (fun _ H1 => D.nx σ H1)) (Wout := fun _ _ _ _ => False)
    (ts := fun a cls d => SuP a cls d C) hs hf nd hi NS.lo.1 ⟨hg, by decide, .inl hm⟩ takesF (fun W pn xe tk _ => ?_) (fun a oe cls d pn hz hv => ?_)) (pss_one (ps_ret pe_str))) ?_
  · refine ⟨fun pins s σ H D I ⟨Ech, hW, ht⟩ => ?_⟩
    exact (pss_one (ps_expr (act _ pn xe Ech (takes_len tk) fun cls d σ' H' q => hW cls d σ' H' q))).run pins s σ H D I ht
  · exact suite_ok hz hv NK NS hN line
  · intro D σ H ht
    refine ⟨catchN C D.rt, fun cls d σ' H' ⟨k, f, r, ec, dk, nr, q⟩ hl => ⟨true, by rw [ec]; exact hx k nr.lt, fun _ a na => ?_, fun z => by cases z⟩, ht⟩
    have hl6 : σ'.length = 6 := by rw [hl, hN]; rfl
    exact ⟨k, f, r, nr.lt, by rw [List.length_set]; exact hl6, ⟨by rw [List.getElem?_set_self (by omega)], ec, dk⟩, nr, q⟩
inductive NmBd (sc : Scope) : List Stmt → Prop
  | mk {q1 q2 q3 q4 q5 q6 q7 q8 q9 q10 q11 q12 q13 q14 q15 q16 q17 q18 q19 q20 q21 q22 q23 q24 q25 q26 q28 q30 q32 q34 q36 q37 q38 q39 q40 q41 q42 q44 q45 q46 q47 q48 q49 q51 q52 q53 q54 q55 q56 q57 q58 q60 q61 q62 q63 q65 q66 q68 q69 q70 q71 q73 q74 q75 q76 q78 q79 q81 q82 q83 q84 q85 q86 q87 q88 q90 q91 q93 q94 q95 q96 q98 q99 q100 q101 q103 q104 q106 q107 q108 q109 q110 q111 q112 q113 q115 q116 q117 q118 : Pos} {k27 k29 k31 k33 k35 k43 k50 k59 k64 k67 k72 k77 k80 k89 k92 k97 k102 k105 k114 : Nat} {n1 n2 n3 n4 n5 n6 n7 n8 : Pos} {z1 : Nat} (line : (q24.line == q39.line) = true) : NmBd sc [.Try [.Expr (.Call (.Name "_law_ask" n1) [] [] n2) n3] [.ExceptHandler (some (.Name "ShelfError" n4)) (some "error") [.Assign [.Name "_law_found" q1] (.List [.Call (.Name "isinstance" q2) [.Name "error" q3, .Name "BadHouse" q4] [] q5, .Call (.Name "isinstance" q6) [.Name "error" q7, .Name "BadModes" q8] [] q9, .Call (.Name "isinstance" q10) [.Name "error" q11, .Name "BadPlan" q12] [] q13, .Call (.Name "isinstance" q14) [.Name "error" q15, .Name "BadStep" q16] [] q17, .Call (.Name "isinstance" q18) [.Name "error" q19, .Name "BadView" q20] [] q21] q22) q23, .Assign [.Name "_law_some" q24] (.ListComp (.Name "_law_name_here" q40) [⟨.Tuple [.Name "_law_is_one" q41, .Name "_law_name_here" q42] k43 q44, .Call (.Name "zip" q25) [.Name "_law_found" q26, .List [.Constant (.str "house") k27 q28, .Constant (.str "modes") k29 q30, .Constant (.str "plan") k31 q32, .Constant (.str "step") k33 q34, .Constant (.str "view") k35 q36] q37] [] q38, [.Name "_law_is_one" q45], 0⟩] sc q39) q46, .If (.BoolOp .Or [.Compare (.Call (.Name "len" q47) [.Name "_law_some" q48] [] q49) [.NotEq] [.Constant (.int 1) k50 q51] q52, .UnaryOp .Not (.Call (.Name "isinstance" q53) [.Name "error" q54, .Name "ValueError" q55] [] q56) q57] q58) [.Return (some (.Constant (.str "else") k59 q60)) q61] [] q62, .If (.BoolOp .And [.Compare (.Subscript (.Name "_law_some" q63) (.Constant (.int 0) k64 q65) q66) [.Eq] [.Constant (.str "house") k67 q68] q69, .Compare (.Attribute (.Name "error" q70) "part" q71) [.IsNot] [.Constant .none k72 q73] q74] q75) [.Return (some (.BinOp (.BinOp (.Subscript (.Name "_law_some" q76) (.Constant (.int 0) k77 q78) q79) .Add (.Constant (.str " ") k80 q81) q82) .Add (.Attribute (.Name "error" q83) "part" q84) q85)) q86] [] q87, .Return (some (.IfExp (.BoolOp .And [.Compare (.Subscript (.Name "_law_some" q88) (.Constant (.int 0) k89 q90) q91) [.Eq] [.Constant (.str "plan") k92 q93] q94, .Compare (.Attribute (.Name "error" q95) "index" q96) [.IsNot] [.Constant .none k97 q98] q99] q100) (.BinOp (.BinOp (.Subscript (.Name "_law_some" q101) (.Constant (.int 0) k102 q103) q104) .Add (.Constant (.str " ") k105 q106) q107) .Add (.Call (.Name "str" q108) [.Attribute (.Name "error" q109) "index" q110] [] q111) q112) (.Subscript (.Name "_law_some" q113) (.Constant (.int 0) k114 q115) q116) q117)) q118] n5] [] [] n6, .Return (some (.Constant (.str "") z1 n8)) n7]
/-- what the written part says of _law_name -/
def NmD (K : PySem.W.Frag) (mg : Str → Option Value) (C : Nat → Addr) (g : Addr) : Prop := ∃ (cls cdv dV kV doc pm ct : Value) (od an : Option Addr) (pg : Arguments) (bd : List Stmt) (sg sc : Scope) (osl : Array (Option Value)) (S : Addr),
  K.lookup g = some ⟨cls, od, .func (PySem.W.fnOf "_law_name" "_law_name" pg bd sg dV kV doc pm an cdv ct), osl⟩ ∧ PySem.W.codeIn K cdv "_law_name" = true ∧ PySem.W.keepIn K (.ref g) = true ∧
    L2.Binds K (PySem.W.fnOf "_law_name" "_law_name" pg bd sg dV kV doc pm an cdv ct) ["_law_ask"] [] ∧ FnScope nmN ["_law_ask"] sg ∧ NmBd sc bd ∧ NmK K mg C ∧ NmS sg sc ∧ lkS sg "ShelfError" = some .globalImplicit ∧ Vis sg "_law_ask" ∧ mg "ShelfError" = some (.ref S) ∧ ∀ k < 5, PySem.W.exmOne K (.ref (C k)) (.ref S) = some true
section
variable {X : Cx} {ca : Ca} {E : XK} {lv : Nat}
theorem gNm {cs : Nat → Nat} {k : Nat} {g cd tb : Addr} {params : Arguments} {body : Expr} {scope : Scope} {mb : ME} {p lpos pos : Pos} (cf : CF X E lv) (hm : X.mg "_law_name" = some (.ref g)) (D : NmD X.K X.mg (fun k => ca (cs k)) g)
    (B : LamX.TabB X.base X.mg cd tb) (hcode : X.env.code = .ref cd) (hin : (tb, X.env.qual ++ "<lambda>") ∈ ca.T) (one : ∀ p ∈ ca.T, p.1 = tb → p.2 = X.env.qual ++ "<lambda>") (L : LamX.LamS X.env.scope scope) (hdef : defaultsOf params X.env = ([], []))
    (bnd : ∀ (q : Str) (cl : List (Str × Addr)) (pm cv ctv : Value), bindArgs (PySem.W.kla_fn "<lambda>" q params body scope cl pm cv ctv) ⟨[], []⟩ = pure [])
    (hbody : ∀ (A : Around) (outer : List Env) (s : Shared) (H : Hp) (E' : XK) (f c' : Addr), Room k (A.deeper (LamX.lamEnv X scope s.heap.objs.size f c')) → L2N.Takes (lamZ X A outer s H E' scope f c') (WE0 E') → SimE (lamZ X A outer s H E' scope f c') ⟨X.prog, X.w, X.K, ca, E'⟩ body mb)
    (htk : ∀ (A : Around) (outer : List Env) (s : Shared) (H : Hp) (E' : XK) (f c' : Addr), L2N.Takes (lamZ X A outer s H E' scope f c') (WE0 E'))
    (hl : k + 2 ≤ lv := by decide) (hg : Gl X "_law_name" := by rfl) :
    SimE X (wd X ca E) (.Call (.Name "_law_name" p) [.Lambda params body scope lpos] [] pos) (mName cs mb) := by
  refine ⟨fun pins s σ H Q I ⟨ro, μ, l, h, A, q⟩ => ?_⟩
  obtain ⟨cls, cdv, dV, kV, doc, pm, ct, od, an, pg, bd, sg, sc, osl, S, lk, hcg, hk, hb, Sg, Bd, NK, NS, gS, vA, mS, hx⟩ := D
  refine wpAny_Call_Name_kw (ld_glob I hg hm ?_ (by decide))
  refine PySem.W.callWith_K (h₀ := X.base) I.ok.mod.kin hk ?_ (by rfl) (by rfl)
  show wpAny _ _ (spliced ((false, eval (.Lambda params body scope lpos) X.env) :: backTo pos (starEach [] X.env))) _ _ s
  refine Calls.spliced_cons (lam_mk I B hcode hin one A.R.tabs hdef (L.has I.ok) fun f c' pm' ctv H1 s' I1 eN kep T1 hf hfn hfr hco => ?_)
  refine Calls.spliced_nil ⟨I1.kIn, ?_⟩
  have st1 : Step ro μ H μ H1 := Step.kept (fun b o no e => eN b o e no) kep
  have R1 := A.R.still (fun b o no e => eN b o e no) kep T1
  have q1 := name_post (postG.later q st1)
  have L1 := A.L.step A.R st1
  have rc : codeAny (model X.prog X.w) X.A (.call (.ref g) ⟨[.ref f], []⟩) (CR (L2N.CX X.prog X.w) X.stack X.prog X.w H1 s' Q E) s' := by
    refine LamX.run_ofS (N := nmN) (ps := ["_law_ask"]) (us := [.ref f]) (vs := [.ref f]) lk hcg Sg (cf.room.mono hl) I1.env0 (hb s' [.ref f] I1.kIn rfl) (.cons rfl .nil) rfl fun hr' => ?_
    cases Bd with
    | mk line =>
      refine ⟨_, pss_name (X := cxOf (L2N.CX X.prog X.w) X.prog X.w X.K X.mg X.base nmN "_law_name" sg g cdv X.A X.stack s' H1 E) (C := fun k => ca (cs k)) (tact := fun E' σZ HZ Q => σZ[0]? = some (some (.ref f)) ∧ HZ c' = some (LamX.CodeO c' (X.env.qual ++ "<lambda>")) ∧ tE ⟨X.prog, X.w, X.K, ca, E'⟩ mb σ HZ Q) rfl rfl rfl NK NS gS mS hx line (fun W pn xe E' tk hW => ?_), ?_⟩
      · exact pe_actZ (i := 0) I1 L hf hfn hfr (bnd _ _ _ _ _) tk hW hr' (fun A outer s H hr2 => hbody A outer s H E' f c' hr2 (htk A outer s H E' f c')) rfl vA (by decide) (by decide)
      · exact ⟨rfl, hco, ro, μ, l, h, ⟨L1, R1.to _⟩, q1⟩
  refine wpAny_call (codeAny_mono rc fun r s2 hq => ?_)
  cases r with
  | error e => exact passE cf.tk pins σ H1 s' e s2 I1 hq
  | ok fl =>
    cases fl with
    | ret z => exact I1.after hq
    | next => exact False.elim hq
    | brk => exact False.elim hq
    | cont => exact False.elim hq
end
end Ev
set_option Elab.async false
set_option linter.all false
set_option maxRecDepth 100000
set_option maxHeartbeats 1000000
/-! a list or a tuple, many times -/
namespace Ev
open PySem PySem.Spec PyProof.Rows L2
def rpt (k : Nat) (xs : List AV) : List AV := match k with
  | 0 => []
  | m + 1 => xs ++ rpt m xs
theorem rpt_eq : ∀ (k : Nat) (xs : List AV), rpt k xs = (List.replicate k xs).flatten
  | 0, xs => rfl
  | m + 1, xs => by rw [List.replicate_succ, List.flatten_cons, ← rpt_eq m xs]; rfl
def repA (x y : AV) (h : AH) : R AV := match x, y with
  | .obj n, .int (.ofNat k) => (match h.get n with
    | some (.lst xs) => (match Nat.ble k 1000 && lim (xs.length * k) with
      | true => alloc h (.lst (rpt k xs))
      | false => .bad)
    | _ => .bad)
  | .tup (z :: zs), .int (.ofNat k) => (match Nat.ble 2 k && (Nat.ble k 1000 && Nat.ble (z :: zs).length 1000) with
    | true => .ok (.tup (rpt k (z :: zs))) h
    | false => .bad)
  | _, _ => .bad
def mRep (ma mb : ME) : ME := fun l h => (ma l h).bind fun x h1 => (mb l h1).bind fun y h2 => repA x y h2
section
variable {X : Cx} {ca : Ca} {E : XK} {lv : Nat} {a b : Expr} {ma mb : ME} {pos : Pos}
theorem DenL.rep {K : PySem.W.Frag} {μ : Mu} {H : Hp} {xs : List AV} {vs : List V} (d : DenL K μ H xs vs) : ∀ k : Nat, DenL K μ H (rpt k xs) (List.replicate k vs).flatten
  | 0 => .nil
  | k + 1 => by
    rw [List.replicate_succ, List.flatten_cons]
    exact DenL.append d (DenL.rep d k)
theorem rpt_len (k : Nat) (xs : List AV) : (rpt k xs).length = xs.length * k := by
  induction k with
  | zero => rfl
  | succ k ih =>
    show (xs ++ rpt k xs).length = _
    rw [List.length_append, ih, Nat.mul_succ, Nat.add_comm]
theorem rep_ok : OpR X (binaryOp .Mult) (trOp2 (wd X ca E) repA) := by
  intro pins s σ H x y v u Q I rx ry ⟨ro, μ, h, ax, ay, R, dx, dy, p⟩
  unfold repA at p
  cases ax with
  | obj n =>
    cases ay with
    | int i =>
      cases i with
      | negSucc _ => exact False.elim p
      | ofNat k =>
        dsimp only at p
        cases g : h.get n with
        | none => rw [g] at p; exact False.elim p
        | some o =>
          rw [g] at p
          cases o with
          | lst xs =>
            dsimp only at p
            cases e : Nat.ble k 1000 && lim (xs.length * k) with
            | false => rw [e] at p; exact False.elim p
            | true =>
              rw [e] at p
              dsimp only at p
              obtain ⟨e1, e2⟩ := Bool.and_eq_true_iff.mp e
              have k1 : k ≤ 1000 := Nat.le_of_ble_eq_true e1
              have hz := lim_le e2
              cases dx with
              | @obj _ a hn =>
                cases dy with
                | int _ =>
                  obtain ⟨o1, ho1, r1⟩ := R.there hn
                  rw [g] at ho1
                  cases ho1
                  obtain ⟨_, vs, hv, dl⟩ := r1
                  obtain ⟨hn2, q⟩ := postG.alloc R p
                  refine op_rep pins s σ H _ _ v u Q I rx ry ⟨a, (k : Int), vs, rfl, rfl, hv, by omega, by omega, by rw [Int.toNat_natCast, ← dl.length]; exact hz, fun c hc => ?_⟩
                  rw [Int.toNat_natCast]
                  exact q c _ hc ⟨by rw [rpt_len]; exact hz, _, upd_same, (R.denL (Step.laid hc) dl).rep k⟩
          | _ => exact False.elim p
    | _ => exact False.elim p
  | tup xs =>
    cases xs with
    | nil => exact False.elim p
    | cons z zs =>
      cases ay with
      | int i =>
        cases i with
        | negSucc _ => exact False.elim p
        | ofNat k =>
          dsimp only at p
          cases e : Nat.ble 2 k && (Nat.ble k 1000 && Nat.ble (z :: zs).length 1000) with
          | false => rw [e] at p; exact False.elim p
          | true =>
            rw [e] at p
            dsimp only at p
            obtain ⟨e1, e2⟩ := Bool.and_eq_true_iff.mp e
            obtain ⟨e2, e3⟩ := Bool.and_eq_true_iff.mp e2
            have k1 : 2 ≤ k := Nat.le_of_ble_eq_true e1
            have k2 : k ≤ 1000 := Nat.le_of_ble_eq_true e2
            have k3 : (z :: zs).length ≤ 1000 := Nat.le_of_ble_eq_true e3
            cases dx with
            | @tup a vs _ sx dl =>
              cases dy with
              | int _ =>
                refine L2.op_repT pins s σ H _ _ v u Q I rx ry ⟨a, (k : Int), vs, rfl, rfl, sx, fun e => ?_, by omega, by omega, by rw [← dl.length]; exact k3, fun c hc => ?_⟩
                · rw [e] at dl
                  cases dl
                · rw [Int.toNat_natCast]
                  exact p μ _ _ (Step.laid hc) (R.laid hc) (.tup (SqT.of upd_same) ((R.denL (Step.laid hc) dl).rep k))
      | _ => exact False.elim p
  | _ => exact False.elim p
theorem gRep (ha : SimE X (wd X ca E) a ma) (hb : SimE X (wd X ca E) b mb) : SimE X (wd X ca E) (.BinOp a .Mult b pos) (mRep ma mb) :=
  PE.weaken (pe_op rep_ok ha hb) fun σ H Q ⟨ro, μ, l, h, A, p⟩ => go2 A p
/-- o.m(..), o of one of two classes -/
def tab2 (F G : Fn) : Tab := ⟨fun k => match k with
  | 0 => F
  | _ => G, fun _ => .non⟩
theorem gMet2 {e o : Expr} {es : List Expr} {apos : Pos} {ms : Loc' → AH → R (List AV)} {F G : Fn} (c : CF X E lv) {m : Str} {n n' k k' : Nat} {g g' : Addr} (h1 : SlX.SCls X.K (ca k)) (h2 : Meth X.K (ca k) m g) (hf : FnW X.prog X.w X.K X.mg X.base ca n F g) (h1' : SlX.SCls X.K (ca k')) (h2' : Meth X.K (ca k') m g') (hf' : FnW X.prog X.w X.K X.mg X.base ca n' G g') (ho : SimE X (wd X ca E) o ma) (ha : SimA X (wd X ca E) (e :: es) ms) (hl : n ≤ lv := by decide) (hl' : n' ≤ lv := by decide) (hb : baseOk o = true := by rfl) (hs : (e :: es).all notStar = true := by rfl) (hn : (e :: es).length < 20 := by decide) (hp : (apos.endLine == pos.line) = true := by rfl) :
    SimE X (wd X ca E) (.Call (.Attribute o m apos) (e :: es) [] pos) (mMet (tab2 F G) ma [(k, 0), (k', 1)] ms) :=
  sim_meth (τ := tab2 F G) c.room c.tk ho (fun q hq => by
    rcases List.mem_cons.mp hq with z | z
    · subst z; exact ⟨h1, g, h2, hf.mono hl⟩
    · rw [List.mem_singleton.mp z]; exact ⟨h1', g', h2', hf'.mono hl'⟩) ha hb hs hn hp
end
end Ev
set_option Elab.async false
set_option linter.all false
set_option maxRecDepth 100000
set_option maxHeartbeats 2000000
/-! x == (); dicts of ints and texts; a dict of two tuples; dict({}) -/
namespace Ev
open PySem PySem.Spec PyProof.Rows L2
def mEq0 (ma : ME) : ME := fun l h => (ma l h).bind fun x h1 => match x with
  | .tup xs => .ok (.bl xs.isEmpty) h1
  | _ => .bad
def mOdd : ME := fun _ h => alloc h .odd
def mD2 (mk mk2 : ME) (i j : Int) : ME := fun l h => match mk l h with
  | .ok a h1 => (match mk2 l h1 with
    | .ok b h2 => (match AV.tkey a, AV.tkey b with
      | some q, some r => alloc h2 (.dct (dput r b (.int j) (dput q a (.int i) [])))
      | _, _ => .bad)
    | _ => .bad)
  | _ => .bad
section
variable {X : Cx} {ca : Ca} {E : XK} {lv : Nat} {a b : Expr} {ma mk mk2 : ME} {pos : Pos}
theorem eq_nil {k : Nat} {p : Pos} (hu : X.A.units < cLine) (ha : SimE X (wd X ca E) a ma) : PC X .Eq a (.Tuple [] k p) (tE (wd X ca E) (mEq0 ma)) := by
  refine ⟨fun pins s σ H Q I ⟨ro, μ, l, h, A, q⟩ => ?_⟩
  refine thn (ha.run pins s σ H _ I ⟨ro, μ, l, h, A, (bindP (dV _) A q).imp fun u H1 z => z⟩) fun u s1 ⟨v, H1, I1, r1, μ1, x, h1, A1, d1, st1, q1⟩ => ?_
  have hb : PE X (.Tuple [] k p) (tTup tNil) := pe_tup pa_nil
  cases x with
  | tup xs =>
    cases d1 with
    | @tup a0 vs _ sq dl =>
      cases r1
      refine thn (hb.run pins s1 σ H1 (fun w H2 => ∃ b0, w = .ref b0 ∧ SqT X.K H2 b0 [] ∧ SqT X.K H2 a0 vs ∧ Q (.bl xs.isEmpty) H2) I1 ⟨Nat.zero_le _, fun p np => ⟨p, rfl, SqT.of upd_same, ?_, ?_⟩⟩) fun w s2 ⟨y, H2, I2, ry, b0, ey, sb, sa, q2⟩ => ?_
      · exact A1.R.sq (Step.laid np) sq
      · have st : Step ro μ1 H1 μ1 (upd H1 p (.tup [])) := Step.laid np
        exact q1 μ1 (.bl xs.isEmpty) _ st (A1.R.laid np) (.bl _)
      · subst ey
        cases ry
        obtain ⟨its, rv, ⟨o, go, co, no, dn⟩, _⟩ := I2.tuple sa
        obtain ⟨its2, rv2, ⟨o2, go2, co2, no2, dn2⟩, _⟩ := I2.tuple sb
        cases rv2
        refine SeqAt.eq_tupleAt (items := its.toArray) (items2 := #[]) (e := fun _ => true) ⟨o, go, co, no, dn⟩ ⟨o2, go2, co2, no2, dn2⟩ hu (fun j _ h2 => absurd h2 (by simp)) ?_
        refine ⟨.bl xs.isEmpty, H2, I2, ?_, q2⟩
        have e1 : its.length = xs.length := by rw [← rv.length, ← dl.length]
        show Value.bool _ = Value.bool _
        congr 1
        cases xs with
        | nil =>
          cases its with
          | nil => rfl
          | cons _ _ => cases e1
        | cons x r =>
          cases its with
          | nil => cases e1
          | cons y z => simp
  | _ => exact False.elim q1
theorem tEq0 (c : CF X E lv) {k : Nat} {p : Pos} (ha : SimE X (wd X ca E) a ma) : SimT X (wd X ca E) (.Compare a [.Eq] [.Tuple [] k p] pos) (mEq0 ma) :=
  PT.weaken (pt_cmp (eq_nil (by have := c.hu; omega) ha)) fun σ H Q ⟨ro, μ, l, h, A, p⟩ => ⟨ro, μ, l, h, A, bool_of p⟩
theorem gOddI (c : CF X E lv) {i j u v : Int} {k1 k2 k3 k4 : Nat} {p1 p2 p3 p4 : Pos} : SimE X (wd X ca E) (.Dict [some (.Constant (.int i) k1 p1), some (.Constant (.int j) k2 p2)] [.Constant (.int u) k3 p3, .Constant (.int v) k4 p4] pos) mOdd :=
  PE.weaken (pe_disp (pps_cons pe_int pe_int (pps_cons pe_int pe_int pps_nil)) rfl rfl (by simp) (by show 2 ≤ 15; decide)) fun σ H Q ⟨ro, μ, l, h, A, p⟩ => by
    obtain ⟨_, q⟩ := postG.alloc A.R p
    refine fun b nb => ⟨upd_same, [(.inl i, .int u), (.inl j, .int v)], rfl, (by show 2 ≤ 15; decide), ?_⟩
    have e : upd (upd H b (.dK [])) b (.dK (mergeK [] [(.inl i, .int u), (.inl j, .int v)])) = upd H b (.dK (mergeK [] [(.inl i, .int u), (.inl j, .int v)])) := by
      funext y
      by_cases h : y = b
      · rw [h, upd_same, upd_same]
      · rw [upd_ne h, upd_ne h, upd_ne h]
    rw [e]
    exact q b _ nb ⟨_, upd_same⟩
theorem gOddS (c : CF X E lv) {x : Str} {v : Int} {k1 k3 : Nat} {p1 p3 : Pos} : SimE X (wd X ca E) (.Dict [some (.Constant (.str x) k1 p1)] [.Constant (.int v) k3 p3] pos) mOdd :=
  PE.weaken (pe_disp (pps_cons pe_str pe_int pps_nil) rfl rfl (by simp) (by show 1 ≤ 15; decide)) fun σ H Q ⟨ro, μ, l, h, A, p⟩ => by
    obtain ⟨_, q⟩ := postG.alloc A.R p
    refine fun b nb => ⟨upd_same, [(.inr x, .int v)], rfl, (by show 1 ≤ 15; decide), ?_⟩
    have e : upd (upd H b (.dK [])) b (.dK (mergeK [] [(.inr x, .int v)])) = upd H b (.dK (mergeK [] [(.inr x, .int v)])) := by
      funext y
      by_cases h : y = b
      · rw [h, upd_same, upd_same]
      · rw [upd_ne h, upd_ne h, upd_ne h]
    rw [e]
    exact q b _ nb ⟨_, upd_same⟩
/-- dict(d), d empty -/
def mDe (ma : ME) : ME := fun l h => (ma l h).bind fun x h1 => match x with
  | .obj n => (match h1.get n with
    | some (.dct []) => alloc h1 (.dct [])
    | _ => .bad)
  | _ => .bad
theorem gDe {p : Pos} (hm : X.mg "dict" = none) (ha : SimE X (wd X ca E) a ma) (hg : Gl X "dict" := by rfl) (hs : notStar a = true := by rfl) : SimE X (wd X ca E) (.Call (.Name "dict" p) [a] [] pos) (mDe ma) := by
  have hc : CallR X (.type "dict") (fun xs H Q => ∃ b, xs = [.ref b] ∧ (H b = some (DO X.prog X.w b []) ∨ ∃ o, H b = some (.frz o (DO X.prog X.w b []))) ∧ (b == sysModules) = false ∧ ∀ p, H p = none → (p == sysModules) = false → Q (.ref p) (upd H p (DO X.prog X.w p []))) := by
    intro pins s σ H xs us Q I r ⟨b, ex, hb, hS, q⟩
    subst ex
    obtain ⟨u, rfl, ru⟩ := r.one
    cases ru
    have k : ObjOk X.prog X.w H s.heap b (DO X.prog X.w b []) := by
      rcases hb with e | ⟨o, e⟩
      · exact I.hok b _ e
      · exact (I.hok b _ e).2
    obtain ⟨⟨o, es, ep, g1, g2, g3, g4, _⟩, _, _⟩ := k
    have ee : es = #[] := Array.toList_inj.mp (by rw [g4]; rfl)
    subst ee
    have dd : s.heap.DictOf (mixKind X.prog X.w) b [] := ⟨o, #[], ep, g1, g2, g3, by first | (intro e he; simp at he) | (intro i e he; simp at he) | trivial, by first | trivial | exact .nil, List.nodup_nil⟩
    refine kt_call_dict hS dd (Nat.zero_le _) fun m d2 sb => ?_
    have nb := I.hok.fresh (Nat.le_refl s.heap.objs.size)
    obtain ⟨o2, es2, ep2, f1, f2, f3, _, f5, _⟩ := d2
    have e2 : es2 = #[] := by
      refine Array.toList_inj.mp ?_
      cases q2 : es2.toList with
      | nil => rfl
      | cons x r => rw [q2] at f5; first | exact f5.elim | cases f5
    subst e2
    refine ⟨.ref s.heap.objs.size, _, I.laid (t' := s.toks) (a := s.heap.objs.size) (o := DO X.prog X.w s.heap.objs.size []) (fun b u e => (sb.2 b (Nat.ne_of_lt (Heap.lt_size e))).trans (Heap.get?_push_of_some _ e)) (Nat.le_refl _) (do_ok ⟨o2, #[], ep2, f1, f2, f3, rfl, fun x hx => (by cases hx), List.nodup_nil⟩), rfl, q _ nb (beq_eq_false_iff_ne.mpr (Ne.symm (Nat.ne_of_lt I.big)))⟩
  refine PE.weaken (pe_callTy hc hg hm (by rfl) (pa_cons ha pa_nil (star_one hs)) (by decide) (by decide) (star_one hs) rfl) fun σ H Q ⟨ro, μ, l, h, A, p⟩ => ⟨ro, μ, l, h, A, (bindP (dV _) A p).imp fun u H1 ⟨μ1, v, h1, A1, d1, st1, q1⟩ => ?_⟩
  cases d1 with
  | @obj n b hn =>
    dsimp only at q1
    obtain ⟨oo, ho, r⟩ := A1.R.there hn
    rw [ho] at q1
    cases oo with
    | dct kvs =>
      cases kvs with
      | nil =>
        obtain ⟨hS, _, xs, hv, pr⟩ := r
        cases pr
        obtain ⟨_, q⟩ := postG.alloc A1.R q1
        exact ⟨b, rfl, hv.imp id fun ⟨_, o, e⟩ => ⟨o, e⟩, hS, fun y ny nS => q y _ ny ⟨nS, Nat.zero_le _, [], .inl upd_same, .nil⟩⟩
      | cons _ _ => exact False.elim q1
    | _ => exact False.elim q1
  | _ => exact False.elim q1
theorem ref_of {y : V} {b : Addr} (r : L2.RelV y (.ref b)) : y = .ref b := by
  cases y <;> first | (cases (show _ = _ from r); rfl) | (obtain ⟨t, e⟩ := r; cases e) | cases r
theorem gD2 (c : CF X E lv) {i j : Int} {k3 k4 : Nat} {p3 p4 : Pos} (ha : SimE X (wd X ca E) a mk) (hb : SimE X (wd X ca E) b mk2) : SimE X (wd X ca E) (.Dict [some a, some b] [.Constant (.int i) k3 p3, .Constant (.int j) k4 p4] pos) (mD2 mk mk2 i j) := by
  have hu : X.A.units + 9 < cLine := by have := c.hu; omega
  refine ⟨fun pins s σ H Q I ⟨ro, μ, l, h, A, p⟩ => ?_⟩
  have hn := I.hok.fresh (Nat.le_refl s.heap.objs.size)
  have hS : (s.heap.objs.size == sysModules) = false := beq_eq_false_iff_ne.mpr (Ne.symm (Nat.ne_of_lt I.big))
  have I1 := I.laid (a := s.heap.objs.size) (o := DO X.prog X.w s.heap.objs.size []) (h' := s.heap.push { cls := .type "dict", data := .dict #[] }) (t' := s.toks) (fun _ _ q => Heap.get?_push_of_some _ q) (Nat.le_refl _) (do_new s.heap)
  generalize hDe : s.heap.objs.size = D at hn hS I1
  have e1 : eval (.Dict [some a, some b] [.Constant (.int i) k3 p3, .Constant (.int j) k4 p4] pos) X.env = (do standAt pos; let d ← subDict [(eval a X.env, do let x ← eval (.Constant (.int i) k3 p3) X.env; standAt pos; pure x), (eval b X.env, do let x ← eval (.Constant (.int j) k4 p4) X.env; standAt pos; pure x)]; pure (.ref d)) := by
    rw [arm_eval_Dict, ← dictDisplay_pairs [(eval a X.env, do let x ← eval (.Constant (.int i) k3 p3) X.env; standAt pos; pure x), (eval b X.env, do let x ← eval (.Constant (.int j) k4 p4) X.env; standAt pos; pure x)] (by simp) (by show 2 < 17; decide)]
    rfl
  rw [e1]
  have st0 : Step ro μ H μ (upd H D (DO X.prog X.w D [])) := Step.laid hn
  have A1 : At (wd X ca E) ro μ l h σ (upd H D (DO X.prog X.w D [])) := ⟨A.L.step A.R st0, A.R.laid hn⟩
  refine wpAny_bind (wpAny_standAt (wpAny_bind (wpAny_subDictH (knd := nestedKind X.prog X.w) (show (nestedKind X.prog X.w).room X.A by show X.A.units + 8 < cLine; omega) (by show 2 ≤ 15; decide) ?_)))
  rw [hDe]
  have c0 : Col (wd X ca E) ro μ H D (BD X.prog X.w X.K D) μ [] h (upd H D (DO X.prog X.w D [])) := ⟨A1.R, st0, ⟨_, upd_same, [], [], rfl, rfl, .nil, Nat.le_refl _⟩, A.R.fresh hn⟩
  unfold mD2 at p
  cases em : mk l h with
  | bad => rw [em] at p; exact False.elim p
  | ex x hx => rw [em] at p; exact False.elim p
  | ok kx h2 =>
    rw [em] at p
    dsimp only at p
    refine evalPairs_cons (thn (ha.run pins _ σ _ (fun u H2 => ∃ μ2, Step ro μ (upd H D (DO X.prog X.w D [])) μ2 H2 ∧ RelH (wd X ca E) ro μ2 h2 H2 ∧ Den X.K μ2 H2 kx u) I1 ⟨ro, μ, l, h, A1, by rw [em]; exact fun μ2 u H2 st R d => ⟨μ2, st, R, d⟩⟩) fun u s2 ⟨y, H2, I2, ry, μ2, st2, R2, dk⟩ => ?_)
    have A2 : At (wd X ca E) ro μ2 l h2 σ H2 := ⟨A1.L.step A1.R st2, R2⟩
    have c2 := c0.onD (W := wd X ca E) st2 R2
    refine wpAny_bind (thn (pe_int.run pins s2 σ H2 (fun v H3 => v = .int i ∧ H3 = H2) I2 ⟨rfl, rfl⟩) fun r3 s3 ⟨z3, H3, I3, rz3, ez3, eH3⟩ => wpAny_bind (wpAny_standAt (wpAny_pure ?_)))
    subst ez3
    subst eH3
    cases eb : mk2 l h2 with
    | bad => rw [eb] at p; exact False.elim p
    | ex x hx => rw [eb] at p; exact False.elim p
    | ok kx2 h4 =>
      rw [eb] at p
      dsimp only at p
      refine evalPairs_cons (thn (hb.run pins s3 σ H3 (fun u H4 => ∃ μ4, Step ro μ2 H3 μ4 H4 ∧ RelH (wd X ca E) ro μ4 h4 H4 ∧ Den X.K μ4 H4 kx2 u) I3 ⟨ro, μ2, l, h2, A2, by rw [eb]; exact fun μ4 u H4 st R d => ⟨μ4, st, R, d⟩⟩) fun u4 s4 ⟨y4, H4, I4, ry4, μ4, st4, R4, dk4⟩ => ?_)
      have c4 := c2.onD (W := wd X ca E) st4 R4
      refine wpAny_bind (thn (pe_int.run pins s4 σ H4 (fun v H5 => v = .int j ∧ H5 = H4) I4 ⟨rfl, rfl⟩) fun r5 s5 ⟨z5, H5, I5, rz5, ez5, eH5⟩ => wpAny_bind (wpAny_standAt (wpAny_pure (evalPairs_nil ?_))))
      subst ez5
      subst eH5
      have dk := R2.den st4 dk
      cases eq1 : AV.tkey kx with
      | none => rw [eq1] at p; exact False.elim p
      | some q1 =>
        cases eq2 : AV.tkey kx2 with
        | none => rw [eq1, eq2] at p; exact False.elim p
        | some q2 =>
          rw [eq1, eq2] at p
          dsimp only at p
          obtain ⟨b1, eb1, kis1⟩ := tkey_is I5 dk eq1 ry
          obtain ⟨b2, eb2, kis2⟩ := tkey_is I5 dk4 eq2 ry4
          subst eb1
          subst eb2
          have ey := ref_of ry
          have ey4 := ref_of ry4
          subst ey
          subst ey4
          obtain ⟨o, g1, kvs, xs, ed, rfl, pr, _⟩ := c4.d
          cases ed
          cases pr
          have pr1 := dput_rel (z := .int i) eq1 dk (.int i) rz3 (.nil : Paired (RelKv X.K μ4 H5) [] []) List.nodup_nil
          have pr2 := dput_rel (z := .int j) eq2 dk4 (.int j) rz5 pr1 (by show (([(q1, b1, r3)] : List (NestedKey × Addr × Value)).map (·.1)).Nodup; simp)
          have dl : dictOfL [AV.tup [kx, .int i], AV.tup [kx2, .int j]] [] = some (dput q2 kx2 (.int j) (dput q1 kx (.int i) [])) := dictOf_app (acc := [AV.tup [kx, .int i]]) (dictOf_app (acc := []) rfl eq1) eq2
          refine ⟨[(q1, b1, r3), (q2, b2, r5)], ⟨rfl, rfl, kis1, rfl, rfl, kis2, trivial⟩, dict_is (rw := true) I5 (.inl g1) (kvs := []) (μ := μ4) .nil, fun h' tk dm hs => wpAny_pure ⟨.ref D, upd H5 D (DO X.prog X.w D (storedH (storedH [] q1 b1 r3) q2 b2 r5)), ?_, rfl, ?_⟩⟩
          · have he : ∃ q, h'.get? D = some q := let ⟨q, _, _, hq, _⟩ := dm; ⟨q, hq⟩
            exact d_write I5 (by rw [g1]; exact True.intro) hs he (do_ok dm)
          · obtain ⟨n1, n2, n3⟩ := do_not (P := X.prog) (w := X.w) (a := D) (xs := [])
            have a1 : ∀ ys, H5 D ≠ some (.tup ys) := fun ys z => by rw [g1] at z; exact n1 ys (Option.some.inj z)
            have a2 : ∀ o ys, H5 D ≠ some (.frz o (.tup ys)) := fun o ys z => by rw [g1] at z; exact n2 o ys (Option.some.inj z)
            have a3 : H5 D ≠ some (.xd []) := fun z => by rw [g1] at z; exact n3 (Option.some.inj z)
            have up : ∀ x v, Den X.K μ4 H5 x v → Den X.K μ4 (upd H5 D (DO X.prog X.w D (storedH (storedH [] q1 b1 r3) q2 b2 r5))) x v := fun x v d => d.mono (fun _ _ e => e) fun _ _ s => sq_upd a1 a2 s
            refine colD_end (W := wd X ca E) (PS := [AV.tup [kx, .int i], AV.tup [kx2, .int j]]) hn hS ⟨R4.side c4.fr a1 a2 a3 (nocode_do g1), c4.st.side hn, ⟨_, upd_same, _, _, dl, rfl, rkOf pr2 up, ?_⟩, c4.fr⟩ dl (by show 2 ≤ sizeLine; decide) p
            have l1 := dput_len (k := q2) (ky := kx2) (z := .int j) (dput q1 kx (.int i) [])
            have l2 := dput_len (k := q1) (ky := kx) (z := .int i) []
            simp only [List.length_cons, List.length_nil] at l2 ⊢
            omega
end
end Ev
set_option Elab.async false
set_option linter.all false
set_option maxRecDepth 100000
set_option maxHeartbeats 1000000
/-! raise of an own exception without an __init__; list(range(n)); xs[::-1] -/
namespace Ev
open PySem PySem.Spec PyProof.Rows L2
abbrev mroVE : List Value := [.type "ValueError", .type "Exception", .type "BaseException", .type "object"]
def mRaise0 (c : Nat) : MS := fun _ h => .ex ⟨c, none⟩ h
/-- what the written part says of such a class -/
structure XplC (K : PySem.W.Frag) (C : Addr) : Prop where
  ex : PySem.W.excIn K C mroVE "ValueError.__new__" = true
  kp : PySem.W.keepIn K (.ref C) = true
  sb : PySem.W.subIn K (.ref C) (.type "BaseException") = some true
  ty : PySem.W.typeIn K (.ref C) = some (.type "type")
  me : PySem.W.exmOne K (.ref C) (.ref C) = some true
def xplB (K : PySem.W.Frag) (C : Addr) : Bool := PySem.W.excIn K C mroVE "ValueError.__new__" && (PySem.W.keepIn K (.ref C) && (decide (PySem.W.subIn K (.ref C) (.type "BaseException") = some true) && (decide (PySem.W.typeIn K (.ref C) = some (.type "type")) && decide (PySem.W.exmOne K (.ref C) (.ref C) = some true))))
theorem xplB_ok {K : PySem.W.Frag} {C : Addr} (h : xplB K C = true) : XplC K C := by
  obtain ⟨h1, h⟩ := Bool.and_eq_true_iff.mp h
  obtain ⟨h2, h⟩ := Bool.and_eq_true_iff.mp h
  obtain ⟨h3, h⟩ := Bool.and_eq_true_iff.mp h
  obtain ⟨h4, h5⟩ := Bool.and_eq_true_iff.mp h
  exact ⟨h1, h2, of_decide_eq_true h3, of_decide_eq_true h4, of_decide_eq_true h5⟩
section
variable {X : Cx} {ca : Ca} {E : XK} {lv : Nat}
theorem sims_raise0 {c : Nat} {x m : Str} {j : Nat} {p p2 pos pos' : Pos} (cf : CF X E lv) (T : XplC X.K (ca c)) (hm : X.mg x = some (.ref (ca c))) (hg : Gl X x := by rfl) (hd : (x == ("__debug__" : Str)) = false := by decide) :
    SimS X (wd X ca E) (.Raise (some (.Call (.Name x p) [.Constant (.str m) j p2] [] pos')) none pos) (mRaise0 c) :=
  PS.weaken (L2N.ps_raise cf.calm cf.tk (L2N.pmk_own PySem.F.excBase_ValueError T.ex hm T.kp (raises_own T.sb T.ty) hg hd)) fun D σ H ⟨ro, μ, l, h, A, q⟩ => q μ H (.ref (ca c)) none Step.refl A.R ⟨rfl, rfl⟩
/-! ### list(range(n)) -/
def mLr (ma : ME) : ME := fun l h => (ma l h).bind fun x h1 => match x with
  | .int i => (match Nat.ble i.toNat 1000000 && decide (0 ≤ i) with
    | true => alloc h1 (.lst ((List.range i.toNat).map fun (k : Nat) => AV.int k))
    | false => .bad)
  | _ => .bad
theorem den_rg {K : PySem.W.Frag} {μ : Mu} {H : Hp} : ∀ ks : List Nat, DenL K μ H (ks.map fun (k : Nat) => AV.int k) (ks.map fun k => V.int (0 + (k : Nat)))
  | [] => .nil
  | k :: r => by
    show DenL K μ H (AV.int k :: _) (V.int (0 + (k : Int)) :: _)
    rw [Int.zero_add]
    exact .cons (.int _) (den_rg r)
theorem gLr {a : Expr} {ma : ME} {p p2 pos pos2 : Pos} (c : CF X E lv) (hl : X.mg "list" = none) (hr : X.mg "range" = none) (ha : SimE X (wd X ca E) a ma) (hs : notStar a = true := by rfl) (h1 : Gl X "list" := by rfl) (h2 : Gl X "range" := by rfl) : SimE X (wd X ca E) (.Call (.Name "list" p) [.Call (.Name "range" p2) [a] [] pos2] [] pos) (mLr ma) :=
  PE.weaken (pe_listRg c.calm h1 hl (prg_1 h2 hr ha (star_one hs))) fun σ H Q ⟨ro, μ, l, h, A, q⟩ => ⟨ro, μ, l, h, A, (bindP (dV _) A q).imp fun u H1 ⟨μ1, v, h1, A1, d1, st1, q1⟩ => by
    cases d1 with
    | int i =>
      dsimp only at q1
      cases e : Nat.ble i.toNat 1000000 && decide (0 ≤ i) with
      | false => rw [e] at q1; exact False.elim q1
      | true =>
        rw [e] at q1
        obtain ⟨e1, e2⟩ := Bool.and_eq_true_iff.mp e
        have e1 := Nat.le_of_ble_eq_true e1
        have e2 := of_decide_eq_true e2
        refine ⟨i, rfl, RgOk.of_le (Int.le_refl 0) (by omega) (by decide) e2, fun q' hq' => ?_⟩
        obtain ⟨_, q⟩ := postG.alloc A1.R q1
        refine q q' _ hq' ⟨?_, _, upd_same, ?_⟩
        · rw [List.length_map, List.length_range, sizeLine_eq]; omega
        · have := den_rg (K := X.K) (μ := μ1) (H := upd H1 q' (.lst (rgV 0 i))) (List.range (i - 0).toNat)
          rw [Int.sub_zero] at this
          unfold rgV at this ⊢
          rw [Int.sub_zero] at this ⊢
          exact this
    | _ => exact False.elim q1⟩
/-! ### xs[::-1] -/
def mRev (ma : ME) : ME := fun l h => (ma l h).bind fun x h1 => match x with
  | .obj n => (match h1.get n with
    | some (.lst xs) => alloc h1 (.lst xs.reverse)
    | _ => .bad)
  | _ => .bad
theorem denL_app {K : PySem.W.Frag} {μ : Mu} {H : Hp} : ∀ {xs ys : List AV} {us vs : List V}, DenL K μ H xs us → DenL K μ H ys vs → DenL K μ H (xs ++ ys) (us ++ vs)
  | _, _, _, _, .nil, d => d
  | _, _, _, _, .cons a r, d => .cons a (denL_app r d)
theorem denL_rev {K : PySem.W.Frag} {μ : Mu} {H : Hp} : ∀ {xs : List AV} {us : List V}, DenL K μ H xs us → DenL K μ H xs.reverse us.reverse
  | _, _, .nil => .nil
  | _, _, .cons a r => by
    rw [List.reverse_cons, List.reverse_cons]
    exact denL_app (denL_rev r) (.cons a .nil)
theorem gRev {a : Expr} {ma : ME} {k : Nat} {p1 p2 p3 pos : Pos} (ha : SimE X (wd X ca E) a ma) : SimE X (wd X ca E) (.Subscript a (.Slice none none (some (.UnaryOp .USub (.Constant (.int 1) k p1) p2)) p3) pos) (mRev ma) :=
  PE.weaken (pe_revL ha) fun σ H Q ⟨ro, μ, l, h, A, q⟩ => ⟨ro, μ, l, h, A, (bindP (dV _) A q).imp fun u H1 ⟨μ1, v, h1, A1, d1, st1, q1⟩ => by
    cases d1 with
    | @obj n b hn =>
      obtain ⟨o, ho, r1⟩ := A1.R.there hn
      dsimp only at q1
      rw [ho] at q1
      cases o with
      | lst ys =>
        obtain ⟨hz, vs, hv, dl⟩ := r1
        refine ⟨b, vs, rfl, SqL.of hv, fun p' hp' => ?_⟩
        obtain ⟨_, q⟩ := postG.alloc A1.R q1
        exact q p' _ hp' ⟨by rw [List.length_reverse]; exact hz, vs.reverse, upd_same, A1.R.denL (Step.laid hp') (denL_rev dl)⟩
      | _ => exact False.elim q1
    | _ => exact False.elim q1⟩
end
end Ev
set_option Elab.async false
set_option linter.all false
set_option maxRecDepth 100000
set_option maxHeartbeats 1000000
/-! what is asked of the written part, as tests -/
namespace Ev
open PySem PySem.Spec PyProof.Rows L2
def excB (K : PySem.W.Frag) (D : Addr) : Bool := decide (PySem.W.findIn K (.ref D) "__getattribute__" = some (some (.builtin "BaseException.__getattribute__"))) && (decide (PySem.W.findIn K (.ref D) "__getattr__" = some none) && (decide (PySem.W.subIn K (.ref D) (.type "BaseException") = some true) && (PySem.W.hasDictIn K D && (decide (PySem.W.findIn K (.ref D) "__class__" = some (some (.builtin "object.__class__"))) &&
  (decide (PySem.W.specialIn K (.builtin "object.__class__") "__get__" = some (some (.builtin "getset_descriptor.__get__"))) && (decide (PySem.W.takesIn K (.builtin "object.__class__") = some true) && decide (PySem.W.mroIn K D (.type "object") = some true)))))))
theorem excB_ok {K : PySem.W.Frag} {D : Addr} (h : excB K D = true) : ExcC K D := by
  unfold excB at h
  simp only [Bool.and_eq_true, decide_eq_true_eq] at h
  obtain ⟨h1, h2, h3, h4, h5, h6, h7, h8⟩ := h
  exact ⟨h1, h2, h3, h4, h5, h6, h7, h8⟩
def nmKB (K : PySem.W.Frag) (C : Nat → Addr) (S : Addr) : Bool := ((List.range 5).all fun k => excB K (C k) && (xfB K (C k) && (((List.range 5).all fun j => decide (PySem.W.kitOne K (.ref (C k)) (.ref (C j)) = some (Nat.beq k j))) && (decide (PySem.W.kitOne K (.ref (C k)) (.type "ValueError") = some true) && decide (PySem.W.exmOne K (.ref (C k)) (.ref S) = some true))))) &&
  (decide (PySem.W.findIn K (.ref (C 0)) "part" = some none) && decide (PySem.W.findIn K (.ref (C 2)) "index" = some none))
theorem nmKB_ok {K : PySem.W.Frag} {mg : Str → Option Value} {C : Nat → Addr} {S : Addr} (h : nmKB K C S = true) (m0 : mg "BadHouse" = some (.ref (C 0))) (m1 : mg "BadModes" = some (.ref (C 1))) (m2 : mg "BadPlan" = some (.ref (C 2))) (m3 : mg "BadStep" = some (.ref (C 3))) (m4 : mg "BadView" = some (.ref (C 4)))
    (b : mg "isinstance" = none ∧ mg "len" = none ∧ mg "zip" = none ∧ mg "str" = none ∧ mg "ValueError" = none) : NmK K mg C ∧ ∀ k < 5, PySem.W.exmOne K (.ref (C k)) (.ref S) = some true := by
  unfold nmKB at h
  simp only [Bool.and_eq_true, decide_eq_true_eq, List.all_eq_true, List.mem_range] at h
  obtain ⟨h, hp, hi⟩ := h
  exact ⟨⟨fun k hk => excB_ok (h k hk).1, fun k hk => xfB_ok (h k hk).2.1, fun k hk j hj => (h k hk).2.2.1 j hj, fun k hk => (h k hk).2.2.2.1, hp, hi, m0, m1, m2, m3, m4, b⟩, fun k hk => (h k hk).2.2.2.2⟩
def nmSB (sg sc : Scope) : Bool := decide (sg.kind = .function) && (decide (lkS sg "error" = some .local) && (decide (lkS sg "_law_found" = some .local) && (decide (lkS sg "_law_some" = some .local) &&
  ((["BadHouse", "BadModes", "BadPlan", "BadStep", "BadView", "isinstance", "len", "zip", "str", "ValueError"] : List Str).all (fun x => decide (lkS sg x = some .globalImplicit)) && (blkC nmN sg sc nmOwn &&
  (decide (lkS (relS sc sg) "_law_is_one" = some .local) && (decide (lkS sc "_law_is_one" = some .local) && (decide (lkS (relS sc sg) "_law_name_here" = some .local) && (decide (lkS sc "_law_name_here" = some .local) &&
  !(sc.names.any fun (n, k) => n == ("_law_some" : Str) && (k == .local || k == .cell)))))))))))
theorem nmS_by {sg sc : Scope} (h : nmSB sg sc = true) : NmS sg sc := by
  unfold nmSB at h
  simp only [Bool.and_eq_true, decide_eq_true_eq, Bool.not_eq_true'] at h
  obtain ⟨h1, h2, h3, h4, h5, h6, h7, h8, h9, h10, h11⟩ := h
  have g : ∀ x ∈ (["BadHouse", "BadModes", "BadPlan", "BadStep", "BadView", "isinstance", "len", "zip", "str", "ValueError"] : List Str), lkS sg x = some .globalImplicit := fun x hx => of_decide_eq_true (List.all_eq_true.mp h5 x hx)
  exact ⟨h1, ⟨h2, h3, h4⟩, ⟨g _ (by simp), g _ (by simp), g _ (by simp), g _ (by simp), g _ (by simp)⟩, ⟨g _ (by simp), g _ (by simp), g _ (by simp), g _ (by simp), g _ (by simp)⟩, blkOk_by h6, ⟨h7, h8⟩, ⟨h9, h10⟩, h11⟩
end Ev
set_option Elab.async false
set_option linter.all false
set_option maxRecDepth 100000
set_option maxHeartbeats 1000000
/-! list(o), o an instance of an own class whose __iter__ gives iter(a list), with a __len__ -/
namespace Ev
open PySem PySem.Spec PyProof.Rows L2
def AnyO : HO := .ext fun _ => True
section
variable {X : Cx} {pins : List (Addr × Obj)} {σ : L2.St} {H : Hp} {s : Shared} {l it q a C : Addr} {i n : Nat}
theorem any_ok {P : Program} {w : World} {H : Hp} {h : Heap} (e : ∃ o, h.get? it = some o) : ObjOk P w H h it AnyO := ⟨trivial, e, fun _ _ _ _ => trivial⟩
theorem nx_item {A : Around} {E : Value → Shared → Prop} {items : Array Value} {x : Value} {Q : Option Value → Shared → Prop} (ho : s.heap.get? it = some (GNX.itObj l i)) (hl : s.heap.IsList l items) (hx : items[i]? = some x)
    (hQ : ∀ h', h'.get? it = some (GNX.itObj l (i + 1)) → Heap.SameBut it s.heap h' → Q (some x) { s with heap := h' }) : wpAny (model X.prog X.w) A (pyNext (.ref it)) Q E s := by
  have hT : s.TypeIs (.ref it) "list_iterator" := ⟨_, ho, rfl⟩
  unfold pyNext
  refine wpAny_bind (wpAny_attempt (wpAny_callSpecial?_slot (name := Str.ofString "__next__") hT slot_listiter_next (wpAny_call_entry slot_listiter_next hT entry_listiter_next ?_ (args_listiter_next _))))
  exact GNX.next_item ho hl hx fun h' e sb => wpAny_pure (hQ h' e sb)
theorem nx_end {A : Around} {E : Value → Shared → Prop} {items : Array Value} {Q : Option Value → Shared → Prop} (hh : A.handled = none) (ho : s.heap.get? it = some (GNX.itObj l i)) (hl : s.heap.IsList l items) (hx : items[i]? = none)
    (hQ : ∀ h', (∃ o, h'.get? it = some o) → (∀ b u, b ≠ it → s.heap.get? b = some u → h'.get? b = some u) → Q none { s with heap := h' }) : wpAny (model X.prog X.w) A (pyNext (.ref it)) Q E s := by
  have hT : s.TypeIs (.ref it) "list_iterator" := ⟨_, ho, rfl⟩
  unfold pyNext
  refine wpAny_bind (wpAny_attempt (wpAny_callSpecial?_slot (name := Str.ofString "__next__") hT slot_listiter_next (wpAny_call_entry slot_listiter_next hT entry_listiter_next ?_ (args_listiter_next _))))
  refine GNX.next_end hh ho hl hx fun h1 h' e vs e1 sb k ne he hv => ?_
  refine wpAny_bind (wpAny_isInstance (T := "StopIteration") (b := true) ⟨_, he, rfl⟩ isSubtype_stop ?_)
  exact wpAny_pure (hQ h' ⟨_, k it _ e1⟩ fun b u nb eu => k b u ((sb.2 b nb).trans eu))
theorem upd_swap {H : Hp} {a b : Addr} {u v : HO} (ne : a ≠ b) : upd (upd H a u) b v = upd (upd H b v) a u := by
  funext y
  by_cases h1 : y = a
  · subst h1; rw [upd_ne ne, upd_same, upd_same]
  · by_cases h2 : y = b
    · subst h2; rw [upd_same, upd_ne h1, upd_same]
    · rw [upd_ne h2, upd_ne h1, upd_ne h1, upd_ne h2]
/-- the loop of list.extend over an iterator of a list -/
theorem it_loop {A1 : Around} {zs : List V} {H0 : Hp} {Rs : Result → Shared → Prop} (hh : A1.in1.handled = none) (nq : q ≠ it) (nl : l ≠ q) (nli : l ≠ it) (hl : H0 l = some (.lst zs)) (hdone : ∀ s, Inv X pins σ (upd (upd H0 it AnyO) q (.lst zs)) s → Rs (.ok (.ret .none)) s) :
    ∀ (k i : Nat) (s : Shared), i + k = zs.length → Inv X pins σ (upd (upd H0 it (ItO l it i)) q (.lst (zs.take i))) s → codeAny (model X.prog X.w) A1 (.builtin "list.extend.loop" ⟨[.ref q, .ref it, .none], []⟩) Rs s := by
  intro k
  induction k with
  | zero =>
    intro i s hi I
    have hit : upd (upd H0 it (ItO l it i)) q (.lst (zs.take i)) it = some (ItO l it i) := by rw [upd_ne (Ne.symm nq), upd_same]
    have hls : upd (upd H0 it (ItO l it i)) q (.lst (zs.take i)) l = some (.lst zs) := by rw [upd_ne nl, upd_ne nli, hl]
    obtain ⟨z, its, n, r, hlen, e⟩ := I.lstM hls
    have li : s.heap.get? it = some (GNX.itObj l i) := itO_get I hit
    refine codeAny_builtin PySem.F.entry_extend_loop ?_
    rw [Around.under_plainId PySem.F.plain_extend_loop _]
    show wpAny _ A1.in1 (pyNext (.ref it) >>= _) _ _ s
    refine wpAny_bind (nx_end (items := its.toArray) hh li ⟨_, e, rfl, _, rfl⟩ (by rw [List.getElem?_toArray]; exact List.getElem?_eq_none_iff.mpr (by omega)) fun h' ex eb => ?_)
    have I2 := I.write (x := it) (e := it) (o := AnyO) (h' := h') (t' := s.toks) (by rw [hit]; exact trivial) (.inl rfl) (fun b u nb eu => eb b u nb eu) ex (any_ok ex)
    rw [upd_swap nq, upd_upd, List.take_of_length_le (by omega)] at I2
    exact wpAny_pure (hdone _ I2)
  | succ k ih =>
    intro i s hi I
    have hit : upd (upd H0 it (ItO l it i)) q (.lst (zs.take i)) it = some (ItO l it i) := by rw [upd_ne (Ne.symm nq), upd_same]
    have hls : upd (upd H0 it (ItO l it i)) q (.lst (zs.take i)) l = some (.lst zs) := by rw [upd_ne nl, upd_ne nli, hl]
    obtain ⟨z, its, n, r, hlen, e⟩ := I.lstM hls
    have li : s.heap.get? it = some (GNX.itObj l i) := itO_get I hit
    obtain ⟨v, hv⟩ : ∃ v, zs[i]? = some v := ⟨_, List.getElem?_eq_getElem (by omega)⟩
    obtain ⟨u, hu, ru⟩ := r.get hv
    refine codeAny_builtin PySem.F.entry_extend_loop ?_
    rw [Around.under_plainId PySem.F.plain_extend_loop _]
    show wpAny _ A1.in1 (pyNext (.ref it) >>= _) _ _ s
    refine wpAny_bind (nx_item (items := its.toArray) (x := u) li ⟨_, e, rfl, _, rfl⟩ (by rw [List.getElem?_toArray]; exact hu) fun h' li' sb => ?_)
    have ex : ∃ o, h'.get? it = some o := ⟨_, li'⟩
    have I2 := I.write (x := it) (e := it) (o := ItO l it (i + 1)) (h' := h') (t' := s.toks) (by rw [hit]; exact trivial) (.inl rfl) (fun b w nb ew => sb.extBut b w nb ew) ex (itO_ok li')
    rw [upd_swap nq, upd_upd] at I2
    have hq2 : upd (upd H0 it (ItO l it (i + 1))) q (.lst (zs.take i)) q = some (.lst (zs.take i)) := upd_same
    obtain ⟨z2, its2, n2, r2, hlen2, e2⟩ := I2.lstM hq2
    have hz := z
    rw [List.length_take] at z2 hlen2
    show wpAny _ A1.in1 (updateSeq q (·.push u) >>= _) _ _ _
    refine wpAny_bind (wpAny_updateSeq e2 rfl (wpAny_pure ⟨plainId_quiet PySem.F.plain_extend_loop _, ?_⟩) (by rw [List.size_toArray]; omega) (by show (its2.toArray.push u).size ≤ sizeLine + 1; rw [Array.size_push, List.size_toArray]; omega))
    have I3 := I2.lset (f := (·.push u)) (its' := its2 ++ [u]) (ys := zs.take (i + 1)) (t' := s.toks) hq2 e2 (by simp) (by rw [List.take_add_one, hv]; exact r2.append (.cons ru .nil)) (by rw [List.length_take]; omega)
    rw [upd_upd] at I3
    exact ih (i + 1) _ (by omega) I3
end
end Ev
set_option Elab.async false
set_option linter.all false
set_option maxRecDepth 100000
set_option maxHeartbeats 1000000
namespace Ev
open PySem PySem.Spec PyProof.Rows L2
section
variable {X : Cx} {pins : List (Addr × Obj)} {σ : L2.St} {H : Hp} {s : Shared} {l it q a C : Addr} {i n : Nat}
theorem it_hint {A1 : Around} {Q : Bool → Shared → Prop} {fl : Addr} {ox : Obj} {od : Option Obj} {E : Value → Shared → Prop} {m : Str → Option Value} {L : Addr} (F : Fr X.base L s.heap m) (hK : X.K.In X.base) (J : PySem.W.InstAt s.heap a ox C od) (ml : Meth X.K C "__len__" fl)
    (h : wpAny (model X.prog X.w) A1.in1 (call (.ref fl) [.ref a]) (fun v s' => ∃ (j : Int) (t : Tok), v = .int j t ∧ 0 ≤ j ∧ j.toNat ≤ sizeLine ∧ ∀ b tk, Q b { s' with toks := tk }) (fun e s' => False) s) : wpAny (model X.prog X.w) A1 (Builtin.List.listLengthHint (.ref a)) Q E s := by
  have KX := hK.keeps F.keep
  unfold Builtin.List.listLengthHint
  refine wpAny_bind (wpAny_bind (J.type.here ((PySem.W.looks_findIn KX ml.at_).here ?_)))
  refine PySem.W.KFB.if_not rfl ?_
  show wpAny _ _ (if (some (Value.ref fl)).isSome = true then _ else _) _ _ _
  rw [if_pos (show (some (Value.ref fl)).isSome = true from rfl)]
  refine wpAny_bind (wpAny_rule ?_)
  refine wpAny_bind (wpAny_attempt (wpAny_mono (PySem.W.len_K (E := fun e s' => False) (Q := fun v s' => ∃ (j : Int) (t : Tok), v = .int j t ∧ j.toNat ≤ sizeLine ∧ ∀ b tk, Q b { s' with toks := tk }) F hK J ml.at_ ml.fn (wpAny_mono h (fun v s' hv => ?_) fun _ _ z => z)) (fun v s' hv => ?_) fun _ _ z => z.elim))
  · obtain ⟨j, t, rfl, h0, h1, hq⟩ := hv
    refine ⟨⟨h0, ?_⟩, j, _, rfl, h1, fun b tk => hq b tk⟩
    have := Int.toNat_of_nonneg h0
    rw [sizeLine_eq] at h1
    omega
  · obtain ⟨j, t, rfl, h1, hq⟩ := hv
    show wpAny _ _ (asInt? (.int j t) >>= _) _ _ _
    refine wpAny_bind (wpAny_pure ?_)
    show wpAny _ _ (if Builtin.List.listTooLong j.toNat = true then _ else _) _ _ _
    rw [notLongL h1]
    exact wpAny_pure (hq _ _)
end
end Ev
set_option Elab.async false
set_option linter.all false
set_option maxRecDepth 100000
set_option maxHeartbeats 1000000
namespace Ev
open PySem PySem.Spec PyProof.Rows L2
/-- __iter__ that gives iter(self.fld) -/
def spIt (K : PySem.W.Frag) (fld : Str) : Sp := fun vs H Q E => ∃ a C dx p fs i l zs, vs = [.ref a] ∧ SlX.Slt H a C dx fs ∧ SlX.SCls K C ∧ SlX.Slot1 K C fld p i ∧ fs[i]? = some (some (.ref l)) ∧ H l = some (.lst zs) ∧ ∀ it, H it = none → Q (.ref it) (upd H it (ItO l it 0))
theorem iter_fn {P : Program} {w : World} {K : PySem.W.Frag} {mg : Str → Option Value} {base : Heap} {k : Nat} {g : Addr} {q x0 self fld : Str} {params : Arguments} {scope : Scope} {fd : FuncData} {p1 p2 p3 p4 p5 : Pos}
    (D : FunD K x0 q params [.Return (some (.Call (.Name "iter" p1) [.Attribute (.Name self p2) fld p3] [] p4)) p5] scope [] [] g fd) (S : FnScope [self] [self] scope) (hb : Binds K fd [self] []) (hm : mg "iter" = none) (hg : scope.names.lookup ("iter" : Str) = some .globalImplicit) (lt : Vis scope self)
    (h1 : (self == ("__debug__" : Str)) = false := by decide) (h2 : (self == ("__classdict__" : Str)) = false := by decide) : FnR P w K mg base (L2N.CX P w) (k + 1) g (spIt K fld) := by
  have ok : FnOk P w K mg base (L2N.CX P w) (k + 1) g fd [self] (spIt K fld) := by
    refine D.ok S (fun vs H Q E ⟨a, C, dx, p, fs, i, l, zs, e, _⟩ => by rw [e]; rfl) fun cdv A outer s H vs Q E hr ⟨a, C, dx, p, fs, i, l, zs, e, k1, k2, k3, k4, k5, k6⟩ => ?_
    subst e
    refine ⟨_, pss_one (ps_ret (pe_callB (X := cxOf (L2N.CX P w) P w K mg base [self] q scope g cdv A outer s H E) call_iterL (id := "iter") hg hm rfl (pa_cons (SlX.pe_sl (pe_var (i := 0) rfl lt h1 h2)) pa_nil rfl))), ?_⟩
    refine ⟨.ref a, rfl, a, C, dx, p, fs, i, .ref l, rfl, k1, k2, k3, k4, ?_⟩
    exact ⟨l, zs, rfl, SqL.of k5, k6⟩
  intro A outer s H us vs Q E hr e0 rv sp
  exact ok.raw hb .nil A outer s H us vs Q E hr e0 rv (show spIt K fld (vs ++ []) H Q E by rw [List.append_nil]; exact sp)
section
variable {X : Cx} {ca : Ca} {E : XK} {pins : List (Addr × Obj)} {σ : L2.St} {H : Hp} {s : Shared}
/-- a callee runs further in -/
theorem run_sub {k : Nat} {f : Addr} {sp : Sp} {Q : VK} {us : List Value} {vs : List V} {A1 : Around} (F : FnR X.prog X.w X.K X.mg X.base (L2N.CX X.prog X.w) k f sp) (sb : Sub X k A1) (I : Inv X pins σ H s) (r : Vals vs us) (h : sp vs H Q E0) :
    wpAny (model X.prog X.w) A1 (call (.ref f) us) (fun v s' => EP X pins σ Q v s') (fun _ _ => False) s := by
  have e0 : Env0 X.prog X.w X.K X.mg X.base A1 X.stack s H := by
    have e := I.env0
    exact ⟨by rw [sb.fr]; exact e.frames, e.mod, e.bs, e.bsz, e.funs, e.frf, e.hok, e.bare⟩
  refine wpAny_call (codeAny_mono (F A1 X.stack s H us vs Q E0 sb.room e0 r h) fun r s' hq => ?_)
  cases r with
  | error e =>
    obtain ⟨_, _, _, _, _, _, _, _, _, _, _, _, z⟩ := hq
    exact z.elim
  | ok fl =>
    cases fl with
    | ret u => exact I.after hq
    | next => exact False.elim hq
    | brk => exact False.elim hq
    | cont => exact False.elim hq
end
end Ev
set_option Elab.async false
set_option linter.all false
set_option maxRecDepth 100000
set_option maxHeartbeats 1000000
namespace Ev
open PySem PySem.Spec PyProof.Rows L2
def okLen (k : Int) : Bool := match k with
  | .ofNat m => lim m
  | .negSucc _ => false
/-- the list is made after __len__ -/
def lsE (j : Nat) (r : R AV) : R AV := match r with
  | .ok v h => (match v with
    | .int k => (match okLen k with
      | true => (match h.get j with
        | some (.lst xs) => alloc h (.lst xs)
        | _ => .bad)
      | false => .bad)
    | _ => .bad)
  | _ => .bad
theorem lsE_of {W : Wd} {ro : Nat} {μ : Mu} {H : Hp} {Q : VK} {j : Nat} {r : R AV} (p : post W ro μ H (lsE j r) Q) : ∃ k h xs, r = .ok (.int k) h ∧ okLen k = true ∧ h.get j = some (.lst xs) ∧ post W ro μ H (alloc h (.lst xs)) Q := by
  unfold lsE at p
  cases r with
  | bad => exact False.elim p
  | ex _ _ => exact False.elim p
  | ok v h =>
    cases v with
    | int k =>
      dsimp only at p
      cases e : okLen k with
      | false => rw [e] at p; exact False.elim p
      | true =>
        rw [e] at p
        dsimp only at p
        cases e2 : h.get j with
        | none => rw [e2] at p; exact False.elim p
        | some o =>
          rw [e2] at p
          cases o with
          | lst xs => exact ⟨k, h, xs, rfl, e, e2, p⟩
          | _ => exact False.elim p
    | _ => exact False.elim p
def hasL (h : AH) (j : Nat) : Bool := match h.get j with
  | some (.lst _) => true
  | _ => false
def lsO (c i : Nat) (Fl : Fn) (x : AV) (h : AH) : R AV := match insOf h x with
  | some (c', fs) => (match Nat.beq c' c with
    | true => (match fs[i]? with
      | some (some (.obj j)) => (match hasL h j with
        | true => lsE j (Fl [x] h)
        | false => .bad)
      | _ => .bad)
    | false => .bad)
  | none => .bad
theorem okLen_of {k : Int} (e : okLen k = true) : 0 ≤ k ∧ k.toNat ≤ sizeLine := by
  cases k with
  | ofNat m => exact ⟨Int.natCast_nonneg m, lim_le e⟩
  | negSucc m => cases e
theorem hasL_of {h : AH} {j : Nat} (e : hasL h j = true) : ∃ xs, h.get j = some (.lst xs) := by
  unfold hasL at e
  cases q : h.get j with
  | none => rw [q] at e; cases e
  | some o =>
    rw [q] at e
    cases o with
    | lst xs => exact ⟨xs, rfl⟩
    | _ => cases e
section
variable {X : Cx} {ca : Ca} {E : XK} {pins : List (Addr × Obj)} {σ : L2.St} {H : Hp} {s : Shared} {fi fl : Addr} {fld : Str} {c i nI nL n : Nat} {Fl : Fn} {p : Addr}
theorem it_noc {l it : Addr} (I : Inv X pins σ H s) (e : H it = some (ItO l it 0)) : NoCode H it := by
  intro u hu
  rw [e] at hu
  cases hu
  refine ⟨fun _ z => (nomatch z), fun q z => ?_⟩
  have g : s.heap.get? it = some (GNX.itObj l 0) := itO_get I e
  have z2 : ∀ h : Heap, (h.get? it = some (GNX.itObj l 0)) = (∃ (oc : Obj) (vs : Array Value) (t : Tok), h.get? it = some oc ∧ oc.data = .fields vs ∧ vs[1]? = some (.str q t)) := fun h => congrFun (HO.ext.inj z) h
  obtain ⟨oc, vs, t, e1, e2, e3⟩ := (z2 s.heap).mp g
  rw [g] at e1
  cases e1
  cases e2
  simp at e3
theorem call_listIt (h1 : SlX.SCls X.K (ca c)) (h2 : SlX.Slot1 X.K (ca c) fld p i) (mi : Meth X.K (ca c) "__iter__" fi) (ml : Meth X.K (ca c) "__len__" fl) (FI : FnR X.prog X.w X.K X.mg X.base (L2N.CX X.prog X.w) n fi (spIt X.K fld)) (FL : FnW X.prog X.w X.K X.mg X.base ca n Fl fl) (hr : Room (n + 3) X.A) :
    CallR X (.type "list") (trC (wd X ca E) (g1 (lsO c i Fl))) := by
  intro pins s σ H xs us Q I rv hq
  obtain ⟨ro, μ, h, v, x, rfl, R, d, q⟩ := g1_of hq
  unfold lsO at q
  cases e1 : insOf h v with
  | none => rw [e1] at q; exact False.elim q
  | some z =>
  obtain ⟨c', fs⟩ := z
  rw [e1] at q
  dsimp only at q
  cases e2 : Nat.beq c' c with
  | false => rw [e2] at q; exact False.elim q
  | true =>
  rw [e2] at q
  dsimp only at q
  have ec := beq_tt e2
  subst ec
  obtain ⟨nn, a, dx, vs, rfl, hn, rfl, hg, hsl, hS, hX, hf⟩ := ins_slt R d e1
  obtain ⟨j, e3⟩ : ∃ j, fs[i]? = some (some (.obj j)) := by
    cases e3 : fs[i]? with
    | none => rw [e3] at q; exact False.elim q
    | some y =>
      cases y with
      | none => rw [e3] at q; exact False.elim q
      | some y => cases y with
        | obj j => exact ⟨j, rfl⟩
        | _ => rw [e3] at q; exact False.elim q
  rw [e3] at q
  dsimp only at q
  cases e4 : hasL h j with
  | false => rw [e4] at q; exact False.elim q
  | true =>
  rw [e4] at q
  dsimp only at q
  obtain ⟨ys, hj⟩ := hasL_of e4
  obtain ⟨u1, k1, d1⟩ := hf i _ e3
  cases d1 with
  | @obj _ l hjl =>
  obtain ⟨o, ho, r1⟩ := R.there hjl
  rw [hj] at ho
  cases ho
  obtain ⟨_, zs, hl, _⟩ := r1
  obtain ⟨u, rfl, ru⟩ := rv.one
  cases ru
  have sb2 : Sub X (n + 1) X.A.in1.in1 := (Sub.in1 (Sub.in1 (⟨hr, rfl⟩ : Sub X (n + 3) X.A)))
  have sb3 : Sub X n X.A.in1.in1.in1 := sb2.in1
  refine callType_codes (Q₁ := fun obj s₁ => obj = .ref s.heap.objs.size ∧ s₁ = { s with heap := s.heap.push { cls := .type "list", data := .seq #[] } }) PySem.F.called_list (PySem.F.typeCall_list_1 _) PySem.F.entry_list_init
    (code_list_new _ ⟨rfl, rfl⟩) fun obj s₁ h₁ => ?_
  obtain ⟨rfl, rfl⟩ := h₁
  have hS0 : (s.heap.push { cls := .type "list", data := .seq #[] }).get? s.heap.objs.size = some { cls := .type "list", data := .seq #[] } := Heap.get?_push_size _ rfl
  refine ⟨⟨_, hS0, rfl⟩, PySem.F.args_list_init_2 _ _, ?_⟩
  have fr : H s.heap.objs.size = none := I.hok.fresh (Nat.le_refl _)
  have I1 : Inv X pins σ (upd H s.heap.objs.size (.lst [])) { s with heap := s.heap.push { cls := .type "list", data := .seq #[] } } := I.lnew (its := []) (t' := s.toks) .nil (Nat.zero_le _)
  show wpAny _ _ (do let old ← Builtin.List.listItems (.ref s.heap.objs.size); Builtin.List.listUpdate (.ref s.heap.objs.size) (fun _ => #[]); letGo old.toList.reverse; Builtin.List.listExtendWith (.ref s.heap.objs.size) (.ref a) .none) _ _ _
  refine wpAny_bind ?_
  unfold Builtin.List.listItems
  refine wpAny_bind (wpAny_seqItems hS0 rfl (wpAny_pure ?_))
  show wpAny _ _ (updateSeq s.heap.objs.size (fun _ => #[]) >>= fun _ => letGo (#[] : Array Value).toList.reverse >>= fun _ => Builtin.List.listExtendWith (.ref s.heap.objs.size) (.ref a) .none) _ _ _
  refine wpAny_bind (wpAny_updateSeq hS0 rfl ?_)
  have I2 := I1.lset (f := fun _ => #[]) (its := []) (its' := []) (ys := []) (t' := s.toks) upd_same hS0 rfl .nil (Nat.zero_le _)
  rw [upd_upd] at I2
  refine wpAny_bind (wpAny_letGo ?_)
  generalize s.heap.objs.size = q0 at *
  have na : a ≠ q0 := fun z => by rw [z, fr] at hS; cases hS
  have nl : l ≠ q0 := fun z => by rw [z, fr] at hl; cases hl
  have st0 : Step ro μ H μ (upd H q0 (.lst [])) := Step.laid fr
  have R0 : RelH (wd X ca E) ro μ h (upd H q0 (.lst [])) := R.laid fr
  obtain ⟨nn', a', dx', vs', ea, hn', eb, _, hsl0, _, _, hf0⟩ := ins_slt R0 (R.den st0 (Den.obj hn)) e1
  cases ea
  cases eb
  obtain ⟨u0, k0, d0⟩ := hf0 i _ e3
  cases d0 with
  | @obj _ l0 hjl0 =>
  rw [hjl] at hjl0
  cases hjl0
  obtain ⟨sl, od, _, J, _⟩ := SlX.slt_inst I2 hsl0
  obtain ⟨m0, hF⟩ := I2.fr
  unfold Builtin.List.listExtendWith
  refine wpAny_bind (J.type.here ?_)
  have b1 : Builtin.List.listSameRef (.ref q0) (.ref a) = false := by simp [Builtin.List.listSameRef, Ne.symm na]
  have b2 : (Value.ref (ca c') == Value.type "list") = false := rfl
  have b3 : (Value.ref (ca c') == Value.type "tuple") = false := rfl
  simp only [b1, b2, b3, Bool.or_false, Bool.false_eq_true, if_false]
  have hl0 : upd H q0 (.lst []) l = some (.lst zs) := by rw [upd_ne nl]; exact hl
  refine wpAny_bind (PySem.W.owit_iter hF I2.ok.mod.kin J mi.at_ mi.fn (wpAny_mono (run_sub (Q := fun v H1 => ∃ it, v = .ref it ∧ upd H q0 (.lst []) it = none ∧ H1 = upd (upd H q0 (.lst [])) it (ItO l it 0)) FI (sb2.mono (Nat.le_succ n)) I2 (vs := [.ref a]) (.cons rfl .nil) ⟨a, ca c', dx', p, vs', i, l, zs, rfl, hsl0, h1, h2, k0, hl0, fun it hit => ⟨it, rfl, hit, rfl⟩⟩) (fun v s3 hv => ?_) fun _ _ z => z.elim))
  obtain ⟨_, _, I3, rvv, it, rfl, hit, rfl⟩ := hv
  cases rvv
  have hit0 : upd (upd H q0 (.lst [])) it (ItO l it 0) it = some (ItO l it 0) := upd_same
  have gi := itO_get I3 hit0
  unfold PySem.W.OwitIt
  refine wpAny_specialOf ⟨_, gi, rfl⟩ slot_listiter_next.lookup ?_
  have st3 : Step ro μ H μ (upd (upd H q0 (.lst [])) it (ItO l it 0)) := st0.trans (Step.laid hit)
  have R3 : RelH (wd X ca E) ro μ h (upd (upd H q0 (.lst [])) it (ItO l it 0)) := R0.laid hit
  have nqi : q0 ≠ it := fun z => by rw [← z, upd_same] at hit; cases hit
  have nli : l ≠ it := fun z => by rw [← z, hl0] at hit; cases hit
  have hitH : H it = none := by rw [upd_ne (Ne.symm nqi)] at hit; exact hit
  obtain ⟨nn'', a'', dx'', vs'', ea, hn'', eb, _, hsl3, _, _, hf3⟩ := ins_slt R3 (R.den st3 (Den.obj hn)) e1
  cases ea
  cases eb
  obtain ⟨sl3, od3, _, J3, _⟩ := SlX.slt_inst I3 hsl3
  obtain ⟨m3, hF3⟩ := I3.fr
  obtain ⟨k, h2', ws, ek, ekl, hj2, q2⟩ := lsE_of q
  obtain ⟨kn, kz⟩ := okLen_of ekl
  refine wpAny_bind (wpAny_holding (it_hint hF3 I3.ok.mod.kin J3 ml (wpAny_mono (run_sub (Q := fun u H2 => ∃ μ2, u = .int k ∧ Step ro μ (upd (upd H q0 (.lst [])) it (ItO l it 0)) μ2 H2 ∧ RelH (wd X ca E) ro μ2 h2' H2) FL sb3 I3 (vs := [.ref a]) (.cons rfl .nil) ⟨ro, μ, h, [.obj nn], R3.to E0, .cons (.obj hn) .nil, ?_⟩) (fun v s4 hv => ?_) fun _ _ z => z.elim)))
  · rw [ek]
    intro μ2 u2 H2 st R2 d2
    cases d2
    exact ⟨μ2, rfl, st, R2.to E⟩
  obtain ⟨_, H2, I4, rk, μ2, rfl, st4, R4⟩ := hv
  obtain ⟨tk, rfl⟩ := rk
  refine ⟨k, tk, rfl, kn, kz, fun b tk => ?_⟩
  have I5 := I4.tok tk
  have hq4 : H2 q0 = some (.lst []) := st4.frm _ _ (fun m _ z => R.fresh fr m z) (fun _ z => (nomatch z)) (by rw [upd_ne nqi, upd_same])
  have hi4 : H2 it = some (ItO l it 0) := st4.frm _ _ (fun m _ z => R.fresh hitH m z) (fun _ z => (nomatch z)) upd_same
  have hjl4 : μ2 j = some l := st4.ext _ _ hjl
  obtain ⟨o4, ho4, r4⟩ := R4.there hjl4
  rw [hj2] at ho4
  cases ho4
  obtain ⟨zl, zs4, hl4, dl4⟩ := r4
  have hst : upd (upd H2 it (ItO l it 0)) q0 (.lst (zs4.take 0)) = H2 := by
    funext y
    by_cases y1 : y = q0
    · rw [y1, upd_same, hq4]; rfl
    · rw [upd_ne y1]
      by_cases y2 : y = it
      · rw [y2, upd_same, hi4]
      · rw [upd_ne y2]
  have fq : ∀ m, μ2 m ≠ some q0 := fun m z => by
    rcases st4.new m q0 z with z | z
    · exact R.fresh fr m z
    · rw [upd_ne nqi, upd_same] at z; cases z
  have fi' : ∀ m, μ2 m ≠ some it := fun m z => by
    rcases st4.new m it z with z | z
    · exact R.fresh hitH m z
    · rw [upd_same] at z; cases z
  have R5 : RelH (wd X ca E) ro μ2 h2' (upd H2 it AnyO) := R4.side fi' (fun ys z => by rw [hi4] at z; cases z) (fun _ ys z => by rw [hi4] at z; cases z) (fun z => by rw [hi4] at z; cases z) (it_noc I4 hi4)
  have hq5 : upd H2 it AnyO q0 = some (.lst []) := by rw [upd_ne nqi]; exact hq4
  have R6 : RelH (wd X ca E) ro μ2 h2' (upd (upd H2 it AnyO) q0 (.lst zs4)) := R5.side fq (fun ys z => by rw [hq5] at z; cases z) (fun _ ys z => by rw [hq5] at z; cases z) (fun z => by rw [hq5] at z; cases z) (fun u hu => by rw [hq5] at hu; cases hu; exact ⟨fun _ z => (nomatch z), fun _ z => (nomatch z)⟩)
  have S6 : Step ro μ H μ2 (upd (upd H2 it AnyO) q0 (.lst zs4)) := ((st3.trans st4).side hitH).side fr
  have done : ∀ s5, Inv X pins σ (upd (upd H2 it AnyO) q0 (.lst zs4)) s5 → wants (fun r s₂ => r = .none ∧ EP X pins σ Q (.ref q0) s₂) X.xe (.ok (.ret .none)) s5 := fun s5 J5 => by
    refine ⟨rfl, .ref q0, _, J5, rfl, ?_⟩
    unfold Ev.alloc at q2
    cases e9 : Nat.blt h2'.n top with
    | false => rw [e9] at q2; exact False.elim q2
    | true =>
      rw [e9] at q2
      have hn9 := blt_tt.mp e9
      refine q2 (muPut μ2 h2'.n q0) (.ref q0) _ (S6.mine fr (R4.dom (Nat.le_refl _))) (R6.own hn9 fq ⟨zl, zs4, upd_same, ?_⟩) (.obj (by unfold muPut; rw [if_pos rfl]))
      exact dl4.mono (fun _ _ e => e) fun _ _ sq => sq_upd (fun ys z => by rw [hq5] at z; cases z) (fun _ ys z => by rw [hq5] at z; cases z) (sq_upd (fun ys z => by rw [hi4] at z; cases z) (fun _ ys z => by rw [hi4] at z; cases z) sq)
  rw [← hst] at I5
  have nxt := it_loop (A1 := X.A.in1) (zs := zs4) (H0 := H2) (X := X) (pins := pins) (σ := σ) (Rs := wants (fun r s₂ => r = .none ∧ EP X pins σ Q (.ref q0) s₂) X.xe) sb2.room.hd nqi nl nli hl4 done zs4.length 0 
  refine wpAny_ite_split (fun _ => ?_) (fun _ => wpAny_pure ⟨plainId_quiet PySem.F.plain_extend_loop _, nxt _ (Nat.zero_add _) I5⟩)
  refine wpAny_bind (wpAny_rule ?_)
  refine wpAny_bind ?_
  rw [hst] at I5
  obtain ⟨z, its, k', r3, hl3, e3'⟩ := I5.lstM hq4
  cases r3
  show wpAny _ _ (updateSeq q0 (·.push .none) >>= fun _ => updateSeq q0 (·.pop)) _ _ _
  refine wpAny_bind (wpAny_updateSeq e3' rfl ?_)
  have I6 := I5.lset (f := (·.push Value.none)) (its' := [Value.none]) (ys := [.non]) (t' := tk) hq4 e3' (by simp) (.cons rfl .nil) (by rw [List.length_singleton, sizeLine_eq]; decide)
  obtain ⟨z4, its4, k4, r4, hl4', e4'⟩ := I6.lstM upd_same
  obtain ⟨u4, rfl, ru4⟩ := r4.one
  refine wpAny_updateSeq e4' rfl ?_ (by show 1 ≤ sizeLine; rw [sizeLine_eq]; decide) (by show 0 ≤ sizeLine + 1; exact Nat.zero_le _)
  refine wpAny_pure ⟨plainId_quiet PySem.F.plain_extend_loop _, nxt _ (Nat.zero_add _) ?_⟩
  have I7 := I6.lset (f := (·.pop)) (its := [u4]) (its' := []) (ys := []) (t' := tk) upd_same e4' (by rfl) .nil (Nat.zero_le _)
  rw [upd_upd] at I7
  have hH : upd H2 q0 (.lst []) = H2 := by
    funext b
    by_cases hb : b = q0
    · rw [hb, upd_same, hq4]
    · rw [upd_ne hb]
  rw [hH] at I7
  rw [hst]
  exact I7
end
end Ev
set_option Elab.async false
set_option linter.all false
set_option maxRecDepth 100000
set_option maxHeartbeats 1000000
namespace Ev
open PySem PySem.Spec PyProof.Rows L2
/-- list(o), o of the class k with __iter__ over the slot i and __len__ -/
def mLsO (k i : Nat) (Fl : Fn) (ma : ME) : ME := mB1 (g1 (lsO k i Fl)) ma
theorem gLsO {X : Cx} {ca : Ca} {E : XK} {lv n n' k i : Nat} {fld : Str} {a : Expr} {ma : ME} {p pos : Pos} {q fi fl : Addr} {Fl : Fn} (c : CF X E lv) (hm : X.mg "list" = none) (h1 : SlX.SCls X.K (ca k)) (h2 : SlX.Slot1 X.K (ca k) fld q i) (mi : Meth X.K (ca k) "__iter__" fi) (ml : Meth X.K (ca k) "__len__" fl) (FI : FnR X.prog X.w X.K X.mg X.base (L2N.CX X.prog X.w) n fi (spIt X.K fld)) (FL : FnW X.prog X.w X.K X.mg X.base ca n' Fl fl) (ha : SimE X (wd X ca E) a ma)
    (hl : n + 3 ≤ lv := by decide) (hl2 : n' ≤ n := by decide) (hg : Gl X "list" := by rfl) (hs : notStar a = true := by rfl) : SimE X (wd X ca E) (.Call (.Name "list" p) [a] [] pos) (mLsO k i Fl ma) :=
  sim_Ty1 (call_listIt h1 h2 mi ml FI (FL.mono hl2) (c.to _ hl)) hg hm bt_list ha hs (by decide) (by decide)
end Ev
set_option Elab.async false
set_option linter.all false
set_option maxRecDepth 100000
set_option maxHeartbeats 1000000
/-! for x in o, o of an own class whose __iter__ gives iter(self.fld) -/
namespace Ev
open PySem PySem.Spec PyProof.Rows L2
/-- such an __iter__: the iterator is new -/
structure FnI (P : Program) (w : World) (K : PySem.W.Frag) (mg : Str → Option Value) (base : Heap) (k : Nat) (f : Addr) (fld : Str) : Prop where
  run : ∀ (A : Around) (ou : List Env) (s : Shared) (H : Hp) (a C dx p : Addr) (fs : List (Option V)) (i : Nat) (l : Addr) (zs : List V), Room k A → Env0 P w K mg base A ou s H → SlX.Slt H a C dx fs → SlX.SCls K C → SlX.Slot1 K C fld p i → fs[i]? = some (some (.ref l)) → H l = some (.lst zs) →
    codeAny (model P w) A (.call (.ref f) ⟨[.ref a], []⟩) (CR (L2N.CX P w) ou P w H s (fun v H' => ∃ it, v = .ref it ∧ H it = none ∧ s.heap.objs.size ≤ it ∧ H' = upd H it (ItO l it 0)) E0) s
theorem iter_fnI {P : Program} {w : World} {K : PySem.W.Frag} {mg : Str → Option Value} {base : Heap} {k : Nat} {g : Addr} {q x0 self fld : Str} {params : Arguments} {scope : Scope} {fd : FuncData} {p1 p2 p3 p4 p5 : Pos}
    (D : FunD K x0 q params [.Return (some (.Call (.Name "iter" p1) [.Attribute (.Name self p2) fld p3] [] p4)) p5] scope [] [] g fd) (S : FnScope [self] [self] scope) (hb : Binds K fd [self] []) (hm : mg "iter" = none) (hg : scope.names.lookup ("iter" : Str) = some .globalImplicit) (lt : Vis scope self)
    (h1 : (self == ("__debug__" : Str)) = false := by decide) (h2 : (self == ("__classdict__" : Str)) = false := by decide) : FnI P w K mg base (k + 1) g fld := by
  refine ⟨fun A ou s H a C dx p fs i l zs hr e0 k1 k2 k3 k4 k5 => ?_⟩
  obtain ⟨oc, od, dV, kV, doc, pm, an, cdv, ct, osl, rfl, lk, hcd, _, _⟩ := D.ex
  have KX : K.In s.heap := e0.mod.kin.keeps fun b o e => (e0.bs b o e).1
  refine LamX.run_ofS (N := [self]) (ps := [self]) (us := [.ref a]) (vs := [.ref a]) lk hcd S hr e0 (hb s [.ref a] KX rfl) (.cons rfl .nil) rfl fun hr' => ?_
  refine ⟨_, pss_one (ps_ret (pe_callB (X := cxOf (L2N.CX P w) P w K mg base [self] q scope g cdv A ou s H E0) ItX.call_iterN (id := "iter") hg hm rfl (pa_cons (SlX.pe_sl (pe_var (i := 0) rfl lt h1 h2)) pa_nil rfl))), ?_⟩
  exact ⟨.ref a, rfl, a, C, dx, p, fs, i, .ref l, rfl, k1, k2, k3, k4, l, zs, rfl, SqL.of k5, fun it hn hle => ⟨it, rfl, hn, hle, rfl⟩⟩
def miIt (k i : Nat) (ma : ME) : Loc' → AH → R Src := fun l h => (ma l h).bind fun x h1 => match insOf h1 x with
  | some (c', fs) => (match Nat.beq c' k with
    | true => (match fs[i]? with
      | some (some (.obj j)) => (match hasL h1 j with
        | true => .ok (.ob j) h1
        | false => .bad)
      | _ => .bad)
    | false => .bad)
  | none => .bad
section
variable {X : Cx} {ca : Ca} {E : XK} {lv n k i : Nat} {tg e : Expr} {ma : ME} {fld : Str} {p fi : Addr}
theorem simi_it (cf : CF X E lv) (h1 : SlX.SCls X.K (ca k)) (h2 : SlX.Slot1 X.K (ca k) fld p i) (mi : Meth X.K (ca k) "__iter__" fi) (FI : FnI X.prog X.w X.K X.mg X.base n fi fld) (he : SimE X (wd X ca E) e ma) (hl : n ≤ lv := by decide) : SimI X (wd X ca E) tg e (miIt k i ma) := by
  refine ⟨fun pins s σ H Rr I ⟨ro, μ, l, h, A, p⟩ => ?_⟩
  refine thn (he.run pins s σ H _ I ⟨ro, μ, l, h, A, bindP (dV _) A p⟩) fun u s1 ⟨v, H1, I1, rv, μ1, x, h1', A1, d1, st1, q⟩ => ?_
  cases e1 : insOf h1' x with
  | none => rw [e1] at q; exact False.elim q
  | some z =>
    obtain ⟨c', fs⟩ := z
    rw [e1] at q
    dsimp only at q
    cases e2 : Nat.beq c' k with
    | false => rw [e2] at q; exact False.elim q
    | true =>
      rw [e2] at q
      dsimp only at q
      have ec := beq_tt e2
      subst ec
      obtain ⟨nn, a, dx, vs, rfl, hn, rfl, hg, hsl, hS, hX, hf⟩ := ins_slt A1.R d1 e1
      obtain ⟨j, e3⟩ : ∃ j, fs[i]? = some (some (.obj j)) := by
        cases e3 : fs[i]? with
        | none => rw [e3] at q; exact False.elim q
        | some y =>
          cases y with
          | none => rw [e3] at q; exact False.elim q
          | some y => cases y with
            | obj j => exact ⟨j, rfl⟩
            | _ => rw [e3] at q; exact False.elim q
      rw [e3] at q
      dsimp only at q
      cases e4 : hasL h1' j with
      | false => rw [e4] at q; exact False.elim q
      | true =>
        rw [e4] at q
        dsimp only at q
        obtain ⟨ys, hj⟩ := hasL_of e4
        obtain ⟨u1, k1, d3⟩ := hf i _ e3
        cases d3 with
        | @obj _ ll hjl =>
          obtain ⟨o, ho, r1⟩ := A1.R.there hjl
          rw [hj] at ho
          cases ho
          obtain ⟨_, zs, hll, _⟩ := r1
          obtain rfl : u = Value.ref a := rv
          obtain ⟨sl, od, _, J, _⟩ := SlX.slt_inst I1 hsl
          obtain ⟨m0, hF⟩ := I1.fr
          have fin : Rr (Itl X.K ll) H1 := q μ1 _ H1 Step.refl A1.R (SrcR.ob (W := wd X ca E) hjl)
          refine PySem.W.owit_iter hF I1.ok.mod.kin J mi.at_ mi.fn (wpAny_call (codeAny_mono (FI.run X.A X.stack s1 H1 a (ca c') dx _ vs i ll zs (cf.room.mono hl) I1.env0 hsl h1 h2 k1 hll) fun r s3 hq => ?_))
          cases r with
          | error e =>
            obtain ⟨_, _, _, _, _, _, _, _, _, _, _, _, z⟩ := hq
            exact z.elim
          | ok fl =>
            cases fl with
            | next => exact False.elim hq
            | brk => exact False.elim hq
            | cont => exact False.elim hq
            | ret z =>
              obtain ⟨w', H3, I3, rw3, it, ew, hit, hle, eH⟩ := I1.after hq
              subst ew
              subst eH
              obtain rfl : z = Value.ref it := rw3
              have hit0 : upd H1 it (ItO ll it 0) it = some (ItO ll it 0) := upd_same
              have gi := itO_get I3 hit0
              show PySem.W.OwitIt _ _ _ _ (.ref it) s3
              unfold PySem.W.OwitIt
              refine wpAny_specialOf ⟨_, gi, rfl⟩ slot_listiter_next.lookup ?_
              have I4 := ItX.inv_drop I3 hit0
              have ed : ItX.dropH (upd H1 it (ItO ll it 0)) it = H1 := ItX.dropH_upd hit
              have fp : FpOk X pins (ItX.dropH (upd H1 it (ItO ll it 0)) it) it := ItX.inv_fp I3 hit0 (Nat.le_trans I1.sz hle)
              rw [ed] at I4 fp
              exact ⟨it, [it], _, Itl X.K ll, H1, rfl, I4, turn_list ll it, ⟨_, gi, rfl, rfl⟩, fun b hb => by rw [List.mem_singleton.mp hb]; exact fp, fin⟩
end
end Ev
set_option Elab.async false
set_option linter.all false
set_option maxRecDepth 100000
set_option maxHeartbeats 1000000
/-! next((x for x in iter if test), None): the generator's frame -/
namespace Ev
open PySem PySem.Spec PyProof.Rows L2
/-- one own name x beside the walked thing; captured names, globals -/
structure GxS (sc scope : Scope) (x : Str) : Prop where
  kind : scope.kind = .function
  co : scope.isCoroutine = false
  dot : scope.names.lookup (".0" : Str) = some NameKind.local
  loc : scope.names.lookup x = some .local
  own : ∀ y ∈ scope.names, (y.2 = .local → y.1 = x ∨ y.1 = (".0" : Str)) ∧ y.2 ≠ .cell
  free : ∀ y ∈ scope.names, y.2 = .free → sc.names.lookup y.1 = some .cell ∨ sc.names.lookup y.1 = some .free
def gxSB (sc scope : Scope) (x : Str) : Bool := decide (scope.kind = .function) && (!scope.isCoroutine && (decide (scope.names.lookup (".0" : Str) = some NameKind.local) && (decide (scope.names.lookup x = some .local) &&
  scope.names.all fun y => (!decide (y.2 = .local) || (decide (y.1 = x) || decide (y.1 = (".0" : Str)))) && (!decide (y.2 = .cell) && (!decide (y.2 = .free) || (decide (sc.names.lookup y.1 = some .cell) || decide (sc.names.lookup y.1 = some .free)))))))
theorem gxS_by {sc scope : Scope} {x : Str} (h : gxSB sc scope x = true) : GxS sc scope x := by
  unfold gxSB at h
  simp only [Bool.and_eq_true, Bool.or_eq_true, Bool.not_eq_true', decide_eq_true_eq, decide_eq_false_iff_not, List.all_eq_true] at h
  obtain ⟨h1, h2, h3, h4, h5⟩ := h
  refine ⟨h1, h2, h3, h4, fun y hy => ⟨fun e => ?_, (h5 y hy).2.1⟩, fun y hy e => ?_⟩
  · rcases (h5 y hy).1 with z | z
    · exact absurd e z
    · exact z
  · rcases (h5 y hy).2.2 with z | z
    · exact absurd e z
    · exact z
abbrev gxEnv (X : Cx) (scope : Scope) (C : Addr) (code : Value) : Env := genEnv scope (cloFrom X.env.cells scope.names []) C code builtinsNs X.env
/-- the context of the generator's frame -/
def gxC (X : Cx) (A : Around) (s : Shared) (H : Hp) (fp : List Addr) (scope : Scope) (C : Addr) (code : Value) (x : Str) : Cx where
  prog := X.prog
  w := X.w
  K := X.K
  mg := X.mg
  base := X.base
  A := A.deeper (gxEnv X scope C code)
  N := X.N ++ [x]
  s_0 := s
  H_0 := H
  env := gxEnv X scope C code
  outer := X.stack
  stack := gxEnv X scope C code :: X.stack
  ex := fp
  fn := fun _ => false
  calm := true
  pn := []
  xe := fun _ _ => False
section
variable {X : Cx} {pins : List (Addr × Obj)} {σ : L2.St} {H : Hp} {s : Shared}
theorem GxS.has {scope : Scope} {b : Str} (L : GxS X.env.scope scope b) (ok : X.Ok) : ∀ y ∈ scope.names, y.2 = .free → ∃ c, X.env.cells.lookup y.1 = some c := fun y hy e =>
  (L.free y hy e).elim (fun k => ok.has _ (.inl k)) fun k => ok.has _ (.inr k)
theorem gx_in {A : Around} {fp : List Addr} {scope : Scope} {code : Value} {x : Str} {h₁ : Heap} {g₁ : Array GenState} {tk : Nat} {it : Value} (I : Inv X pins σ H s) (L : GxS X.env.scope scope x) (nb : x ∉ X.N) (nd : (".0" : Str) ∉ X.N) (e0 : Env0 X.prog X.w X.K X.mg X.base A X.stack s H) (hd : A.handled = none)
    (hf : ∀ b ∈ fp, FpOk X pins H b) (hl : ∀ b ∈ fp, b < s.heap.objs.size) (hns : h₁.Ns s.heap.objs.size fun y => if y = (".0" : Str) then some it else none) (kp : ∀ b o, s.heap.get? b = some o → h₁.get? b = some o) (hg : AllBare g₁) :
    Inv (gxC X A s H fp scope s.heap.objs.size code x) [] (σ ++ [none]) H { s with heap := h₁, gens := g₁, toks := tk } := by
  have fr := L.has I.ok
  have back : ∀ {y c}, (cloFrom X.env.cells scope.names []).lookup y = some c → X.env.cells.lookup y = some c := fun {y c} e => by
    rcases cloFrom_mem (PySem.mem_of_lookup e) with q | ⟨q1, q2⟩
    · cases q
    · obtain ⟨c1, hc⟩ := fr _ q1 rfl
      have hc : X.env.cells.lookup y = some c1 := hc
      have z : c = c1 := by
        rw [q2, hc] <;> rfl
      rw [z]
      exact hc
  have there : ∀ {y}, scope.names.lookup y = some .free → ∃ c, (cloFrom X.env.cells scope.names []).lookup y = some c := fun {y} q => mem_lookup (cloFrom_has (cells := X.env.cells) (acc := []) (show (y, NameKind.free) ∈ scope.names from PySem.mem_of_lookup q))
  have cellK : ∀ {c : Addr} {z : Option Value}, s.heap.IsCell c z → h₁.IsCell c z := fun {c z} ⟨o, ho, hd⟩ => ⟨o, kp _ _ ho, hd⟩
  have len := I.len
  have ncell : ∀ {y c}, (cloFrom X.env.cells scope.names []).lookup y = some c → ∀ b ∈ fp, c ≠ b := fun {y c} e b hb => (hf b hb).2.2.2.2.1 y c (back e)
  refine ⟨⟨e0.mod, L.kind, I.ok.glob, rfl, Nat.le_refl _, fun y z c e1 e2 => I.ok.inj y z c (back e1) (back e2), fun y hy => ?_, fun y c z _ => ?_, fun _ => hd, Around.frames_deeper e0.frames, .inr ⟨rfl, rfl⟩, fun a ha => ⟨?_, fun y c e => ncell e a ha⟩, e0.bs, e0.bsz, fun b o eb hb => ?_,
      fun a ha hm => ?_, e0.funs, e0.frf⟩,
    rfl, hg, Un.kept kp, ⟨_, hns, fun i y w e1 e2 e3 => ?_⟩, fun y c e => ?_, e0.hok.fresh (Nat.le_refl _), fun y c e => ?_, fun q hq => absurd (show q ∈ ([] : List (Addr × Obj)) ++ [] from hq) (by simp), e0.hok.kept kp, ?_⟩
  · have hy : scope.names.lookup y = some .cell ∨ scope.names.lookup y = some .free := hy
    rcases hy with hy | hy
    · exact absurd rfl (L.own _ (PySem.mem_of_lookup hy)).2
    · exact there hy
  · have z : false = true := z
    cases z
  · exact Nat.ne_of_lt (hl a ha)
  · have hb : b ∈ fp := hb
    rcases (hf b hb).2.2.2.1 with z | z
    · exact I.ok.noex b o eb z
    · exact absurd (Nat.lt_of_lt_of_le (Heap.lt_size eb) (Nat.le_trans I.ok.bsz z)) (Nat.lt_irrefl _)
  · have hm : a ∈ frs X.stack := hm
    obtain ⟨_, f1, f2, _⟩ := hf a ha
    rcases List.mem_cons.mp (I.stkSub a hm) with z | z
    · exact f1 z
    · exact f2 z
  · have e3 : Vis scope y := e3
    have e1 : (X.N ++ [x])[i]? = some y := e1
    by_cases hi : i < X.N.length
    · rw [List.getElem?_append_left hi] at e1
      rw [List.getElem?_append_left (by omega)] at e2
      have ny : y ≠ x := fun z => nb (by rw [← z]; exact List.mem_of_getElem? e1)
      have ny2 : y ≠ (".0" : Str) := fun z => nd (by rw [← z]; exact List.mem_of_getElem? e1)
      rcases e3 with k | k | k
      · rcases (L.own _ (PySem.mem_of_lookup k)).1 rfl with z | z
        · exact absurd z ny
        · exact absurd z ny2
      · exact absurd rfl (L.own _ (PySem.mem_of_lookup k)).2
      · obtain ⟨m, hn, hl⟩ := I.loc
        have hv : Vis X.env.scope y := (L.free _ (PySem.mem_of_lookup k) rfl).elim (fun k => .inr (.inl k)) (fun k => .inr (.inr k))
        obtain ⟨w', r, q⟩ := hl i y w e1 e2 hv
        obtain ⟨c2, h2⟩ := there k
        refine ⟨w', r, .inr ⟨.inr k, c2, h2, ?_⟩⟩
        have c1 := back h2
        rcases q with ⟨k', _⟩ | ⟨_, c3, e', z⟩
        · have k' : X.env.scope.names.lookup y = some .local := k'
          rcases L.free _ (PySem.mem_of_lookup k) rfl with k2 | k2
          · rw [show X.env.scope.names.lookup y = _ from k2] at k'; cases k'
          · rw [show X.env.scope.names.lookup y = _ from k2] at k'; cases k'
        · rw [c1] at e'
          cases e'
          exact cellK z
    · have hi' : i = X.N.length := by
        have := (List.getElem?_eq_some_iff.mp e1).1
        simp at this
        omega
      subst hi'
      rw [← len, List.getElem?_append_right (Nat.le_refl _), Nat.sub_self] at e2
      cases Option.some.inj e2
  · obtain ⟨w', z⟩ := I.cell y c (back e)
    exact ⟨w', cellK z⟩
  · exact I.freeC y c (back e)
  · show (σ ++ [none]).length = (X.N ++ [x]).length
    simp [len]
end
/-- a loop's code of a generator expression is a frame of its own -/
theorem over_gx {A : Around} {elt : Expr} {gs : List Comprehension} {scope : Scope} {pos : Pos} {it acc : Value} {env : Env} : A.over (.compLoop (.GeneratorExp elt gs scope pos) 0 it acc env) [] = A.deeper env := by
  first
    | rfl
    | (obtain ⟨hd, d, fr, gs, u⟩ := A; simp [Around.over, Around.deeper, marksOver, frameCount, unitsOf, envsOf, guardsOf, pushEnvs, pushGuards, Code.envs, Code.env?, Code.isFrame, Code.guards, Code.isGuard, Code.weight, Code.frames, Code.isCreation, Code.isCaller, Code.cUnits])
theorem over_gxs {A : Around} {elt : Expr} {gs : List Comprehension} {scope : Scope} {pos : Pos} {it acc : Value} {env : Env} : A.over (.compStart (.GeneratorExp elt gs scope pos) 0 it acc env) [] = A.deeper env := by
  first
    | rfl
    | (obtain ⟨hd, d, fr, gs, u⟩ := A; simp [Around.over, Around.deeper, marksOver, frameCount, unitsOf, envsOf, guardsOf, pushEnvs, pushGuards, Code.envs, Code.env?, Code.isFrame, Code.guards, Code.isGuard, Code.weight, Code.frames, Code.isCreation, Code.isCaller, Code.cUnits])
end Ev
set_option Elab.async false
set_option linter.all false
set_option maxRecDepth 100000
set_option maxHeartbeats 1000000
/-! next((x for x in iter if test), None): the generator's run -/
namespace Ev
open PySem PySem.Spec PyProof.Rows L2
/-- what the generator's turn leaves -/
def GxEnd (P : Program) (w : World) (ou : List Env) (fp : List Addr) (H : Hp) (s0 : Shared) (Q : VK) (u : Value) (s' : Shared) : Prop :=
  ∃ v H', s'.os = s0.os ∧ AllBare s'.gens ∧ Un (frs ou) fp H H' s0.heap s'.heap ∧ HOk P w H' s'.heap ∧ RelV v u ∧ Q v H'
theorem wpAny_test1 {M : Model} {A : Around} {E : Value → Shared → Prop} {s : Shared} {test : Expr} {env : Env} {Q : Bool → Shared → Prop} (h : wpAny M A (isTrue test env (eval test env)) Q E s) :
    wpAny M A (forIn [test] true fun c r => if r = true then do let ok ← isTrue c env (eval c env); pure (ForInStep.yield ok) else pure (ForInStep.yield r)) Q E s := by
  rw [List.forIn_cons]
  simp only [if_true]
  refine wpAny_bind (wpAny_bind (wpAny_mono h (fun b s' q => wpAny_pure ?_) fun _ _ z => z))
  simp only [List.forIn_nil]
  exact wpAny_pure q
section
variable {X : Cx} {A : Around} {s0 : Shared} {H0 : Hp} {fp : List Addr} {scope : Scope} {C : Addr} {code : Value} {x : Str} {tt : TT} {J : L2.It} {it : Addr} {tn : Nat → Heap → Prop} {Q : VK} {px px2 pos : Pos} {test iter : Expr} {σ : L2.St}
abbrev GxR (X : Cx) (fp : List Addr) (H0 : Hp) (s0 : Shared) (Q : VK) : GenEnd := fun _ _ r s₁ => r = .ok .next ∧ GxEnd X.prog X.w X.stack fp H0 s0 Q .none s₁
abbrev GxY (X : Cx) (fp : List Addr) (H0 : Hp) (s0 : Shared) (Q : VK) : Protocol := fun _ _ v s₁ _ => GxEnd X.prog X.w X.stack fp H0 s0 Q v s₁
theorem seg_gx (hco : scope.isCoroutine = false) (nd : (X.N ++ [x]).Nodup) (hloc : scope.names.lookup x = some .local) (T : Turn X.prog X.w X.K (.Name x px) J fp it tn)
    (ht : PT (gxC X A s0 H0 fp scope C code x) test tt) (len : σ.length = X.N.length) (W : Nat → Nat → Hp → Prop)
    (step : ∀ i m H1, W i m H1 → (J.stop i H1 ∧ Q .non H1) ∨ (J.go i H1 ∧ ∀ v H2, J.yld i H1 v H2 → tt (σ ++ [some v]) H2 fun b H3 => if b = true then Q v H3 else ∃ m', m' < m ∧ W (i + 1) m' H3))
    (hd : (x == ("__debug__" : Str)) = false) (hcd : (x == ("__classdict__" : Str)) = false) :
    ∀ (m i : Nat) (o : Option V) (H1 : Hp) (s₀ s : Shared), W i m H1 → Inv (gxC X A s0 H0 fp scope C code x) [] (σ ++ [o]) H1 s → tn i s.heap → (∀ b ∈ fp, H1 b = none) →
      Seg (model X.prog X.w) A (GxR X fp H0 s0 Q) (GxY X fp H0 s0 Q) 1 s₀ (.compLoop (.GeneratorExp (.Name x px2) [⟨.Name x px, iter, [test], 0⟩] scope pos) 0 (.ref it) .none (gxEnv X scope C code))
        ((model X.prog X.w).den (.compLoop (.GeneratorExp (.Name x px2) [⟨.Name x px, iter, [test], 0⟩] scope pos) 0 (.ref it) .none (gxEnv X scope C code))) [] s := by
  have hN : (gxC X A s0 H0 fp scope C code x).N[X.N.length]? = some x := by
    show (X.N ++ [x])[X.N.length]? = some x
    rw [List.getElem?_append_right (Nat.le_refl _), Nat.sub_self]
    rfl
  have setl : ∀ (o : Option V) (v : V), (σ ++ [o]).set X.N.length (some v) = σ ++ [some v] := fun o v => by
    rw [← len, List.set_append_right _ _ (Nat.le_refl _), Nat.sub_self]
    rfl
  have getl : ∀ v : V, (σ ++ [some v])[X.N.length]? = some (some v) := fun v => by
    rw [← len, List.getElem?_append_right (Nat.le_refl _), Nat.sub_self]
    rfl
  have fpok : ∀ {pl : List (Addr × Obj)} {σ' : L2.St} {H' : Hp} {s' : Shared}, Inv (gxC X A s0 H0 fp scope C code x) pl σ' H' s' → (∀ b ∈ fp, H' b = none) → ∀ b ∈ fp, FpOk (gxC X A s0 H0 fp scope C code x) [] H' b := fun I h b hb =>
    ⟨h b hb, (I.ok.exf b hb).1, I.ok.exfs b hb, .inl hb, (I.ok.exf b hb).2, fun p hp => absurd (show p ∈ ([] : List (Addr × Obj)) ++ [] from hp) (by simp)⟩
  intro m
  induction m using Nat.strongRecOn with
  | ind m ih =>
    intro i o H1 s₀ s w I st fr
    show Seg _ A _ _ _ s₀ _ ((compTurn (.GeneratorExp (.Name x px2) [⟨.Name x px, iter, [test], 0⟩] scope pos) 0 (.ref it) .none (gxEnv X scope C code)).onRaise (leaving (gxEnv X scope C code))) [] s
    rw [compTurn_gen, Sem.onRaise_eq_wrap]
    refine seg_bind_wrap (wpAny_standAt ?_)
    refine seg_bind_wrap ?_
    rw [over_gx]
    rcases step i m H1 w with ⟨sp, q⟩ | ⟨go, nxt⟩
    · refine thn (T.done (gxC X A s0 H0 fp scope C code x) rfl rfl rfl rfl i [] s _ H1 _ I (fpok I fr) st sp) fun r s1 ⟨hr, I1⟩ => ?_
      subst hr
      exact seg_end (.ok .next) ⟨rfl, .non, H1, I1.os, I1.bare, I1.base, I1.hok, rfl, q⟩
    · refine thn (T.item (gxC X A s0 H0 fp scope C code x) rfl rfl rfl rfl i [] s _ H1 _ I (fpok I fr) st go) fun r s1 ⟨u, hr, h4⟩ => ?_
      subst hr
      refine seg_bind_wrap ?_
      rw [over_gx]
      refine thn h4 fun _ s2 ⟨v, H2, I2, r2, y2, st2, fr2⟩ => ?_
      refine seg_bind_wrap ?_
      rw [over_gx]
      have I2' := I2.pinned (fpok I2 fr2) (T.obj _ _ st2)
      refine wpAny_mono ((pg_name (pos := px) (X := gxC X A s0 H0 fp scope C code x) (i := X.N.length) nd hN (.inl hloc) (.inr hloc)).run _ s2 _ H2 v u (fun σ' H' => σ' = σ ++ [some v] ∧ H' = H2) I2' r2 ⟨setl o v, rfl⟩) (fun _ s3 h3 => ?_) fun _ _ z => False.elim z
      obtain ⟨σ3, H3, I3, e3, eH⟩ := h3
      subst e3
      rw [eH] at I3
      refine seg_bind_wrap ?_
      rw [over_gx]
      refine wpAny_test1 (wpAny_mono (ht.run _ s3 _ H2 _ I3 (nxt v H2 y2)) (fun ok s4 h4 => ?_) fun _ _ z => False.elim z)
      obtain ⟨H4, I4, q4⟩ := h4
      cases ok with
      | false =>
        obtain ⟨m', lt, w'⟩ := q4
        simp only [Bool.false_eq_true, if_false]
        refine seg_again rfl (ih m' lt (i + 1) (some v) H4 s₀ s4 w' I4.unpinned (T.keep _ _ _ st2 fun b hb o e => (I4.pin (b, o) (List.mem_append_right _ (List.mem_append_right _ (mem_pinsAt hb e)))).1) fun b hb => ?_)
        obtain ⟨o', e', d'⟩ := T.obj _ _ st2 b hb
        exact (I4.pin (b, o') (List.mem_append_right _ (List.mem_append_right _ (mem_pinsAt hb e')))).2.1
      | true =>
        have q4 : Q v H4 := q4
        simp only [if_true]
        have hy : ∀ v, yieldOut (gxEnv X scope C code) v = yieldValue v := fun v => by simp only [yieldOut, genEnv, hco, Bool.false_eq_true, if_false]
        simp only [hy]
        rw [Sem.bind_eq_wrap', Sem.bind_eq_wrap', Sem.wrap_wrap, Sem.wrap_wrap]
        refine seg_wrap ?_
        rw [over_gx]
        refine wpAny_mono ((pe_var (pos := px2) (X := gxC X A s0 H0 fp scope C code x) (i := X.N.length) hN (.inl hloc) hd hcd).run _ s4 _ H4 (fun w' H' => w' = v ∧ H' = H4) I4 ⟨v, getl v, rfl, rfl⟩) (fun y s5 h5 => ?_) fun _ _ z => False.elim z
        obtain ⟨w', H5, I5, r5, e5, eH5⟩ := h5
        subst e5
        rw [eH5] at I5
        exact seg_at (seg_yield rfl rfl rfl ⟨w', H4, I5.os, I5.bare, I5.base, I5.hok, r5, q4⟩)
theorem seg_gx0 (hco : scope.isCoroutine = false) (nd : (X.N ++ [x]).Nodup) (hloc : scope.names.lookup x = some .local) (T : Turn X.prog X.w X.K (.Name x px) J fp it tn)
    (ht : PT (gxC X A s0 H0 fp scope C code x) test tt) (len : σ.length = X.N.length) (W : Nat → Nat → Hp → Prop)
    (step : ∀ i m H1, W i m H1 → (J.stop i H1 ∧ Q .non H1) ∨ (J.go i H1 ∧ ∀ v H2, J.yld i H1 v H2 → tt (σ ++ [some v]) H2 fun b H3 => if b = true then Q v H3 else ∃ m', m' < m ∧ W (i + 1) m' H3))
    (hd : (x == ("__debug__" : Str)) = false) (hcd : (x == ("__classdict__" : Str)) = false)
    (m : Nat) (o : Option V) (H1 : Hp) (s₀ s : Shared) (w : W 0 m H1) (I : Inv (gxC X A s0 H0 fp scope C code x) [] (σ ++ [o]) H1 s) (st : tn 0 s.heap) (fr : ∀ b ∈ fp, H1 b = none) :
      Seg (model X.prog X.w) A (GxR X fp H0 s0 Q) (GxY X fp H0 s0 Q) 1 s₀ (.compStart (.GeneratorExp (.Name x px2) [⟨.Name x px, iter, [test], 0⟩] scope pos) 0 (.ref it) .none (gxEnv X scope C code))
        ((model X.prog X.w).den (.compStart (.GeneratorExp (.Name x px2) [⟨.Name x px, iter, [test], 0⟩] scope pos) 0 (.ref it) .none (gxEnv X scope C code))) [] s := by
  have loop := seg_gx (pos := pos) (px2 := px2) (iter := iter) hco nd hloc T ht len W step hd hcd m 0 o H1 s₀ s w I st fr
  show Seg _ A _ _ _ s₀ _ ((compStart (.GeneratorExp (.Name x px2) [⟨.Name x px, iter, [test], 0⟩] scope pos) 0 (.ref it) .none (gxEnv X scope C code)).onRaise (leaving (gxEnv X scope C code))) [] s
  unfold compStart
  rw [Sem.onRaise_eq_wrap]
  show Seg _ A _ _ _ s₀ _ ((ask >>= _).wrap _ _ _ _) [] s
  refine seg_bind_wrap (wpAny_askSetting ?_)
  split
  · exact seg_again rfl loop
  · refine seg_bind_wrap (wpAny_rule ?_)
    show Seg _ A _ _ _ s₀ _ ((standAt iter.pos >>= _).wrap _ _ _ _) [] s
    exact seg_bind_wrap (wpAny_standAt (seg_bind_wrap (T.self _ 0 s _ _ st (seg_again rfl loop))))
end
end Ev
set_option Elab.async false
set_option linter.all false
set_option maxRecDepth 100000
set_option maxHeartbeats 1000000
/-! next((x for x in iter if test), None): the expression -/
namespace Ev
open PySem PySem.Spec PyProof.Rows L2
def tNextG (T : List (Addr × Str)) (wi : TI) (tt : TT) : TE := fun σ H Q => wi σ H fun J H0 => LamX.Tabs T H0 ∧ ∀ H1, LamX.ExtN H0 H1 → LamX.Tabs T H1 → (∀ b o, H0 b = some o → ∃ o', H1 b = some o') →
  ∃ W : Nat → Nat → Hp → Prop, (∃ m, W 0 m H1) ∧ ∀ i m H2, W i m H2 → (J.stop i H2 ∧ Q .non H2) ∨ (J.go i H2 ∧ ∀ v H3, J.yld i H2 v H3 → tt (σ ++ [some v]) H3 fun b H4 => if b = true then Q v H4 else ∃ m', m' < m ∧ W (i + 1) m' H4)
section
variable {prog : Program} {w : World} {A : Around} {E : Value → Shared → Prop} {s : Shared}
theorem call_next2 {a : Addr} {g : Nat} {Q : Value → Shared → Prop} (hg : s.heap.IsGen a g) (h : wpAny (model prog w) A.in1 (pyNext (.ref a)) (fun r s' => Q (r.getD .none) s') E s) : wpAny (model prog w) A (call (.builtin "next") [.ref a, .none]) Q E s := by
  refine Calls.call_function_entry (by decide +kernel) (by decide +kernel) PySem.W.kdk_entry_next (PySem.W.kdk_args_next2 _ _) ?_
  unfold Builtin.«next»
  refine wpAny_bind (m := someArgs "next" 1 2 _) (wpAny_of_eq (a := [Value.ref a, .none]) (by first | rfl | kernel_rfl!) ?_)
  dsimp only
  refine wpAny_bind (wpAny_specialOf (name := Str.ofString "__next__") hg.typeIs slot_gen_next.lookup ?_)
  refine wpAny_ite_split (fun hab => absurd hab (by decide)) (fun _ => ?_)
  exact wpAny_bind (wpAny_mono h (fun r s' q => wpAny_pure ⟨_, rfl, q⟩) fun _ _ z => z)
end
section
variable {X : Cx}
theorem pe_nextG {T : List (Addr × Str)} {c P : Addr} {x : Str} {px px2 p p2 pos gpos : Pos} {kk : Nat} {test iter : Expr} {scope : Scope} {wi : TI} {tt : TT} {k : Nat}
    (hr : Room (k + 2) X.A) (hg : Gl X "next") (hm : X.mg "next" = none) (TB : LamX.TabB X.base X.mg c P) (hcode : X.env.code = .ref c) (hmT : (P, X.env.qual ++ "<genexpr>") ∈ T) (hu : ∀ q ∈ T, q.1 = P → q.2 = X.env.qual ++ "<genexpr>")
    (L : GxS X.env.scope scope x) (nd : (X.N ++ [x]).Nodup) (n0 : (".0" : Str) ∉ X.N) (hi : PI X (.Name x px) iter wi)
    (ht : ∀ (A : Around) (s : Shared) (H : Hp) (fp : List Addr) (C : Addr) (code : Value), Room k (A.deeper (gxEnv X scope C code)) → PT (gxC X A s H fp scope C code x) test tt)
    (hs : ∀ v, genFold iter X.env v = pure v) (hd : (x == ("__debug__" : Str)) = false) (hcd : (x == ("__classdict__" : Str)) = false)
    (he : starEach [.GeneratorExp (.Name x px2) [⟨.Name x px, iter, [test], 0⟩] scope gpos, .Constant .none kk p2] X.env = (false, eval (.GeneratorExp (.Name x px2) [⟨.Name x px, iter, [test], 0⟩] scope gpos) X.env) :: starEach [.Constant .none kk p2] X.env := by rfl) :
    PE X (.Call (.Name "next" p) [.GeneratorExp (.Name x px2) [⟨.Name x px, iter, [test], 0⟩] scope gpos, .Constant .none kk p2] [] pos) (tNextG T wi tt) := by
  refine ⟨fun pins s σ H Q I h => ?_⟩
  refine wpAny_Call_Name_kw (ld_blt (u := .builtin "next") I hg hm (by first | rfl | decide +kernel) ?_ (by decide) (by decide))
  refine PyProof.Rows.callWith_builtin1 ?_ he (by rfl)
  rw [he]
  show wpAny _ _ (spliced ((false, eval (.GeneratorExp (.Name x px2) [⟨.Name x px, iter, [test], 0⟩] scope gpos) X.env) :: backTo pos (starEach [.Constant .none kk p2] X.env))) _ _ s
  refine Calls.spliced_cons ?_
  refine wpAny_GeneratorExp_make L.co (closure_ok (L.has I.ok)) (fun y hy => (L.own y hy).2) L.dot L.kind (by have := hr.dp; omega) ?_ hs
  refine thn (hi.run pins s σ H _ I h) fun v s1 h1 => thn h1 fun itv s2 h2 => ?_
  obtain ⟨it, fp, tn, J, H2, rfl, I2, T', st2, f2, hT, go⟩ := h2
  refine ⟨I2.nolimit, ?_⟩
  obtain ⟨ps, hP, htr, ha⟩ := hT _ hmT
  have hP' : s2.heap.get? P = some { cls := .none, data := .fields ps } := I2.hok P _ hP
  have cont : ∀ (cv : Value) (H3 : Hp) (h3 : Heap) (t3 : Nat), Inv X pins σ H3 { s2 with heap := h3, toks := t3 } → LamX.ExtN H2 H3 → LamX.Tabs T H3 → (∀ b o, H2 b = some o → ∃ o', H3 b = some o') → (∀ b ∈ fp, H3 b = none) → (∀ b o, b ≠ P → s2.heap.get? b = some o → h3.get? b = some o) → s2.heap.objs.size ≤ h3.objs.size →
      wpAny (model X.prog X.w) X.A (builtinsFor X.env.globals X.env.builtins) (fun bi s₄ =>
        ∀ h', h'.Ns s₄.heap.objs.size (fun y => if y = (".0" : Str) then some (.ref it) else none) → Heap.SameBut s₄.heap.objs.size (s₄.heap.push { cls := .type "frame", data := .dict #[] }) h' →
          (fun v s₁ => wpAny (model X.prog X.w) X.A (spliced (backTo pos (starEach [.Constant .none kk p2] X.env))) (fun vs s₂ => wpAny (model X.prog X.w) X.A (call (.builtin "next") (v :: vs)) (EP X pins σ Q) X.xe s₂) X.xe s₁) (.ref h'.objs.size) { s₄ with
            gens := s₄.gens.push (.fresh (.compStart (.GeneratorExp (.Name x px2) [⟨.Name x px, iter, [test], 0⟩] scope gpos) 0 (.ref it) .none (genEnv scope (cloFrom X.env.cells scope.names []) s₄.heap.objs.size cv bi X.env))),
            toks := s₄.toks + 1 + 1 + 1,
            heap := h'.push { cls := .type "generator", data := .fields #[.int s₄.gens.size 0, .str "<genexpr>" (s₄.toks + 1), .str (X.env.qual ++ "<genexpr>") (s₄.toks + 1 + 1)] } }) X.xe { s2 with heap := h3, toks := t3 } := by
    intro cv H3 h3 t3 I3 eN hT3 ex3 fr3 hk hsz
    obtain ⟨bm, ob, e1, e2, e3, e4, e5, e6, e7, e8⟩ := TB.bm
    refine wpAny_builtinsFor (m := X.mg) (by rw [I2.ok.glob]; exact I3.mod.glob.keeps I3.bk) e1 e2 (I3.bk _ _ e5) e6 e7 e8 ?_
    intro h' hn' hs'
    have nP : ∀ b ∈ fp, b ≠ P := fun b hb z => by
      have := (f2 b hb).1
      rw [z, hP] at this
      cases this
    have f3 : ∀ b ∈ fp, FpOk X pins H3 b := fun b hb => ⟨fr3 b hb, (f2 b hb).2⟩
    have st3 : tn 0 h3 := T'.keep _ _ _ st2 fun b hb o e => hk b o (nP b hb) e
    have lf : ∀ b ∈ fp, b < h3.objs.size := fun b hb => by
      obtain ⟨o, e, _⟩ := T'.obj _ _ st3 b hb
      exact Heap.lt_size e
    have keep' : ∀ b o, h3.get? b = some o → h'.get? b = some o := fun b o e => hs'.extBut b o (Nat.ne_of_lt (Heap.lt_size e)) (Heap.get?_push_of_some _ e)
    have keep5 : ∀ b o, h3.get? b = some o → (h'.push { cls := .type "generator", data := .fields #[.int s2.gens.size 0, .str "<genexpr>" (t3 + 1), .str (X.env.qual ++ "<genexpr>") (t3 + 1 + 1)] }).get? b = some o := fun b o e => Heap.get?_push_of_some _ (keep' b o e)
    show wpAny _ _ (spliced ((false, eval (.Constant .none kk p2) X.env) :: backTo pos (starEach [] X.env))) _ _ _
    refine Calls.spliced_cons (PyProof.Rows.Constant_none (Calls.spliced_nil ?_))
    have hgen : (h'.push { cls := .type "generator", data := .fields #[.int s2.gens.size 0, .str "<genexpr>" (t3 + 1), .str (X.env.qual ++ "<genexpr>") (t3 + 1 + 1)] }).IsGen h'.objs.size s2.gens.size := ⟨_, _, _, Heap.get?_push_size _ rfl, rfl, rfl, rfl⟩
    refine call_next2 (s := { s2 with gens := _, toks := _, heap := _ }) hgen ?_
    obtain ⟨W, ⟨m0, w0⟩, step⟩ := go H3 eN hT3 ex3
    have hrA : Room k (X.A.in1.in1.deeper (gxEnv X scope h3.objs.size cv)) := ⟨hr.hd, by have := hr.dp; show X.A.depth + 1 + 3 * k + 5 < _; omega, by have := hr.un; show X.A.units + 1 + 1 + 3 + 16 * k + 200 < _; omega⟩
    have bareP : AllBare (s2.gens.push (.fresh (.compStart (.GeneratorExp (.Name x px2) [⟨.Name x px, iter, [test], 0⟩] scope gpos) 0 (.ref it) .none (gxEnv X scope h3.objs.size cv)))) := fun y hy => by
      rcases Array.mem_push.mp hy with z | z
      · exact I2.bare y z
      · rw [z]; rfl
    have fin : ∀ (v' : V) (H' : Hp) (u : Value) (s' : Shared), s'.os = s2.os → AllBare s'.gens → Un (frs X.stack) fp H3 H' h3 s'.heap → HOk X.prog X.w H' s'.heap → RelV v' u → Q v' H' → EP X pins σ Q u s' := fun v' H' u s' os bare un hok rv q =>
      ⟨v', H', I3.call' (ch := fp) os un hok bare fun b hb => ⟨(f3 b hb).2.2.2.1, (f3 b hb).2.1, (f3 b hb).2.2.2.2.1, (f3 b hb).2.2.2.2.2⟩, rv, q⟩
    refine wpAny_pyNext_genexpQ (gs := .fresh (.compStart (.GeneratorExp (.Name x px2) [⟨.Name x px, iter, [test], 0⟩] scope gpos) 0 (.ref it) .none (gxEnv X scope h3.objs.size cv))) (n := 1) (P := fun _ _ s₁ => GxEnd X.prog X.w X.stack fp H3 { s2 with heap := h3, toks := t3 } Q .none s₁) (Y := GxY X fp H3 { s2 with heap := h3, toks := t3 } Q)
      hr.hd (I3.nolimit.keeps keep5) (by have := hr.dp; show X.A.depth < _; omega) hgen (Array.getElem?_push_size ..) ⟨rfl, ?_⟩ (fun v' s₁ gs' hb hv => ?_) fun s₁ hp h₁ hk₁ => ?_
    · refine seg_gx0 (A := X.A.in1.in1) (s0 := { s2 with heap := h3, toks := t3 }) (H0 := H3) (σ := σ) (tt := tt) L.co nd L.loc T' (ht _ _ _ _ _ _ hrA) I3.len W step hd hcd m0 none H3 _ _ w0 ?_ ?_ fr3
      · exact gx_in (s := { s2 with heap := h3, toks := t3 }) (A := X.A.in1.in1) I3 L (fun z => (List.nodup_append.mp nd).2.2 x z x (List.mem_singleton.mpr rfl) rfl) n0 I3.env0.in1.in1 hr.hd f3 lf (hn'.push _) keep5 (allBare_setGen (s := { s2 with gens := _, toks := _, heap := _ }) bareP rfl)
      · exact T'.keep _ _ _ st3 fun b hb o e => keep5 b o e
    · obtain ⟨v2, H', os, bare, un, hok, rv, q⟩ := hv
      exact fin v2 H' v' _ os (allBare_setGen bare hb) un hok rv q
    · obtain ⟨v2, H', os, bare, un, hok, rv, q⟩ := hp
      exact fin v2 H' .none _ os (allBare_setGen (s := s₁) (x := .finished) bare rfl) (un.trans (Un.kept hk₁)) (hok.kept hk₁) rv q
  have bP : s2.heap.BuiltinsAt X.mg P := TB.bm.keeps I2.bk
  cases hc : codeAmong gpos ps.toList with
  | none =>
    refine wpAny_genexprCodeX hcode ((TB.code.keeps I2.bk).code hP' htr) ((TB.code.keeps I2.bk).tab hP') hc fun c' h' tk hx hge hlt hco hrec htb _ => ?_
    obtain ⟨c2, oc, vs, t, e2, hoc, hdt, hv⟩ := hrec
    cases e2
    have nC : H2 c' = none := I2.hok.fresh hge
    have htb' := htb.2
    have I3 := LamX.inv_table (t' := tk) (more := #[rawInt gpos.line, rawInt gpos.col, .ref c']) (h' := h') I2 hP (fun b o hb e => hx b o hb e) htb' hge ⟨oc, vs, t, hoc, hdt, hv⟩
    have hE : LamX.ExtN H2 (upd (upd H2 P (.tbl (ps ++ #[rawInt gpos.line, rawInt gpos.col, .ref c']))) c' (LamX.CodeO c' (X.env.qual ++ "<genexpr>"))) := fun b o e n => by
      rw [upd_ne (ne_of_none e nC), upd_ne (fun z => n ps (Option.some.inj (e.symm.trans (by rw [z]; exact hP))))]
      exact e
    have eL : (ps ++ #[rawInt gpos.line, rawInt gpos.col, .ref c']).toList = ps.toList ++ [rawInt gpos.line, rawInt gpos.col, .ref c'] := by simp
    refine cont (.ref c') _ h' tk I3 hE (fun q hq => ?_) (fun b o e => ?_) (fun b hb => ?_) hx (Nat.le_trans hge (Nat.le_of_lt hlt))
    · by_cases hb : q.1 = P
      · rw [hu q hq hb, hb]
        refine ⟨_, by rw [upd_ne (ne_of_none hP nC), upd_same], by rw [eL]; exact PySem.TriplesOk_snoc _ _ _ _ htr, fun p' cv hcv => ?_⟩
        rw [eL] at hcv
        rcases LamX.among_app _ htr hcv with z | z
        · obtain ⟨c0, e1, e2⟩ := ha p' cv z
          exact ⟨c0, e1, hE _ _ e2 LamX.codeO_ne⟩
        · exact ⟨c', z, upd_same⟩
      · obtain ⟨ps', a1, a2, a3⟩ := hT q hq
        refine ⟨ps', by rw [upd_ne (ne_of_none a1 nC), upd_ne hb]; exact a1, a2, fun p' cv hcv => ?_⟩
        obtain ⟨c0, e1, e2⟩ := a3 p' cv hcv
        exact ⟨c0, e1, hE _ _ e2 LamX.codeO_ne⟩
    · by_cases hb : b = c'
      · exact ⟨_, by rw [hb, upd_same]⟩
      · rw [upd_ne hb]
        by_cases hb2 : b = P
        · exact ⟨_, by rw [hb2, upd_same]⟩
        · rw [upd_ne hb2]
          exact ⟨o, e⟩
    · obtain ⟨o, e, _⟩ := T'.obj _ _ st2 b hb
      have n1 : b ≠ c' := fun z => by
        have := Heap.lt_size e
        rw [z] at this
        exact absurd (Nat.lt_of_lt_of_le this hge) (Nat.lt_irrefl _)
      have n2 : b ≠ P := fun z => by
        have := (f2 b hb).1
        rw [z, hP] at this
        cases this
      rw [upd_ne n1, upd_ne n2]
      exact (f2 b hb).1
  | some cv =>
    refine wpAny_genexprCode_hit hcode ((TB.code.keeps I2.bk).code hP' htr) hc ?_
    exact cont cv H2 s2.heap s2.toks I2 (LamX.ExtN.refl _) hT (fun b o e => ⟨o, e⟩) (fun b hb => (f2 b hb).1) (fun b o _ e => e) (Nat.le_refl _)
end
end Ev
set_option Elab.async false
set_option linter.all false
set_option maxRecDepth 100000
set_option maxHeartbeats 1000000
/-! next((x for x in iter if test), None): by the machine -/
namespace Ev
open PySem PySem.Spec PyProof.Rows L2
def nextG (mt : ME) (s : Src) (l : Loc') : Nat → Nat → AH → R AV
  | 0, _, _ => .bad
  | m + 1, i, h => match s.at h i with
    | some (some x) => (match mt (l ++ [some x]) h with
      | .ok (.bl true) h1 => .ok x h1
      | .ok (.bl false) h1 => nextG mt s l m (i + 1) h1
      | _ => .bad)
    | some none => .ok .non h
    | none => .bad
def mNextG (mi : Loc' → AH → R Src) (mt : ME) : ME := fun l h => (mi l h).bind fun s h1 => nextG mt s l turns 0 h1
section
variable {X : Cx} {ca : Ca} {E : XK} {lv : Nat}
theorem gNextG {x : Str} {px px2 p p2 pos gpos : Pos} {kk k : Nat} {test iter : Expr} {scope : Scope} {mi : Loc' → AH → R Src} {mt : ME} {cd tb : Addr} (cf : CF X E lv) (hm : X.mg "next" = none)
    (B : LamX.TabB X.base X.mg cd tb) (hcode : X.env.code = .ref cd) (hin : (tb, X.env.qual ++ "<genexpr>") ∈ ca.T) (one : ∀ q ∈ ca.T, q.1 = tb → q.2 = X.env.qual ++ "<genexpr>")
    (L : GxS X.env.scope scope x) (nd : (X.N ++ [x]).Nodup) (n0 : (".0" : Str) ∉ X.N) (hi : SimI X (wd X ca E) (.Name x px) iter mi)
    (ht : ∀ (A : Around) (s : Shared) (H : Hp) (fp : List Addr) (C : Addr) (code : Value), CF (gxC X A s H fp scope C code x) E0 k → SimT (gxC X A s H fp scope C code x) ⟨X.prog, X.w, X.K, ca, E0⟩ test mt)
    (hl : k + 2 ≤ lv := by decide) (hg : Gl X "next" := by rfl) (hs : ∀ v, genFold iter X.env v = pure v := by intro _; rfl) (hd : (x == ("__debug__" : Str)) = false := by decide) (hcd : (x == ("__classdict__" : Str)) = false := by decide)
    (he : starEach [.GeneratorExp (.Name x px2) [⟨.Name x px, iter, [test], 0⟩] scope gpos, .Constant .none kk p2] X.env = (false, eval (.GeneratorExp (.Name x px2) [⟨.Name x px, iter, [test], 0⟩] scope gpos) X.env) :: starEach [.Constant .none kk p2] X.env := by rfl) :
    SimE X (wd X ca E) (.Call (.Name "next" p) [.GeneratorExp (.Name x px2) [⟨.Name x px, iter, [test], 0⟩] scope gpos, .Constant .none kk p2] [] pos) (mNextG mi mt) :=
  PE.weaken (pe_nextG (T := ca.T) (tt := tT ⟨X.prog, X.w, X.K, ca, E0⟩ mt) (cf.room.mono hl) hg hm B hcode hin one L nd n0 hi (fun A s H fp C code hr => ht A s H fp C code ⟨rfl, hr, takesF.imp fun _ _ _ _ z => z, nd⟩) hs hd hcd he) fun σ H Q ⟨ro, μ, l, h, A, p⟩ => by
    refine ⟨ro, μ, l, h, A, (bindP (fun μ H => SrcR (wd X ca E) ro μ H) A p).imp fun J H0 ⟨μ0, s, h0, A0, sr, st0, p0⟩ => ⟨A0.R.tabs, fun H1 eN T1 kep => ?_⟩⟩
    have st1 : Step ro μ0 H0 μ0 H1 := Step.kept (fun b o no e => eN b o e no) kep
    have R1 := A0.R.still (fun b o no e => eN b o e no) kep T1
    have L1 := A0.L.step A0.R st1
    have sr1 := sr.step A0.R st1
    have p1 : postG (dV (wd X ca E)) (wd X ca E) ro μ0 H1 (nextG mt s l turns 0 h0) Q := postG.later p0 st1
    refine ⟨fun i m H' => ∃ μ' h', Step ro μ0 H1 μ' H' ∧ RelH (wd X ca E) ro μ' h' H' ∧ postG (dV (wd X ca E)) (wd X ca E) ro μ0 H1 (nextG mt s l m i h') Q, ⟨turns, μ0, h0, Step.refl, R1, p1⟩, ?_⟩
    rintro i m H2 ⟨μ2, h2, st2, R2, p2⟩
    cases m with
    | zero => exact False.elim p2
    | succ m =>
      unfold nextG at p2
      have sr2 := sr1.step R1 st2
      cases ea : s.at h2 i with
      | none => rw [ea] at p2; exact False.elim p2
      | some oo =>
        rw [ea] at p2
        cases oo with
        | none => exact .inl ⟨sr2.stop R2 ea, p2 μ2 .non H2 st2 R2 .non⟩
        | some y =>
          obtain ⟨g, yy⟩ := sr2.go R2 ea
          refine .inr ⟨g, fun v H3 yv => ?_⟩
          obtain ⟨st3, R3, d⟩ := yy v H3 yv
          refine ⟨ro, μ2, l ++ [some y], h2, ⟨(L1.step R1 (st2.trans st3)).snoc d, R3.to E0⟩, ?_⟩
          dsimp only at p2
          cases em : mt (l ++ [some y]) h2 with
          | bad => rw [em] at p2; exact False.elim p2
          | ex _ _ => rw [em] at p2; exact False.elim p2
          | ok b h3 =>
            rw [em] at p2
            cases b with
            | bl b =>
              cases b with
              | true =>
                intro μ4 u H4 st4 R4 eu
                have eu : true = u := eu
                subst eu
                exact p2 μ4 v H4 ((st2.trans st3).trans st4) (R4.to E) (R3.den st4 d)
              | false =>
                intro μ4 u H4 st4 R4 eu
                have eu : false = u := eu
                subst eu
                exact ⟨m, Nat.lt_succ_self _, μ4, h3, (st2.trans st3).trans st4, R4.to E, p2⟩
            | _ => exact False.elim p2
end
end Ev
set_option Elab.async false
set_option linter.all false
set_option maxRecDepth 100000
set_option maxHeartbeats 4000000
/-! the walk: what each def computes, by the machine (printed by gen.py) -/
namespace Ev
open PySem PySem.Spec PyProof.Rows L2
def tops (i : Nat) : Stmt := PySem.Challenge.pw_shelfmove_k04_refused.main.body.getD i (.Pass ⟨0, 0, 0, 0⟩)
def inCls : Stmt → List Stmt
  | .ClassDef (body := b) .. => b
  | _ => []
def meths (i j : Nat) : Stmt := (inCls (tops i)).getD j (.Pass ⟨0, 0, 0, 0⟩)
def v_BOTH : AV := .str "both"
def v_CHANGE : AV := .str "mode"
def v_CONTENTS : AV := .tup [.tup [.str "fresh", .str "empty"], .tup [.str "fresh", .str "fresh"], .tup [.str "fresh", .str "stale"], .tup [.str "stale", .str "empty"], .tup [.str "stale", .str "fresh"], .tup [.str "stale", .str "stale"]]
def v_COPIERS : AV := .tup [.str "plain", .str "empty", .str "check"]
def v_COPY : AV := .tup [.str "copy"]
def v_EMPTY : AV := .str "empty"
def v_FIRST : AV := .tup [.str "fresh", .str "empty"]
def v_FRESH : AV := .str "fresh"
def v_MAX_PLAN : AV := .int 12
def v_MAX_PRICE : AV := .int 9
def v_MAX_SERVERS : AV := .int 3
def v_MODES : AV := .tup [.tup [.str "old", .str "old"], .tup [.str "old", .str "both"], .tup [.str "old", .str "new"], .tup [.str "new", .str "old"], .tup [.str "new", .str "both"], .tup [.str "new", .str "new"]]
def v_NEW : AV := .str "new"
def v_OLD : AV := .str "old"
def v_STALE : AV := .str "stale"
def cas (K : PySem.W.Frag) : Ca := ⟨fun n => match n with
  | 0 => He.ga K "House"
  | 1 => He.ga K "Safe"
  | 2 => He.ga K "State"
  | 3 => He.ga K "Stale"
  | 4 => He.ga K "Way"
  | 5 => He.ga K "Shut"
  | 6 => He.ga K "BadHouse"
  | 7 => He.ga K "BadModes"
  | 8 => He.ga K "BadPlan"
  | 9 => He.ga K "BadStep"
  | 10 => He.ga K "BadView"
  | _ => 0, [((He.cT K ("stale_run", none)).2, (("stale_run" : Str) ++ ".<locals>.") ++ "<genexpr>"), ((He.cT K ("_law_houses_right", none)).2, (("_law_houses_right" : Str) ++ ".<locals>.") ++ "<lambda>"), ((He.cT K ("_law_views_right", none)).2, (("_law_views_right" : Str) ++ ".<locals>.") ++ "<lambda>"), ((He.cT K ("_law_steps_right", none)).2, (("_law_steps_right" : Str) ++ ".<locals>.") ++ "<lambda>")]⟩
def csN : Nat → Nat
  | 0 => 6
  | 1 => 7
  | 2 => 8
  | 3 => 9
  | _ => 10
theorem in_stale_run (K : PySem.W.Frag) : ((He.cT K ("stale_run", none)).2, (("stale_run" : Str) ++ ".<locals>.") ++ "<genexpr>") ∈ (cas K).T := List.mem_cons_self
theorem in__law_houses_right (K : PySem.W.Frag) : ((He.cT K ("_law_houses_right", none)).2, (("_law_houses_right" : Str) ++ ".<locals>.") ++ "<lambda>") ∈ (cas K).T := (List.mem_cons_of_mem _ List.mem_cons_self)
theorem in__law_views_right (K : PySem.W.Frag) : ((He.cT K ("_law_views_right", none)).2, (("_law_views_right" : Str) ++ ".<locals>.") ++ "<lambda>") ∈ (cas K).T := (List.mem_cons_of_mem _ (List.mem_cons_of_mem _ List.mem_cons_self))
theorem in__law_steps_right (K : PySem.W.Frag) : ((He.cT K ("_law_steps_right", none)).2, (("_law_steps_right" : Str) ++ ".<locals>.") ++ "<lambda>") ∈ (cas K).T := (List.mem_cons_of_mem _ (List.mem_cons_of_mem _ (List.mem_cons_of_mem _ List.mem_cons_self)))
def tbD (K : PySem.W.Frag) : Bool := !decide ((He.cT K ("stale_run", none)).2 = (He.cT K ("_law_houses_right", none)).2) && !decide ((He.cT K ("stale_run", none)).2 = (He.cT K ("_law_views_right", none)).2) && !decide ((He.cT K ("stale_run", none)).2 = (He.cT K ("_law_steps_right", none)).2) && !decide ((He.cT K ("_law_houses_right", none)).2 = (He.cT K ("_law_views_right", none)).2) && !decide ((He.cT K ("_law_houses_right", none)).2 = (He.cT K ("_law_steps_right", none)).2) && !decide ((He.cT K ("_law_views_right", none)).2 = (He.cT K ("_law_steps_right", none)).2)
def exB (K : PySem.W.Frag) : Bool := xplB K ((cas K) 7) && (xplB K ((cas K) 9) && (xplB K ((cas K) 10) && (nmKB K (fun k => (cas K) (csN k)) (He.ga K "ShelfError") && tbD K)))
abbrev FnP (K : PySem.W.Frag) (x q : Str) (st : Stmt) (f : Addr) : Prop := ∃ fd, FunD K x q (defArgs st) (defBody st) (defScope st) [] [] f fd
def OwnI (K : PySem.W.Frag) (ca : Ca) (c : Nat) (cs : List Nat) : Prop := (∀ t : Ty, PySem.W.kitOne K (.type t.name) (.ref (ca c)) = some false) ∧ ∀ c' ∈ cs, SlX.SCls K (ca c') ∧ SlX.SIsi K (ca c') ∧ PySem.W.kitOne K (.ref (ca c')) (.ref (ca c)) = some (Nat.beq c' c)
def facts : List Fc := [.free "ValueError",
  .free "all",
  .free "bool",
  .free "dict",
  .free "enumerate",
  .free "int",
  .free "isinstance",
  .free "len",
  .free "list",
  .free "next",
  .free "range",
  .free "sorted",
  .free "str",
  .free "super",
  .free "tuple",
  .free "zip",
  .tup "BOTH" v_BOTH,
  .tup "CHANGE" v_CHANGE,
  .tup "CONTENTS" v_CONTENTS,
  .tup "COPIERS" v_COPIERS,
  .tup "COPY" v_COPY,
  .tup "EMPTY" v_EMPTY,
  .tup "FIRST" v_FIRST,
  .tup "FRESH" v_FRESH,
  .tup "MAX_PLAN" v_MAX_PLAN,
  .tup "MAX_PRICE" v_MAX_PRICE,
  .tup "MAX_SERVERS" v_MAX_SERVERS,
  .tup "MODES" v_MODES,
  .tup "NEW" v_NEW,
  .tup "OLD" v_OLD,
  .tup "STALE" v_STALE,
  .glo "is_mode",
  .keep "is_mode",
  .glo "are_modes",
  .keep "are_modes",
  .glo "is_integer",
  .keep "is_integer",
  .glo "check_house",
  .keep "check_house",
  .glo "check_modes",
  .keep "check_modes",
  .glo "is_view",
  .keep "is_view",
  .glo "check_view",
  .keep "check_view",
  .glo "aged",
  .keep "aged",
  .glo "written",
  .keep "written",
  .glo "view_of",
  .keep "view_of",
  .glo "grown",
  .keep "grown",
  .glo "closed",
  .keep "closed",
  .glo "is_fine",
  .keep "is_fine",
  .glo "is_safe",
  .keep "is_safe",
  .glo "reads_fine",
  .keep "reads_fine",
  .glo "is_step",
  .keep "is_step",
  .glo "check_step",
  .keep "check_step",
  .glo "modes_after",
  .keep "modes_after",
  .glo "hands_from",
  .keep "hands_from",
  .glo "put_down",
  .keep "put_down",
  .glo "copied",
  .keep "copied",
  .glo "view_after",
  .keep "view_after",
  .glo "after",
  .keep "after",
  .glo "check_plan",
  .keep "check_plan",
  .glo "events_of",
  .keep "events_of",
  .glo "stale_run",
  .keep "stale_run",
  .glo "modes_by",
  .keep "modes_by",
  .glo "views_of",
  .keep "views_of",
  .glo "judge_of",
  .keep "judge_of",
  .glo "judge",
  .keep "judge",
  .glo "is_plan_safe",
  .keep "is_plan_safe",
  .glo "way",
  .keep "way",
  .glo "least_cost",
  .keep "least_cost",
  .glo "_law_houses_right",
  .keep "_law_houses_right",
  .glo "_law_steps_right",
  .keep "_law_steps_right",
  .glo "_law_views_right",
  .keep "_law_views_right",
  .glo "law",
  .keep "law",
  .glo "_law_name",
  .keep "_law_name",
  .glo "BadHouse",
  .glo "BadModes",
  .glo "BadPlan",
  .glo "BadStep",
  .glo "BadView",
  .glo "ShelfError",
  .glo "House",
  .scl "House",
  .slt "House" "copies" 0,
  .slt "House" "costs" 1,
  .slt "House" "first" 2,
  .meth "House" "__len__",
  .mk "House",
  .glo "Safe",
  .scl "Safe",
  .slt "Safe" "views" 0,
  .meth "Safe" "shows",
  .mk "Safe",
  .glo "State",
  .scl "State",
  .slt "State" "begun" 0,
  .slt "State" "contents" 1,
  .slt "State" "current" 2,
  .slt "State" "hand" 3,
  .slt "State" "house" 4,
  .slt "State" "steps" 5,
  .meth "State" "key",
  .meth "State" "moved",
  .meth "State" "is_stale",
  .meth "State" "can",
  .meth "State" "begin",
  .meth "State" "does",
  .mk "State",
  .glo "Stale",
  .scl "Stale",
  .slt "Stale" "run" 0,
  .meth "Stale" "shows",
  .mk "Stale",
  .glo "Way",
  .scl "Way",
  .slt "Way" "levels" 0,
  .slt "Way" "steps" 1,
  .meth "Way" "shows",
  .mk "Way",
  .glo "Shut",
  .scl "Shut",
  .slt "Shut" "spots" 0,
  .meth "Shut" "shows",
  .mk "Shut",
  .isit "House",
  .isi "House" "House" true,
  .isi "Safe" "House" false,
  .isi "State" "House" false,
  .isi "Stale" "House" false,
  .isi "Way" "House" false,
  .isi "Shut" "House" false,
  .isit "Safe",
  .isi "House" "Safe" false,
  .isi "Safe" "Safe" true,
  .isi "State" "Safe" false,
  .isi "Stale" "Safe" false,
  .isi "Way" "Safe" false,
  .isi "Shut" "Safe" false,
  .isit "State",
  .isi "House" "State" false,
  .isi "Safe" "State" false,
  .isi "State" "State" true,
  .isi "Stale" "State" false,
  .isi "Way" "State" false,
  .isi "Shut" "State" false,
  .isit "Stale",
  .isi "House" "Stale" false,
  .isi "Safe" "Stale" false,
  .isi "State" "Stale" false,
  .isi "Stale" "Stale" true,
  .isi "Way" "Stale" false,
  .isi "Shut" "Stale" false,
  .isit "Way",
  .isi "House" "Way" false,
  .isi "Safe" "Way" false,
  .isi "State" "Way" false,
  .isi "Stale" "Way" false,
  .isi "Way" "Way" true,
  .isi "Shut" "Way" false,
  .isit "Shut",
  .isi "House" "Shut" false,
  .isi "Safe" "Shut" false,
  .isi "State" "Shut" false,
  .isi "Stale" "Shut" false,
  .isi "Way" "Shut" false,
  .isi "Shut" "Shut" true]
def xi_BadHouse : XiP := ⟨"BadHouse", "BadHouse.__init__", "part", "part", defArgs (meths 2 0), defBody (meths 2 0), defScope (meths 2 0)⟩
def xi_BadPlan : XiP := ⟨"BadPlan", "BadPlan.__init__", "index", "index", defArgs (meths 6 0), defBody (meths 6 0), defScope (meths 6 0)⟩
def defs : List DefP := [⟨(pG "is_mode"), "is_mode", "is_mode", defArgs (tops 19), defBody (tops 19), defScope (tops 19)⟩,
  ⟨(pG "are_modes"), "are_modes", "are_modes", defArgs (tops 20), defBody (tops 20), defScope (tops 20)⟩,
  ⟨(pG "is_integer"), "is_integer", "is_integer", defArgs (tops 18), defBody (tops 18), defScope (tops 18)⟩,
  ⟨(pM "House" "__init__"), "__init__", "House.__init__", defArgs (meths 21 1), defBody (meths 21 1), defScope (meths 21 1)⟩,
  ⟨(pG "check_house"), "check_house", "check_house", defArgs (tops 22), defBody (tops 22), defScope (tops 22)⟩,
  ⟨(pM "House" "__len__"), "__len__", "House.__len__", defArgs (meths 21 2), defBody (meths 21 2), defScope (meths 21 2)⟩,
  ⟨(pG "check_modes"), "check_modes", "check_modes", defArgs (tops 23), defBody (tops 23), defScope (tops 23)⟩,
  ⟨(pG "is_view"), "is_view", "is_view", defArgs (tops 46), defBody (tops 46), defScope (tops 46)⟩,
  ⟨(pG "check_view"), "check_view", "check_view", defArgs (tops 47), defBody (tops 47), defScope (tops 47)⟩,
  ⟨(pG "aged"), "aged", "aged", defArgs (tops 36), defBody (tops 36), defScope (tops 36)⟩,
  ⟨(pG "written"), "written", "written", defArgs (tops 37), defBody (tops 37), defScope (tops 37)⟩,
  ⟨(pG "view_of"), "view_of", "view_of", defArgs (tops 38), defBody (tops 38), defScope (tops 38)⟩,
  ⟨(pG "grown"), "grown", "grown", defArgs (tops 39), defBody (tops 39), defScope (tops 39)⟩,
  ⟨(pG "closed"), "closed", "closed", defArgs (tops 48), defBody (tops 48), defScope (tops 48)⟩,
  ⟨(pG "is_fine"), "is_fine", "is_fine", defArgs (tops 40), defBody (tops 40), defScope (tops 40)⟩,
  ⟨(pG "is_safe"), "is_safe", "is_safe", defArgs (tops 41), defBody (tops 41), defScope (tops 41)⟩,
  ⟨(pG "reads_fine"), "reads_fine", "reads_fine", defArgs (tops 49), defBody (tops 49), defScope (tops 49)⟩,
  ⟨(pG "is_step"), "is_step", "is_step", defArgs (tops 24), defBody (tops 24), defScope (tops 24)⟩,
  ⟨(pG "check_step"), "check_step", "check_step", defArgs (tops 25), defBody (tops 25), defScope (tops 25)⟩,
  ⟨(pG "modes_after"), "modes_after", "modes_after", defArgs (tops 27), defBody (tops 27), defScope (tops 27)⟩,
  ⟨(pG "hands_from"), "hands_from", "hands_from", defArgs (tops 42), defBody (tops 42), defScope (tops 42)⟩,
  ⟨(pG "put_down"), "put_down", "put_down", defArgs (tops 43), defBody (tops 43), defScope (tops 43)⟩,
  ⟨(pG "copied"), "copied", "copied", defArgs (tops 44), defBody (tops 44), defScope (tops 44)⟩,
  ⟨(pG "view_after"), "view_after", "view_after", defArgs (tops 45), defBody (tops 45), defScope (tops 45)⟩,
  ⟨(pG "after"), "after", "after", defArgs (tops 50), defBody (tops 50), defScope (tops 50)⟩,
  ⟨(pG "check_plan"), "check_plan", "check_plan", defArgs (tops 53), defBody (tops 53), defScope (tops 53)⟩,
  ⟨(pM "State" "__init__"), "__init__", "State.__init__", defArgs (meths 56 1), defBody (meths 56 1), defScope (meths 56 1)⟩,
  ⟨(pM "State" "key"), "key", "State.key", defArgs (meths 56 2), defBody (meths 56 2), defScope (meths 56 2)⟩,
  ⟨(pM "State" "moved"), "moved", "State.moved", defArgs (meths 56 3), defBody (meths 56 3), defScope (meths 56 3)⟩,
  ⟨(pM "State" "is_stale"), "is_stale", "State.is_stale", defArgs (meths 56 7), defBody (meths 56 7), defScope (meths 56 7)⟩,
  ⟨(pG "events_of"), "events_of", "events_of", defArgs (tops 58), defBody (tops 58), defScope (tops 58)⟩,
  ⟨(pM "State" "can"), "can", "State.can", defArgs (meths 56 4), defBody (meths 56 4), defScope (meths 56 4)⟩,
  ⟨(pM "State" "begin"), "begin", "State.begin", defArgs (meths 56 6), defBody (meths 56 6), defScope (meths 56 6)⟩,
  ⟨(pM "State" "does"), "does", "State.does", defArgs (meths 56 5), defBody (meths 56 5), defScope (meths 56 5)⟩,
  ⟨(pG "stale_run"), "stale_run", "stale_run", defArgs (tops 59), defBody (tops 59), defScope (tops 59)⟩,
  ⟨(pM "Safe" "__init__"), "__init__", "Safe.__init__", defArgs (meths 55 1), defBody (meths 55 1), defScope (meths 55 1)⟩,
  ⟨(pG "modes_by"), "modes_by", "modes_by", defArgs (tops 54), defBody (tops 54), defScope (tops 54)⟩,
  ⟨(pG "views_of"), "views_of", "views_of", defArgs (tops 60), defBody (tops 60), defScope (tops 60)⟩,
  ⟨(pM "Stale" "__init__"), "__init__", "Stale.__init__", defArgs (meths 57 1), defBody (meths 57 1), defScope (meths 57 1)⟩,
  ⟨(pG "judge_of"), "judge_of", "judge_of", defArgs (tops 61), defBody (tops 61), defScope (tops 61)⟩,
  ⟨(pG "judge"), "judge", "judge", defArgs (tops 62), defBody (tops 62), defScope (tops 62)⟩,
  ⟨(pG "is_plan_safe"), "is_plan_safe", "is_plan_safe", defArgs (tops 63), defBody (tops 63), defScope (tops 63)⟩,
  ⟨(pM "Safe" "shows"), "shows", "Safe.shows", defArgs (meths 55 4), defBody (meths 55 4), defScope (meths 55 4)⟩,
  ⟨(pM "Stale" "shows"), "shows", "Stale.shows", defArgs (meths 57 4), defBody (meths 57 4), defScope (meths 57 4)⟩,
  ⟨(pG "way"), "way", "way", defArgs (tops 72), defBody (tops 72), defScope (tops 72)⟩,
  ⟨(pG "least_cost"), "least_cost", "least_cost", defArgs (tops 73), defBody (tops 73), defScope (tops 73)⟩,
  ⟨(pM "Way" "__init__"), "__init__", "Way.__init__", defArgs (meths 69 1), defBody (meths 69 1), defScope (meths 69 1)⟩,
  ⟨(pM "Way" "shows"), "shows", "Way.shows", defArgs (meths 69 4), defBody (meths 69 4), defScope (meths 69 4)⟩,
  ⟨(pM "Shut" "__init__"), "__init__", "Shut.__init__", defArgs (meths 70 1), defBody (meths 70 1), defScope (meths 70 1)⟩,
  ⟨(pM "Shut" "shows"), "shows", "Shut.shows", defArgs (meths 70 4), defBody (meths 70 4), defScope (meths 70 4)⟩,
  ⟨(pG "_law_houses_right"), "_law_houses_right", "_law_houses_right", defArgs (tops 76), defBody (tops 76), defScope (tops 76)⟩,
  ⟨(pG "_law_steps_right"), "_law_steps_right", "_law_steps_right", defArgs (tops 78), defBody (tops 78), defScope (tops 78)⟩,
  ⟨(pG "_law_views_right"), "_law_views_right", "_law_views_right", defArgs (tops 77), defBody (tops 77), defScope (tops 77)⟩,
  ⟨(pG "law"), "law", "law", defArgs (tops 79), defBody (tops 79), defScope (tops 79)⟩,
  ⟨pG "_law_name", "_law_name", "_law_name", defArgs (tops 75), defBody (tops 75), defScope (tops 75)⟩]
def xis : List XiP := [xi_BadHouse, xi_BadPlan]
def tfs : List He.Defn := [("stale_run", none), ("_law_houses_right", none), ("_law_views_right", none), ("_law_steps_right", none)]
abbrev PP : Program := PySem.Challenge.rw_shelfmove_k04_refused.prog
end Ev
set_option Elab.async false
set_option linter.all false
set_option maxRecDepth 100000
set_option maxHeartbeats 0
namespace Ev
open PySem PySem.Spec PyProof.Rows L2
/-- no list stands in the written part -/
def noLst (K : PySem.W.Frag) : Bool := K.all fun p => match p.2.cls with
  | .type n => !decide (n = "list")
  | _ => true
def exK (K : PySem.W.Frag) : Bool := noLst K && (factsB facts K && exB K)
abbrev rowOf : PySem.W.OpenRow := PySem.W.OpenLaw.row PySem.Challenge.rw_shelfmove_k04_refused
abbrev hk : PySem.W.Hook := hookQ 5 PP.main.file exK defs xis tfs
def ob (s : PySem.W.SharedT) : AlQ × Bool := obQG 5 PP.main.file exK defs xis tfs (HandSHeadRun.getT s)
theorem ob_eq (s : PySem.W.SharedT) : ob s = hk.obs s.abs := obQG_eq (HandSHeadRun.getT_eq s)
def loose1 : List PySem.Str := ["__name__", "ShelfError", "BadHouse", "BadModes", "BadView", "BadStep", "BadPlan", "OLD", "NEW", "BOTH", "COPIERS", "MODES", "LAST", "MAX_SERVERS", "MAX_PRICE", "COPY", "CHANGE", "is_integer", "is_mode", "are_modes", "House", "check_house", "check_modes", "is_step"]
def loose2 : List PySem.Str := ["check_step", "price_of", "modes_after", "steps_at", "is_end", "FRESH", "STALE", "EMPTY", "FIRST", "CONTENTS", "aged", "written", "view_of", "grown", "is_fine", "is_safe", "hands_from", "put_down", "copied", "view_after", "is_view", "check_view", "closed", "reads_fine"]
def loose3 : List PySem.Str := ["after", "MAX_PLAN", "check_plan", "modes_by", "Safe", "State", "Stale", "events_of", "stale_run", "views_of", "judge_of", "judge", "is_plan_safe", "first_position", "next_position", "moves_at", "Steps", "Way", "Shut", "way_of", "way", "least_cost", "_law_name", "_law_houses_right"]
def loose4 : List PySem.Str := ["_law_views_right", "_law_steps_right"]
def loose : List PySem.Str := loose1 ++ loose2 ++ loose3 ++ loose4
noncomputable abbrev fin (w : World) (os : OsState) : Option PySem.W.SharedT := (HandSHeadRun.endF (HandSHeadRun.stepQ (HandSHeadRun.denQ HandSHeadRun.tabQ) rowOf.prog w) 8000 rowOf.prog w os)
theorem join3 {α β γ δ : Type _} {E : Option α} {f : α → β} {g : α → γ} {k : α → δ} {a : β} {b : γ} {c : δ} (h1 : E.map f = some a) (h2 : E.map g = some b) (h3 : E.map k = some c) : E.map (fun s => (f s, g s, k s)) = some (a, b, c) := by
  cases E with
  | none => cases h1
  | some s => cases h1; cases h2; cases h3; rfl
theorem ob_parts {E : Option PySem.W.SharedT} (h1 : E.map (fun s => exK (frQ 5 (HandSHeadRun.getT s))) = some true) (h2 : E.map (fun s => (((defs.all fun d => d.ok (frQ 5 (HandSHeadRun.getT s))) && (xis.all fun d => d.ok PP.main.file (frQ 5 (HandSHeadRun.getT s)))), (defs.map fun d => obF (frQ 5 (HandSHeadRun.getT s)) (d.at_ (frQ 5 (HandSHeadRun.getT s)))), (xis.map fun d => obX (frQ 5 (HandSHeadRun.getT s)) (d.at_ (frQ 5 (HandSHeadRun.getT s)))))) = some (true, defs.map DefP.val, xis.map XiP.val)) (h4 : E.map (fun s => He.tabsB (HandSHeadRun.getT s) tfs (frQ 5 (HandSHeadRun.getT s))) = some true) : E.map ob = some (vaQ defs xis) := by
  cases E with
  | none => cases h1
  | some s =>
    have e1 : exK (frQ 5 (HandSHeadRun.getT s)) = true := Option.some.inj h1
    have e2 : (((defs.all fun d => d.ok (frQ 5 (HandSHeadRun.getT s))) && (xis.all fun d => d.ok PP.main.file (frQ 5 (HandSHeadRun.getT s)))), (defs.map fun d => obF (frQ 5 (HandSHeadRun.getT s)) (d.at_ (frQ 5 (HandSHeadRun.getT s)))), (xis.map fun d => obX (frQ 5 (HandSHeadRun.getT s)) (d.at_ (frQ 5 (HandSHeadRun.getT s))))) = (true, defs.map DefP.val, xis.map XiP.val) := Option.some.inj h2
    have e4 : He.tabsB (HandSHeadRun.getT s) tfs (frQ 5 (HandSHeadRun.getT s)) = true := Option.some.inj h4
    have p1 := congrArg Prod.fst e2
    have p2 := congrArg (fun z => z.2.1) e2
    have p3 := congrArg (fun z => z.2.2) e2
    dsimp only at p1 p2 p3
    show some (ob s) = _
    unfold ob obQG obQ vaQ
    rw [e1, p1, p2, p3, e4]
    rfl
theorem run2 (w : World) (os : OsState) : (fin w os).map (fun s => exK (frQ 5 (HandSHeadRun.getT s))) = some true := by kernel_rfl
theorem run3 (w : World) (os : OsState) : (fin w os).map (fun s => (((defs.all fun d => d.ok (frQ 5 (HandSHeadRun.getT s))) && (xis.all fun d => d.ok PP.main.file (frQ 5 (HandSHeadRun.getT s)))), (defs.map fun d => obF (frQ 5 (HandSHeadRun.getT s)) (d.at_ (frQ 5 (HandSHeadRun.getT s)))), (xis.map fun d => obX (frQ 5 (HandSHeadRun.getT s)) (d.at_ (frQ 5 (HandSHeadRun.getT s)))))) = some (true, defs.map DefP.val, xis.map XiP.val) := by kernel_rfl
theorem run5 (w : World) (os : OsState) : (fin w os).map (fun s => He.tabsB (HandSHeadRun.getT s) tfs (frQ 5 (HandSHeadRun.getT s))) = some true := by kernel_rfl
section
open PySem.W
def PrtA (r : OpenRow) (M : Nat) (w : World) : Prop := ∀ os : OsState, (HandSHeadRun.endF (HandSHeadRun.stepQ (HandSHeadRun.denQ HandSHeadRun.tabQ) r.prog w) M r.prog w os).map (fun s => HandSHeadRun.looksF r.prog (boot_heap w.params) s.abs) = some true
def PrtB (r : OpenRow) (q : Program) (M : Nat) (loose : List PySem.Str) (w : World) : Prop := ∀ os : OsState, (HandSHeadRun.endF (HandSHeadRun.stepQ (HandSHeadRun.denQ HandSHeadRun.tabQ) r.prog w) M r.prog w os).map (fun s => HandSHeadRun.seenQ q loose (importedModules r.prog.main.body) (fun s => xlAt q [] s && recOk r.toRowW.records s) s.abs) = some (openGood q loose)
def PrtC (r : OpenRow) (H : Hook) (ob : SharedT → H.α) (M : Nat) (w : World) : Prop := ∀ os : OsState, (HandSHeadRun.endF (HandSHeadRun.stepQ (HandSHeadRun.denQ HandSHeadRun.tabQ) r.prog w) M r.prog w os).map ob = some (H.val w)
theorem run_parts {r : OpenRow} {q : Program} {H : Hook} {ob : SharedT → H.α} {M : Nat} {loose : List PySem.Str} {w : World} (a : PrtA r M w) (b : PrtB r q M loose w) (c : PrtC r H ob M w) : HandSHeadRun.RunEq r q H ob M loose w := fun os => join3 (a os) (b os) (c os)
end
theorem run4a (w : World) : PrtA rowOf 8000 w := by
  intro os
  kernel_rfl
theorem run4b (w : World) : PrtB rowOf (PySem.W.view rowOf.prog [79]) 8000 loose w := by
  intro os
  kernel_rfl
theorem run23 (w : World) : PrtC rowOf hk ob 8000 w := by
  intro os
  exact ob_parts (run2 w os) (run3 w os) (run5 w os)
theorem run (w : World) : HandSHeadRun.RunEq rowOf (PySem.W.view rowOf.prog [79]) hk ob 8000 loose w := run_parts (run4a w) (run4b w) (run23 w)
end Ev
set_option Elab.async false
set_option linter.all false
set_option maxRecDepth 100000
set_option maxHeartbeats 4000000
/-! the walk: what each def computes, by the machine (printed by gen.py) -/
namespace Ev
open PySem PySem.Spec PyProof.Rows L2
structure Fx (P : Program) (K : PySem.W.Frag) (mg : Str → Option Value) (base : Heap) : Prop where
  tb_stale_run : LamX.TabB base mg (He.cT K ("stale_run", none)).1 (He.cT K ("stale_run", none)).2
  tb__law_houses_right : LamX.TabB base mg (He.cT K ("_law_houses_right", none)).1 (He.cT K ("_law_houses_right", none)).2
  tb__law_views_right : LamX.TabB base mg (He.cT K ("_law_views_right", none)).1 (He.cT K ("_law_views_right", none)).2
  tb__law_steps_right : LamX.TabB base mg (He.cT K ("_law_steps_right", none)).1 (He.cT K ("_law_steps_right", none)).2
  x_BadHouse : XiR P K mg xi_BadHouse
  x_BadPlan : XiR P K mg xi_BadPlan
  x_BadModes : XplC K ((cas K) 7)
  x_BadStep : XplC K ((cas K) 9)
  x_BadView : XplC K ((cas K) 10)
  nmk : nmKB K (fun k => (cas K) (csN k)) (He.ga K "ShelfError") = true
  tbd : tbD K = true
  d__law_name : FnP K "_law_name" "_law_name" (tops 75) (pG "_law_name" K)
  g__law_name : mg "_law_name" = some (.ref (pG "_law_name" K))
  h__law_name : PySem.W.keepIn K (.ref (pG "_law_name" K)) = true
  d_is_mode : FnP K "is_mode" "is_mode" (tops 19) ((pG "is_mode") K)
  d_are_modes : FnP K "are_modes" "are_modes" (tops 20) ((pG "are_modes") K)
  d_is_integer : FnP K "is_integer" "is_integer" (tops 18) ((pG "is_integer") K)
  d_House___init__ : FnP K "__init__" "House.__init__" (meths 21 1) ((pM "House" "__init__") K)
  d_check_house : FnP K "check_house" "check_house" (tops 22) ((pG "check_house") K)
  d_House___len__ : FnP K "__len__" "House.__len__" (meths 21 2) ((pM "House" "__len__") K)
  d_check_modes : FnP K "check_modes" "check_modes" (tops 23) ((pG "check_modes") K)
  d_is_view : FnP K "is_view" "is_view" (tops 46) ((pG "is_view") K)
  d_check_view : FnP K "check_view" "check_view" (tops 47) ((pG "check_view") K)
  d_aged : FnP K "aged" "aged" (tops 36) ((pG "aged") K)
  d_written : FnP K "written" "written" (tops 37) ((pG "written") K)
  d_view_of : FnP K "view_of" "view_of" (tops 38) ((pG "view_of") K)
  d_grown : FnP K "grown" "grown" (tops 39) ((pG "grown") K)
  d_closed : FnP K "closed" "closed" (tops 48) ((pG "closed") K)
  d_is_fine : FnP K "is_fine" "is_fine" (tops 40) ((pG "is_fine") K)
  d_is_safe : FnP K "is_safe" "is_safe" (tops 41) ((pG "is_safe") K)
  d_reads_fine : FnP K "reads_fine" "reads_fine" (tops 49) ((pG "reads_fine") K)
  d_is_step : FnP K "is_step" "is_step" (tops 24) ((pG "is_step") K)
  d_check_step : FnP K "check_step" "check_step" (tops 25) ((pG "check_step") K)
  d_modes_after : FnP K "modes_after" "modes_after" (tops 27) ((pG "modes_after") K)
  d_hands_from : FnP K "hands_from" "hands_from" (tops 42) ((pG "hands_from") K)
  d_put_down : FnP K "put_down" "put_down" (tops 43) ((pG "put_down") K)
  d_copied : FnP K "copied" "copied" (tops 44) ((pG "copied") K)
  d_view_after : FnP K "view_after" "view_after" (tops 45) ((pG "view_after") K)
  d_after : FnP K "after" "after" (tops 50) ((pG "after") K)
  d_check_plan : FnP K "check_plan" "check_plan" (tops 53) ((pG "check_plan") K)
  d_State___init__ : FnP K "__init__" "State.__init__" (meths 56 1) ((pM "State" "__init__") K)
  d_State_key : FnP K "key" "State.key" (meths 56 2) ((pM "State" "key") K)
  d_State_moved : FnP K "moved" "State.moved" (meths 56 3) ((pM "State" "moved") K)
  d_State_is_stale : FnP K "is_stale" "State.is_stale" (meths 56 7) ((pM "State" "is_stale") K)
  d_events_of : FnP K "events_of" "events_of" (tops 58) ((pG "events_of") K)
  d_State_can : FnP K "can" "State.can" (meths 56 4) ((pM "State" "can") K)
  d_State_begin : FnP K "begin" "State.begin" (meths 56 6) ((pM "State" "begin") K)
  d_State_does : FnP K "does" "State.does" (meths 56 5) ((pM "State" "does") K)
  d_stale_run : FnP K "stale_run" "stale_run" (tops 59) ((pG "stale_run") K)
  d_Safe___init__ : FnP K "__init__" "Safe.__init__" (meths 55 1) ((pM "Safe" "__init__") K)
  d_modes_by : FnP K "modes_by" "modes_by" (tops 54) ((pG "modes_by") K)
  d_views_of : FnP K "views_of" "views_of" (tops 60) ((pG "views_of") K)
  d_Stale___init__ : FnP K "__init__" "Stale.__init__" (meths 57 1) ((pM "Stale" "__init__") K)
  d_judge_of : FnP K "judge_of" "judge_of" (tops 61) ((pG "judge_of") K)
  d_judge : FnP K "judge" "judge" (tops 62) ((pG "judge") K)
  d_is_plan_safe : FnP K "is_plan_safe" "is_plan_safe" (tops 63) ((pG "is_plan_safe") K)
  d_Safe_shows : FnP K "shows" "Safe.shows" (meths 55 4) ((pM "Safe" "shows") K)
  d_Stale_shows : FnP K "shows" "Stale.shows" (meths 57 4) ((pM "Stale" "shows") K)
  d_way : FnP K "way" "way" (tops 72) ((pG "way") K)
  d_least_cost : FnP K "least_cost" "least_cost" (tops 73) ((pG "least_cost") K)
  d_Way___init__ : FnP K "__init__" "Way.__init__" (meths 69 1) ((pM "Way" "__init__") K)
  d_Way_shows : FnP K "shows" "Way.shows" (meths 69 4) ((pM "Way" "shows") K)
  d_Shut___init__ : FnP K "__init__" "Shut.__init__" (meths 70 1) ((pM "Shut" "__init__") K)
  d_Shut_shows : FnP K "shows" "Shut.shows" (meths 70 4) ((pM "Shut" "shows") K)
  d__law_houses_right : FnP K "_law_houses_right" "_law_houses_right" (tops 76) ((pG "_law_houses_right") K)
  d__law_steps_right : FnP K "_law_steps_right" "_law_steps_right" (tops 78) ((pG "_law_steps_right") K)
  d__law_views_right : FnP K "_law_views_right" "_law_views_right" (tops 77) ((pG "_law_views_right") K)
  d_law : FnP K "law" "law" (tops 79) ((pG "law") K)
  b_ValueError : mg "ValueError" = none
  b_all : mg "all" = none
  b_bool : mg "bool" = none
  b_dict : mg "dict" = none
  b_enumerate : mg "enumerate" = none
  b_int : mg "int" = none
  b_isinstance : mg "isinstance" = none
  b_len : mg "len" = none
  b_list : mg "list" = none
  b_next : mg "next" = none
  b_range : mg "range" = none
  b_sorted : mg "sorted" = none
  b_str : mg "str" = none
  b_super : mg "super" = none
  b_tuple : mg "tuple" = none
  b_zip : mg "zip" = none
  v_BOTH : GlK K mg "BOTH" v_BOTH
  v_CHANGE : GlK K mg "CHANGE" v_CHANGE
  v_CONTENTS : GlK K mg "CONTENTS" v_CONTENTS
  v_COPIERS : GlK K mg "COPIERS" v_COPIERS
  v_COPY : GlK K mg "COPY" v_COPY
  v_EMPTY : GlK K mg "EMPTY" v_EMPTY
  v_FIRST : GlK K mg "FIRST" v_FIRST
  v_FRESH : GlK K mg "FRESH" v_FRESH
  v_MAX_PLAN : GlK K mg "MAX_PLAN" v_MAX_PLAN
  v_MAX_PRICE : GlK K mg "MAX_PRICE" v_MAX_PRICE
  v_MAX_SERVERS : GlK K mg "MAX_SERVERS" v_MAX_SERVERS
  v_MODES : GlK K mg "MODES" v_MODES
  v_NEW : GlK K mg "NEW" v_NEW
  v_OLD : GlK K mg "OLD" v_OLD
  v_STALE : GlK K mg "STALE" v_STALE
  g_is_mode : mg "is_mode" = some (.ref (pG "is_mode" K))
  h_is_mode : PySem.W.keepIn K (.ref (pG "is_mode" K)) = true
  g_are_modes : mg "are_modes" = some (.ref (pG "are_modes" K))
  h_are_modes : PySem.W.keepIn K (.ref (pG "are_modes" K)) = true
  g_is_integer : mg "is_integer" = some (.ref (pG "is_integer" K))
  h_is_integer : PySem.W.keepIn K (.ref (pG "is_integer" K)) = true
  g_check_house : mg "check_house" = some (.ref (pG "check_house" K))
  h_check_house : PySem.W.keepIn K (.ref (pG "check_house" K)) = true
  g_check_modes : mg "check_modes" = some (.ref (pG "check_modes" K))
  h_check_modes : PySem.W.keepIn K (.ref (pG "check_modes" K)) = true
  g_is_view : mg "is_view" = some (.ref (pG "is_view" K))
  h_is_view : PySem.W.keepIn K (.ref (pG "is_view" K)) = true
  g_check_view : mg "check_view" = some (.ref (pG "check_view" K))
  h_check_view : PySem.W.keepIn K (.ref (pG "check_view" K)) = true
  g_aged : mg "aged" = some (.ref (pG "aged" K))
  h_aged : PySem.W.keepIn K (.ref (pG "aged" K)) = true
  g_written : mg "written" = some (.ref (pG "written" K))
  h_written : PySem.W.keepIn K (.ref (pG "written" K)) = true
  g_view_of : mg "view_of" = some (.ref (pG "view_of" K))
  h_view_of : PySem.W.keepIn K (.ref (pG "view_of" K)) = true
  g_grown : mg "grown" = some (.ref (pG "grown" K))
  h_grown : PySem.W.keepIn K (.ref (pG "grown" K)) = true
  g_closed : mg "closed" = some (.ref (pG "closed" K))
  h_closed : PySem.W.keepIn K (.ref (pG "closed" K)) = true
  g_is_fine : mg "is_fine" = some (.ref (pG "is_fine" K))
  h_is_fine : PySem.W.keepIn K (.ref (pG "is_fine" K)) = true
  g_is_safe : mg "is_safe" = some (.ref (pG "is_safe" K))
  h_is_safe : PySem.W.keepIn K (.ref (pG "is_safe" K)) = true
  g_reads_fine : mg "reads_fine" = some (.ref (pG "reads_fine" K))
  h_reads_fine : PySem.W.keepIn K (.ref (pG "reads_fine" K)) = true
  g_is_step : mg "is_step" = some (.ref (pG "is_step" K))
  h_is_step : PySem.W.keepIn K (.ref (pG "is_step" K)) = true
  g_check_step : mg "check_step" = some (.ref (pG "check_step" K))
  h_check_step : PySem.W.keepIn K (.ref (pG "check_step" K)) = true
  g_modes_after : mg "modes_after" = some (.ref (pG "modes_after" K))
  h_modes_after : PySem.W.keepIn K (.ref (pG "modes_after" K)) = true
  g_hands_from : mg "hands_from" = some (.ref (pG "hands_from" K))
  h_hands_from : PySem.W.keepIn K (.ref (pG "hands_from" K)) = true
  g_put_down : mg "put_down" = some (.ref (pG "put_down" K))
  h_put_down : PySem.W.keepIn K (.ref (pG "put_down" K)) = true
  g_copied : mg "copied" = some (.ref (pG "copied" K))
  h_copied : PySem.W.keepIn K (.ref (pG "copied" K)) = true
  g_view_after : mg "view_after" = some (.ref (pG "view_after" K))
  h_view_after : PySem.W.keepIn K (.ref (pG "view_after" K)) = true
  g_after : mg "after" = some (.ref (pG "after" K))
  h_after : PySem.W.keepIn K (.ref (pG "after" K)) = true
  g_check_plan : mg "check_plan" = some (.ref (pG "check_plan" K))
  h_check_plan : PySem.W.keepIn K (.ref (pG "check_plan" K)) = true
  g_events_of : mg "events_of" = some (.ref (pG "events_of" K))
  h_events_of : PySem.W.keepIn K (.ref (pG "events_of" K)) = true
  g_stale_run : mg "stale_run" = some (.ref (pG "stale_run" K))
  h_stale_run : PySem.W.keepIn K (.ref (pG "stale_run" K)) = true
  g_modes_by : mg "modes_by" = some (.ref (pG "modes_by" K))
  h_modes_by : PySem.W.keepIn K (.ref (pG "modes_by" K)) = true
  g_views_of : mg "views_of" = some (.ref (pG "views_of" K))
  h_views_of : PySem.W.keepIn K (.ref (pG "views_of" K)) = true
  g_judge_of : mg "judge_of" = some (.ref (pG "judge_of" K))
  h_judge_of : PySem.W.keepIn K (.ref (pG "judge_of" K)) = true
  g_judge : mg "judge" = some (.ref (pG "judge" K))
  h_judge : PySem.W.keepIn K (.ref (pG "judge" K)) = true
  g_is_plan_safe : mg "is_plan_safe" = some (.ref (pG "is_plan_safe" K))
  h_is_plan_safe : PySem.W.keepIn K (.ref (pG "is_plan_safe" K)) = true
  g_way : mg "way" = some (.ref (pG "way" K))
  h_way : PySem.W.keepIn K (.ref (pG "way" K)) = true
  g_least_cost : mg "least_cost" = some (.ref (pG "least_cost" K))
  h_least_cost : PySem.W.keepIn K (.ref (pG "least_cost" K)) = true
  g__law_houses_right : mg "_law_houses_right" = some (.ref (pG "_law_houses_right" K))
  h__law_houses_right : PySem.W.keepIn K (.ref (pG "_law_houses_right" K)) = true
  g__law_steps_right : mg "_law_steps_right" = some (.ref (pG "_law_steps_right" K))
  h__law_steps_right : PySem.W.keepIn K (.ref (pG "_law_steps_right" K)) = true
  g__law_views_right : mg "_law_views_right" = some (.ref (pG "_law_views_right" K))
  h__law_views_right : PySem.W.keepIn K (.ref (pG "_law_views_right" K)) = true
  g_law : mg "law" = some (.ref (pG "law" K))
  h_law : PySem.W.keepIn K (.ref (pG "law" K)) = true
  g_BadHouse : mg "BadHouse" = some (.ref ((cas K) 6))
  g_BadModes : mg "BadModes" = some (.ref ((cas K) 7))
  g_BadPlan : mg "BadPlan" = some (.ref ((cas K) 8))
  g_BadStep : mg "BadStep" = some (.ref ((cas K) 9))
  g_BadView : mg "BadView" = some (.ref ((cas K) 10))
  g_ShelfError : mg "ShelfError" = some (.ref (He.ga K "ShelfError"))
  g_House : mg "House" = some (.ref ((cas K) 0))
  s_House : SlX.SCls K ((cas K) 0)
  t_House_copies : SlX.Slot1 K ((cas K) 0) "copies" (pM "House" "copies" K) 0
  t_House_costs : SlX.Slot1 K ((cas K) 0) "costs" (pM "House" "costs" K) 1
  t_House_first : SlX.Slot1 K ((cas K) 0) "first" (pM "House" "first" K) 2
  m_House___len__ : Meth K ((cas K) 0) "__len__" (pM "House" "__len__" K)
  k_House : Mk K ((cas K) 0) (pM "House" "__init__" K)
  g_Safe : mg "Safe" = some (.ref ((cas K) 1))
  s_Safe : SlX.SCls K ((cas K) 1)
  t_Safe_views : SlX.Slot1 K ((cas K) 1) "views" (pM "Safe" "views" K) 0
  m_Safe_shows : Meth K ((cas K) 1) "shows" (pM "Safe" "shows" K)
  k_Safe : Mk K ((cas K) 1) (pM "Safe" "__init__" K)
  g_State : mg "State" = some (.ref ((cas K) 2))
  s_State : SlX.SCls K ((cas K) 2)
  t_State_begun : SlX.Slot1 K ((cas K) 2) "begun" (pM "State" "begun" K) 0
  t_State_contents : SlX.Slot1 K ((cas K) 2) "contents" (pM "State" "contents" K) 1
  t_State_current : SlX.Slot1 K ((cas K) 2) "current" (pM "State" "current" K) 2
  t_State_hand : SlX.Slot1 K ((cas K) 2) "hand" (pM "State" "hand" K) 3
  t_State_house : SlX.Slot1 K ((cas K) 2) "house" (pM "State" "house" K) 4
  t_State_steps : SlX.Slot1 K ((cas K) 2) "steps" (pM "State" "steps" K) 5
  m_State_key : Meth K ((cas K) 2) "key" (pM "State" "key" K)
  m_State_moved : Meth K ((cas K) 2) "moved" (pM "State" "moved" K)
  m_State_is_stale : Meth K ((cas K) 2) "is_stale" (pM "State" "is_stale" K)
  m_State_can : Meth K ((cas K) 2) "can" (pM "State" "can" K)
  m_State_begin : Meth K ((cas K) 2) "begin" (pM "State" "begin" K)
  m_State_does : Meth K ((cas K) 2) "does" (pM "State" "does" K)
  k_State : Mk K ((cas K) 2) (pM "State" "__init__" K)
  g_Stale : mg "Stale" = some (.ref ((cas K) 3))
  s_Stale : SlX.SCls K ((cas K) 3)
  t_Stale_run : SlX.Slot1 K ((cas K) 3) "run" (pM "Stale" "run" K) 0
  m_Stale_shows : Meth K ((cas K) 3) "shows" (pM "Stale" "shows" K)
  k_Stale : Mk K ((cas K) 3) (pM "Stale" "__init__" K)
  g_Way : mg "Way" = some (.ref ((cas K) 4))
  s_Way : SlX.SCls K ((cas K) 4)
  t_Way_levels : SlX.Slot1 K ((cas K) 4) "levels" (pM "Way" "levels" K) 0
  t_Way_steps : SlX.Slot1 K ((cas K) 4) "steps" (pM "Way" "steps" K) 1
  m_Way_shows : Meth K ((cas K) 4) "shows" (pM "Way" "shows" K)
  k_Way : Mk K ((cas K) 4) (pM "Way" "__init__" K)
  g_Shut : mg "Shut" = some (.ref ((cas K) 5))
  s_Shut : SlX.SCls K ((cas K) 5)
  t_Shut_spots : SlX.Slot1 K ((cas K) 5) "spots" (pM "Shut" "spots" K) 0
  m_Shut_shows : Meth K ((cas K) 5) "shows" (pM "Shut" "shows" K)
  k_Shut : Mk K ((cas K) 5) (pM "Shut" "__init__" K)
  i_House : OwnI K (cas K) 0 [0, 1, 2, 3, 4, 5]
  i_Safe : OwnI K (cas K) 1 [0, 1, 2, 3, 4, 5]
  i_State : OwnI K (cas K) 2 [0, 1, 2, 3, 4, 5]
  i_Stale : OwnI K (cas K) 3 [0, 1, 2, 3, 4, 5]
  i_Way : OwnI K (cas K) 4 [0, 1, 2, 3, 4, 5]
  i_Shut : OwnI K (cas K) 5 [0, 1, 2, 3, 4, 5]
theorem tbd_ne {P : Program} {K : PySem.W.Frag} {mg : Str → Option Value} {base : Heap} (c : Fx P K mg base) : (He.cT K ("stale_run", none)).2 ≠ (He.cT K ("_law_houses_right", none)).2 ∧ (He.cT K ("stale_run", none)).2 ≠ (He.cT K ("_law_views_right", none)).2 ∧ (He.cT K ("stale_run", none)).2 ≠ (He.cT K ("_law_steps_right", none)).2 ∧ (He.cT K ("_law_houses_right", none)).2 ≠ (He.cT K ("_law_views_right", none)).2 ∧ (He.cT K ("_law_houses_right", none)).2 ≠ (He.cT K ("_law_steps_right", none)).2 ∧ (He.cT K ("_law_views_right", none)).2 ≠ (He.cT K ("_law_steps_right", none)).2 := by
  have h := c.tbd
  unfold tbD at h
  simp only [Bool.and_eq_true, Bool.not_eq_true', decide_eq_false_iff_not] at h
  exact ⟨h.1.1.1.1.1, h.1.1.1.1.2, h.1.1.1.2, h.1.1.2, h.1.2, h.2⟩
theorem one_stale_run {P : Program} {K : PySem.W.Frag} {mg : Str → Option Value} {base : Heap} (c : Fx P K mg base) : ∀ p ∈ (cas K).T, p.1 = (He.cT K ("stale_run", none)).2 → p.2 = (("stale_run" : Str) ++ ".<locals>.") ++ "<genexpr>" := by
  intro p hp e
  obtain ⟨n01, n02, n03, n12, n13, n23⟩ := tbd_ne c
  rcases List.mem_cons.mp hp with z | hp
  · rw [z]
  rcases List.mem_cons.mp hp with z | hp
  · rw [z] at e; exact absurd e (Ne.symm n01)
  rcases List.mem_cons.mp hp with z | hp
  · rw [z] at e; exact absurd e (Ne.symm n02)
  rcases List.mem_cons.mp hp with z | hp
  · rw [z] at e; exact absurd e (Ne.symm n03)
  cases hp
theorem one__law_houses_right {P : Program} {K : PySem.W.Frag} {mg : Str → Option Value} {base : Heap} (c : Fx P K mg base) : ∀ p ∈ (cas K).T, p.1 = (He.cT K ("_law_houses_right", none)).2 → p.2 = (("_law_houses_right" : Str) ++ ".<locals>.") ++ "<lambda>" := by
  intro p hp e
  obtain ⟨n01, n02, n03, n12, n13, n23⟩ := tbd_ne c
  rcases List.mem_cons.mp hp with z | hp
  · rw [z] at e; exact absurd e n01
  rcases List.mem_cons.mp hp with z | hp
  · rw [z]
  rcases List.mem_cons.mp hp with z | hp
  · rw [z] at e; exact absurd e (Ne.symm n12)
  rcases List.mem_cons.mp hp with z | hp
  · rw [z] at e; exact absurd e (Ne.symm n13)
  cases hp
theorem one__law_views_right {P : Program} {K : PySem.W.Frag} {mg : Str → Option Value} {base : Heap} (c : Fx P K mg base) : ∀ p ∈ (cas K).T, p.1 = (He.cT K ("_law_views_right", none)).2 → p.2 = (("_law_views_right" : Str) ++ ".<locals>.") ++ "<lambda>" := by
  intro p hp e
  obtain ⟨n01, n02, n03, n12, n13, n23⟩ := tbd_ne c
  rcases List.mem_cons.mp hp with z | hp
  · rw [z] at e; exact absurd e n02
  rcases List.mem_cons.mp hp with z | hp
  · rw [z] at e; exact absurd e n12
  rcases List.mem_cons.mp hp with z | hp
  · rw [z]
  rcases List.mem_cons.mp hp with z | hp
  · rw [z] at e; exact absurd e (Ne.symm n23)
  cases hp
theorem one__law_steps_right {P : Program} {K : PySem.W.Frag} {mg : Str → Option Value} {base : Heap} (c : Fx P K mg base) : ∀ p ∈ (cas K).T, p.1 = (He.cT K ("_law_steps_right", none)).2 → p.2 = (("_law_steps_right" : Str) ++ ".<locals>.") ++ "<lambda>" := by
  intro p hp e
  obtain ⟨n01, n02, n03, n12, n13, n23⟩ := tbd_ne c
  rcases List.mem_cons.mp hp with z | hp
  · rw [z] at e; exact absurd e n03
  rcases List.mem_cons.mp hp with z | hp
  · rw [z] at e; exact absurd e n13
  rcases List.mem_cons.mp hp with z | hp
  · rw [z] at e; exact absurd e n23
  rcases List.mem_cons.mp hp with z | hp
  · rw [z]
  cases hp
theorem sc__law_name : FnScope nmN ["_law_ask"] (defScope (tops 75)) := fnScopeB (by decide +kernel)
theorem nm_of {P : Program} {K : PySem.W.Frag} {mg : Str → Option Value} {base : Heap} (c : Fx P K mg base) : NmD K mg (fun k => (cas K) (csN k)) (pG "_law_name" K) := by
  obtain ⟨fd, F⟩ := c.d__law_name
  have hb : L2.Binds K fd ["_law_ask"] [] := F.bindsN fun _ _ _ _ _ _ us hl => match us, hl with | [_], _ => rfl
  obtain ⟨oc, od, dV, kV, doc, pm, an, cdr, ct, osl, rfl, lk, hc, _, _⟩ := F.ex
  obtain ⟨nk, hx⟩ := nmKB_ok (mg := mg) c.nmk c.g_BadHouse c.g_BadModes c.g_BadPlan c.g_BadStep c.g_BadView ⟨c.b_isinstance, c.b_len, c.b_zip, c.b_str, c.b_ValueError⟩
  refine ⟨oc, cdr, dV, kV, doc, pm, ct, od, an, defArgs (tops 75), defBody (tops 75), defScope (tops 75), ?sc, osl, _, lk, hc, c.h__law_name, hb, sc__law_name, ?b, nk, ?s, rfl, .inl rfl, c.g_ShelfError, hx⟩
  case b =>
    refine NmBd.mk ?line
    rfl
  case s => exact nmS_by (by kernel_rfl)
/-! is_mode -/
def n_is_mode : List Str := ["value", "word"]
theorem sc_is_mode : FnScope n_is_mode ["value"] (defScope (tops 19)) := fnScopeB (by decide +kernel)
def m_is_mode : MS := (mRet (andM (mIsi (mV 0) (.ty .tuple)) (andM (mB1 (g1 (b1A .all)) (mLc [1] (mtN 1) (miOf (mV 0)) mYes (mIsi (mV 1) (.ty .str)))) (mCmp .In (mV 0) (mC v_MODES)))))
def f_is_mode : Fn := fnM 1 2 m_is_mode
theorem b_is_mode {P : Program} {w : World} {K : PySem.W.Frag} {mg : Str → Option Value} {base : Heap} (c : Fx P K mg base) (cdv : Value) (A : Around) (outer : List Env) (s : Shared) (H : Hp) (E : XK) (hr : Room 0 (A.deeper (envOfC "is_mode" (defScope (tops 19)) s.heap.objs.size ((pG "is_mode") K) cdv))) :
    SimSs (cxOf (L2N.CX P w) P w K mg base n_is_mode "is_mode" (defScope (tops 19)) ((pG "is_mode") K) cdv A outer s H E) ⟨P, w, K, cas K, E⟩ (defBody (tops 19)) m_is_mode := by
  have c1 : CF (cxOf (L2N.CX P w) P w K mg base n_is_mode "is_mode" (defScope (tops 19)) ((pG "is_mode") K) cdv A outer s H E) E 0 := ⟨rfl, hr, L2N.takes_of rfl rfl rfl rfl, sc_is_mode.nd⟩
  have po : PassesOwn (model P w) (cxOf (L2N.CX P w) P w K mg base n_is_mode "is_mode" (defScope (tops 19)) ((pG "is_mode") K) cdv A outer s H E).A (cxOf (L2N.CX P w) P w K mg base n_is_mode "is_mode" (defScope (tops 19)) ((pG "is_mode") K) cdv A outer s H E).env (cxOf (L2N.CX P w) P w K mg base n_is_mode "is_mode" (defScope (tops 19)) ((pG "is_mode") K) cdv A outer s H E).xe := passes_of rfl
  exact (sims_one (sims_ret (sim_and (gIsi1 .tuple c.b_isinstance c.b_tuple bt_tuple (gV 0)) (sim_and (gAll c1 c.b_all (gLc c1 [("word", 1)] (simi_of (gV 0)) (fun s1 H1 C1 l1 q1 => (uN (c1.blk s1 H1 _ _ q1) 1)) (fun s2 H2 C2 l2 q2 => simts_nil) (fun s3 H3 C3 l3 q3 => (gIsi1 .str c.b_isinstance c.b_str bt_str (gV 1))))) (sim_one (gCmp c1 (gV 0) (gG c.v_MODES)))))))
theorem k_is_mode {P : Program} {w : World} {K : PySem.W.Frag} {mg : Str → Option Value} {base : Heap} (c : Fx P K mg base) : FnW P w K mg base (cas K) 1 f_is_mode ((pG "is_mode") K) := by
  obtain ⟨fd, F⟩ := c.d_is_mode
  exact fn_sim (ps := ["value"]) F sc_is_mode (F.bindsN fun _ _ _ _ _ _ us hl => match us, hl with | [_], _ => rfl) (b_is_mode c)
/-! are_modes -/
def n_are_modes : List Str := ["value", "many", "mode"]
theorem sc_are_modes : FnScope n_are_modes ["value", "many"] (defScope (tops 20)) := fnScopeB (by decide +kernel)
def m_are_modes : MS := (mRet (andM (mIsi (mV 0) (.ty .tuple)) (andM (mCmp .Eq (mB1 (g1 lenA) (mV 0)) (mV 1)) (mB1 (g1 (b1A .all)) (mLc [2] (mtN 2) (miOf (mV 0)) mYes (mCall f_is_mode (aC (mV 2) a0)))))))
def f_are_modes : Fn := fnM 2 3 m_are_modes
theorem b_are_modes {P : Program} {w : World} {K : PySem.W.Frag} {mg : Str → Option Value} {base : Heap} (c : Fx P K mg base) (cdv : Value) (A : Around) (outer : List Env) (s : Shared) (H : Hp) (E : XK) (hr : Room 1 (A.deeper (envOfC "are_modes" (defScope (tops 20)) s.heap.objs.size ((pG "are_modes") K) cdv))) :
    SimSs (cxOf (L2N.CX P w) P w K mg base n_are_modes "are_modes" (defScope (tops 20)) ((pG "are_modes") K) cdv A outer s H E) ⟨P, w, K, cas K, E⟩ (defBody (tops 20)) m_are_modes := by
  have c1 : CF (cxOf (L2N.CX P w) P w K mg base n_are_modes "are_modes" (defScope (tops 20)) ((pG "are_modes") K) cdv A outer s H E) E 1 := ⟨rfl, hr, L2N.takes_of rfl rfl rfl rfl, sc_are_modes.nd⟩
  have po : PassesOwn (model P w) (cxOf (L2N.CX P w) P w K mg base n_are_modes "are_modes" (defScope (tops 20)) ((pG "are_modes") K) cdv A outer s H E).A (cxOf (L2N.CX P w) P w K mg base n_are_modes "are_modes" (defScope (tops 20)) ((pG "are_modes") K) cdv A outer s H E).env (cxOf (L2N.CX P w) P w K mg base n_are_modes "are_modes" (defScope (tops 20)) ((pG "are_modes") K) cdv A outer s H E).xe := passes_of rfl
  exact (sims_one (sims_ret (sim_and (gIsi1 .tuple c.b_isinstance c.b_tuple bt_tuple (gV 0)) (sim_and (gCmp c1 (gLen c.b_len (gV 0)) (gV 1)) (sim_one (gAll c1 c.b_all (gLc c1 [("mode", 2)] (simi_of (gV 0)) (fun s1 H1 C1 l1 q1 => (uN (c1.blk s1 H1 _ _ q1) 2)) (fun s2 H2 C2 l2 q2 => simts_nil) (fun s3 H3 C3 l3 q3 => (gCall (c1.blk s3 H3 _ _ q3) c.g_is_mode c.h_is_mode (k_is_mode c) (gA (gV 2) g0))))))))))
theorem k_are_modes {P : Program} {w : World} {K : PySem.W.Frag} {mg : Str → Option Value} {base : Heap} (c : Fx P K mg base) : FnW P w K mg base (cas K) 2 f_are_modes ((pG "are_modes") K) := by
  obtain ⟨fd, F⟩ := c.d_are_modes
  exact fn_sim (ps := ["value", "many"]) F sc_are_modes (F.bindsN fun _ _ _ _ _ _ us hl => match us, hl with | [_, _], _ => rfl) (b_are_modes c)
/-! is_integer -/
def n_is_integer : List Str := ["value", "low", "high"]
theorem sc_is_integer : FnScope n_is_integer ["value", "low", "high"] (defScope (tops 18)) := fnScopeB (by decide +kernel)
def m_is_integer : MS := (mRet (andM (mIsi (mV 0) (.ty .int)) (andM (mNot (mIsi (mV 0) (.ty .bool))) (mChn .LtE .LtE (mV 1) (mV 0) (mV 2)))))
def f_is_integer : Fn := fnM 3 3 m_is_integer
theorem b_is_integer {P : Program} {w : World} {K : PySem.W.Frag} {mg : Str → Option Value} {base : Heap} (c : Fx P K mg base) (cdv : Value) (A : Around) (outer : List Env) (s : Shared) (H : Hp) (E : XK) (hr : Room 0 (A.deeper (envOfC "is_integer" (defScope (tops 18)) s.heap.objs.size ((pG "is_integer") K) cdv))) :
    SimSs (cxOf (L2N.CX P w) P w K mg base n_is_integer "is_integer" (defScope (tops 18)) ((pG "is_integer") K) cdv A outer s H E) ⟨P, w, K, cas K, E⟩ (defBody (tops 18)) m_is_integer := by
  have c1 : CF (cxOf (L2N.CX P w) P w K mg base n_is_integer "is_integer" (defScope (tops 18)) ((pG "is_integer") K) cdv A outer s H E) E 0 := ⟨rfl, hr, L2N.takes_of rfl rfl rfl rfl, sc_is_integer.nd⟩
  have po : PassesOwn (model P w) (cxOf (L2N.CX P w) P w K mg base n_is_integer "is_integer" (defScope (tops 18)) ((pG "is_integer") K) cdv A outer s H E).A (cxOf (L2N.CX P w) P w K mg base n_is_integer "is_integer" (defScope (tops 18)) ((pG "is_integer") K) cdv A outer s H E).env (cxOf (L2N.CX P w) P w K mg base n_is_integer "is_integer" (defScope (tops 18)) ((pG "is_integer") K) cdv A outer s H E).xe := passes_of rfl
  exact (sims_one (sims_ret (sim_and (gIsi1 .int c.b_isinstance c.b_int bt_int (gV 0)) (sim_and (gNot (gIsi1 .bool c.b_isinstance c.b_bool bt_bool (gV 0))) (sim_one (gChn c1 (gV 1) (gV 0) (gV 2)))))))
theorem k_is_integer {P : Program} {w : World} {K : PySem.W.Frag} {mg : Str → Option Value} {base : Heap} (c : Fx P K mg base) : FnW P w K mg base (cas K) 1 f_is_integer ((pG "is_integer") K) := by
  obtain ⟨fd, F⟩ := c.d_is_integer
  exact fn_sim (ps := ["value", "low", "high"]) F sc_is_integer (F.bindsN fun _ _ _ _ _ _ us hl => match us, hl with | [_, _, _], _ => rfl) (b_is_integer c)
/-! House.__init__ -/
def n_House___init__ : List Str := ["self", "modes", "copier", "prices", "price"]
theorem sc_House___init__ : FnScope n_House___init__ ["self", "modes", "copier", "prices"] (defScope (meths 21 1)) := fnScopeB (by decide +kernel)
def m_House___init__ : MS := (mSeq (mIf (orM (mNot (mIsi (mV 1) (.ty .tuple))) (orM (mNot (mChn .LtE .LtE (mC (.int 1)) (mB1 (g1 lenA) (mV 1)) (mC v_MAX_SERVERS))) (mNot (mCall f_are_modes (aC (mV 1) (aC (mB1 (g1 lenA) (mV 1)) a0)))))) (mRaise 6 "part" (mC (.str "MODES"))) mNx)
  (mSeq (mIf (orM (mNot (mIsi (mV 2) (.ty .str))) (mCmp .NotIn (mV 2) (mC v_COPIERS))) (mRaise 6 "part" (mC (.str "COPIER"))) mNx)
  (mSeq (mIf (orM (mNot (mIsi (mV 3) (.ty .tuple))) (mCmp .NotEq (mB1 (g1 lenA) (mV 3)) (mC (.int 2)))) (mRaise 6 "part" (mC (.str "PRICES"))) mNx)
  (mSeq (mIf (mNot (mB1 (g1 (b1A .all)) (mLc [4] (mtN 4) (miOf (mV 3)) mYes (mCall f_is_integer (aC (mV 4) (aC (mC (.int 1)) (aC (mC v_MAX_PRICE) a0))))))) (mRaise 6 "part" (mC (.str "PRICES"))) mNx)
  (mSeq (mAtt (mV 0) [(0, 2)] (mV 1))
  (mSeq (mAtt (mV 0) [(0, 0)] (mV 2))
  (mAtt (mV 0) [(0, 1)] (mV 3))))))))
def f_House___init__ : Fn := fnM 4 5 m_House___init__
theorem b_House___init__ {P : Program} {w : World} {K : PySem.W.Frag} {mg : Str → Option Value} {base : Heap} (c : Fx P K mg base) (cdv : Value) (A : Around) (outer : List Env) (s : Shared) (H : Hp) (E : XK) (hr : Room 2 (A.deeper (envOfC "House.__init__" (defScope (meths 21 1)) s.heap.objs.size ((pM "House" "__init__") K) cdv))) :
    SimSs (cxOf (L2N.CX P w) P w K mg base n_House___init__ "House.__init__" (defScope (meths 21 1)) ((pM "House" "__init__") K) cdv A outer s H E) ⟨P, w, K, cas K, E⟩ (defBody (meths 21 1)) m_House___init__ := by
  obtain ⟨fdX, SX, BX⟩ := c.x_BadHouse.fn
  have c1 : CF (cxOf (L2N.CX P w) P w K mg base n_House___init__ "House.__init__" (defScope (meths 21 1)) ((pM "House" "__init__") K) cdv A outer s H E) E 2 := ⟨rfl, hr, L2N.takes_of rfl rfl rfl rfl, sc_House___init__.nd⟩
  have po : PassesOwn (model P w) (cxOf (L2N.CX P w) P w K mg base n_House___init__ "House.__init__" (defScope (meths 21 1)) ((pM "House" "__init__") K) cdv A outer s H E).A (cxOf (L2N.CX P w) P w K mg base n_House___init__ "House.__init__" (defScope (meths 21 1)) ((pM "House" "__init__") K) cdv A outer s H E).env (cxOf (L2N.CX P w) P w K mg base n_House___init__ "House.__init__" (defScope (meths 21 1)) ((pM "House" "__init__") K) cdv A outer s H E).xe := passes_of rfl
  exact (sims_cons (sims_if (tOr (tNot (tV (gIsi1 .tuple c.b_isinstance c.b_tuple bt_tuple (gV 1)))) (simw_or (tNot (tChn c1 gI (gLen c.b_len (gV 1)) (gG c.v_MAX_SERVERS))) (simw_one (tNot (tV (gCall c1 c.g_are_modes c.h_are_modes (k_are_modes c) (gA (gV 1) (gA (gLen c.b_len (gV 1)) g0)))))))) (sims_one (sims_raise (c := 6) (f := "part") c1 SX c.x_BadHouse.ini c.x_BadHouse.ty BX c.g_BadHouse gS)) sims_nil)
  (sims_cons (sims_if (tOr (tNot (tV (gIsi1 .str c.b_isinstance c.b_str bt_str (gV 2)))) (simw_one (tCmp c1 (gV 2) (gG c.v_COPIERS)))) (sims_one (sims_raise (c := 6) (f := "part") c1 SX c.x_BadHouse.ini c.x_BadHouse.ty BX c.g_BadHouse gS)) sims_nil)
  (sims_cons (sims_if (tOr (tNot (tV (gIsi1 .tuple c.b_isinstance c.b_tuple bt_tuple (gV 3)))) (simw_one (tCmp c1 (gLen c.b_len (gV 3)) gI))) (sims_one (sims_raise (c := 6) (f := "part") c1 SX c.x_BadHouse.ini c.x_BadHouse.ty BX c.g_BadHouse gS)) sims_nil)
  (sims_cons (sims_if (tNot (tV (gAll c1 c.b_all (gLc c1 [("price", 4)] (simi_of (gV 3)) (fun s1 H1 C1 l1 q1 => (uN (c1.blk s1 H1 _ _ q1) 4)) (fun s2 H2 C2 l2 q2 => simts_nil) (fun s3 H3 C3 l3 q3 => (gCall (c1.blk s3 H3 _ _ q3) c.g_is_integer c.h_is_integer (k_is_integer c) (gA (gV 4) (gA gI (gA (gG c.v_MAX_PRICE) g0))))))))) (sims_one (sims_raise (c := 6) (f := "part") c1 SX c.x_BadHouse.ini c.x_BadHouse.ty BX c.g_BadHouse gS)) sims_nil)
  (sims_cons (xAtt (k := 0) c.s_House c.t_House_first (gV 0) (gV 1))
  (sims_cons (xAtt (k := 0) c.s_House c.t_House_copies (gV 0) (gV 2))
  (sims_one (xAtt (k := 0) c.s_House c.t_House_costs (gV 0) (gV 3)))))))))
theorem k_House___init__ {P : Program} {w : World} {K : PySem.W.Frag} {mg : Str → Option Value} {base : Heap} (c : Fx P K mg base) : FnW P w K mg base (cas K) 3 f_House___init__ ((pM "House" "__init__") K) := by
  obtain ⟨fd, F⟩ := c.d_House___init__
  exact fn_sim (ps := ["self", "modes", "copier", "prices"]) F sc_House___init__ (F.bindsN fun _ _ _ _ _ _ us hl => match us, hl with | [_, _, _, _], _ => rfl) (b_House___init__ c)
/-! check_house -/
def n_check_house : List Str := ["house"]
theorem sc_check_house : FnScope n_check_house ["house"] (defScope (tops 22)) := fnScopeB (by decide +kernel)
def m_check_house : MS := (mIf (mNot (mIsi (mV 0) (.own 0 [0, 1, 2, 3, 4, 5]))) (mRaise 6 "part" (mC .non)) mNx)
def f_check_house : Fn := fnM 1 1 m_check_house
theorem b_check_house {P : Program} {w : World} {K : PySem.W.Frag} {mg : Str → Option Value} {base : Heap} (c : Fx P K mg base) (cdv : Value) (A : Around) (outer : List Env) (s : Shared) (H : Hp) (E : XK) (hr : Room 1 (A.deeper (envOfC "check_house" (defScope (tops 22)) s.heap.objs.size ((pG "check_house") K) cdv))) :
    SimSs (cxOf (L2N.CX P w) P w K mg base n_check_house "check_house" (defScope (tops 22)) ((pG "check_house") K) cdv A outer s H E) ⟨P, w, K, cas K, E⟩ (defBody (tops 22)) m_check_house := by
  obtain ⟨fdX, SX, BX⟩ := c.x_BadHouse.fn
  have c1 : CF (cxOf (L2N.CX P w) P w K mg base n_check_house "check_house" (defScope (tops 22)) ((pG "check_house") K) cdv A outer s H E) E 1 := ⟨rfl, hr, L2N.takes_of rfl rfl rfl rfl, sc_check_house.nd⟩
  have po : PassesOwn (model P w) (cxOf (L2N.CX P w) P w K mg base n_check_house "check_house" (defScope (tops 22)) ((pG "check_house") K) cdv A outer s H E).A (cxOf (L2N.CX P w) P w K mg base n_check_house "check_house" (defScope (tops 22)) ((pG "check_house") K) cdv A outer s H E).env (cxOf (L2N.CX P w) P w K mg base n_check_house "check_house" (defScope (tops 22)) ((pG "check_house") K) cdv A outer s H E).xe := passes_of rfl
  exact (sims_one (sims_if (tNot (tV (gIsiO c.b_isinstance ⟨(c.i_House).1, (c.i_House).2⟩ c.g_House (gV 0)))) (sims_one (sims_raise (c := 6) (f := "part") c1 SX c.x_BadHouse.ini c.x_BadHouse.ty BX c.g_BadHouse gN)) sims_nil))
theorem k_check_house {P : Program} {w : World} {K : PySem.W.Frag} {mg : Str → Option Value} {base : Heap} (c : Fx P K mg base) : FnW P w K mg base (cas K) 2 f_check_house ((pG "check_house") K) := by
  obtain ⟨fd, F⟩ := c.d_check_house
  exact fn_sim (ps := ["house"]) F sc_check_house (F.bindsN fun _ _ _ _ _ _ us hl => match us, hl with | [_], _ => rfl) (b_check_house c)
/-! House.__len__ -/
def n_House___len__ : List Str := ["self"]
theorem sc_House___len__ : FnScope n_House___len__ ["self"] (defScope (meths 21 2)) := fnScopeB (by decide +kernel)
def m_House___len__ : MS := (mRet (mB1 (g1 lenA) (mAttr (mV 0) [(0, 2)])))
def f_House___len__ : Fn := fnM 1 1 m_House___len__
theorem b_House___len__ {P : Program} {w : World} {K : PySem.W.Frag} {mg : Str → Option Value} {base : Heap} (c : Fx P K mg base) (cdv : Value) (A : Around) (outer : List Env) (s : Shared) (H : Hp) (E : XK) (hr : Room 0 (A.deeper (envOfC "House.__len__" (defScope (meths 21 2)) s.heap.objs.size ((pM "House" "__len__") K) cdv))) :
    SimSs (cxOf (L2N.CX P w) P w K mg base n_House___len__ "House.__len__" (defScope (meths 21 2)) ((pM "House" "__len__") K) cdv A outer s H E) ⟨P, w, K, cas K, E⟩ (defBody (meths 21 2)) m_House___len__ := by
  have c1 : CF (cxOf (L2N.CX P w) P w K mg base n_House___len__ "House.__len__" (defScope (meths 21 2)) ((pM "House" "__len__") K) cdv A outer s H E) E 0 := ⟨rfl, hr, L2N.takes_of rfl rfl rfl rfl, sc_House___len__.nd⟩
  have po : PassesOwn (model P w) (cxOf (L2N.CX P w) P w K mg base n_House___len__ "House.__len__" (defScope (meths 21 2)) ((pM "House" "__len__") K) cdv A outer s H E).A (cxOf (L2N.CX P w) P w K mg base n_House___len__ "House.__len__" (defScope (meths 21 2)) ((pM "House" "__len__") K) cdv A outer s H E).env (cxOf (L2N.CX P w) P w K mg base n_House___len__ "House.__len__" (defScope (meths 21 2)) ((pM "House" "__len__") K) cdv A outer s H E).xe := passes_of rfl
  exact (sims_one (sims_ret (gLen c.b_len (gAtt (k := 0) c.s_House c.t_House_first (gV 0)))))
theorem k_House___len__ {P : Program} {w : World} {K : PySem.W.Frag} {mg : Str → Option Value} {base : Heap} (c : Fx P K mg base) : FnW P w K mg base (cas K) 1 f_House___len__ ((pM "House" "__len__") K) := by
  obtain ⟨fd, F⟩ := c.d_House___len__
  exact fn_sim (ps := ["self"]) F sc_House___len__ (F.bindsN fun _ _ _ _ _ _ us hl => match us, hl with | [_], _ => rfl) (b_House___len__ c)
/-! check_modes -/
def n_check_modes : List Str := ["house", "modes"]
theorem sc_check_modes : FnScope n_check_modes ["house", "modes"] (defScope (tops 23)) := fnScopeB (by decide +kernel)
def m_check_modes : MS := (mSeq (mEx (mCall f_check_house (aC (mV 0) a0)))
  (mIf (mNot (mCall f_are_modes (aC (mV 1) (aC (mLenO (tab1 f_House___len__) (mV 0) [(0, 0)]) a0)))) (mRaise0 7) mNx))
def f_check_modes : Fn := fnM 2 2 m_check_modes
theorem b_check_modes {P : Program} {w : World} {K : PySem.W.Frag} {mg : Str → Option Value} {base : Heap} (c : Fx P K mg base) (cdv : Value) (A : Around) (outer : List Env) (s : Shared) (H : Hp) (E : XK) (hr : Room 2 (A.deeper (envOfC "check_modes" (defScope (tops 23)) s.heap.objs.size ((pG "check_modes") K) cdv))) :
    SimSs (cxOf (L2N.CX P w) P w K mg base n_check_modes "check_modes" (defScope (tops 23)) ((pG "check_modes") K) cdv A outer s H E) ⟨P, w, K, cas K, E⟩ (defBody (tops 23)) m_check_modes := by
  have c1 : CF (cxOf (L2N.CX P w) P w K mg base n_check_modes "check_modes" (defScope (tops 23)) ((pG "check_modes") K) cdv A outer s H E) E 2 := ⟨rfl, hr, L2N.takes_of rfl rfl rfl rfl, sc_check_modes.nd⟩
  have po : PassesOwn (model P w) (cxOf (L2N.CX P w) P w K mg base n_check_modes "check_modes" (defScope (tops 23)) ((pG "check_modes") K) cdv A outer s H E).A (cxOf (L2N.CX P w) P w K mg base n_check_modes "check_modes" (defScope (tops 23)) ((pG "check_modes") K) cdv A outer s H E).env (cxOf (L2N.CX P w) P w K mg base n_check_modes "check_modes" (defScope (tops 23)) ((pG "check_modes") K) cdv A outer s H E).xe := passes_of rfl
  exact (sims_cons (xEx (gCall c1 c.g_check_house c.h_check_house (k_check_house c) (gA (gV 0) g0)))
  (sims_one (sims_if (tNot (tV (gCall c1 c.g_are_modes c.h_are_modes (k_are_modes c) (gA (gV 1) (gA (gLenO (k := 0) c1 c.b_len c.s_House c.m_House___len__ (k_House___len__ c) (gV 0)) g0))))) (sims_one (sims_raise0 (c := 7) c1 c.x_BadModes c.g_BadModes)) sims_nil)))
theorem k_check_modes {P : Program} {w : World} {K : PySem.W.Frag} {mg : Str → Option Value} {base : Heap} (c : Fx P K mg base) : FnW P w K mg base (cas K) 3 f_check_modes ((pG "check_modes") K) := by
  obtain ⟨fd, F⟩ := c.d_check_modes
  exact fn_sim (ps := ["house", "modes"]) F sc_check_modes (F.bindsN fun _ _ _ _ _ _ us hl => match us, hl with | [_, _], _ => rfl) (b_check_modes c)
/-! is_view -/
def n_is_view : List Str := ["value", "one", "word", "other"]
theorem sc_is_view : FnScope n_is_view ["value"] (defScope (tops 46)) := fnScopeB (by decide +kernel)
def m_is_view : MS := (mSeq (mIf (orM (mNot (mIsi (mV 0) (.ty .tuple))) (orM (mEq0 (mV 0)) (mNot (mB1 (g1 (b1A .all)) (mLc [1] (mtN 1) (miOf (mV 0)) mYes (mIsi (mV 1) (.ty .tuple))))))) (mRet (mC (.bl false))) mNx)
  (mSeq (mIf (mNot (mB1 (g1 (b1A .all)) (mLc2 [1, 2] [2] (mtN 1) (miOf (mV 0)) (miOf (mV 1)) (mtN 2) mYes (mIsi (mV 2) (.ty .str))))) (mRet (mC (.bl false))) mNx)
  (mRet (andM (mB1 (g1 (b1A .all)) (mLc [1] (mtN 1) (miOf (mV 0)) mYes (mCmp .In (mV 1) (mC v_CONTENTS)))) (mB1 (g1 (b1A .all)) (mLc [1, 3] (mtT (mtC (mtN 1) (mtC (mtN 3) mt0))) (miZp (mV 0) (mSl (mV 0) (oS (mC (.int 1))) oN)) mYes (mCmp .Lt (mV 1) (mV 3))))))))
def f_is_view : Fn := fnM 1 4 m_is_view
theorem b_is_view {P : Program} {w : World} {K : PySem.W.Frag} {mg : Str → Option Value} {base : Heap} (c : Fx P K mg base) (cdv : Value) (A : Around) (outer : List Env) (s : Shared) (H : Hp) (E : XK) (hr : Room 0 (A.deeper (envOfC "is_view" (defScope (tops 46)) s.heap.objs.size ((pG "is_view") K) cdv))) :
    SimSs (cxOf (L2N.CX P w) P w K mg base n_is_view "is_view" (defScope (tops 46)) ((pG "is_view") K) cdv A outer s H E) ⟨P, w, K, cas K, E⟩ (defBody (tops 46)) m_is_view := by
  have c1 : CF (cxOf (L2N.CX P w) P w K mg base n_is_view "is_view" (defScope (tops 46)) ((pG "is_view") K) cdv A outer s H E) E 0 := ⟨rfl, hr, L2N.takes_of rfl rfl rfl rfl, sc_is_view.nd⟩
  have po : PassesOwn (model P w) (cxOf (L2N.CX P w) P w K mg base n_is_view "is_view" (defScope (tops 46)) ((pG "is_view") K) cdv A outer s H E).A (cxOf (L2N.CX P w) P w K mg base n_is_view "is_view" (defScope (tops 46)) ((pG "is_view") K) cdv A outer s H E).env (cxOf (L2N.CX P w) P w K mg base n_is_view "is_view" (defScope (tops 46)) ((pG "is_view") K) cdv A outer s H E).xe := passes_of rfl
  exact (sims_cons (sims_if (tOr (tNot (tV (gIsi1 .tuple c.b_isinstance c.b_tuple bt_tuple (gV 0)))) (simw_or (tEq0 c1 (gV 0)) (simw_one (tNot (tV (gAll c1 c.b_all (gLc c1 [("one", 1)] (simi_of (gV 0)) (fun s1 H1 C1 l1 q1 => (uN (c1.blk s1 H1 _ _ q1) 1)) (fun s2 H2 C2 l2 q2 => simts_nil) (fun s3 H3 C3 l3 q3 => (gIsi1 .tuple c.b_isinstance c.b_tuple bt_tuple (gV 1)))))))))) (sims_one (sims_ret gB)) sims_nil)
  (sims_cons (sims_if (tNot (tV (gAll c1 c.b_all (gLc2 c1 [("one", 1), ("word", 2)] [2] (simi_of (gV 0)) (fun s4 H4 C4 l4 q4 => (uN (c1.blk s4 H4 _ _ q4) 1)) (fun s5 H5 C5 l5 q5 => (simi_of (gV 1))) (fun s6 H6 C6 l6 q6 => (uN (c1.blk s6 H6 _ _ q6) 2)) (fun s7 H7 C7 l7 q7 => simts_nil) (fun s8 H8 C8 l8 q8 => (gIsi1 .str c.b_isinstance c.b_str bt_str (gV 2))))))) (sims_one (sims_ret gB)) sims_nil)
  (sims_one (sims_ret (sim_and (gAll c1 c.b_all (gLc c1 [("one", 1)] (simi_of (gV 0)) (fun s9 H9 C9 l9 q9 => (uN (c1.blk s9 H9 _ _ q9) 1)) (fun s10 H10 C10 l10 q10 => simts_nil) (fun s11 H11 C11 l11 q11 => (gCmp (c1.blk s11 H11 _ _ q11) (gV 1) (gG c.v_CONTENTS))))) (sim_one (gAll c1 c.b_all (gLc c1 [("one", 1), ("other", 3)] (iZp c.b_zip (gV 0) (gSl (gV 0) (goS gI) goN)) (fun s12 H12 C12 l12 q12 => (uT (c1.blk s12 H12 _ _ q12) (uC (uN (c1.blk s12 H12 _ _ q12) 1) (uC (uN (c1.blk s12 H12 _ _ q12) 3) u0)) (mtC_len (mtC_len mt0_len)))) (fun s13 H13 C13 l13 q13 => simts_nil) (fun s14 H14 C14 l14 q14 => (gCmp (c1.blk s14 H14 _ _ q14) (gV 1) (gV 3)))))))))))
theorem k_is_view {P : Program} {w : World} {K : PySem.W.Frag} {mg : Str → Option Value} {base : Heap} (c : Fx P K mg base) : FnW P w K mg base (cas K) 1 f_is_view ((pG "is_view") K) := by
  obtain ⟨fd, F⟩ := c.d_is_view
  exact fn_sim (ps := ["value"]) F sc_is_view (F.bindsN fun _ _ _ _ _ _ us hl => match us, hl with | [_], _ => rfl) (b_is_view c)
/-! check_view -/
def n_check_view : List Str := ["house", "modes", "view"]
theorem sc_check_view : FnScope n_check_view ["house", "modes", "view"] (defScope (tops 47)) := fnScopeB (by decide +kernel)
def m_check_view : MS := (mSeq (mEx (mCall f_check_modes (aC (mV 0) (aC (mV 1) a0))))
  (mIf (mNot (mCall f_is_view (aC (mV 2) a0))) (mRaise0 10) mNx))
def f_check_view : Fn := fnM 3 3 m_check_view
theorem b_check_view {P : Program} {w : World} {K : PySem.W.Frag} {mg : Str → Option Value} {base : Heap} (c : Fx P K mg base) (cdv : Value) (A : Around) (outer : List Env) (s : Shared) (H : Hp) (E : XK) (hr : Room 3 (A.deeper (envOfC "check_view" (defScope (tops 47)) s.heap.objs.size ((pG "check_view") K) cdv))) :
    SimSs (cxOf (L2N.CX P w) P w K mg base n_check_view "check_view" (defScope (tops 47)) ((pG "check_view") K) cdv A outer s H E) ⟨P, w, K, cas K, E⟩ (defBody (tops 47)) m_check_view := by
  have c1 : CF (cxOf (L2N.CX P w) P w K mg base n_check_view "check_view" (defScope (tops 47)) ((pG "check_view") K) cdv A outer s H E) E 3 := ⟨rfl, hr, L2N.takes_of rfl rfl rfl rfl, sc_check_view.nd⟩
  have po : PassesOwn (model P w) (cxOf (L2N.CX P w) P w K mg base n_check_view "check_view" (defScope (tops 47)) ((pG "check_view") K) cdv A outer s H E).A (cxOf (L2N.CX P w) P w K mg base n_check_view "check_view" (defScope (tops 47)) ((pG "check_view") K) cdv A outer s H E).env (cxOf (L2N.CX P w) P w K mg base n_check_view "check_view" (defScope (tops 47)) ((pG "check_view") K) cdv A outer s H E).xe := passes_of rfl
  exact (sims_cons (xEx (gCall c1 c.g_check_modes c.h_check_modes (k_check_modes c) (gA (gV 0) (gA (gV 1) g0))))
  (sims_one (sims_if (tNot (tV (gCall c1 c.g_is_view c.h_is_view (k_is_view c) (gA (gV 2) g0)))) (sims_one (sims_raise0 (c := 10) c1 c.x_BadView c.g_BadView)) sims_nil)))
theorem k_check_view {P : Program} {w : World} {K : PySem.W.Frag} {mg : Str → Option Value} {base : Heap} (c : Fx P K mg base) : FnW P w K mg base (cas K) 4 f_check_view ((pG "check_view") K) := by
  obtain ⟨fd, F⟩ := c.d_check_view
  exact fn_sim (ps := ["house", "modes", "view"]) F sc_check_view (F.bindsN fun _ _ _ _ _ _ us hl => match us, hl with | [_, _, _], _ => rfl) (b_check_view c)
/-! aged -/
def n_aged : List Str := ["word"]
theorem sc_aged : FnScope n_aged ["word"] (defScope (tops 36)) := fnScopeB (by decide +kernel)
def m_aged : MS := (mRet (mIte (mCmp .Eq (mV 0) (mC v_FRESH)) (mC v_STALE) (mV 0)))
def f_aged : Fn := fnM 1 1 m_aged
theorem b_aged {P : Program} {w : World} {K : PySem.W.Frag} {mg : Str → Option Value} {base : Heap} (c : Fx P K mg base) (cdv : Value) (A : Around) (outer : List Env) (s : Shared) (H : Hp) (E : XK) (hr : Room 0 (A.deeper (envOfC "aged" (defScope (tops 36)) s.heap.objs.size ((pG "aged") K) cdv))) :
    SimSs (cxOf (L2N.CX P w) P w K mg base n_aged "aged" (defScope (tops 36)) ((pG "aged") K) cdv A outer s H E) ⟨P, w, K, cas K, E⟩ (defBody (tops 36)) m_aged := by
  have c1 : CF (cxOf (L2N.CX P w) P w K mg base n_aged "aged" (defScope (tops 36)) ((pG "aged") K) cdv A outer s H E) E 0 := ⟨rfl, hr, L2N.takes_of rfl rfl rfl rfl, sc_aged.nd⟩
  have po : PassesOwn (model P w) (cxOf (L2N.CX P w) P w K mg base n_aged "aged" (defScope (tops 36)) ((pG "aged") K) cdv A outer s H E).A (cxOf (L2N.CX P w) P w K mg base n_aged "aged" (defScope (tops 36)) ((pG "aged") K) cdv A outer s H E).env (cxOf (L2N.CX P w) P w K mg base n_aged "aged" (defScope (tops 36)) ((pG "aged") K) cdv A outer s H E).xe := passes_of rfl
  exact (sims_one (sims_ret (gIte (tCmp c1 (gV 0) (gG c.v_FRESH)) (gG c.v_STALE) (gV 0))))
theorem k_aged {P : Program} {w : World} {K : PySem.W.Frag} {mg : Str → Option Value} {base : Heap} (c : Fx P K mg base) : FnW P w K mg base (cas K) 1 f_aged ((pG "aged") K) := by
  obtain ⟨fd, F⟩ := c.d_aged
  exact fn_sim (ps := ["word"]) F sc_aged (F.bindsN fun _ _ _ _ _ _ us hl => match us, hl with | [_], _ => rfl) (b_aged c)
/-! written -/
def n_written : List Str := ["contents", "writes", "old", "new"]
theorem sc_written : FnScope n_written ["contents", "writes"] (defScope (tops 37)) := fnScopeB (by decide +kernel)
def m_written : MS := (mSeq (mAs (mtT (mtC (mtN 2) (mtC (mtN 3) mt0))) (mV 0))
  (mSeq (mIf (mCmp .Eq (mV 1) (mC v_BOTH)) (mRet (mTup (aC (mC v_FRESH) (aC (mC v_FRESH) a0)))) mNx)
  (mRet (mIte (mCmp .Eq (mV 1) (mC v_OLD)) (mTup (aC (mC v_FRESH) (aC (mCall f_aged (aC (mV 3) a0)) a0))) (mTup (aC (mC v_STALE) (aC (mC v_FRESH) a0)))))))
def f_written : Fn := fnM 2 4 m_written
theorem b_written {P : Program} {w : World} {K : PySem.W.Frag} {mg : Str → Option Value} {base : Heap} (c : Fx P K mg base) (cdv : Value) (A : Around) (outer : List Env) (s : Shared) (H : Hp) (E : XK) (hr : Room 1 (A.deeper (envOfC "written" (defScope (tops 37)) s.heap.objs.size ((pG "written") K) cdv))) :
    SimSs (cxOf (L2N.CX P w) P w K mg base n_written "written" (defScope (tops 37)) ((pG "written") K) cdv A outer s H E) ⟨P, w, K, cas K, E⟩ (defBody (tops 37)) m_written := by
  have c1 : CF (cxOf (L2N.CX P w) P w K mg base n_written "written" (defScope (tops 37)) ((pG "written") K) cdv A outer s H E) E 1 := ⟨rfl, hr, L2N.takes_of rfl rfl rfl rfl, sc_written.nd⟩
  have po : PassesOwn (model P w) (cxOf (L2N.CX P w) P w K mg base n_written "written" (defScope (tops 37)) ((pG "written") K) cdv A outer s H E).A (cxOf (L2N.CX P w) P w K mg base n_written "written" (defScope (tops 37)) ((pG "written") K) cdv A outer s H E).env (cxOf (L2N.CX P w) P w K mg base n_written "written" (defScope (tops 37)) ((pG "written") K) cdv A outer s H E).xe := passes_of rfl
  exact (sims_cons (xAs (gV 0) (uT c1 (uC (uN c1 2) (uC (uN c1 3) u0)) (mtC_len (mtC_len mt0_len))))
  (sims_cons (sims_if (tCmp c1 (gV 1) (gG c.v_BOTH)) (sims_one (sims_ret (gTup (gA (gG c.v_FRESH) (gA (gG c.v_FRESH) g0))))) sims_nil)
  (sims_one (sims_ret (gIte (tCmp c1 (gV 1) (gG c.v_OLD)) (gTup (gA (gG c.v_FRESH) (gA (gCall c1 c.g_aged c.h_aged (k_aged c) (gA (gV 3) g0)) g0))) (gTup (gA (gG c.v_STALE) (gA (gG c.v_FRESH) g0))))))))
theorem k_written {P : Program} {w : World} {K : PySem.W.Frag} {mg : Str → Option Value} {base : Heap} (c : Fx P K mg base) : FnW P w K mg base (cas K) 2 f_written ((pG "written") K) := by
  obtain ⟨fd, F⟩ := c.d_written
  exact fn_sim (ps := ["contents", "writes"]) F sc_written (F.bindsN fun _ _ _ _ _ _ us hl => match us, hl with | [_, _], _ => rfl) (b_written c)
/-! view_of -/
def n_view_of : List Str := ["some", "contents"]
theorem sc_view_of : FnScope n_view_of ["some"] (defScope (tops 38)) := fnScopeB (by decide +kernel)
def m_view_of : MS := (mRet (mB1 (g1 (b1A .tuple)) (mB1 (g1 (b1A .sorted)) (mDc [1] (mtN 1) (miK 0) (mV 1) (mC (.bl true))))))
def f_view_of : Fn := fnM 1 2 m_view_of
theorem b_view_of {P : Program} {w : World} {K : PySem.W.Frag} {mg : Str → Option Value} {base : Heap} (c : Fx P K mg base) (cdv : Value) (A : Around) (outer : List Env) (s : Shared) (H : Hp) (E : XK) (hr : Room 0 (A.deeper (envOfC "view_of" (defScope (tops 38)) s.heap.objs.size ((pG "view_of") K) cdv))) :
    SimSs (cxOf (L2N.CX P w) P w K mg base n_view_of "view_of" (defScope (tops 38)) ((pG "view_of") K) cdv A outer s H E) ⟨P, w, K, cas K, E⟩ (defBody (tops 38)) m_view_of := by
  have c1 : CF (cxOf (L2N.CX P w) P w K mg base n_view_of "view_of" (defScope (tops 38)) ((pG "view_of") K) cdv A outer s H E) E 0 := ⟨rfl, hr, L2N.takes_of rfl rfl rfl rfl, sc_view_of.nd⟩
  have po : PassesOwn (model P w) (cxOf (L2N.CX P w) P w K mg base n_view_of "view_of" (defScope (tops 38)) ((pG "view_of") K) cdv A outer s H E).A (cxOf (L2N.CX P w) P w K mg base n_view_of "view_of" (defScope (tops 38)) ((pG "view_of") K) cdv A outer s H E).env (cxOf (L2N.CX P w) P w K mg base n_view_of "view_of" (defScope (tops 38)) ((pG "view_of") K) cdv A outer s H E).xe := passes_of rfl
  exact (sims_one (sims_ret (gTuple c.b_tuple (gSorted c1 c.b_sorted (gDcK c1 [("contents", 1)] 0 (fun s1 H1 C1 l1 q1 => (uN (c1.blk s1 H1 _ _ q1) 1)) (fun s2 H2 C2 l2 q2 => (gV 1)) (fun s3 H3 C3 l3 q3 => gB))))))
theorem k_view_of {P : Program} {w : World} {K : PySem.W.Frag} {mg : Str → Option Value} {base : Heap} (c : Fx P K mg base) : FnW P w K mg base (cas K) 1 f_view_of ((pG "view_of") K) := by
  obtain ⟨fd, F⟩ := c.d_view_of
  exact fn_sim (ps := ["some"]) F sc_view_of (F.bindsN fun _ _ _ _ _ _ us hl => match us, hl with | [_], _ => rfl) (b_view_of c)
/-! grown -/
def n_grown : List Str := ["modes", "some", "known", "waiting", "contents", "reads", "writes", "later"]
theorem sc_grown : FnScope n_grown ["modes", "some"] (defScope (tops 39)) := fnScopeB (by decide +kernel)
def m_grown : MS := (mSeq (mSet 2 (mDc [4] (mtN 4) (miK 1) (mV 4) (mC (.bl true))))
  (mSeq (mSet 3 (mB1 (g1 (b1A .list)) (mV 2)))
  (mSeq (mWhl (mCmp .NotEq (mV 3) (mLst a0)) (mSeq (mSet 4 (mBm0 .pop (mV 3)))
  (mFor (mtT (mtC (mtN 5) (mtC (mtN 6) mt0))) (miOf (mV 0)) (mSeq (mSet 7 (mCall f_written (aC (mV 4) (aC (mV 6) a0))))
  (mIf (mCmp .NotIn (mV 7) (mV 2)) (mSeq (mPut (mV 2) (mV 7) (mC (.bl true)))
  (mEx (mBm .append (mV 3) (aC (mV 7) a0)))) mNx)))))
  (mRet (mCall f_view_of (aC (mV 2) a0))))))
def f_grown : Fn := fnM 2 8 m_grown
theorem b_grown {P : Program} {w : World} {K : PySem.W.Frag} {mg : Str → Option Value} {base : Heap} (c : Fx P K mg base) (cdv : Value) (A : Around) (outer : List Env) (s : Shared) (H : Hp) (E : XK) (hr : Room 2 (A.deeper (envOfC "grown" (defScope (tops 39)) s.heap.objs.size ((pG "grown") K) cdv))) :
    SimSs (cxOf (L2N.CX P w) P w K mg base n_grown "grown" (defScope (tops 39)) ((pG "grown") K) cdv A outer s H E) ⟨P, w, K, cas K, E⟩ (defBody (tops 39)) m_grown := by
  have c1 : CF (cxOf (L2N.CX P w) P w K mg base n_grown "grown" (defScope (tops 39)) ((pG "grown") K) cdv A outer s H E) E 2 := ⟨rfl, hr, L2N.takes_of rfl rfl rfl rfl, sc_grown.nd⟩
  have po : PassesOwn (model P w) (cxOf (L2N.CX P w) P w K mg base n_grown "grown" (defScope (tops 39)) ((pG "grown") K) cdv A outer s H E).A (cxOf (L2N.CX P w) P w K mg base n_grown "grown" (defScope (tops 39)) ((pG "grown") K) cdv A outer s H E).env (cxOf (L2N.CX P w) P w K mg base n_grown "grown" (defScope (tops 39)) ((pG "grown") K) cdv A outer s H E).xe := passes_of rfl
  exact (sims_cons (xDcK c1 2 [("contents", 4)] 1 (fun s1 H1 C1 l1 q1 => (uN (c1.blk s1 H1 _ _ q1) 4)) (fun s2 H2 C2 l2 q2 => (gV 4)) (fun s3 H3 C3 l3 q3 => gB))
  (sims_cons (xSet c1 3 (gList c1 c.b_list (gV 2)))
  (sims_cons (sims_whl po (tCmp c1 (gV 3) (gLst g0)) (sims_cons (xSet c1 4 (gPop (gV 3)))
  (sims_one (xFor c1 po (simi_of (gV 0)) (uT c1 (uC (uN c1 5) (uC (uN c1 6) u0)) (mtC_len (mtC_len mt0_len))) (sims_cons (xSet c1 7 (gCall c1 c.g_written c.h_written (k_written c) (gA (gV 4) (gA (gV 6) g0))))
  (sims_one (sims_if (tCmp c1 (gV 7) (gV 2)) (sims_cons (xPut c1 (gV 2) (gV 7) gB)
  (sims_one (xEx (gApp (gV 3) (gV 7))))) sims_nil)))))))
  (sims_one (sims_ret (gCall c1 c.g_view_of c.h_view_of (k_view_of c) (gA (gV 2) g0)))))))
theorem k_grown {P : Program} {w : World} {K : PySem.W.Frag} {mg : Str → Option Value} {base : Heap} (c : Fx P K mg base) : FnW P w K mg base (cas K) 3 f_grown ((pG "grown") K) := by
  obtain ⟨fd, F⟩ := c.d_grown
  exact fn_sim (ps := ["modes", "some"]) F sc_grown (F.bindsN fun _ _ _ _ _ _ us hl => match us, hl with | [_, _], _ => rfl) (b_grown c)
/-! closed -/
def n_closed : List Str := ["house", "modes", "view"]
theorem sc_closed : FnScope n_closed ["house", "modes", "view"] (defScope (tops 48)) := fnScopeB (by decide +kernel)
def m_closed : MS := (mSeq (mEx (mCall f_check_view (aC (mV 0) (aC (mV 1) (aC (mV 2) a0)))))
  (mRet (mCall f_grown (aC (mV 1) (aC (mV 2) a0)))))
def f_closed : Fn := fnM 3 3 m_closed
theorem b_closed {P : Program} {w : World} {K : PySem.W.Frag} {mg : Str → Option Value} {base : Heap} (c : Fx P K mg base) (cdv : Value) (A : Around) (outer : List Env) (s : Shared) (H : Hp) (E : XK) (hr : Room 4 (A.deeper (envOfC "closed" (defScope (tops 48)) s.heap.objs.size ((pG "closed") K) cdv))) :
    SimSs (cxOf (L2N.CX P w) P w K mg base n_closed "closed" (defScope (tops 48)) ((pG "closed") K) cdv A outer s H E) ⟨P, w, K, cas K, E⟩ (defBody (tops 48)) m_closed := by
  have c1 : CF (cxOf (L2N.CX P w) P w K mg base n_closed "closed" (defScope (tops 48)) ((pG "closed") K) cdv A outer s H E) E 4 := ⟨rfl, hr, L2N.takes_of rfl rfl rfl rfl, sc_closed.nd⟩
  have po : PassesOwn (model P w) (cxOf (L2N.CX P w) P w K mg base n_closed "closed" (defScope (tops 48)) ((pG "closed") K) cdv A outer s H E).A (cxOf (L2N.CX P w) P w K mg base n_closed "closed" (defScope (tops 48)) ((pG "closed") K) cdv A outer s H E).env (cxOf (L2N.CX P w) P w K mg base n_closed "closed" (defScope (tops 48)) ((pG "closed") K) cdv A outer s H E).xe := passes_of rfl
  exact (sims_cons (xEx (gCall c1 c.g_check_view c.h_check_view (k_check_view c) (gA (gV 0) (gA (gV 1) (gA (gV 2) g0)))))
  (sims_one (sims_ret (gCall c1 c.g_grown c.h_grown (k_grown c) (gA (gV 1) (gA (gV 2) g0))))))
theorem k_closed {P : Program} {w : World} {K : PySem.W.Frag} {mg : Str → Option Value} {base : Heap} (c : Fx P K mg base) : FnW P w K mg base (cas K) 5 f_closed ((pG "closed") K) := by
  obtain ⟨fd, F⟩ := c.d_closed
  exact fn_sim (ps := ["house", "modes", "view"]) F sc_closed (F.bindsN fun _ _ _ _ _ _ us hl => match us, hl with | [_, _, _], _ => rfl) (b_closed c)
/-! is_fine -/
def n_is_fine : List Str := ["mode", "contents"]
theorem sc_is_fine : FnScope n_is_fine ["mode", "contents"] (defScope (tops 40)) := fnScopeB (by decide +kernel)
def m_is_fine : MS := (mRet (mCmp .Eq (mSub (mV 1) (mIte (mCmp .Eq (mSub (mV 0) (mC (.int 0))) (mC v_NEW)) (mC (.int 1)) (mC (.int 0)))) (mC v_FRESH)))
def f_is_fine : Fn := fnM 2 2 m_is_fine
theorem b_is_fine {P : Program} {w : World} {K : PySem.W.Frag} {mg : Str → Option Value} {base : Heap} (c : Fx P K mg base) (cdv : Value) (A : Around) (outer : List Env) (s : Shared) (H : Hp) (E : XK) (hr : Room 0 (A.deeper (envOfC "is_fine" (defScope (tops 40)) s.heap.objs.size ((pG "is_fine") K) cdv))) :
    SimSs (cxOf (L2N.CX P w) P w K mg base n_is_fine "is_fine" (defScope (tops 40)) ((pG "is_fine") K) cdv A outer s H E) ⟨P, w, K, cas K, E⟩ (defBody (tops 40)) m_is_fine := by
  have c1 : CF (cxOf (L2N.CX P w) P w K mg base n_is_fine "is_fine" (defScope (tops 40)) ((pG "is_fine") K) cdv A outer s H E) E 0 := ⟨rfl, hr, L2N.takes_of rfl rfl rfl rfl, sc_is_fine.nd⟩
  have po : PassesOwn (model P w) (cxOf (L2N.CX P w) P w K mg base n_is_fine "is_fine" (defScope (tops 40)) ((pG "is_fine") K) cdv A outer s H E).A (cxOf (L2N.CX P w) P w K mg base n_is_fine "is_fine" (defScope (tops 40)) ((pG "is_fine") K) cdv A outer s H E).env (cxOf (L2N.CX P w) P w K mg base n_is_fine "is_fine" (defScope (tops 40)) ((pG "is_fine") K) cdv A outer s H E).xe := passes_of rfl
  exact (sims_one (sims_ret (gCmp c1 (gSub c1 (gV 1) (gIte (tCmp c1 (gSub c1 (gV 0) gI) (gG c.v_NEW)) gI gI)) (gG c.v_FRESH))))
theorem k_is_fine {P : Program} {w : World} {K : PySem.W.Frag} {mg : Str → Option Value} {base : Heap} (c : Fx P K mg base) : FnW P w K mg base (cas K) 1 f_is_fine ((pG "is_fine") K) := by
  obtain ⟨fd, F⟩ := c.d_is_fine
  exact fn_sim (ps := ["mode", "contents"]) F sc_is_fine (F.bindsN fun _ _ _ _ _ _ us hl => match us, hl with | [_, _], _ => rfl) (b_is_fine c)
/-! is_safe -/
def n_is_safe : List Str := ["modes", "view", "mode", "contents"]
theorem sc_is_safe : FnScope n_is_safe ["modes", "view"] (defScope (tops 41)) := fnScopeB (by decide +kernel)
def m_is_safe : MS := (mRet (mB1 (g1 (b1A .all)) (mLc2 [2, 3] [3] (mtN 2) (miOf (mV 0)) (miOf (mV 1)) (mtN 3) mYes (mCall f_is_fine (aC (mV 2) (aC (mV 3) a0))))))
def f_is_safe : Fn := fnM 2 4 m_is_safe
theorem b_is_safe {P : Program} {w : World} {K : PySem.W.Frag} {mg : Str → Option Value} {base : Heap} (c : Fx P K mg base) (cdv : Value) (A : Around) (outer : List Env) (s : Shared) (H : Hp) (E : XK) (hr : Room 1 (A.deeper (envOfC "is_safe" (defScope (tops 41)) s.heap.objs.size ((pG "is_safe") K) cdv))) :
    SimSs (cxOf (L2N.CX P w) P w K mg base n_is_safe "is_safe" (defScope (tops 41)) ((pG "is_safe") K) cdv A outer s H E) ⟨P, w, K, cas K, E⟩ (defBody (tops 41)) m_is_safe := by
  have c1 : CF (cxOf (L2N.CX P w) P w K mg base n_is_safe "is_safe" (defScope (tops 41)) ((pG "is_safe") K) cdv A outer s H E) E 1 := ⟨rfl, hr, L2N.takes_of rfl rfl rfl rfl, sc_is_safe.nd⟩
  have po : PassesOwn (model P w) (cxOf (L2N.CX P w) P w K mg base n_is_safe "is_safe" (defScope (tops 41)) ((pG "is_safe") K) cdv A outer s H E).A (cxOf (L2N.CX P w) P w K mg base n_is_safe "is_safe" (defScope (tops 41)) ((pG "is_safe") K) cdv A outer s H E).env (cxOf (L2N.CX P w) P w K mg base n_is_safe "is_safe" (defScope (tops 41)) ((pG "is_safe") K) cdv A outer s H E).xe := passes_of rfl
  exact (sims_one (sims_ret (gAll c1 c.b_all (gLc2 c1 [("mode", 2), ("contents", 3)] [3] (simi_of (gV 0)) (fun s1 H1 C1 l1 q1 => (uN (c1.blk s1 H1 _ _ q1) 2)) (fun s2 H2 C2 l2 q2 => (simi_of (gV 1))) (fun s3 H3 C3 l3 q3 => (uN (c1.blk s3 H3 _ _ q3) 3)) (fun s4 H4 C4 l4 q4 => simts_nil) (fun s5 H5 C5 l5 q5 => (gCall (c1.blk s5 H5 _ _ q5) c.g_is_fine c.h_is_fine (k_is_fine c) (gA (gV 2) (gA (gV 3) g0))))))))
theorem k_is_safe {P : Program} {w : World} {K : PySem.W.Frag} {mg : Str → Option Value} {base : Heap} (c : Fx P K mg base) : FnW P w K mg base (cas K) 2 f_is_safe ((pG "is_safe") K) := by
  obtain ⟨fd, F⟩ := c.d_is_safe
  exact fn_sim (ps := ["modes", "view"]) F sc_is_safe (F.bindsN fun _ _ _ _ _ _ us hl => match us, hl with | [_, _], _ => rfl) (b_is_safe c)
/-! reads_fine -/
def n_reads_fine : List Str := ["house", "modes", "view"]
theorem sc_reads_fine : FnScope n_reads_fine ["house", "modes", "view"] (defScope (tops 49)) := fnScopeB (by decide +kernel)
def m_reads_fine : MS := (mSeq (mEx (mCall f_check_view (aC (mV 0) (aC (mV 1) (aC (mV 2) a0)))))
  (mRet (mCall f_is_safe (aC (mV 1) (aC (mV 2) a0)))))
def f_reads_fine : Fn := fnM 3 3 m_reads_fine
theorem b_reads_fine {P : Program} {w : World} {K : PySem.W.Frag} {mg : Str → Option Value} {base : Heap} (c : Fx P K mg base) (cdv : Value) (A : Around) (outer : List Env) (s : Shared) (H : Hp) (E : XK) (hr : Room 4 (A.deeper (envOfC "reads_fine" (defScope (tops 49)) s.heap.objs.size ((pG "reads_fine") K) cdv))) :
    SimSs (cxOf (L2N.CX P w) P w K mg base n_reads_fine "reads_fine" (defScope (tops 49)) ((pG "reads_fine") K) cdv A outer s H E) ⟨P, w, K, cas K, E⟩ (defBody (tops 49)) m_reads_fine := by
  have c1 : CF (cxOf (L2N.CX P w) P w K mg base n_reads_fine "reads_fine" (defScope (tops 49)) ((pG "reads_fine") K) cdv A outer s H E) E 4 := ⟨rfl, hr, L2N.takes_of rfl rfl rfl rfl, sc_reads_fine.nd⟩
  have po : PassesOwn (model P w) (cxOf (L2N.CX P w) P w K mg base n_reads_fine "reads_fine" (defScope (tops 49)) ((pG "reads_fine") K) cdv A outer s H E).A (cxOf (L2N.CX P w) P w K mg base n_reads_fine "reads_fine" (defScope (tops 49)) ((pG "reads_fine") K) cdv A outer s H E).env (cxOf (L2N.CX P w) P w K mg base n_reads_fine "reads_fine" (defScope (tops 49)) ((pG "reads_fine") K) cdv A outer s H E).xe := passes_of rfl
  exact (sims_cons (xEx (gCall c1 c.g_check_view c.h_check_view (k_check_view c) (gA (gV 0) (gA (gV 1) (gA (gV 2) g0)))))
  (sims_one (sims_ret (gCall c1 c.g_is_safe c.h_is_safe (k_is_safe c) (gA (gV 1) (gA (gV 2) g0))))))
theorem k_reads_fine {P : Program} {w : World} {K : PySem.W.Frag} {mg : Str → Option Value} {base : Heap} (c : Fx P K mg base) : FnW P w K mg base (cas K) 5 f_reads_fine ((pG "reads_fine") K) := by
  obtain ⟨fd, F⟩ := c.d_reads_fine
  exact fn_sim (ps := ["house", "modes", "view"]) F sc_reads_fine (F.bindsN fun _ _ _ _ _ _ us hl => match us, hl with | [_, _, _], _ => rfl) (b_reads_fine c)
/-! is_step -/
def n_is_step : List Str := ["house", "value"]
theorem sc_is_step : FnScope n_is_step ["house", "value"] (defScope (tops 24)) := fnScopeB (by decide +kernel)
def m_is_step : MS := (mSeq (mIf (orM (mNot (mIsi (mV 1) (.ty .tuple))) (orM (mEq0 (mV 1)) (mNot (mIsi (mSub (mV 1) (mC (.int 0))) (.ty .str))))) (mRet (mC (.bl false))) mNx)
  (mSeq (mIf (mCmp .NotEq (mSub (mV 1) (mC (.int 0))) (mC v_CHANGE)) (mRet (mCmp .Eq (mV 1) (mC v_COPY))) mNx)
  (mRet (andM (mCmp .Eq (mB1 (g1 lenA) (mV 1)) (mC (.int 3))) (andM (mCall f_is_integer (aC (mSub (mV 1) (mC (.int 1))) (aC (mC (.int 0)) (aC (mBin .Sub (mLenO (tab1 f_House___len__) (mV 0) [(0, 0)]) (mC (.int 1))) a0)))) (mCall f_is_mode (aC (mSub (mV 1) (mC (.int 2))) a0)))))))
def f_is_step : Fn := fnM 2 2 m_is_step
theorem b_is_step {P : Program} {w : World} {K : PySem.W.Frag} {mg : Str → Option Value} {base : Heap} (c : Fx P K mg base) (cdv : Value) (A : Around) (outer : List Env) (s : Shared) (H : Hp) (E : XK) (hr : Room 2 (A.deeper (envOfC "is_step" (defScope (tops 24)) s.heap.objs.size ((pG "is_step") K) cdv))) :
    SimSs (cxOf (L2N.CX P w) P w K mg base n_is_step "is_step" (defScope (tops 24)) ((pG "is_step") K) cdv A outer s H E) ⟨P, w, K, cas K, E⟩ (defBody (tops 24)) m_is_step := by
  have c1 : CF (cxOf (L2N.CX P w) P w K mg base n_is_step "is_step" (defScope (tops 24)) ((pG "is_step") K) cdv A outer s H E) E 2 := ⟨rfl, hr, L2N.takes_of rfl rfl rfl rfl, sc_is_step.nd⟩
  have po : PassesOwn (model P w) (cxOf (L2N.CX P w) P w K mg base n_is_step "is_step" (defScope (tops 24)) ((pG "is_step") K) cdv A outer s H E).A (cxOf (L2N.CX P w) P w K mg base n_is_step "is_step" (defScope (tops 24)) ((pG "is_step") K) cdv A outer s H E).env (cxOf (L2N.CX P w) P w K mg base n_is_step "is_step" (defScope (tops 24)) ((pG "is_step") K) cdv A outer s H E).xe := passes_of rfl
  exact (sims_cons (sims_if (tOr (tNot (tV (gIsi1 .tuple c.b_isinstance c.b_tuple bt_tuple (gV 1)))) (simw_or (tEq0 c1 (gV 1)) (simw_one (tNot (tV (gIsi1 .str c.b_isinstance c.b_str bt_str (gSub c1 (gV 1) gI))))))) (sims_one (sims_ret gB)) sims_nil)
  (sims_cons (sims_if (tCmp c1 (gSub c1 (gV 1) gI) (gG c.v_CHANGE)) (sims_one (sims_ret (gCmp c1 (gV 1) (gG c.v_COPY)))) sims_nil)
  (sims_one (sims_ret (sim_and (gCmp c1 (gLen c.b_len (gV 1)) gI) (sim_and (gCall c1 c.g_is_integer c.h_is_integer (k_is_integer c) (gA (gSub c1 (gV 1) gI) (gA gI (gA (gBin (gLenO (k := 0) c1 c.b_len c.s_House c.m_House___len__ (k_House___len__ c) (gV 0)) gI) g0)))) (sim_one (gCall c1 c.g_is_mode c.h_is_mode (k_is_mode c) (gA (gSub c1 (gV 1) gI) g0)))))))))
theorem k_is_step {P : Program} {w : World} {K : PySem.W.Frag} {mg : Str → Option Value} {base : Heap} (c : Fx P K mg base) : FnW P w K mg base (cas K) 3 f_is_step ((pG "is_step") K) := by
  obtain ⟨fd, F⟩ := c.d_is_step
  exact fn_sim (ps := ["house", "value"]) F sc_is_step (F.bindsN fun _ _ _ _ _ _ us hl => match us, hl with | [_, _], _ => rfl) (b_is_step c)
/-! check_step -/
def n_check_step : List Str := ["house", "step"]
theorem sc_check_step : FnScope n_check_step ["house", "step"] (defScope (tops 25)) := fnScopeB (by decide +kernel)
def m_check_step : MS := (mIf (mNot (mCall f_is_step (aC (mV 0) (aC (mV 1) a0)))) (mRaise0 9) mNx)
def f_check_step : Fn := fnM 2 2 m_check_step
theorem b_check_step {P : Program} {w : World} {K : PySem.W.Frag} {mg : Str → Option Value} {base : Heap} (c : Fx P K mg base) (cdv : Value) (A : Around) (outer : List Env) (s : Shared) (H : Hp) (E : XK) (hr : Room 3 (A.deeper (envOfC "check_step" (defScope (tops 25)) s.heap.objs.size ((pG "check_step") K) cdv))) :
    SimSs (cxOf (L2N.CX P w) P w K mg base n_check_step "check_step" (defScope (tops 25)) ((pG "check_step") K) cdv A outer s H E) ⟨P, w, K, cas K, E⟩ (defBody (tops 25)) m_check_step := by
  have c1 : CF (cxOf (L2N.CX P w) P w K mg base n_check_step "check_step" (defScope (tops 25)) ((pG "check_step") K) cdv A outer s H E) E 3 := ⟨rfl, hr, L2N.takes_of rfl rfl rfl rfl, sc_check_step.nd⟩
  have po : PassesOwn (model P w) (cxOf (L2N.CX P w) P w K mg base n_check_step "check_step" (defScope (tops 25)) ((pG "check_step") K) cdv A outer s H E).A (cxOf (L2N.CX P w) P w K mg base n_check_step "check_step" (defScope (tops 25)) ((pG "check_step") K) cdv A outer s H E).env (cxOf (L2N.CX P w) P w K mg base n_check_step "check_step" (defScope (tops 25)) ((pG "check_step") K) cdv A outer s H E).xe := passes_of rfl
  exact (sims_one (sims_if (tNot (tV (gCall c1 c.g_is_step c.h_is_step (k_is_step c) (gA (gV 0) (gA (gV 1) g0))))) (sims_one (sims_raise0 (c := 9) c1 c.x_BadStep c.g_BadStep)) sims_nil))
theorem k_check_step {P : Program} {w : World} {K : PySem.W.Frag} {mg : Str → Option Value} {base : Heap} (c : Fx P K mg base) : FnW P w K mg base (cas K) 4 f_check_step ((pG "check_step") K) := by
  obtain ⟨fd, F⟩ := c.d_check_step
  exact fn_sim (ps := ["house", "step"]) F sc_check_step (F.bindsN fun _ _ _ _ _ _ us hl => match us, hl with | [_, _], _ => rfl) (b_check_step c)
/-! modes_after -/
def n_modes_after : List Str := ["modes", "step", "server", "mode"]
theorem sc_modes_after : FnScope n_modes_after ["modes", "step"] (defScope (tops 27)) := fnScopeB (by decide +kernel)
def m_modes_after : MS := (mSeq (mIf (mCmp .Eq (mV 1) (mC v_COPY)) (mRet (mV 0)) mNx)
  (mRet (mB1 (g1 (b1A .tuple)) (mLc [2, 3] (mtT (mtC (mtN 2) (mtC (mtN 3) mt0))) (miEn (mV 0)) mYes (mIte (mCmp .Eq (mV 2) (mSub (mV 1) (mC (.int 1)))) (mSub (mV 1) (mC (.int 2))) (mV 3))))))
def f_modes_after : Fn := fnM 2 4 m_modes_after
theorem b_modes_after {P : Program} {w : World} {K : PySem.W.Frag} {mg : Str → Option Value} {base : Heap} (c : Fx P K mg base) (cdv : Value) (A : Around) (outer : List Env) (s : Shared) (H : Hp) (E : XK) (hr : Room 0 (A.deeper (envOfC "modes_after" (defScope (tops 27)) s.heap.objs.size ((pG "modes_after") K) cdv))) :
    SimSs (cxOf (L2N.CX P w) P w K mg base n_modes_after "modes_after" (defScope (tops 27)) ((pG "modes_after") K) cdv A outer s H E) ⟨P, w, K, cas K, E⟩ (defBody (tops 27)) m_modes_after := by
  have c1 : CF (cxOf (L2N.CX P w) P w K mg base n_modes_after "modes_after" (defScope (tops 27)) ((pG "modes_after") K) cdv A outer s H E) E 0 := ⟨rfl, hr, L2N.takes_of rfl rfl rfl rfl, sc_modes_after.nd⟩
  have po : PassesOwn (model P w) (cxOf (L2N.CX P w) P w K mg base n_modes_after "modes_after" (defScope (tops 27)) ((pG "modes_after") K) cdv A outer s H E).A (cxOf (L2N.CX P w) P w K mg base n_modes_after "modes_after" (defScope (tops 27)) ((pG "modes_after") K) cdv A outer s H E).env (cxOf (L2N.CX P w) P w K mg base n_modes_after "modes_after" (defScope (tops 27)) ((pG "modes_after") K) cdv A outer s H E).xe := passes_of rfl
  exact (sims_cons (sims_if (tCmp c1 (gV 1) (gG c.v_COPY)) (sims_one (sims_ret (gV 0))) sims_nil)
  (sims_one (sims_ret (gTuple c.b_tuple (gLc c1 [("server", 2), ("mode", 3)] (iEn c.b_enumerate (gV 0)) (fun s1 H1 C1 l1 q1 => (uT (c1.blk s1 H1 _ _ q1) (uC (uN (c1.blk s1 H1 _ _ q1) 2) (uC (uN (c1.blk s1 H1 _ _ q1) 3) u0)) (mtC_len (mtC_len mt0_len)))) (fun s2 H2 C2 l2 q2 => simts_nil) (fun s3 H3 C3 l3 q3 => (gIte (tCmp (c1.blk s3 H3 _ _ q3) (gV 2) (gSub (c1.blk s3 H3 _ _ q3) (gV 1) gI)) (gSub (c1.blk s3 H3 _ _ q3) (gV 1) gI) (gV 3))))))))
theorem k_modes_after {P : Program} {w : World} {K : PySem.W.Frag} {mg : Str → Option Value} {base : Heap} (c : Fx P K mg base) : FnW P w K mg base (cas K) 1 f_modes_after ((pG "modes_after") K) := by
  obtain ⟨fd, F⟩ := c.d_modes_after
  exact fn_sim (ps := ["modes", "step"]) F sc_modes_after (F.bindsN fun _ _ _ _ _ _ us hl => match us, hl with | [_, _], _ => rfl) (b_modes_after c)
/-! hands_from -/
def n_hands_from : List Str := ["modes", "contents", "first", "known", "waiting", "here", "hand", "is_still", "reads", "writes", "later"]
theorem sc_hands_from : FnScope n_hands_from ["modes", "contents"] (defScope (tops 42)) := fnScopeB (by decide +kernel)
def m_hands_from : MS := (mSeq (mSet 2 (mTup (aC (mV 1) (aC (mSub (mV 1) (mC (.int 0))) (aC (mC (.bl true)) a0)))))
  (mSeq (mPar 3 4 (mD1 (mV 2) (mC (.bl true))) (mLst (aC (mV 2) a0)))
  (mSeq (mWhl (mCmp .NotEq (mV 4) (mLst a0)) (mSeq (mAs (mtT (mtC (mtN 5) (mtC (mtN 6) (mtC (mtN 7) mt0)))) (mBm0 .pop (mV 4)))
  (mFor (mtT (mtC (mtN 8) (mtC (mtN 9) mt0))) (miOf (mV 0)) (mSeq (mSet 10 (mTup (aC (mCall f_written (aC (mV 5) (aC (mV 9) a0))) (aC (mC v_STALE) (aC (mC (.bl false)) a0)))))
  (mIf (mCmp .NotIn (mV 10) (mV 3)) (mSeq (mPut (mV 3) (mV 10) (mC (.bl true)))
  (mEx (mBm .append (mV 4) (aC (mV 10) a0)))) mNx)))))
  (mRet (mB1 (g1 (b1A .list)) (mV 3))))))
def f_hands_from : Fn := fnM 2 11 m_hands_from
theorem b_hands_from {P : Program} {w : World} {K : PySem.W.Frag} {mg : Str → Option Value} {base : Heap} (c : Fx P K mg base) (cdv : Value) (A : Around) (outer : List Env) (s : Shared) (H : Hp) (E : XK) (hr : Room 2 (A.deeper (envOfC "hands_from" (defScope (tops 42)) s.heap.objs.size ((pG "hands_from") K) cdv))) :
    SimSs (cxOf (L2N.CX P w) P w K mg base n_hands_from "hands_from" (defScope (tops 42)) ((pG "hands_from") K) cdv A outer s H E) ⟨P, w, K, cas K, E⟩ (defBody (tops 42)) m_hands_from := by
  have c1 : CF (cxOf (L2N.CX P w) P w K mg base n_hands_from "hands_from" (defScope (tops 42)) ((pG "hands_from") K) cdv A outer s H E) E 2 := ⟨rfl, hr, L2N.takes_of rfl rfl rfl rfl, sc_hands_from.nd⟩
  have po : PassesOwn (model P w) (cxOf (L2N.CX P w) P w K mg base n_hands_from "hands_from" (defScope (tops 42)) ((pG "hands_from") K) cdv A outer s H E).A (cxOf (L2N.CX P w) P w K mg base n_hands_from "hands_from" (defScope (tops 42)) ((pG "hands_from") K) cdv A outer s H E).env (cxOf (L2N.CX P w) P w K mg base n_hands_from "hands_from" (defScope (tops 42)) ((pG "hands_from") K) cdv A outer s H E).xe := passes_of rfl
  exact (sims_cons (xSet c1 2 (gTup (gA (gV 1) (gA (gSub c1 (gV 1) gI) (gA gB g0)))))
  (sims_cons (xPar c1 3 4 (gD1 c1 (gV 2) gB) (gLst (gA (gV 2) g0)))
  (sims_cons (sims_whl po (tCmp c1 (gV 4) (gLst g0)) (sims_cons (xAs (gPop (gV 4)) (uT c1 (uC (uN c1 5) (uC (uN c1 6) (uC (uN c1 7) u0))) (mtC_len (mtC_len (mtC_len mt0_len)))))
  (sims_one (xFor c1 po (simi_of (gV 0)) (uT c1 (uC (uN c1 8) (uC (uN c1 9) u0)) (mtC_len (mtC_len mt0_len))) (sims_cons (xSet c1 10 (gTup (gA (gCall c1 c.g_written c.h_written (k_written c) (gA (gV 5) (gA (gV 9) g0))) (gA (gG c.v_STALE) (gA gB g0)))))
  (sims_one (sims_if (tCmp c1 (gV 10) (gV 3)) (sims_cons (xPut c1 (gV 3) (gV 10) gB)
  (sims_one (xEx (gApp (gV 4) (gV 10))))) sims_nil)))))))
  (sims_one (sims_ret (gList c1 c.b_list (gV 3)))))))
theorem k_hands_from {P : Program} {w : World} {K : PySem.W.Frag} {mg : Str → Option Value} {base : Heap} (c : Fx P K mg base) : FnW P w K mg base (cas K) 3 f_hands_from ((pG "hands_from") K) := by
  obtain ⟨fd, F⟩ := c.d_hands_from
  exact fn_sim (ps := ["modes", "contents"]) F sc_hands_from (F.bindsN fun _ _ _ _ _ _ us hl => match us, hl with | [_, _], _ => rfl) (b_hands_from c)
/-! put_down -/
def n_put_down : List Str := ["copier", "triple", "hand", "is_still", "old", "new"]
theorem sc_put_down : FnScope n_put_down ["copier", "triple"] (defScope (tops 43)) := fnScopeB (by decide +kernel)
def m_put_down : MS := (mSeq (mAs (mtT (mtC (mtT (mtC (mtN 4) (mtC (mtN 5) mt0))) (mtC (mtN 2) (mtC (mtN 3) mt0)))) (mV 1))
  (mSeq (mIf (orM (andM (mCmp .Eq (mV 0) (mC (.str "empty"))) (mCmp .NotEq (mV 5) (mC v_EMPTY))) (andM (mCmp .Eq (mV 0) (mC (.str "check"))) (mNot (mV 3)))) (mRet (mTup (aC (mV 4) (aC (mV 5) a0)))) mNx)
  (mRet (mTup (aC (mV 4) (aC (mV 2) a0))))))
def f_put_down : Fn := fnM 2 6 m_put_down
theorem b_put_down {P : Program} {w : World} {K : PySem.W.Frag} {mg : Str → Option Value} {base : Heap} (c : Fx P K mg base) (cdv : Value) (A : Around) (outer : List Env) (s : Shared) (H : Hp) (E : XK) (hr : Room 0 (A.deeper (envOfC "put_down" (defScope (tops 43)) s.heap.objs.size ((pG "put_down") K) cdv))) :
    SimSs (cxOf (L2N.CX P w) P w K mg base n_put_down "put_down" (defScope (tops 43)) ((pG "put_down") K) cdv A outer s H E) ⟨P, w, K, cas K, E⟩ (defBody (tops 43)) m_put_down := by
  have c1 : CF (cxOf (L2N.CX P w) P w K mg base n_put_down "put_down" (defScope (tops 43)) ((pG "put_down") K) cdv A outer s H E) E 0 := ⟨rfl, hr, L2N.takes_of rfl rfl rfl rfl, sc_put_down.nd⟩
  have po : PassesOwn (model P w) (cxOf (L2N.CX P w) P w K mg base n_put_down "put_down" (defScope (tops 43)) ((pG "put_down") K) cdv A outer s H E).A (cxOf (L2N.CX P w) P w K mg base n_put_down "put_down" (defScope (tops 43)) ((pG "put_down") K) cdv A outer s H E).env (cxOf (L2N.CX P w) P w K mg base n_put_down "put_down" (defScope (tops 43)) ((pG "put_down") K) cdv A outer s H E).xe := passes_of rfl
  exact (sims_cons (xAs (gV 1) (uT c1 (uC (uT c1 (uC (uN c1 4) (uC (uN c1 5) u0)) (mtC_len (mtC_len mt0_len))) (uC (uN c1 2) (uC (uN c1 3) u0))) (mtC_len (mtC_len (mtC_len mt0_len)))))
  (sims_cons (sims_if (tOr (tAnd (tCmp c1 (gV 0) gS) (simw_one (tCmp c1 (gV 5) (gG c.v_EMPTY)))) (simw_one (tAnd (tCmp c1 (gV 0) gS) (simw_one (tNot (tV (gV 3))))))) (sims_one (sims_ret (gTup (gA (gV 4) (gA (gV 5) g0))))) sims_nil)
  (sims_one (sims_ret (gTup (gA (gV 4) (gA (gV 2) g0)))))))
theorem k_put_down {P : Program} {w : World} {K : PySem.W.Frag} {mg : Str → Option Value} {base : Heap} (c : Fx P K mg base) : FnW P w K mg base (cas K) 1 f_put_down ((pG "put_down") K) := by
  obtain ⟨fd, F⟩ := c.d_put_down
  exact fn_sim (ps := ["copier", "triple"]) F sc_put_down (F.bindsN fun _ _ _ _ _ _ us hl => match us, hl with | [_, _], _ => rfl) (b_put_down c)
/-! copied -/
def n_copied : List Str := ["house", "modes", "view", "found", "contents", "triple"]
theorem sc_copied : FnScope n_copied ["house", "modes", "view"] (defScope (tops 44)) := fnScopeB (by decide +kernel)
def m_copied : MS := (mSeq (mSet 3 (mLst a0))
  (mSeq (mFor (mtN 4) (miOf (mV 2)) (mEx (mBm .extend (mV 3) (aC (mLc [5] (mtN 5) (miOf (mCall f_hands_from (aC (mV 1) (aC (mV 4) a0)))) mYes (mCall f_put_down (aC (mAttr (mV 0) [(0, 0)]) (aC (mV 5) a0)))) a0))))
  (mRet (mCall f_view_of (aC (mV 3) a0)))))
def f_copied : Fn := fnM 3 6 m_copied
theorem b_copied {P : Program} {w : World} {K : PySem.W.Frag} {mg : Str → Option Value} {base : Heap} (c : Fx P K mg base) (cdv : Value) (A : Around) (outer : List Env) (s : Shared) (H : Hp) (E : XK) (hr : Room 3 (A.deeper (envOfC "copied" (defScope (tops 44)) s.heap.objs.size ((pG "copied") K) cdv))) :
    SimSs (cxOf (L2N.CX P w) P w K mg base n_copied "copied" (defScope (tops 44)) ((pG "copied") K) cdv A outer s H E) ⟨P, w, K, cas K, E⟩ (defBody (tops 44)) m_copied := by
  have c1 : CF (cxOf (L2N.CX P w) P w K mg base n_copied "copied" (defScope (tops 44)) ((pG "copied") K) cdv A outer s H E) E 3 := ⟨rfl, hr, L2N.takes_of rfl rfl rfl rfl, sc_copied.nd⟩
  have po : PassesOwn (model P w) (cxOf (L2N.CX P w) P w K mg base n_copied "copied" (defScope (tops 44)) ((pG "copied") K) cdv A outer s H E).A (cxOf (L2N.CX P w) P w K mg base n_copied "copied" (defScope (tops 44)) ((pG "copied") K) cdv A outer s H E).env (cxOf (L2N.CX P w) P w K mg base n_copied "copied" (defScope (tops 44)) ((pG "copied") K) cdv A outer s H E).xe := passes_of rfl
  exact (sims_cons (xSet c1 3 (gLst g0))
  (sims_cons (xFor c1 po (simi_of (gV 2)) (uN c1 4) (sims_one (xEx (gExt (gV 3) (gLc c1 [("triple", 5)] (simi_of (gCall c1 c.g_hands_from c.h_hands_from (k_hands_from c) (gA (gV 1) (gA (gV 4) g0)))) (fun s1 H1 C1 l1 q1 => (uN (c1.blk s1 H1 _ _ q1) 5)) (fun s2 H2 C2 l2 q2 => simts_nil) (fun s3 H3 C3 l3 q3 => (gCall (c1.blk s3 H3 _ _ q3) c.g_put_down c.h_put_down (k_put_down c) (gA (gAtt (k := 0) c.s_House c.t_House_copies (gV 0)) (gA (gV 5) g0)))))))))
  (sims_one (sims_ret (gCall c1 c.g_view_of c.h_view_of (k_view_of c) (gA (gV 3) g0))))))
theorem k_copied {P : Program} {w : World} {K : PySem.W.Frag} {mg : Str → Option Value} {base : Heap} (c : Fx P K mg base) : FnW P w K mg base (cas K) 4 f_copied ((pG "copied") K) := by
  obtain ⟨fd, F⟩ := c.d_copied
  exact fn_sim (ps := ["house", "modes", "view"]) F sc_copied (F.bindsN fun _ _ _ _ _ _ us hl => match us, hl with | [_, _, _], _ => rfl) (b_copied c)
/-! view_after -/
def n_view_after : List Str := ["house", "modes", "view", "step", "later"]
theorem sc_view_after : FnScope n_view_after ["house", "modes", "view", "step"] (defScope (tops 45)) := fnScopeB (by decide +kernel)
def m_view_after : MS := (mSeq (mSet 4 (mCall f_modes_after (aC (mV 1) (aC (mV 3) a0))))
  (mRet (mCall f_grown (aC (mV 4) (aC (mIte (mCmp .Eq (mV 3) (mC v_COPY)) (mCall f_copied (aC (mV 0) (aC (mV 1) (aC (mV 2) a0)))) (mV 2)) a0)))))
def f_view_after : Fn := fnM 4 5 m_view_after
theorem b_view_after {P : Program} {w : World} {K : PySem.W.Frag} {mg : Str → Option Value} {base : Heap} (c : Fx P K mg base) (cdv : Value) (A : Around) (outer : List Env) (s : Shared) (H : Hp) (E : XK) (hr : Room 4 (A.deeper (envOfC "view_after" (defScope (tops 45)) s.heap.objs.size ((pG "view_after") K) cdv))) :
    SimSs (cxOf (L2N.CX P w) P w K mg base n_view_after "view_after" (defScope (tops 45)) ((pG "view_after") K) cdv A outer s H E) ⟨P, w, K, cas K, E⟩ (defBody (tops 45)) m_view_after := by
  have c1 : CF (cxOf (L2N.CX P w) P w K mg base n_view_after "view_after" (defScope (tops 45)) ((pG "view_after") K) cdv A outer s H E) E 4 := ⟨rfl, hr, L2N.takes_of rfl rfl rfl rfl, sc_view_after.nd⟩
  have po : PassesOwn (model P w) (cxOf (L2N.CX P w) P w K mg base n_view_after "view_after" (defScope (tops 45)) ((pG "view_after") K) cdv A outer s H E).A (cxOf (L2N.CX P w) P w K mg base n_view_after "view_after" (defScope (tops 45)) ((pG "view_after") K) cdv A outer s H E).env (cxOf (L2N.CX P w) P w K mg base n_view_after "view_after" (defScope (tops 45)) ((pG "view_after") K) cdv A outer s H E).xe := passes_of rfl
  exact (sims_cons (xSet c1 4 (gCall c1 c.g_modes_after c.h_modes_after (k_modes_after c) (gA (gV 1) (gA (gV 3) g0))))
  (sims_one (sims_ret (gCall c1 c.g_grown c.h_grown (k_grown c) (gA (gV 4) (gA (gIte (tCmp c1 (gV 3) (gG c.v_COPY)) (gCall c1 c.g_copied c.h_copied (k_copied c) (gA (gV 0) (gA (gV 1) (gA (gV 2) g0)))) (gV 2)) g0))))))
theorem k_view_after {P : Program} {w : World} {K : PySem.W.Frag} {mg : Str → Option Value} {base : Heap} (c : Fx P K mg base) : FnW P w K mg base (cas K) 5 f_view_after ((pG "view_after") K) := by
  obtain ⟨fd, F⟩ := c.d_view_after
  exact fn_sim (ps := ["house", "modes", "view", "step"]) F sc_view_after (F.bindsN fun _ _ _ _ _ _ us hl => match us, hl with | [_, _, _, _], _ => rfl) (b_view_after c)
/-! after -/
def n_after : List Str := ["house", "modes", "view", "step"]
theorem sc_after : FnScope n_after ["house", "modes", "view", "step"] (defScope (tops 50)) := fnScopeB (by decide +kernel)
def m_after : MS := (mSeq (mEx (mCall f_check_view (aC (mV 0) (aC (mV 1) (aC (mV 2) a0)))))
  (mSeq (mEx (mCall f_check_step (aC (mV 0) (aC (mV 3) a0))))
  (mRet (mTup (aC (mCall f_modes_after (aC (mV 1) (aC (mV 3) a0))) (aC (mCall f_view_after (aC (mV 0) (aC (mV 1) (aC (mCall f_grown (aC (mV 1) (aC (mV 2) a0))) (aC (mV 3) a0))))) a0))))))
def f_after : Fn := fnM 4 4 m_after
theorem b_after {P : Program} {w : World} {K : PySem.W.Frag} {mg : Str → Option Value} {base : Heap} (c : Fx P K mg base) (cdv : Value) (A : Around) (outer : List Env) (s : Shared) (H : Hp) (E : XK) (hr : Room 5 (A.deeper (envOfC "after" (defScope (tops 50)) s.heap.objs.size ((pG "after") K) cdv))) :
    SimSs (cxOf (L2N.CX P w) P w K mg base n_after "after" (defScope (tops 50)) ((pG "after") K) cdv A outer s H E) ⟨P, w, K, cas K, E⟩ (defBody (tops 50)) m_after := by
  have c1 : CF (cxOf (L2N.CX P w) P w K mg base n_after "after" (defScope (tops 50)) ((pG "after") K) cdv A outer s H E) E 5 := ⟨rfl, hr, L2N.takes_of rfl rfl rfl rfl, sc_after.nd⟩
  have po : PassesOwn (model P w) (cxOf (L2N.CX P w) P w K mg base n_after "after" (defScope (tops 50)) ((pG "after") K) cdv A outer s H E).A (cxOf (L2N.CX P w) P w K mg base n_after "after" (defScope (tops 50)) ((pG "after") K) cdv A outer s H E).env (cxOf (L2N.CX P w) P w K mg base n_after "after" (defScope (tops 50)) ((pG "after") K) cdv A outer s H E).xe := passes_of rfl
  exact (sims_cons (xEx (gCall c1 c.g_check_view c.h_check_view (k_check_view c) (gA (gV 0) (gA (gV 1) (gA (gV 2) g0)))))
  (sims_cons (xEx (gCall c1 c.g_check_step c.h_check_step (k_check_step c) (gA (gV 0) (gA (gV 3) g0))))
  (sims_one (sims_ret (gTup (gA (gCall c1 c.g_modes_after c.h_modes_after (k_modes_after c) (gA (gV 1) (gA (gV 3) g0))) (gA (gCall c1 c.g_view_after c.h_view_after (k_view_after c) (gA (gV 0) (gA (gV 1) (gA (gCall c1 c.g_grown c.h_grown (k_grown c) (gA (gV 1) (gA (gV 2) g0))) (gA (gV 3) g0))))) g0)))))))
theorem k_after {P : Program} {w : World} {K : PySem.W.Frag} {mg : Str → Option Value} {base : Heap} (c : Fx P K mg base) : FnW P w K mg base (cas K) 6 f_after ((pG "after") K) := by
  obtain ⟨fd, F⟩ := c.d_after
  exact fn_sim (ps := ["house", "modes", "view", "step"]) F sc_after (F.bindsN fun _ _ _ _ _ _ us hl => match us, hl with | [_, _, _, _], _ => rfl) (b_after c)
/-! check_plan -/
def n_check_plan : List Str := ["house", "steps", "index", "step"]
theorem sc_check_plan : FnScope n_check_plan ["house", "steps"] (defScope (tops 53)) := fnScopeB (by decide +kernel)
def m_check_plan : MS := (mSeq (mEx (mCall f_check_house (aC (mV 0) a0)))
  (mSeq (mIf (orM (mNot (mIsi (mV 1) (.tys .list .tuple))) (mCmp .Gt (mB1 (g1 lenA) (mV 1)) (mC v_MAX_PLAN))) (mRaise 8 "index" (mC .non)) mNx)
  (mFor (mtT (mtC (mtN 2) (mtC (mtN 3) mt0))) (miEn (mV 1)) (mIf (mNot (mCall f_is_step (aC (mV 0) (aC (mV 3) a0)))) (mRaise 8 "index" (mV 2)) mNx))))
def f_check_plan : Fn := fnM 2 4 m_check_plan
theorem b_check_plan {P : Program} {w : World} {K : PySem.W.Frag} {mg : Str → Option Value} {base : Heap} (c : Fx P K mg base) (cdv : Value) (A : Around) (outer : List Env) (s : Shared) (H : Hp) (E : XK) (hr : Room 3 (A.deeper (envOfC "check_plan" (defScope (tops 53)) s.heap.objs.size ((pG "check_plan") K) cdv))) :
    SimSs (cxOf (L2N.CX P w) P w K mg base n_check_plan "check_plan" (defScope (tops 53)) ((pG "check_plan") K) cdv A outer s H E) ⟨P, w, K, cas K, E⟩ (defBody (tops 53)) m_check_plan := by
  obtain ⟨fdX, SX, BX⟩ := c.x_BadPlan.fn
  have c1 : CF (cxOf (L2N.CX P w) P w K mg base n_check_plan "check_plan" (defScope (tops 53)) ((pG "check_plan") K) cdv A outer s H E) E 3 := ⟨rfl, hr, L2N.takes_of rfl rfl rfl rfl, sc_check_plan.nd⟩
  have po : PassesOwn (model P w) (cxOf (L2N.CX P w) P w K mg base n_check_plan "check_plan" (defScope (tops 53)) ((pG "check_plan") K) cdv A outer s H E).A (cxOf (L2N.CX P w) P w K mg base n_check_plan "check_plan" (defScope (tops 53)) ((pG "check_plan") K) cdv A outer s H E).env (cxOf (L2N.CX P w) P w K mg base n_check_plan "check_plan" (defScope (tops 53)) ((pG "check_plan") K) cdv A outer s H E).xe := passes_of rfl
  exact (sims_cons (xEx (gCall c1 c.g_check_house c.h_check_house (k_check_house c) (gA (gV 0) g0)))
  (sims_cons (sims_if (tOr (tNot (tV (gIsi2 .list .tuple c.b_isinstance c.b_list bt_list c.b_tuple bt_tuple (gV 1)))) (simw_one (tCmp c1 (gLen c.b_len (gV 1)) (gG c.v_MAX_PLAN)))) (sims_one (sims_raise (c := 8) (f := "index") c1 SX c.x_BadPlan.ini c.x_BadPlan.ty BX c.g_BadPlan gN)) sims_nil)
  (sims_one (xFor c1 po (iEn c.b_enumerate (gV 1)) (uT c1 (uC (uN c1 2) (uC (uN c1 3) u0)) (mtC_len (mtC_len mt0_len))) (sims_one (sims_if (tNot (tV (gCall c1 c.g_is_step c.h_is_step (k_is_step c) (gA (gV 0) (gA (gV 3) g0))))) (sims_one (sims_raise (c := 8) (f := "index") c1 SX c.x_BadPlan.ini c.x_BadPlan.ty BX c.g_BadPlan (gV 2))) sims_nil))))))
theorem k_check_plan {P : Program} {w : World} {K : PySem.W.Frag} {mg : Str → Option Value} {base : Heap} (c : Fx P K mg base) : FnW P w K mg base (cas K) 4 f_check_plan ((pG "check_plan") K) := by
  obtain ⟨fd, F⟩ := c.d_check_plan
  exact fn_sim (ps := ["house", "steps"]) F sc_check_plan (F.bindsN fun _ _ _ _ _ _ us hl => match us, hl with | [_, _], _ => rfl) (b_check_plan c)
/-! State.__init__ -/
def n_State___init__ : List Str := ["self", "house", "steps"]
theorem sc_State___init__ : FnScope n_State___init__ ["self", "house", "steps"] (defScope (meths 56 1)) := fnScopeB (by decide +kernel)
def m_State___init__ : MS := (mSeq (mAtt (mV 0) [(2, 4)] (mV 1))
  (mSeq (mAtt (mV 0) [(2, 5)] (mV 2))
  (mSeq (mAtt (mV 0) [(2, 2)] (mAttr (mV 1) [(0, 2)]))
  (mSeq (mAtt (mV 0) [(2, 1)] (mC v_FIRST))
  (mSeq (mAtt (mV 0) [(2, 3)] (mC .non))
  (mAtt (mV 0) [(2, 0)] (mC (.int 0))))))))
def f_State___init__ : Fn := fnM 3 3 m_State___init__
theorem b_State___init__ {P : Program} {w : World} {K : PySem.W.Frag} {mg : Str → Option Value} {base : Heap} (c : Fx P K mg base) (cdv : Value) (A : Around) (outer : List Env) (s : Shared) (H : Hp) (E : XK) (hr : Room 0 (A.deeper (envOfC "State.__init__" (defScope (meths 56 1)) s.heap.objs.size ((pM "State" "__init__") K) cdv))) :
    SimSs (cxOf (L2N.CX P w) P w K mg base n_State___init__ "State.__init__" (defScope (meths 56 1)) ((pM "State" "__init__") K) cdv A outer s H E) ⟨P, w, K, cas K, E⟩ (defBody (meths 56 1)) m_State___init__ := by
  have c1 : CF (cxOf (L2N.CX P w) P w K mg base n_State___init__ "State.__init__" (defScope (meths 56 1)) ((pM "State" "__init__") K) cdv A outer s H E) E 0 := ⟨rfl, hr, L2N.takes_of rfl rfl rfl rfl, sc_State___init__.nd⟩
  have po : PassesOwn (model P w) (cxOf (L2N.CX P w) P w K mg base n_State___init__ "State.__init__" (defScope (meths 56 1)) ((pM "State" "__init__") K) cdv A outer s H E).A (cxOf (L2N.CX P w) P w K mg base n_State___init__ "State.__init__" (defScope (meths 56 1)) ((pM "State" "__init__") K) cdv A outer s H E).env (cxOf (L2N.CX P w) P w K mg base n_State___init__ "State.__init__" (defScope (meths 56 1)) ((pM "State" "__init__") K) cdv A outer s H E).xe := passes_of rfl
  exact (sims_cons (xAtt (k := 2) c.s_State c.t_State_house (gV 0) (gV 1))
  (sims_cons (xAtt (k := 2) c.s_State c.t_State_steps (gV 0) (gV 2))
  (sims_cons (xAtt (k := 2) c.s_State c.t_State_current (gV 0) (gAtt (k := 0) c.s_House c.t_House_first (gV 1)))
  (sims_cons (xAtt (k := 2) c.s_State c.t_State_contents (gV 0) (gG c.v_FIRST))
  (sims_cons (xAtt (k := 2) c.s_State c.t_State_hand (gV 0) gN)
  (sims_one (xAtt (k := 2) c.s_State c.t_State_begun (gV 0) gI)))))))
theorem k_State___init__ {P : Program} {w : World} {K : PySem.W.Frag} {mg : Str → Option Value} {base : Heap} (c : Fx P K mg base) : FnW P w K mg base (cas K) 1 f_State___init__ ((pM "State" "__init__") K) := by
  obtain ⟨fd, F⟩ := c.d_State___init__
  exact fn_sim (ps := ["self", "house", "steps"]) F sc_State___init__ (F.bindsN fun _ _ _ _ _ _ us hl => match us, hl with | [_, _, _], _ => rfl) (b_State___init__ c)
/-! State.key -/
def n_State_key : List Str := ["self"]
theorem sc_State_key : FnScope n_State_key ["self"] (defScope (meths 56 2)) := fnScopeB (by decide +kernel)
def m_State_key : MS := (mRet (mTup (aC (mAttr (mV 0) [(2, 2)]) (aC (mAttr (mV 0) [(2, 1)]) (aC (mAttr (mV 0) [(2, 3)]) (aC (mAttr (mV 0) [(2, 0)]) a0))))))
def f_State_key : Fn := fnM 1 1 m_State_key
theorem b_State_key {P : Program} {w : World} {K : PySem.W.Frag} {mg : Str → Option Value} {base : Heap} (c : Fx P K mg base) (cdv : Value) (A : Around) (outer : List Env) (s : Shared) (H : Hp) (E : XK) (hr : Room 0 (A.deeper (envOfC "State.key" (defScope (meths 56 2)) s.heap.objs.size ((pM "State" "key") K) cdv))) :
    SimSs (cxOf (L2N.CX P w) P w K mg base n_State_key "State.key" (defScope (meths 56 2)) ((pM "State" "key") K) cdv A outer s H E) ⟨P, w, K, cas K, E⟩ (defBody (meths 56 2)) m_State_key := by
  have c1 : CF (cxOf (L2N.CX P w) P w K mg base n_State_key "State.key" (defScope (meths 56 2)) ((pM "State" "key") K) cdv A outer s H E) E 0 := ⟨rfl, hr, L2N.takes_of rfl rfl rfl rfl, sc_State_key.nd⟩
  have po : PassesOwn (model P w) (cxOf (L2N.CX P w) P w K mg base n_State_key "State.key" (defScope (meths 56 2)) ((pM "State" "key") K) cdv A outer s H E).A (cxOf (L2N.CX P w) P w K mg base n_State_key "State.key" (defScope (meths 56 2)) ((pM "State" "key") K) cdv A outer s H E).env (cxOf (L2N.CX P w) P w K mg base n_State_key "State.key" (defScope (meths 56 2)) ((pM "State" "key") K) cdv A outer s H E).xe := passes_of rfl
  exact (sims_one (sims_ret (gTup (gA (gAtt (k := 2) c.s_State c.t_State_current (gV 0)) (gA (gAtt (k := 2) c.s_State c.t_State_contents (gV 0)) (gA (gAtt (k := 2) c.s_State c.t_State_hand (gV 0)) (gA (gAtt (k := 2) c.s_State c.t_State_begun (gV 0)) g0)))))))
theorem k_State_key {P : Program} {w : World} {K : PySem.W.Frag} {mg : Str → Option Value} {base : Heap} (c : Fx P K mg base) : FnW P w K mg base (cas K) 1 f_State_key ((pM "State" "key") K) := by
  obtain ⟨fd, F⟩ := c.d_State_key
  exact fn_sim (ps := ["self"]) F sc_State_key (F.bindsN fun _ _ _ _ _ _ us hl => match us, hl with | [_], _ => rfl) (b_State_key c)
/-! State.moved -/
def n_State_moved : List Str := ["self", "key"]
theorem sc_State_moved : FnScope n_State_moved ["self", "key"] (defScope (meths 56 3)) := fnScopeB (by decide +kernel)
def m_State_moved : MS := (mSeq (mAsA [((mV 0), [(2, 2)]), ((mV 0), [(2, 1)]), ((mV 0), [(2, 3)]), ((mV 0), [(2, 0)])] (mV 1))
  (mRet (mV 0)))
def f_State_moved : Fn := fnM 2 2 m_State_moved
theorem b_State_moved {P : Program} {w : World} {K : PySem.W.Frag} {mg : Str → Option Value} {base : Heap} (c : Fx P K mg base) (cdv : Value) (A : Around) (outer : List Env) (s : Shared) (H : Hp) (E : XK) (hr : Room 0 (A.deeper (envOfC "State.moved" (defScope (meths 56 3)) s.heap.objs.size ((pM "State" "moved") K) cdv))) :
    SimSs (cxOf (L2N.CX P w) P w K mg base n_State_moved "State.moved" (defScope (meths 56 3)) ((pM "State" "moved") K) cdv A outer s H E) ⟨P, w, K, cas K, E⟩ (defBody (meths 56 3)) m_State_moved := by
  have c1 : CF (cxOf (L2N.CX P w) P w K mg base n_State_moved "State.moved" (defScope (meths 56 3)) ((pM "State" "moved") K) cdv A outer s H E) E 0 := ⟨rfl, hr, L2N.takes_of rfl rfl rfl rfl, sc_State_moved.nd⟩
  have po : PassesOwn (model P w) (cxOf (L2N.CX P w) P w K mg base n_State_moved "State.moved" (defScope (meths 56 3)) ((pM "State" "moved") K) cdv A outer s H E).A (cxOf (L2N.CX P w) P w K mg base n_State_moved "State.moved" (defScope (meths 56 3)) ((pM "State" "moved") K) cdv A outer s H E).env (cxOf (L2N.CX P w) P w K mg base n_State_moved "State.moved" (defScope (meths 56 3)) ((pM "State" "moved") K) cdv A outer s H E).xe := passes_of rfl
  exact (sims_cons (sims_asA c1 (gV 1) (mt_cons (k := 2) c.s_State c.t_State_current (gV 0) (mt_cons (k := 2) c.s_State c.t_State_contents (gV 0) (mt_cons (k := 2) c.s_State c.t_State_hand (gV 0) (mt_cons (k := 2) c.s_State c.t_State_begun (gV 0) mt_nil)))))
  (sims_one (sims_ret (gV 0))))
theorem k_State_moved {P : Program} {w : World} {K : PySem.W.Frag} {mg : Str → Option Value} {base : Heap} (c : Fx P K mg base) : FnW P w K mg base (cas K) 1 f_State_moved ((pM "State" "moved") K) := by
  obtain ⟨fd, F⟩ := c.d_State_moved
  exact fn_sim (ps := ["self", "key"]) F sc_State_moved (F.bindsN fun _ _ _ _ _ _ us hl => match us, hl with | [_, _], _ => rfl) (b_State_moved c)
/-! State.is_stale -/
def n_State_is_stale : List Str := ["self", "event"]
theorem sc_State_is_stale : FnScope n_State_is_stale ["self", "event"] (defScope (meths 56 7)) := fnScopeB (by decide +kernel)
def m_State_is_stale : MS := (mRet (andM (mCmp .Eq (mSub (mV 1) (mC (.int 0))) (mC (.str "read"))) (mNot (mCall f_is_fine (aC (mSub (mAttr (mV 0) [(2, 2)]) (mSub (mV 1) (mC (.int 1)))) (aC (mAttr (mV 0) [(2, 1)]) a0))))))
def f_State_is_stale : Fn := fnM 2 2 m_State_is_stale
theorem b_State_is_stale {P : Program} {w : World} {K : PySem.W.Frag} {mg : Str → Option Value} {base : Heap} (c : Fx P K mg base) (cdv : Value) (A : Around) (outer : List Env) (s : Shared) (H : Hp) (E : XK) (hr : Room 1 (A.deeper (envOfC "State.is_stale" (defScope (meths 56 7)) s.heap.objs.size ((pM "State" "is_stale") K) cdv))) :
    SimSs (cxOf (L2N.CX P w) P w K mg base n_State_is_stale "State.is_stale" (defScope (meths 56 7)) ((pM "State" "is_stale") K) cdv A outer s H E) ⟨P, w, K, cas K, E⟩ (defBody (meths 56 7)) m_State_is_stale := by
  have c1 : CF (cxOf (L2N.CX P w) P w K mg base n_State_is_stale "State.is_stale" (defScope (meths 56 7)) ((pM "State" "is_stale") K) cdv A outer s H E) E 1 := ⟨rfl, hr, L2N.takes_of rfl rfl rfl rfl, sc_State_is_stale.nd⟩
  have po : PassesOwn (model P w) (cxOf (L2N.CX P w) P w K mg base n_State_is_stale "State.is_stale" (defScope (meths 56 7)) ((pM "State" "is_stale") K) cdv A outer s H E).A (cxOf (L2N.CX P w) P w K mg base n_State_is_stale "State.is_stale" (defScope (meths 56 7)) ((pM "State" "is_stale") K) cdv A outer s H E).env (cxOf (L2N.CX P w) P w K mg base n_State_is_stale "State.is_stale" (defScope (meths 56 7)) ((pM "State" "is_stale") K) cdv A outer s H E).xe := passes_of rfl
  exact (sims_one (sims_ret (sim_and (gCmp c1 (gSub c1 (gV 1) gI) gS) (sim_one (gNot (gCall c1 c.g_is_fine c.h_is_fine (k_is_fine c) (gA (gSub c1 (gAtt (k := 2) c.s_State c.t_State_current (gV 0)) (gSub c1 (gV 1) gI)) (gA (gAtt (k := 2) c.s_State c.t_State_contents (gV 0)) g0))))))))
theorem k_State_is_stale {P : Program} {w : World} {K : PySem.W.Frag} {mg : Str → Option Value} {base : Heap} (c : Fx P K mg base) : FnW P w K mg base (cas K) 2 f_State_is_stale ((pM "State" "is_stale") K) := by
  obtain ⟨fd, F⟩ := c.d_State_is_stale
  exact fn_sim (ps := ["self", "event"]) F sc_State_is_stale (F.bindsN fun _ _ _ _ _ _ us hl => match us, hl with | [_, _], _ => rfl) (b_State_is_stale c)
/-! events_of -/
def n_events_of : List Str := ["house", "server"]
theorem sc_events_of : FnScope n_events_of ["house"] (defScope (tops 58)) := fnScopeB (by decide +kernel)
def m_events_of : MS := (mRet (mLst (aS (mLc [1] (mtN 1) (miRg (mLenO (tab1 f_House___len__) (mV 0) [(0, 0)])) mYes (mTup (aC (mC (.str "write")) (aC (mV 1) a0)))) (aC (mTup (aC (mC (.str "step")) a0)) (aC (mTup (aC (mC (.str "done")) a0)) a0)))))
def f_events_of : Fn := fnM 1 2 m_events_of
theorem b_events_of {P : Program} {w : World} {K : PySem.W.Frag} {mg : Str → Option Value} {base : Heap} (c : Fx P K mg base) (cdv : Value) (A : Around) (outer : List Env) (s : Shared) (H : Hp) (E : XK) (hr : Room 2 (A.deeper (envOfC "events_of" (defScope (tops 58)) s.heap.objs.size ((pG "events_of") K) cdv))) :
    SimSs (cxOf (L2N.CX P w) P w K mg base n_events_of "events_of" (defScope (tops 58)) ((pG "events_of") K) cdv A outer s H E) ⟨P, w, K, cas K, E⟩ (defBody (tops 58)) m_events_of := by
  have c1 : CF (cxOf (L2N.CX P w) P w K mg base n_events_of "events_of" (defScope (tops 58)) ((pG "events_of") K) cdv A outer s H E) E 2 := ⟨rfl, hr, L2N.takes_of rfl rfl rfl rfl, sc_events_of.nd⟩
  have po : PassesOwn (model P w) (cxOf (L2N.CX P w) P w K mg base n_events_of "events_of" (defScope (tops 58)) ((pG "events_of") K) cdv A outer s H E).A (cxOf (L2N.CX P w) P w K mg base n_events_of "events_of" (defScope (tops 58)) ((pG "events_of") K) cdv A outer s H E).env (cxOf (L2N.CX P w) P w K mg base n_events_of "events_of" (defScope (tops 58)) ((pG "events_of") K) cdv A outer s H E).xe := passes_of rfl
  exact (sims_one (sims_ret (gLst (gStarA (gLc c1 [("server", 1)] (iRg c.b_range (gLenO (k := 0) c1 c.b_len c.s_House c.m_House___len__ (k_House___len__ c) (gV 0))) (fun s1 H1 C1 l1 q1 => (uN (c1.blk s1 H1 _ _ q1) 1)) (fun s2 H2 C2 l2 q2 => simts_nil) (fun s3 H3 C3 l3 q3 => (gTup (gA gS (gA (gV 1) g0))))) (gA (gTup (gA gS g0)) (gA (gTup (gA gS g0)) g0))))))
theorem k_events_of {P : Program} {w : World} {K : PySem.W.Frag} {mg : Str → Option Value} {base : Heap} (c : Fx P K mg base) : FnW P w K mg base (cas K) 3 f_events_of ((pG "events_of") K) := by
  obtain ⟨fd, F⟩ := c.d_events_of
  exact fn_sim (ps := ["house"]) F sc_events_of (F.bindsN fun _ _ _ _ _ _ us hl => match us, hl with | [_], _ => rfl) (b_events_of c)
/-! State.can -/
def n_State_can : List Str := ["self", "event"]
theorem sc_State_can : FnScope n_State_can ["self", "event"] (defScope (meths 56 4)) := fnScopeB (by decide +kernel)
def m_State_can : MS := (mSeq (mIf (mCmp .Eq (mV 1) (mTup (aC (mC (.str "step")) a0))) (mRet (andM (mCmp .Is (mAttr (mV 0) [(2, 3)]) (mC .non)) (mCmp .Lt (mAttr (mV 0) [(2, 0)]) (mB1 (g1 lenA) (mAttr (mV 0) [(2, 5)]))))) mNx)
  (mSeq (mIf (mCmp .Eq (mV 1) (mTup (aC (mC (.str "done")) a0))) (mRet (mCmp .IsNot (mAttr (mV 0) [(2, 3)]) (mC .non))) mNx)
  (mRet (andM (mInX false (mSub (mV 1) (mC (.int 0))) (mTup (aC (mC (.str "write")) (aC (mC (.str "read")) a0)))) (andM (mCmp .Eq (mB1 (g1 lenA) (mV 1)) (mC (.int 2))) (mCall f_is_integer (aC (mSub (mV 1) (mC (.int 1))) (aC (mC (.int 0)) (aC (mBinX .Sub (mLenO (tab1 f_House___len__) (mAttr (mV 0) [(2, 4)]) [(0, 0)]) (mC (.int 1))) a0)))))))))
def f_State_can : Fn := fnM 2 2 m_State_can
theorem b_State_can {P : Program} {w : World} {K : PySem.W.Frag} {mg : Str → Option Value} {base : Heap} (c : Fx P K mg base) (cdv : Value) (A : Around) (outer : List Env) (s : Shared) (H : Hp) (E : XK) (hr : Room 2 (A.deeper (envOfC "State.can" (defScope (meths 56 4)) s.heap.objs.size ((pM "State" "can") K) cdv))) :
    SimSs (cxOf (L2N.CX P w) P w K mg base n_State_can "State.can" (defScope (meths 56 4)) ((pM "State" "can") K) cdv A outer s H E) ⟨P, w, K, cas K, E⟩ (defBody (meths 56 4)) m_State_can := by
  have c1 : CF (cxOf (L2N.CX P w) P w K mg base n_State_can "State.can" (defScope (meths 56 4)) ((pM "State" "can") K) cdv A outer s H E) E 2 := ⟨rfl, hr, L2N.takes_of rfl rfl rfl rfl, sc_State_can.nd⟩
  have po : PassesOwn (model P w) (cxOf (L2N.CX P w) P w K mg base n_State_can "State.can" (defScope (meths 56 4)) ((pM "State" "can") K) cdv A outer s H E).A (cxOf (L2N.CX P w) P w K mg base n_State_can "State.can" (defScope (meths 56 4)) ((pM "State" "can") K) cdv A outer s H E).env (cxOf (L2N.CX P w) P w K mg base n_State_can "State.can" (defScope (meths 56 4)) ((pM "State" "can") K) cdv A outer s H E).xe := passes_of rfl
  exact (sims_cons (sims_if (tCmp c1 (gV 1) (gTup (gA gS g0))) (sims_one (sims_ret (sim_and (gCmp c1 (gAtt (k := 2) c.s_State c.t_State_hand (gV 0)) gN) (sim_one (gCmp c1 (gAtt (k := 2) c.s_State c.t_State_begun (gV 0)) (gLen c.b_len (gAtt (k := 2) c.s_State c.t_State_steps (gV 0)))))))) sims_nil)
  (sims_cons (sims_if (tCmp c1 (gV 1) (gTup (gA gS g0))) (sims_one (sims_ret (gCmp c1 (gAtt (k := 2) c.s_State c.t_State_hand (gV 0)) gN))) sims_nil)
  (sims_one (sims_ret (sim_and (gInX c1 (gSub c1 (gV 1) gI) (gTup (gA gS (gA gS g0)))) (sim_and (gCmp c1 (gLen c.b_len (gV 1)) gI) (sim_one (gCall c1 c.g_is_integer c.h_is_integer (k_is_integer c) (gA (gSub c1 (gV 1) gI) (gA gI (gA (gBinX (gLenO (k := 0) c1 c.b_len c.s_House c.m_House___len__ (k_House___len__ c) (gAtt (k := 2) c.s_State c.t_State_house (gV 0))) gI) g0)))))))))))
theorem k_State_can {P : Program} {w : World} {K : PySem.W.Frag} {mg : Str → Option Value} {base : Heap} (c : Fx P K mg base) : FnW P w K mg base (cas K) 3 f_State_can ((pM "State" "can") K) := by
  obtain ⟨fd, F⟩ := c.d_State_can
  exact fn_sim (ps := ["self", "event"]) F sc_State_can (F.bindsN fun _ _ _ _ _ _ us hl => match us, hl with | [_, _], _ => rfl) (b_State_can c)
/-! State.begin -/
def n_State_begin : List Str := ["self", "step"]
theorem sc_State_begin : FnScope n_State_begin ["self", "step"] (defScope (meths 56 6)) := fnScopeB (by decide +kernel)
def m_State_begin : MS := (mSeq (mAug (mV 0) [(2, 0)] (mC (.int 1)))
  (mIf (mCmp .Eq (mV 1) (mC v_COPY)) (mAtt (mV 0) [(2, 3)] (mTup (aC (mSub (mAttr (mV 0) [(2, 1)]) (mC (.int 0))) (aC (mC (.bl true)) a0)))) (mAtt (mV 0) [(2, 2)] (mCall f_modes_after (aC (mAttr (mV 0) [(2, 2)]) (aC (mV 1) a0))))))
def f_State_begin : Fn := fnM 2 2 m_State_begin
theorem b_State_begin {P : Program} {w : World} {K : PySem.W.Frag} {mg : Str → Option Value} {base : Heap} (c : Fx P K mg base) (cdv : Value) (A : Around) (outer : List Env) (s : Shared) (H : Hp) (E : XK) (hr : Room 1 (A.deeper (envOfC "State.begin" (defScope (meths 56 6)) s.heap.objs.size ((pM "State" "begin") K) cdv))) :
    SimSs (cxOf (L2N.CX P w) P w K mg base n_State_begin "State.begin" (defScope (meths 56 6)) ((pM "State" "begin") K) cdv A outer s H E) ⟨P, w, K, cas K, E⟩ (defBody (meths 56 6)) m_State_begin := by
  have c1 : CF (cxOf (L2N.CX P w) P w K mg base n_State_begin "State.begin" (defScope (meths 56 6)) ((pM "State" "begin") K) cdv A outer s H E) E 1 := ⟨rfl, hr, L2N.takes_of rfl rfl rfl rfl, sc_State_begin.nd⟩
  have po : PassesOwn (model P w) (cxOf (L2N.CX P w) P w K mg base n_State_begin "State.begin" (defScope (meths 56 6)) ((pM "State" "begin") K) cdv A outer s H E).A (cxOf (L2N.CX P w) P w K mg base n_State_begin "State.begin" (defScope (meths 56 6)) ((pM "State" "begin") K) cdv A outer s H E).env (cxOf (L2N.CX P w) P w K mg base n_State_begin "State.begin" (defScope (meths 56 6)) ((pM "State" "begin") K) cdv A outer s H E).xe := passes_of rfl
  exact (sims_cons (sims_augA (k := 2) c.s_State c.t_State_begun (gV 0) gI)
  (sims_one (sims_if (tCmp c1 (gV 1) (gG c.v_COPY)) (sims_one (xAtt (k := 2) c.s_State c.t_State_hand (gV 0) (gTup (gA (gSub c1 (gAtt (k := 2) c.s_State c.t_State_contents (gV 0)) gI) (gA gB g0))))) (sims_one (xAtt (k := 2) c.s_State c.t_State_current (gV 0) (gCall c1 c.g_modes_after c.h_modes_after (k_modes_after c) (gA (gAtt (k := 2) c.s_State c.t_State_current (gV 0)) (gA (gV 1) g0))))))))
theorem k_State_begin {P : Program} {w : World} {K : PySem.W.Frag} {mg : Str → Option Value} {base : Heap} (c : Fx P K mg base) : FnW P w K mg base (cas K) 2 f_State_begin ((pM "State" "begin") K) := by
  obtain ⟨fd, F⟩ := c.d_State_begin
  exact fn_sim (ps := ["self", "step"]) F sc_State_begin (F.bindsN fun _ _ _ _ _ _ us hl => match us, hl with | [_, _], _ => rfl) (b_State_begin c)
/-! State.does -/
def n_State_does : List Str := ["self", "event"]
theorem sc_State_does : FnScope n_State_does ["self", "event"] (defScope (meths 56 5)) := fnScopeB (by decide +kernel)
def m_State_does : MS := (mIf (mCmp .Eq (mV 1) (mTup (aC (mC (.str "step")) a0))) (mEx (mMet (tab1 f_State_begin) (mV 0) [(2, 0)] (aC (mSub (mAttr (mV 0) [(2, 5)]) (mAttr (mV 0) [(2, 0)])) a0))) (mIf (mCmp .Eq (mV 1) (mTup (aC (mC (.str "done")) a0))) (mSeq (mAtt (mV 0) [(2, 1)] (mCall f_put_down (aC (mAttr (mAttr (mV 0) [(2, 4)]) [(0, 0)]) (aC (mTup (aC (mAttr (mV 0) [(2, 1)]) (aS (mAttr (mV 0) [(2, 3)]) a0))) a0))))
  (mAtt (mV 0) [(2, 3)] (mC .non))) (mIf (mCmp .Eq (mSub (mV 1) (mC (.int 0))) (mC (.str "write"))) (mSeq (mAtt (mV 0) [(2, 1)] (mCall f_written (aC (mAttr (mV 0) [(2, 1)]) (aC (mSub (mSub (mAttr (mV 0) [(2, 2)]) (mSub (mV 1) (mC (.int 1)))) (mC (.int 1))) a0))))
  (mAtt (mV 0) [(2, 3)] (mIte (mCmp .Is (mAttr (mV 0) [(2, 3)]) (mC .non)) (mC .non) (mTup (aC (mC v_STALE) (aC (mC (.bl false)) a0)))))) mNx)))
def f_State_does : Fn := fnM 2 2 m_State_does
theorem b_State_does {P : Program} {w : World} {K : PySem.W.Frag} {mg : Str → Option Value} {base : Heap} (c : Fx P K mg base) (cdv : Value) (A : Around) (outer : List Env) (s : Shared) (H : Hp) (E : XK) (hr : Room 2 (A.deeper (envOfC "State.does" (defScope (meths 56 5)) s.heap.objs.size ((pM "State" "does") K) cdv))) :
    SimSs (cxOf (L2N.CX P w) P w K mg base n_State_does "State.does" (defScope (meths 56 5)) ((pM "State" "does") K) cdv A outer s H E) ⟨P, w, K, cas K, E⟩ (defBody (meths 56 5)) m_State_does := by
  have c1 : CF (cxOf (L2N.CX P w) P w K mg base n_State_does "State.does" (defScope (meths 56 5)) ((pM "State" "does") K) cdv A outer s H E) E 2 := ⟨rfl, hr, L2N.takes_of rfl rfl rfl rfl, sc_State_does.nd⟩
  have po : PassesOwn (model P w) (cxOf (L2N.CX P w) P w K mg base n_State_does "State.does" (defScope (meths 56 5)) ((pM "State" "does") K) cdv A outer s H E).A (cxOf (L2N.CX P w) P w K mg base n_State_does "State.does" (defScope (meths 56 5)) ((pM "State" "does") K) cdv A outer s H E).env (cxOf (L2N.CX P w) P w K mg base n_State_does "State.does" (defScope (meths 56 5)) ((pM "State" "does") K) cdv A outer s H E).xe := passes_of rfl
  exact (sims_one (sims_if (tCmp c1 (gV 1) (gTup (gA gS g0))) (sims_one (xEx (gMet (k := 2) c1 c.s_State c.m_State_begin (k_State_begin c) (gV 0) (gA (gSub c1 (gAtt (k := 2) c.s_State c.t_State_steps (gV 0)) (gAtt (k := 2) c.s_State c.t_State_begun (gV 0))) g0)))) (sims_one (sims_if (tCmp c1 (gV 1) (gTup (gA gS g0))) (sims_cons (xAtt (k := 2) c.s_State c.t_State_contents (gV 0) (gCall c1 c.g_put_down c.h_put_down (k_put_down c) (gA (gAtt (k := 0) c.s_House c.t_House_copies (gAtt (k := 2) c.s_State c.t_State_house (gV 0))) (gA (gTup (gA (gAtt (k := 2) c.s_State c.t_State_contents (gV 0)) (gStarA (gAtt (k := 2) c.s_State c.t_State_hand (gV 0)) g0))) g0))))
  (sims_one (xAtt (k := 2) c.s_State c.t_State_hand (gV 0) gN))) (sims_one (sims_if (tCmp c1 (gSub c1 (gV 1) gI) gS) (sims_cons (xAtt (k := 2) c.s_State c.t_State_contents (gV 0) (gCall c1 c.g_written c.h_written (k_written c) (gA (gAtt (k := 2) c.s_State c.t_State_contents (gV 0)) (gA (gSub c1 (gSub c1 (gAtt (k := 2) c.s_State c.t_State_current (gV 0)) (gSub c1 (gV 1) gI)) gI) g0))))
  (sims_one (xAtt (k := 2) c.s_State c.t_State_hand (gV 0) (gIte (tCmp c1 (gAtt (k := 2) c.s_State c.t_State_hand (gV 0)) gN) gN (gTup (gA (gG c.v_STALE) (gA gB g0))))))) sims_nil))))))
theorem k_State_does {P : Program} {w : World} {K : PySem.W.Frag} {mg : Str → Option Value} {base : Heap} (c : Fx P K mg base) : FnW P w K mg base (cas K) 3 f_State_does ((pM "State" "does") K) := by
  obtain ⟨fd, F⟩ := c.d_State_does
  exact fn_sim (ps := ["self", "event"]) F sc_State_does (F.bindsN fun _ _ _ _ _ _ us hl => match us, hl with | [_, _], _ => rfl) (b_State_does c)
/-! stale_run -/
def n_stale_run : List Str := ["house", "steps", "state", "known", "waiting", "key", "bad", "event"]
theorem sc_stale_run : FnScope n_stale_run ["house", "steps"] (defScope (tops 59)) := fnScopeB (by decide +kernel)
def m_stale_run : MS := (mSeq (mSet 2 (newM 2 f_State___init__ (aC (mV 0) (aC (mV 1) a0))))
  (mSeq (mPar 3 4 (mD1 (mMet0 (tab1 f_State_key) (mV 2) [(2, 0)]) (mTup a0)) (mLst (aC (mMet0 (tab1 f_State_key) (mV 2) [(2, 0)]) a0)))
  (mSeq (mWhl (mCmp .NotEq (mV 4) (mLst a0)) (mSeq (mSet 5 (mBm .pop0 (mV 4) (aC (mC (.int 0)) a0)))
  (mSeq (mEx (mMet (tab1 f_State_moved) (mV 2) [(2, 0)] (aC (mV 5) a0)))
  (mSeq (mSet 6 (mNextG (miRg (mLenO (tab1 f_House___len__) (mV 0) [(0, 0)])) (mMet (tab1 f_State_is_stale) (mV 2) [(2, 0)] (aC (mTup (aC (mC (.str "read")) (aC (mV 8) a0))) a0))))
  (mSeq (mIf (mCmp .IsNot (mV 6) (mC .non)) (mRet (mLst (aS (mSub (mV 3) (mV 5)) (aC (mTup (aC (mC (.str "read")) (aC (mV 6) a0))) a0)))) mNx)
  (mFor (mtN 7) (miOf (mCall f_events_of (aC (mV 0) a0))) (mSeq (mEx (mMet (tab1 f_State_moved) (mV 2) [(2, 0)] (aC (mV 5) a0)))
  (mIf (mMet (tab1 f_State_can) (mV 2) [(2, 0)] (aC (mV 7) a0)) (mSeq (mEx (mMet (tab1 f_State_does) (mV 2) [(2, 0)] (aC (mV 7) a0)))
  (mIf (mInX true (mMet0 (tab1 f_State_key) (mV 2) [(2, 0)]) (mV 3)) (mSeq (mPut (mV 3) (mMet0 (tab1 f_State_key) (mV 2) [(2, 0)]) (mTup (aS (mSub (mV 3) (mV 5)) (aC (mV 7) a0))))
  (mEx (mBm .append (mV 4) (aC (mMet0 (tab1 f_State_key) (mV 2) [(2, 0)]) a0)))) mNx)) mNx))))))))
  (mRet (mC .non)))))
def f_stale_run : Fn := fnM 2 8 m_stale_run
theorem b_stale_run {P : Program} {w : World} {K : PySem.W.Frag} {mg : Str → Option Value} {base : Heap} (c : Fx P K mg base) (A : Around) (outer : List Env) (s : Shared) (H : Hp) (E : XK) (hr : Room 4 (A.deeper (envOfC "stale_run" (defScope (tops 59)) s.heap.objs.size ((pG "stale_run") K) (.ref (He.cT K ("stale_run", none)).1)))) :
    SimSs (cxOf (L2N.CX P w) P w K mg base n_stale_run "stale_run" (defScope (tops 59)) ((pG "stale_run") K) (.ref (He.cT K ("stale_run", none)).1) A outer s H E) ⟨P, w, K, cas K, E⟩ (defBody (tops 59)) m_stale_run := by
  have c1 : CF (cxOf (L2N.CX P w) P w K mg base n_stale_run "stale_run" (defScope (tops 59)) ((pG "stale_run") K) (.ref (He.cT K ("stale_run", none)).1) A outer s H E) E 4 := ⟨rfl, hr, L2N.takes_of rfl rfl rfl rfl, sc_stale_run.nd⟩
  have po : PassesOwn (model P w) (cxOf (L2N.CX P w) P w K mg base n_stale_run "stale_run" (defScope (tops 59)) ((pG "stale_run") K) (.ref (He.cT K ("stale_run", none)).1) A outer s H E).A (cxOf (L2N.CX P w) P w K mg base n_stale_run "stale_run" (defScope (tops 59)) ((pG "stale_run") K) (.ref (He.cT K ("stale_run", none)).1) A outer s H E).env (cxOf (L2N.CX P w) P w K mg base n_stale_run "stale_run" (defScope (tops 59)) ((pG "stale_run") K) (.ref (He.cT K ("stale_run", none)).1) A outer s H E).xe := passes_of rfl
  exact (sims_cons (xSet c1 2 (gNew (k := 2) c1 c.g_State c.k_State (k_State___init__ c) (gA (gV 0) (gA (gV 1) g0))))
  (sims_cons (xPar c1 3 4 (gD1 c1 (gMet0 (k := 2) c1 c.s_State c.m_State_key (k_State_key c) (gV 2)) (gTup g0)) (gLst (gA (gMet0 (k := 2) c1 c.s_State c.m_State_key (k_State_key c) (gV 2)) g0)))
  (sims_cons (sims_whl po (tCmp c1 (gV 4) (gLst g0)) (sims_cons (xSet c1 5 (gPop0 (gV 4) gI))
  (sims_cons (xEx (gMet (k := 2) c1 c.s_State c.m_State_moved (k_State_moved c) (gV 2) (gA (gV 5) g0)))
  (sims_cons (xSet c1 6 (gNextG (x := "server") (k := 2) c1 c.b_next c.tb_stale_run rfl (in_stale_run K) (one_stale_run c) (gxS_by (by kernel_rfl)) (show (n_stale_run ++ [("server" : Str)]).Nodup by decide) (show (".0" : Str) ∉ n_stale_run by decide) (iRg c.b_range (gLenO (k := 0) c1 c.b_len c.s_House c.m_House___len__ (k_House___len__ c) (gV 0))) (fun A s H fp C code c2 => (tV (gMet (k := 2) c2 c.s_State c.m_State_is_stale (k_State_is_stale c) (gV 2) (gA (gTup (gA gS (gA (gV 8) g0))) g0))))))
  (sims_cons (sims_if (tCmp c1 (gV 6) gN) (sims_one (sims_ret (gLst (gStarA (gSub c1 (gV 3) (gV 5)) (gA (gTup (gA gS (gA (gV 6) g0))) g0))))) sims_nil)
  (sims_one (xFor c1 po (simi_of (gCall c1 c.g_events_of c.h_events_of (k_events_of c) (gA (gV 0) g0))) (uN c1 7) (sims_cons (xEx (gMet (k := 2) c1 c.s_State c.m_State_moved (k_State_moved c) (gV 2) (gA (gV 5) g0)))
  (sims_one (sims_if (tV (gMet (k := 2) c1 c.s_State c.m_State_can (k_State_can c) (gV 2) (gA (gV 7) g0))) (sims_cons (xEx (gMet (k := 2) c1 c.s_State c.m_State_does (k_State_does c) (gV 2) (gA (gV 7) g0)))
  (sims_one (sims_if (tNiX c1 (gMet0 (k := 2) c1 c.s_State c.m_State_key (k_State_key c) (gV 2)) (gV 3)) (sims_cons (xPut c1 (gV 3) (gMet0 (k := 2) c1 c.s_State c.m_State_key (k_State_key c) (gV 2)) (gTup (gStarA (gSub c1 (gV 3) (gV 5)) (gA (gV 7) g0))))
  (sims_one (xEx (gApp (gV 4) (gMet0 (k := 2) c1 c.s_State c.m_State_key (k_State_key c) (gV 2)))))) sims_nil))) sims_nil))))))))))
  (sims_one (sims_ret gN)))))
theorem k_stale_run {P : Program} {w : World} {K : PySem.W.Frag} {mg : Str → Option Value} {base : Heap} (c : Fx P K mg base) : FnW P w K mg base (cas K) 5 f_stale_run ((pG "stale_run") K) := by
  obtain ⟨fd, F⟩ := c.d_stale_run
  have hb : Binds K fd ["house", "steps"] [] := F.bindsN fun _ _ _ _ _ _ us hl => match us, hl with | [_, _], _ => rfl
  refine fn_simC (ps := ["house", "steps"]) F sc_stale_run hb fun A outer s H E => ?_
  rw [code_at F]
  exact b_stale_run c A outer s H E
/-! Safe.__init__ -/
def n_Safe___init__ : List Str := ["self", "views"]
theorem sc_Safe___init__ : FnScope n_Safe___init__ ["self", "views"] (defScope (meths 55 1)) := fnScopeB (by decide +kernel)
def m_Safe___init__ : MS := (mAtt (mV 0) [(1, 0)] (mB1 (g1 (b1A .list)) (mV 1)))
def f_Safe___init__ : Fn := fnM 2 2 m_Safe___init__
theorem b_Safe___init__ {P : Program} {w : World} {K : PySem.W.Frag} {mg : Str → Option Value} {base : Heap} (c : Fx P K mg base) (cdv : Value) (A : Around) (outer : List Env) (s : Shared) (H : Hp) (E : XK) (hr : Room 0 (A.deeper (envOfC "Safe.__init__" (defScope (meths 55 1)) s.heap.objs.size ((pM "Safe" "__init__") K) cdv))) :
    SimSs (cxOf (L2N.CX P w) P w K mg base n_Safe___init__ "Safe.__init__" (defScope (meths 55 1)) ((pM "Safe" "__init__") K) cdv A outer s H E) ⟨P, w, K, cas K, E⟩ (defBody (meths 55 1)) m_Safe___init__ := by
  have c1 : CF (cxOf (L2N.CX P w) P w K mg base n_Safe___init__ "Safe.__init__" (defScope (meths 55 1)) ((pM "Safe" "__init__") K) cdv A outer s H E) E 0 := ⟨rfl, hr, L2N.takes_of rfl rfl rfl rfl, sc_Safe___init__.nd⟩
  have po : PassesOwn (model P w) (cxOf (L2N.CX P w) P w K mg base n_Safe___init__ "Safe.__init__" (defScope (meths 55 1)) ((pM "Safe" "__init__") K) cdv A outer s H E).A (cxOf (L2N.CX P w) P w K mg base n_Safe___init__ "Safe.__init__" (defScope (meths 55 1)) ((pM "Safe" "__init__") K) cdv A outer s H E).env (cxOf (L2N.CX P w) P w K mg base n_Safe___init__ "Safe.__init__" (defScope (meths 55 1)) ((pM "Safe" "__init__") K) cdv A outer s H E).xe := passes_of rfl
  exact (sims_one (xAtt (k := 1) c.s_Safe c.t_Safe_views (gV 0) (gList c1 c.b_list (gV 1))))
theorem k_Safe___init__ {P : Program} {w : World} {K : PySem.W.Frag} {mg : Str → Option Value} {base : Heap} (c : Fx P K mg base) : FnW P w K mg base (cas K) 1 f_Safe___init__ ((pM "Safe" "__init__") K) := by
  obtain ⟨fd, F⟩ := c.d_Safe___init__
  exact fn_sim (ps := ["self", "views"]) F sc_Safe___init__ (F.bindsN fun _ _ _ _ _ _ us hl => match us, hl with | [_, _], _ => rfl) (b_Safe___init__ c)
/-! modes_by -/
def n_modes_by : List Str := ["house", "steps", "found", "step"]
theorem sc_modes_by : FnScope n_modes_by ["house", "steps"] (defScope (tops 54)) := fnScopeB (by decide +kernel)
def m_modes_by : MS := (mSeq (mSet 2 (mLst (aC (mAttr (mV 0) [(0, 2)]) a0)))
  (mSeq (mFor (mtN 3) (miOf (mV 1)) (mEx (mBm .append (mV 2) (aC (mCall f_modes_after (aC (mSub (mV 2) (mNeg (mC (.int 1)))) (aC (mV 3) a0))) a0))))
  (mRet (mV 2))))
def f_modes_by : Fn := fnM 2 4 m_modes_by
theorem b_modes_by {P : Program} {w : World} {K : PySem.W.Frag} {mg : Str → Option Value} {base : Heap} (c : Fx P K mg base) (cdv : Value) (A : Around) (outer : List Env) (s : Shared) (H : Hp) (E : XK) (hr : Room 1 (A.deeper (envOfC "modes_by" (defScope (tops 54)) s.heap.objs.size ((pG "modes_by") K) cdv))) :
    SimSs (cxOf (L2N.CX P w) P w K mg base n_modes_by "modes_by" (defScope (tops 54)) ((pG "modes_by") K) cdv A outer s H E) ⟨P, w, K, cas K, E⟩ (defBody (tops 54)) m_modes_by := by
  have c1 : CF (cxOf (L2N.CX P w) P w K mg base n_modes_by "modes_by" (defScope (tops 54)) ((pG "modes_by") K) cdv A outer s H E) E 1 := ⟨rfl, hr, L2N.takes_of rfl rfl rfl rfl, sc_modes_by.nd⟩
  have po : PassesOwn (model P w) (cxOf (L2N.CX P w) P w K mg base n_modes_by "modes_by" (defScope (tops 54)) ((pG "modes_by") K) cdv A outer s H E).A (cxOf (L2N.CX P w) P w K mg base n_modes_by "modes_by" (defScope (tops 54)) ((pG "modes_by") K) cdv A outer s H E).env (cxOf (L2N.CX P w) P w K mg base n_modes_by "modes_by" (defScope (tops 54)) ((pG "modes_by") K) cdv A outer s H E).xe := passes_of rfl
  exact (sims_cons (xSet c1 2 (gLst (gA (gAtt (k := 0) c.s_House c.t_House_first (gV 0)) g0)))
  (sims_cons (xFor c1 po (simi_of (gV 1)) (uN c1 3) (sims_one (xEx (gApp (gV 2) (gCall c1 c.g_modes_after c.h_modes_after (k_modes_after c) (gA (gSub c1 (gV 2) (gNeg gI)) (gA (gV 3) g0)))))))
  (sims_one (sims_ret (gV 2)))))
theorem k_modes_by {P : Program} {w : World} {K : PySem.W.Frag} {mg : Str → Option Value} {base : Heap} (c : Fx P K mg base) : FnW P w K mg base (cas K) 2 f_modes_by ((pG "modes_by") K) := by
  obtain ⟨fd, F⟩ := c.d_modes_by
  exact fn_sim (ps := ["house", "steps"]) F sc_modes_by (F.bindsN fun _ _ _ _ _ _ us hl => match us, hl with | [_, _], _ => rfl) (b_modes_by c)
/-! views_of -/
def n_views_of : List Str := ["house", "steps", "rows", "views", "index", "step"]
theorem sc_views_of : FnScope n_views_of ["house", "steps"] (defScope (tops 60)) := fnScopeB (by decide +kernel)
def m_views_of : MS := (mSeq (mPar 2 3 (mCall f_modes_by (aC (mV 0) (aC (mV 1) a0))) (mLst (aC (mCall f_grown (aC (mAttr (mV 0) [(0, 2)]) (aC (mLst (aC (mC v_FIRST) a0)) a0))) a0)))
  (mSeq (mFor (mtT (mtC (mtN 4) (mtC (mtN 5) mt0))) (miEn (mV 1)) (mEx (mBm .append (mV 3) (aC (mCall f_view_after (aC (mV 0) (aC (mSub (mV 2) (mV 4)) (aC (mSub (mV 3) (mNeg (mC (.int 1)))) (aC (mV 5) a0))))) a0))))
  (mRet (mV 3))))
def f_views_of : Fn := fnM 2 6 m_views_of
theorem b_views_of {P : Program} {w : World} {K : PySem.W.Frag} {mg : Str → Option Value} {base : Heap} (c : Fx P K mg base) (cdv : Value) (A : Around) (outer : List Env) (s : Shared) (H : Hp) (E : XK) (hr : Room 5 (A.deeper (envOfC "views_of" (defScope (tops 60)) s.heap.objs.size ((pG "views_of") K) cdv))) :
    SimSs (cxOf (L2N.CX P w) P w K mg base n_views_of "views_of" (defScope (tops 60)) ((pG "views_of") K) cdv A outer s H E) ⟨P, w, K, cas K, E⟩ (defBody (tops 60)) m_views_of := by
  have c1 : CF (cxOf (L2N.CX P w) P w K mg base n_views_of "views_of" (defScope (tops 60)) ((pG "views_of") K) cdv A outer s H E) E 5 := ⟨rfl, hr, L2N.takes_of rfl rfl rfl rfl, sc_views_of.nd⟩
  have po : PassesOwn (model P w) (cxOf (L2N.CX P w) P w K mg base n_views_of "views_of" (defScope (tops 60)) ((pG "views_of") K) cdv A outer s H E).A (cxOf (L2N.CX P w) P w K mg base n_views_of "views_of" (defScope (tops 60)) ((pG "views_of") K) cdv A outer s H E).env (cxOf (L2N.CX P w) P w K mg base n_views_of "views_of" (defScope (tops 60)) ((pG "views_of") K) cdv A outer s H E).xe := passes_of rfl
  exact (sims_cons (xPar c1 2 3 (gCall c1 c.g_modes_by c.h_modes_by (k_modes_by c) (gA (gV 0) (gA (gV 1) g0))) (gLst (gA (gCall c1 c.g_grown c.h_grown (k_grown c) (gA (gAtt (k := 0) c.s_House c.t_House_first (gV 0)) (gA (gLst (gA (gG c.v_FIRST) g0)) g0))) g0)))
  (sims_cons (xFor c1 po (iEn c.b_enumerate (gV 1)) (uT c1 (uC (uN c1 4) (uC (uN c1 5) u0)) (mtC_len (mtC_len mt0_len))) (sims_one (xEx (gApp (gV 3) (gCall c1 c.g_view_after c.h_view_after (k_view_after c) (gA (gV 0) (gA (gSub c1 (gV 2) (gV 4)) (gA (gSub c1 (gV 3) (gNeg gI)) (gA (gV 5) g0)))))))))
  (sims_one (sims_ret (gV 3)))))
theorem k_views_of {P : Program} {w : World} {K : PySem.W.Frag} {mg : Str → Option Value} {base : Heap} (c : Fx P K mg base) : FnW P w K mg base (cas K) 6 f_views_of ((pG "views_of") K) := by
  obtain ⟨fd, F⟩ := c.d_views_of
  exact fn_sim (ps := ["house", "steps"]) F sc_views_of (F.bindsN fun _ _ _ _ _ _ us hl => match us, hl with | [_, _], _ => rfl) (b_views_of c)
/-! Stale.__init__ -/
def n_Stale___init__ : List Str := ["self", "run"]
theorem sc_Stale___init__ : FnScope n_Stale___init__ ["self", "run"] (defScope (meths 57 1)) := fnScopeB (by decide +kernel)
def m_Stale___init__ : MS := (mAtt (mV 0) [(3, 0)] (mB1 (g1 (b1A .list)) (mV 1)))
def f_Stale___init__ : Fn := fnM 2 2 m_Stale___init__
theorem b_Stale___init__ {P : Program} {w : World} {K : PySem.W.Frag} {mg : Str → Option Value} {base : Heap} (c : Fx P K mg base) (cdv : Value) (A : Around) (outer : List Env) (s : Shared) (H : Hp) (E : XK) (hr : Room 0 (A.deeper (envOfC "Stale.__init__" (defScope (meths 57 1)) s.heap.objs.size ((pM "Stale" "__init__") K) cdv))) :
    SimSs (cxOf (L2N.CX P w) P w K mg base n_Stale___init__ "Stale.__init__" (defScope (meths 57 1)) ((pM "Stale" "__init__") K) cdv A outer s H E) ⟨P, w, K, cas K, E⟩ (defBody (meths 57 1)) m_Stale___init__ := by
  have c1 : CF (cxOf (L2N.CX P w) P w K mg base n_Stale___init__ "Stale.__init__" (defScope (meths 57 1)) ((pM "Stale" "__init__") K) cdv A outer s H E) E 0 := ⟨rfl, hr, L2N.takes_of rfl rfl rfl rfl, sc_Stale___init__.nd⟩
  have po : PassesOwn (model P w) (cxOf (L2N.CX P w) P w K mg base n_Stale___init__ "Stale.__init__" (defScope (meths 57 1)) ((pM "Stale" "__init__") K) cdv A outer s H E).A (cxOf (L2N.CX P w) P w K mg base n_Stale___init__ "Stale.__init__" (defScope (meths 57 1)) ((pM "Stale" "__init__") K) cdv A outer s H E).env (cxOf (L2N.CX P w) P w K mg base n_Stale___init__ "Stale.__init__" (defScope (meths 57 1)) ((pM "Stale" "__init__") K) cdv A outer s H E).xe := passes_of rfl
  exact (sims_one (xAtt (k := 3) c.s_Stale c.t_Stale_run (gV 0) (gList c1 c.b_list (gV 1))))
theorem k_Stale___init__ {P : Program} {w : World} {K : PySem.W.Frag} {mg : Str → Option Value} {base : Heap} (c : Fx P K mg base) : FnW P w K mg base (cas K) 1 f_Stale___init__ ((pM "Stale" "__init__") K) := by
  obtain ⟨fd, F⟩ := c.d_Stale___init__
  exact fn_sim (ps := ["self", "run"]) F sc_Stale___init__ (F.bindsN fun _ _ _ _ _ _ us hl => match us, hl with | [_, _], _ => rfl) (b_Stale___init__ c)
/-! judge_of -/
def n_judge_of : List Str := ["house", "steps", "run"]
theorem sc_judge_of : FnScope n_judge_of ["house", "steps"] (defScope (tops 61)) := fnScopeB (by decide +kernel)
def m_judge_of : MS := (mSeq (mSet 2 (mCall f_stale_run (aC (mV 0) (aC (mV 1) a0))))
  (mRet (mIte (mCmp .Is (mV 2) (mC .non)) (newM 1 f_Safe___init__ (aC (mCall f_views_of (aC (mV 0) (aC (mV 1) a0))) a0)) (newM 3 f_Stale___init__ (aC (mV 2) a0)))))
def f_judge_of : Fn := fnM 2 3 m_judge_of
theorem b_judge_of {P : Program} {w : World} {K : PySem.W.Frag} {mg : Str → Option Value} {base : Heap} (c : Fx P K mg base) (cdv : Value) (A : Around) (outer : List Env) (s : Shared) (H : Hp) (E : XK) (hr : Room 6 (A.deeper (envOfC "judge_of" (defScope (tops 61)) s.heap.objs.size ((pG "judge_of") K) cdv))) :
    SimSs (cxOf (L2N.CX P w) P w K mg base n_judge_of "judge_of" (defScope (tops 61)) ((pG "judge_of") K) cdv A outer s H E) ⟨P, w, K, cas K, E⟩ (defBody (tops 61)) m_judge_of := by
  have c1 : CF (cxOf (L2N.CX P w) P w K mg base n_judge_of "judge_of" (defScope (tops 61)) ((pG "judge_of") K) cdv A outer s H E) E 6 := ⟨rfl, hr, L2N.takes_of rfl rfl rfl rfl, sc_judge_of.nd⟩
  have po : PassesOwn (model P w) (cxOf (L2N.CX P w) P w K mg base n_judge_of "judge_of" (defScope (tops 61)) ((pG "judge_of") K) cdv A outer s H E).A (cxOf (L2N.CX P w) P w K mg base n_judge_of "judge_of" (defScope (tops 61)) ((pG "judge_of") K) cdv A outer s H E).env (cxOf (L2N.CX P w) P w K mg base n_judge_of "judge_of" (defScope (tops 61)) ((pG "judge_of") K) cdv A outer s H E).xe := passes_of rfl
  exact (sims_cons (xSet c1 2 (gCall c1 c.g_stale_run c.h_stale_run (k_stale_run c) (gA (gV 0) (gA (gV 1) g0))))
  (sims_one (sims_ret (gIte (tCmp c1 (gV 2) gN) (gNew (k := 1) c1 c.g_Safe c.k_Safe (k_Safe___init__ c) (gA (gCall c1 c.g_views_of c.h_views_of (k_views_of c) (gA (gV 0) (gA (gV 1) g0))) g0)) (gNew (k := 3) c1 c.g_Stale c.k_Stale (k_Stale___init__ c) (gA (gV 2) g0))))))
theorem k_judge_of {P : Program} {w : World} {K : PySem.W.Frag} {mg : Str → Option Value} {base : Heap} (c : Fx P K mg base) : FnW P w K mg base (cas K) 7 f_judge_of ((pG "judge_of") K) := by
  obtain ⟨fd, F⟩ := c.d_judge_of
  exact fn_sim (ps := ["house", "steps"]) F sc_judge_of (F.bindsN fun _ _ _ _ _ _ us hl => match us, hl with | [_, _], _ => rfl) (b_judge_of c)
/-! judge -/
def n_judge : List Str := ["house", "steps"]
theorem sc_judge : FnScope n_judge ["house", "steps"] (defScope (tops 62)) := fnScopeB (by decide +kernel)
def m_judge : MS := (mSeq (mEx (mCall f_check_plan (aC (mV 0) (aC (mV 1) a0))))
  (mRet (mCall f_judge_of (aC (mV 0) (aC (mV 1) a0)))))
def f_judge : Fn := fnM 2 2 m_judge
theorem b_judge {P : Program} {w : World} {K : PySem.W.Frag} {mg : Str → Option Value} {base : Heap} (c : Fx P K mg base) (cdv : Value) (A : Around) (outer : List Env) (s : Shared) (H : Hp) (E : XK) (hr : Room 7 (A.deeper (envOfC "judge" (defScope (tops 62)) s.heap.objs.size ((pG "judge") K) cdv))) :
    SimSs (cxOf (L2N.CX P w) P w K mg base n_judge "judge" (defScope (tops 62)) ((pG "judge") K) cdv A outer s H E) ⟨P, w, K, cas K, E⟩ (defBody (tops 62)) m_judge := by
  have c1 : CF (cxOf (L2N.CX P w) P w K mg base n_judge "judge" (defScope (tops 62)) ((pG "judge") K) cdv A outer s H E) E 7 := ⟨rfl, hr, L2N.takes_of rfl rfl rfl rfl, sc_judge.nd⟩
  have po : PassesOwn (model P w) (cxOf (L2N.CX P w) P w K mg base n_judge "judge" (defScope (tops 62)) ((pG "judge") K) cdv A outer s H E).A (cxOf (L2N.CX P w) P w K mg base n_judge "judge" (defScope (tops 62)) ((pG "judge") K) cdv A outer s H E).env (cxOf (L2N.CX P w) P w K mg base n_judge "judge" (defScope (tops 62)) ((pG "judge") K) cdv A outer s H E).xe := passes_of rfl
  exact (sims_cons (xEx (gCall c1 c.g_check_plan c.h_check_plan (k_check_plan c) (gA (gV 0) (gA (gV 1) g0))))
  (sims_one (sims_ret (gCall c1 c.g_judge_of c.h_judge_of (k_judge_of c) (gA (gV 0) (gA (gV 1) g0))))))
theorem k_judge {P : Program} {w : World} {K : PySem.W.Frag} {mg : Str → Option Value} {base : Heap} (c : Fx P K mg base) : FnW P w K mg base (cas K) 8 f_judge ((pG "judge") K) := by
  obtain ⟨fd, F⟩ := c.d_judge
  exact fn_sim (ps := ["house", "steps"]) F sc_judge (F.bindsN fun _ _ _ _ _ _ us hl => match us, hl with | [_, _], _ => rfl) (b_judge c)
/-! is_plan_safe -/
def n_is_plan_safe : List Str := ["house", "steps"]
theorem sc_is_plan_safe : FnScope n_is_plan_safe ["house", "steps"] (defScope (tops 63)) := fnScopeB (by decide +kernel)
def m_is_plan_safe : MS := (mRet (mIsi (mCall f_judge (aC (mV 0) (aC (mV 1) a0))) (.own 1 [0, 1, 2, 3, 4, 5])))
def f_is_plan_safe : Fn := fnM 2 2 m_is_plan_safe
theorem b_is_plan_safe {P : Program} {w : World} {K : PySem.W.Frag} {mg : Str → Option Value} {base : Heap} (c : Fx P K mg base) (cdv : Value) (A : Around) (outer : List Env) (s : Shared) (H : Hp) (E : XK) (hr : Room 8 (A.deeper (envOfC "is_plan_safe" (defScope (tops 63)) s.heap.objs.size ((pG "is_plan_safe") K) cdv))) :
    SimSs (cxOf (L2N.CX P w) P w K mg base n_is_plan_safe "is_plan_safe" (defScope (tops 63)) ((pG "is_plan_safe") K) cdv A outer s H E) ⟨P, w, K, cas K, E⟩ (defBody (tops 63)) m_is_plan_safe := by
  have c1 : CF (cxOf (L2N.CX P w) P w K mg base n_is_plan_safe "is_plan_safe" (defScope (tops 63)) ((pG "is_plan_safe") K) cdv A outer s H E) E 8 := ⟨rfl, hr, L2N.takes_of rfl rfl rfl rfl, sc_is_plan_safe.nd⟩
  have po : PassesOwn (model P w) (cxOf (L2N.CX P w) P w K mg base n_is_plan_safe "is_plan_safe" (defScope (tops 63)) ((pG "is_plan_safe") K) cdv A outer s H E).A (cxOf (L2N.CX P w) P w K mg base n_is_plan_safe "is_plan_safe" (defScope (tops 63)) ((pG "is_plan_safe") K) cdv A outer s H E).env (cxOf (L2N.CX P w) P w K mg base n_is_plan_safe "is_plan_safe" (defScope (tops 63)) ((pG "is_plan_safe") K) cdv A outer s H E).xe := passes_of rfl
  exact (sims_one (sims_ret (gIsiO c.b_isinstance ⟨(c.i_Safe).1, (c.i_Safe).2⟩ c.g_Safe (gCall c1 c.g_judge c.h_judge (k_judge c) (gA (gV 0) (gA (gV 1) g0))))))
theorem k_is_plan_safe {P : Program} {w : World} {K : PySem.W.Frag} {mg : Str → Option Value} {base : Heap} (c : Fx P K mg base) : FnW P w K mg base (cas K) 9 f_is_plan_safe ((pG "is_plan_safe") K) := by
  obtain ⟨fd, F⟩ := c.d_is_plan_safe
  exact fn_sim (ps := ["house", "steps"]) F sc_is_plan_safe (F.bindsN fun _ _ _ _ _ _ us hl => match us, hl with | [_, _], _ => rfl) (b_is_plan_safe c)
/-! Safe.shows -/
def n_Safe_shows : List Str := ["self", "house", "steps", "rows", "modes", "view", "index", "step", "some", "contents"]
theorem sc_Safe_shows : FnScope n_Safe_shows ["self", "house", "steps"] (defScope (meths 55 4)) := fnScopeB (by decide +kernel)
def m_Safe_shows : MS := (mSeq (mEx (mCall f_check_plan (aC (mV 1) (aC (mV 2) a0))))
  mNever)
def f_Safe_shows : Fn := fnM 3 10 m_Safe_shows
theorem b_Safe_shows {P : Program} {w : World} {K : PySem.W.Frag} {mg : Str → Option Value} {base : Heap} (c : Fx P K mg base) (cdv : Value) (A : Around) (outer : List Env) (s : Shared) (H : Hp) (E : XK) (hr : Room 4 (A.deeper (envOfC "Safe.shows" (defScope (meths 55 4)) s.heap.objs.size ((pM "Safe" "shows") K) cdv))) :
    SimSs (cxOf (L2N.CX P w) P w K mg base n_Safe_shows "Safe.shows" (defScope (meths 55 4)) ((pM "Safe" "shows") K) cdv A outer s H E) ⟨P, w, K, cas K, E⟩ (defBody (meths 55 4)) m_Safe_shows := by
  have c1 : CF (cxOf (L2N.CX P w) P w K mg base n_Safe_shows "Safe.shows" (defScope (meths 55 4)) ((pM "Safe" "shows") K) cdv A outer s H E) E 4 := ⟨rfl, hr, L2N.takes_of rfl rfl rfl rfl, sc_Safe_shows.nd⟩
  have po : PassesOwn (model P w) (cxOf (L2N.CX P w) P w K mg base n_Safe_shows "Safe.shows" (defScope (meths 55 4)) ((pM "Safe" "shows") K) cdv A outer s H E).A (cxOf (L2N.CX P w) P w K mg base n_Safe_shows "Safe.shows" (defScope (meths 55 4)) ((pM "Safe" "shows") K) cdv A outer s H E).env (cxOf (L2N.CX P w) P w K mg base n_Safe_shows "Safe.shows" (defScope (meths 55 4)) ((pM "Safe" "shows") K) cdv A outer s H E).xe := passes_of rfl
  exact (sims_cons (xEx (gCall c1 c.g_check_plan c.h_check_plan (k_check_plan c) (gA (gV 1) (gA (gV 2) g0))))
  simss_never)
theorem k_Safe_shows {P : Program} {w : World} {K : PySem.W.Frag} {mg : Str → Option Value} {base : Heap} (c : Fx P K mg base) : FnW P w K mg base (cas K) 5 f_Safe_shows ((pM "Safe" "shows") K) := by
  obtain ⟨fd, F⟩ := c.d_Safe_shows
  exact fn_sim (ps := ["self", "house", "steps"]) F sc_Safe_shows (F.bindsN fun _ _ _ _ _ _ us hl => match us, hl with | [_, _, _], _ => rfl) (b_Safe_shows c)
/-! Stale.shows -/
def n_Stale_shows : List Str := ["self", "house", "steps", "state", "index", "event"]
theorem sc_Stale_shows : FnScope n_Stale_shows ["self", "house", "steps"] (defScope (meths 57 4)) := fnScopeB (by decide +kernel)
def m_Stale_shows : MS := (mSeq (mEx (mCall f_check_plan (aC (mV 1) (aC (mV 2) a0))))
  mNever)
def f_Stale_shows : Fn := fnM 3 6 m_Stale_shows
theorem b_Stale_shows {P : Program} {w : World} {K : PySem.W.Frag} {mg : Str → Option Value} {base : Heap} (c : Fx P K mg base) (cdv : Value) (A : Around) (outer : List Env) (s : Shared) (H : Hp) (E : XK) (hr : Room 4 (A.deeper (envOfC "Stale.shows" (defScope (meths 57 4)) s.heap.objs.size ((pM "Stale" "shows") K) cdv))) :
    SimSs (cxOf (L2N.CX P w) P w K mg base n_Stale_shows "Stale.shows" (defScope (meths 57 4)) ((pM "Stale" "shows") K) cdv A outer s H E) ⟨P, w, K, cas K, E⟩ (defBody (meths 57 4)) m_Stale_shows := by
  have c1 : CF (cxOf (L2N.CX P w) P w K mg base n_Stale_shows "Stale.shows" (defScope (meths 57 4)) ((pM "Stale" "shows") K) cdv A outer s H E) E 4 := ⟨rfl, hr, L2N.takes_of rfl rfl rfl rfl, sc_Stale_shows.nd⟩
  have po : PassesOwn (model P w) (cxOf (L2N.CX P w) P w K mg base n_Stale_shows "Stale.shows" (defScope (meths 57 4)) ((pM "Stale" "shows") K) cdv A outer s H E).A (cxOf (L2N.CX P w) P w K mg base n_Stale_shows "Stale.shows" (defScope (meths 57 4)) ((pM "Stale" "shows") K) cdv A outer s H E).env (cxOf (L2N.CX P w) P w K mg base n_Stale_shows "Stale.shows" (defScope (meths 57 4)) ((pM "Stale" "shows") K) cdv A outer s H E).xe := passes_of rfl
  exact (sims_cons (xEx (gCall c1 c.g_check_plan c.h_check_plan (k_check_plan c) (gA (gV 1) (gA (gV 2) g0))))
  simss_never)
theorem k_Stale_shows {P : Program} {w : World} {K : PySem.W.Frag} {mg : Str → Option Value} {base : Heap} (c : Fx P K mg base) : FnW P w K mg base (cas K) 5 f_Stale_shows ((pM "Stale" "shows") K) := by
  obtain ⟨fd, F⟩ := c.d_Stale_shows
  exact fn_sim (ps := ["self", "house", "steps"]) F sc_Stale_shows (F.bindsN fun _ _ _ _ _ _ us hl => match us, hl with | [_, _, _], _ => rfl) (b_Stale_shows c)
/-! way -/
def n_way : List Str := ["house"]
theorem sc_way : FnScope n_way ["house"] (defScope (tops 72)) := fnScopeB (by decide +kernel)
def m_way : MS := (mSeq (mEx (mCall f_check_house (aC (mV 0) a0)))
  mNever)
def f_way : Fn := fnM 1 1 m_way
theorem b_way {P : Program} {w : World} {K : PySem.W.Frag} {mg : Str → Option Value} {base : Heap} (c : Fx P K mg base) (cdv : Value) (A : Around) (outer : List Env) (s : Shared) (H : Hp) (E : XK) (hr : Room 2 (A.deeper (envOfC "way" (defScope (tops 72)) s.heap.objs.size ((pG "way") K) cdv))) :
    SimSs (cxOf (L2N.CX P w) P w K mg base n_way "way" (defScope (tops 72)) ((pG "way") K) cdv A outer s H E) ⟨P, w, K, cas K, E⟩ (defBody (tops 72)) m_way := by
  have c1 : CF (cxOf (L2N.CX P w) P w K mg base n_way "way" (defScope (tops 72)) ((pG "way") K) cdv A outer s H E) E 2 := ⟨rfl, hr, L2N.takes_of rfl rfl rfl rfl, sc_way.nd⟩
  have po : PassesOwn (model P w) (cxOf (L2N.CX P w) P w K mg base n_way "way" (defScope (tops 72)) ((pG "way") K) cdv A outer s H E).A (cxOf (L2N.CX P w) P w K mg base n_way "way" (defScope (tops 72)) ((pG "way") K) cdv A outer s H E).env (cxOf (L2N.CX P w) P w K mg base n_way "way" (defScope (tops 72)) ((pG "way") K) cdv A outer s H E).xe := passes_of rfl
  exact (sims_cons (xEx (gCall c1 c.g_check_house c.h_check_house (k_check_house c) (gA (gV 0) g0)))
  simss_never)
theorem k_way {P : Program} {w : World} {K : PySem.W.Frag} {mg : Str → Option Value} {base : Heap} (c : Fx P K mg base) : FnW P w K mg base (cas K) 3 f_way ((pG "way") K) := by
  obtain ⟨fd, F⟩ := c.d_way
  exact fn_sim (ps := ["house"]) F sc_way (F.bindsN fun _ _ _ _ _ _ us hl => match us, hl with | [_], _ => rfl) (b_way c)
/-! least_cost -/
def n_least_cost : List Str := ["house", "found", "step"]
theorem sc_least_cost : FnScope n_least_cost ["house"] (defScope (tops 73)) := fnScopeB (by decide +kernel)
def m_least_cost : MS := (mSeq (mSet 1 (mCall f_way (aC (mV 0) a0)))
  mNever)
def f_least_cost : Fn := fnM 1 3 m_least_cost
theorem b_least_cost {P : Program} {w : World} {K : PySem.W.Frag} {mg : Str → Option Value} {base : Heap} (c : Fx P K mg base) (cdv : Value) (A : Around) (outer : List Env) (s : Shared) (H : Hp) (E : XK) (hr : Room 3 (A.deeper (envOfC "least_cost" (defScope (tops 73)) s.heap.objs.size ((pG "least_cost") K) cdv))) :
    SimSs (cxOf (L2N.CX P w) P w K mg base n_least_cost "least_cost" (defScope (tops 73)) ((pG "least_cost") K) cdv A outer s H E) ⟨P, w, K, cas K, E⟩ (defBody (tops 73)) m_least_cost := by
  have c1 : CF (cxOf (L2N.CX P w) P w K mg base n_least_cost "least_cost" (defScope (tops 73)) ((pG "least_cost") K) cdv A outer s H E) E 3 := ⟨rfl, hr, L2N.takes_of rfl rfl rfl rfl, sc_least_cost.nd⟩
  have po : PassesOwn (model P w) (cxOf (L2N.CX P w) P w K mg base n_least_cost "least_cost" (defScope (tops 73)) ((pG "least_cost") K) cdv A outer s H E).A (cxOf (L2N.CX P w) P w K mg base n_least_cost "least_cost" (defScope (tops 73)) ((pG "least_cost") K) cdv A outer s H E).env (cxOf (L2N.CX P w) P w K mg base n_least_cost "least_cost" (defScope (tops 73)) ((pG "least_cost") K) cdv A outer s H E).xe := passes_of rfl
  exact (sims_cons (xSet c1 1 (gCall c1 c.g_way c.h_way (k_way c) (gA (gV 0) g0)))
  simss_never)
theorem k_least_cost {P : Program} {w : World} {K : PySem.W.Frag} {mg : Str → Option Value} {base : Heap} (c : Fx P K mg base) : FnW P w K mg base (cas K) 4 f_least_cost ((pG "least_cost") K) := by
  obtain ⟨fd, F⟩ := c.d_least_cost
  exact fn_sim (ps := ["house"]) F sc_least_cost (F.bindsN fun _ _ _ _ _ _ us hl => match us, hl with | [_], _ => rfl) (b_least_cost c)
/-! Way.__init__ -/
def n_Way___init__ : List Str := ["self", "steps", "levels"]
theorem sc_Way___init__ : FnScope n_Way___init__ ["self", "steps", "levels"] (defScope (meths 69 1)) := fnScopeB (by decide +kernel)
def m_Way___init__ : MS := (mSeq (mAtt (mV 0) [(4, 1)] (mB1 (g1 (b1A .list)) (mV 1)))
  (mAtt (mV 0) [(4, 0)] (mDe (mV 2))))
def f_Way___init__ : Fn := fnM 3 3 m_Way___init__
theorem b_Way___init__ {P : Program} {w : World} {K : PySem.W.Frag} {mg : Str → Option Value} {base : Heap} (c : Fx P K mg base) (cdv : Value) (A : Around) (outer : List Env) (s : Shared) (H : Hp) (E : XK) (hr : Room 0 (A.deeper (envOfC "Way.__init__" (defScope (meths 69 1)) s.heap.objs.size ((pM "Way" "__init__") K) cdv))) :
    SimSs (cxOf (L2N.CX P w) P w K mg base n_Way___init__ "Way.__init__" (defScope (meths 69 1)) ((pM "Way" "__init__") K) cdv A outer s H E) ⟨P, w, K, cas K, E⟩ (defBody (meths 69 1)) m_Way___init__ := by
  have c1 : CF (cxOf (L2N.CX P w) P w K mg base n_Way___init__ "Way.__init__" (defScope (meths 69 1)) ((pM "Way" "__init__") K) cdv A outer s H E) E 0 := ⟨rfl, hr, L2N.takes_of rfl rfl rfl rfl, sc_Way___init__.nd⟩
  have po : PassesOwn (model P w) (cxOf (L2N.CX P w) P w K mg base n_Way___init__ "Way.__init__" (defScope (meths 69 1)) ((pM "Way" "__init__") K) cdv A outer s H E).A (cxOf (L2N.CX P w) P w K mg base n_Way___init__ "Way.__init__" (defScope (meths 69 1)) ((pM "Way" "__init__") K) cdv A outer s H E).env (cxOf (L2N.CX P w) P w K mg base n_Way___init__ "Way.__init__" (defScope (meths 69 1)) ((pM "Way" "__init__") K) cdv A outer s H E).xe := passes_of rfl
  exact (sims_cons (xAtt (k := 4) c.s_Way c.t_Way_steps (gV 0) (gList c1 c.b_list (gV 1)))
  (sims_one (xAtt (k := 4) c.s_Way c.t_Way_levels (gV 0) (gDe c.b_dict (gV 2)))))
theorem k_Way___init__ {P : Program} {w : World} {K : PySem.W.Frag} {mg : Str → Option Value} {base : Heap} (c : Fx P K mg base) : FnW P w K mg base (cas K) 1 f_Way___init__ ((pM "Way" "__init__") K) := by
  obtain ⟨fd, F⟩ := c.d_Way___init__
  exact fn_sim (ps := ["self", "steps", "levels"]) F sc_Way___init__ (F.bindsN fun _ _ _ _ _ _ us hl => match us, hl with | [_, _, _], _ => rfl) (b_Way___init__ c)
/-! Way.shows -/
def n_Way_shows : List Str := ["self", "house", "step", "cost", "modes", "start", "position"]
theorem sc_Way_shows : FnScope n_Way_shows ["self", "house"] (defScope (meths 69 4)) := fnScopeB (by decide +kernel)
def m_Way_shows : MS := (mSeq (mEx (mCall f_check_house (aC (mV 1) a0)))
  mNever)
def f_Way_shows : Fn := fnM 2 7 m_Way_shows
theorem b_Way_shows {P : Program} {w : World} {K : PySem.W.Frag} {mg : Str → Option Value} {base : Heap} (c : Fx P K mg base) (cdv : Value) (A : Around) (outer : List Env) (s : Shared) (H : Hp) (E : XK) (hr : Room 2 (A.deeper (envOfC "Way.shows" (defScope (meths 69 4)) s.heap.objs.size ((pM "Way" "shows") K) cdv))) :
    SimSs (cxOf (L2N.CX P w) P w K mg base n_Way_shows "Way.shows" (defScope (meths 69 4)) ((pM "Way" "shows") K) cdv A outer s H E) ⟨P, w, K, cas K, E⟩ (defBody (meths 69 4)) m_Way_shows := by
  have c1 : CF (cxOf (L2N.CX P w) P w K mg base n_Way_shows "Way.shows" (defScope (meths 69 4)) ((pM "Way" "shows") K) cdv A outer s H E) E 2 := ⟨rfl, hr, L2N.takes_of rfl rfl rfl rfl, sc_Way_shows.nd⟩
  have po : PassesOwn (model P w) (cxOf (L2N.CX P w) P w K mg base n_Way_shows "Way.shows" (defScope (meths 69 4)) ((pM "Way" "shows") K) cdv A outer s H E).A (cxOf (L2N.CX P w) P w K mg base n_Way_shows "Way.shows" (defScope (meths 69 4)) ((pM "Way" "shows") K) cdv A outer s H E).env (cxOf (L2N.CX P w) P w K mg base n_Way_shows "Way.shows" (defScope (meths 69 4)) ((pM "Way" "shows") K) cdv A outer s H E).xe := passes_of rfl
  exact (sims_cons (xEx (gCall c1 c.g_check_house c.h_check_house (k_check_house c) (gA (gV 1) g0)))
  simss_never)
theorem k_Way_shows {P : Program} {w : World} {K : PySem.W.Frag} {mg : Str → Option Value} {base : Heap} (c : Fx P K mg base) : FnW P w K mg base (cas K) 3 f_Way_shows ((pM "Way" "shows") K) := by
  obtain ⟨fd, F⟩ := c.d_Way_shows
  exact fn_sim (ps := ["self", "house"]) F sc_Way_shows (F.bindsN fun _ _ _ _ _ _ us hl => match us, hl with | [_, _], _ => rfl) (b_Way_shows c)
/-! Shut.__init__ -/
def n_Shut___init__ : List Str := ["self", "spots"]
theorem sc_Shut___init__ : FnScope n_Shut___init__ ["self", "spots"] (defScope (meths 70 1)) := fnScopeB (by decide +kernel)
def m_Shut___init__ : MS := (mAtt (mV 0) [(5, 0)] (mB1 (g1 (b1A .list)) (mV 1)))
def f_Shut___init__ : Fn := fnM 2 2 m_Shut___init__
theorem b_Shut___init__ {P : Program} {w : World} {K : PySem.W.Frag} {mg : Str → Option Value} {base : Heap} (c : Fx P K mg base) (cdv : Value) (A : Around) (outer : List Env) (s : Shared) (H : Hp) (E : XK) (hr : Room 0 (A.deeper (envOfC "Shut.__init__" (defScope (meths 70 1)) s.heap.objs.size ((pM "Shut" "__init__") K) cdv))) :
    SimSs (cxOf (L2N.CX P w) P w K mg base n_Shut___init__ "Shut.__init__" (defScope (meths 70 1)) ((pM "Shut" "__init__") K) cdv A outer s H E) ⟨P, w, K, cas K, E⟩ (defBody (meths 70 1)) m_Shut___init__ := by
  have c1 : CF (cxOf (L2N.CX P w) P w K mg base n_Shut___init__ "Shut.__init__" (defScope (meths 70 1)) ((pM "Shut" "__init__") K) cdv A outer s H E) E 0 := ⟨rfl, hr, L2N.takes_of rfl rfl rfl rfl, sc_Shut___init__.nd⟩
  have po : PassesOwn (model P w) (cxOf (L2N.CX P w) P w K mg base n_Shut___init__ "Shut.__init__" (defScope (meths 70 1)) ((pM "Shut" "__init__") K) cdv A outer s H E).A (cxOf (L2N.CX P w) P w K mg base n_Shut___init__ "Shut.__init__" (defScope (meths 70 1)) ((pM "Shut" "__init__") K) cdv A outer s H E).env (cxOf (L2N.CX P w) P w K mg base n_Shut___init__ "Shut.__init__" (defScope (meths 70 1)) ((pM "Shut" "__init__") K) cdv A outer s H E).xe := passes_of rfl
  exact (sims_one (xAtt (k := 5) c.s_Shut c.t_Shut_spots (gV 0) (gList c1 c.b_list (gV 1))))
theorem k_Shut___init__ {P : Program} {w : World} {K : PySem.W.Frag} {mg : Str → Option Value} {base : Heap} (c : Fx P K mg base) : FnW P w K mg base (cas K) 1 f_Shut___init__ ((pM "Shut" "__init__") K) := by
  obtain ⟨fd, F⟩ := c.d_Shut___init__
  exact fn_sim (ps := ["self", "spots"]) F sc_Shut___init__ (F.bindsN fun _ _ _ _ _ _ us hl => match us, hl with | [_, _], _ => rfl) (b_Shut___init__ c)
/-! Shut.shows -/
def n_Shut_shows : List Str := ["self", "house", "known", "position"]
theorem sc_Shut_shows : FnScope n_Shut_shows ["self", "house"] (defScope (meths 70 4)) := fnScopeB (by decide +kernel)
def m_Shut_shows : MS := (mSeq (mEx (mCall f_check_house (aC (mV 1) a0)))
  mNever)
def f_Shut_shows : Fn := fnM 2 4 m_Shut_shows
theorem b_Shut_shows {P : Program} {w : World} {K : PySem.W.Frag} {mg : Str → Option Value} {base : Heap} (c : Fx P K mg base) (cdv : Value) (A : Around) (outer : List Env) (s : Shared) (H : Hp) (E : XK) (hr : Room 2 (A.deeper (envOfC "Shut.shows" (defScope (meths 70 4)) s.heap.objs.size ((pM "Shut" "shows") K) cdv))) :
    SimSs (cxOf (L2N.CX P w) P w K mg base n_Shut_shows "Shut.shows" (defScope (meths 70 4)) ((pM "Shut" "shows") K) cdv A outer s H E) ⟨P, w, K, cas K, E⟩ (defBody (meths 70 4)) m_Shut_shows := by
  have c1 : CF (cxOf (L2N.CX P w) P w K mg base n_Shut_shows "Shut.shows" (defScope (meths 70 4)) ((pM "Shut" "shows") K) cdv A outer s H E) E 2 := ⟨rfl, hr, L2N.takes_of rfl rfl rfl rfl, sc_Shut_shows.nd⟩
  have po : PassesOwn (model P w) (cxOf (L2N.CX P w) P w K mg base n_Shut_shows "Shut.shows" (defScope (meths 70 4)) ((pM "Shut" "shows") K) cdv A outer s H E).A (cxOf (L2N.CX P w) P w K mg base n_Shut_shows "Shut.shows" (defScope (meths 70 4)) ((pM "Shut" "shows") K) cdv A outer s H E).env (cxOf (L2N.CX P w) P w K mg base n_Shut_shows "Shut.shows" (defScope (meths 70 4)) ((pM "Shut" "shows") K) cdv A outer s H E).xe := passes_of rfl
  exact (sims_cons (xEx (gCall c1 c.g_check_house c.h_check_house (k_check_house c) (gA (gV 1) g0)))
  simss_never)
theorem k_Shut_shows {P : Program} {w : World} {K : PySem.W.Frag} {mg : Str → Option Value} {base : Heap} (c : Fx P K mg base) : FnW P w K mg base (cas K) 3 f_Shut_shows ((pM "Shut" "shows") K) := by
  obtain ⟨fd, F⟩ := c.d_Shut_shows
  exact fn_sim (ps := ["self", "house"]) F sc_Shut_shows (F.bindsN fun _ _ _ _ _ _ us hl => match us, hl with | [_, _], _ => rfl) (b_Shut_shows c)
/-! _law_houses_right -/
def n__law_houses_right : List Str := ["_law_old", "_law_one", "_law_some"]
theorem sc__law_houses_right : FnScope n__law_houses_right [] (defScope (tops 76)) := fnScopeB (by decide +kernel)
def m__law_houses_right : MS := (mSeq (mSet 0 (mTup (aC (mC (.str "old")) (aC (mC (.str "old")) a0))))
  (mSeq (mFor (mtN 1) (miOf (mTup (aC (mC .non) (aC (mC (.int 5)) (aC (mTup a0) (aC (mLst (aC (mV 0) a0)) (aC (mRep (mTup (aC (mV 0) a0)) (mC (.int 4))) (aC (mC (.str "old")) (aC (mTup (aC (mC (.int 5)) a0)) (aC (mTup (aC (mC .non) a0)) (aC (mTup (aC (mTup (aC (mC (.str "old")) a0)) a0)) (aC (mTup (aC (mTup (aC (mC (.str "old")) (aC (mC (.str "old")) (aC (mC (.str "old")) a0)))) a0)) (aC (mTup (aC (mLst (aC (mC (.str "old")) (aC (mC (.str "old")) a0))) a0)) (aC (mTup (aC (mTup (aC (mC (.str "old")) (aC (mC (.str "Old")) a0))) a0)) (aC (mTup (aC (mTup (aC (mC (.str "both")) (aC (mC (.str "old")) a0))) a0)) (aC (mTup (aC (mTup (aC (mC (.str "old")) (aC (mC (.str "none")) a0))) a0)) (aC (mTup (aC (mTup (aC (mC (.str "old")) (aC (mC (.int 5)) a0))) a0)) (aC (mTup (aC (mV 0) (aC (mC .non) a0))) (aC (mD1 (mV 0) (mC (.int 1))) a0))))))))))))))))))) (mSeq (mIf (mCmp .NotEq (mName csN (newM 0 f_House___init__ (aC (mV 1) (aC (mC (.str "plain")) (aC (mTup (aC (mC (.int 1)) (aC (mC (.int 1)) a0))) a0))))) (mC (.str "house MODES"))) (mRet (mC (.bl false))) mNx)
  (mIf (mCmp .NotEq (mName csN (newM 0 f_House___init__ (aC (mV 1) (aC (mC (.int 5)) (aC (mC (.int 5)) a0))))) (mC (.str "house MODES"))) (mRet (mC (.bl false))) mNx)))
  (mSeq (mFor (mtN 1) (miOf (mTup (aC (mC .non) (aC (mC (.int 5)) (aC (mC (.str "")) (aC (mC (.str "Plain")) (aC (mC (.str "plainempty")) (aC (mLst (aC (mC (.str "plain")) a0)) (aC (mTup (aC (mC (.str "plain")) a0)) (aC (mC (.str "copy")) (aC (mC (.bl true)) a0))))))))))) (mSeq (mIf (mCmp .NotEq (mName csN (newM 0 f_House___init__ (aC (mTup (aC (mV 0) a0)) (aC (mV 1) (aC (mTup (aC (mC (.int 1)) (aC (mC (.int 1)) a0))) a0))))) (mC (.str "house COPIER"))) (mRet (mC (.bl false))) mNx)
  (mIf (mCmp .NotEq (mName csN (newM 0 f_House___init__ (aC (mRep (mTup (aC (mV 0) a0)) (mC (.int 3))) (aC (mV 1) (aC (mC (.int 5)) a0))))) (mC (.str "house COPIER"))) (mRet (mC (.bl false))) mNx)))
  (mSeq (mFor (mtN 1) (miOf (mTup (aC (mC .non) (aC (mC (.int 5)) (aC (mTup a0) (aC (mTup (aC (mC (.int 1)) a0)) (aC (mTup (aC (mC (.int 1)) (aC (mC (.int 1)) (aC (mC (.int 1)) a0)))) (aC (mLst (aC (mC (.int 1)) (aC (mC (.int 1)) a0))) (aC (mTup (aC (mC (.int 0)) (aC (mC (.int 1)) a0))) (aC (mTup (aC (mC (.int 1)) (aC (mC (.int 10)) a0))) (aC (mTup (aC (mC (.bl true)) (aC (mC (.int 1)) a0))) (aC (mTup (aC (mC (.int 1)) (aC (mC .non) a0))) (aC (mTup (aC (mC (.int 1)) (aC (mC (.str "1")) a0))) (aC (mC (.str "11")) (aC mOdd a0))))))))))))))) (mIf (mCmp .NotEq (mName csN (newM 0 f_House___init__ (aC (mTup (aC (mV 0) a0)) (aC (mC (.str "check")) (aC (mV 1) a0))))) (mC (.str "house PRICES"))) (mRet (mC (.bl false))) mNx))
  (mSeq (mFor (mtN 1) (miOf (mTup (aC (mC .non) (aC (mC (.int 5)) (aC (mC (.str "house")) (aC (mTup (aC (mTup (aC (mV 0) a0)) (aC (mC (.str "plain")) (aC (mTup (aC (mC (.int 1)) (aC (mC (.int 1)) a0))) a0)))) (aC mD0 a0))))))) (mSeq (mSet 2 (mLst (aC (mName csN (mCall f_closed (aC (mV 1) (aC (mC (.int 5)) (aC (mC (.int 5)) a0))))) (aC (mName csN (mCall f_reads_fine (aC (mV 1) (aC (mC (.int 5)) (aC (mC (.int 5)) a0))))) a0))))
  (mSeq (mSet 2 (mBinX .Add (mV 2) (mLst (aC (mName csN (mCall f_after (aC (mV 1) (aC (mC (.int 5)) (aC (mC (.int 5)) (aC (mC (.int 5)) a0)))))) (aC (mName csN (mCall f_judge (aC (mV 1) (aC (mC (.int 5)) a0)))) a0)))))
  (mSeq (mSet 2 (mBinX .Add (mV 2) (mLst (aC (mName csN (mCall f_is_plan_safe (aC (mV 1) (aC (mC (.int 5)) a0)))) (aC (mName csN (mMet (tab1 f_Safe_shows) (newM 1 f_Safe___init__ (aC (mLst a0) a0)) [(1, 0)] (aC (mV 1) (aC (mC (.int 5)) a0)))) a0)))))
  (mSeq (mSet 2 (mBinX .Add (mV 2) (mLst (aC (mName csN (mMet (tab1 f_Stale_shows) (newM 3 f_Stale___init__ (aC (mLst a0) a0)) [(3, 0)] (aC (mV 1) (aC (mC (.int 5)) a0)))) (aC (mName csN (mCall f_way (aC (mV 1) a0))) a0)))))
  (mSeq (mSet 2 (mBinX .Add (mV 2) (mLst (aC (mName csN (mCall f_least_cost (aC (mV 1) a0))) (aC (mName csN (mMet (tab1 f_Way_shows) (newM 4 f_Way___init__ (aC (mLst a0) (aC mD0 a0))) [(4, 0)] (aC (mV 1) a0))) a0)))))
  (mSeq (mSet 2 (mBinX .Add (mV 2) (mLst (aC (mName csN (mMet (tab1 f_Shut_shows) (newM 5 f_Shut___init__ (aC (mLst a0) a0)) [(5, 0)] (aC (mV 1) a0))) a0))))
  (mIf (mCmp .NotEq (mV 2) (mRep (mLst (aC (mC (.str "house")) a0)) (mC (.int 11)))) (mRet (mC (.bl false))) mNx))))))))
  (mRet (mCmp .Eq (mName csN (newM 0 f_House___init__ (aC (mRep (mTup (aC (mV 0) a0)) (mC (.int 3))) (aC (mC (.str "empty")) (aC (mTup (aC (mC (.int 9)) (aC (mC (.int 9)) a0))) a0))))) (mC (.str "")))))))))
def f__law_houses_right : Fn := fnM 0 3 m__law_houses_right
theorem b__law_houses_right {P : Program} {w : World} {K : PySem.W.Frag} {mg : Str → Option Value} {base : Heap} (c : Fx P K mg base) (A : Around) (outer : List Env) (s : Shared) (H : Hp) (E : XK) (hr : Room 11 (A.deeper (envOfC "_law_houses_right" (defScope (tops 76)) s.heap.objs.size ((pG "_law_houses_right") K) (.ref (He.cT K ("_law_houses_right", none)).1)))) :
    SimSs (cxOf (L2N.CX P w) P w K mg base n__law_houses_right "_law_houses_right" (defScope (tops 76)) ((pG "_law_houses_right") K) (.ref (He.cT K ("_law_houses_right", none)).1) A outer s H E) ⟨P, w, K, cas K, E⟩ (defBody (tops 76)) m__law_houses_right := by
  have c1 : CF (cxOf (L2N.CX P w) P w K mg base n__law_houses_right "_law_houses_right" (defScope (tops 76)) ((pG "_law_houses_right") K) (.ref (He.cT K ("_law_houses_right", none)).1) A outer s H E) E 11 := ⟨rfl, hr, L2N.takes_of rfl rfl rfl rfl, sc__law_houses_right.nd⟩
  have po : PassesOwn (model P w) (cxOf (L2N.CX P w) P w K mg base n__law_houses_right "_law_houses_right" (defScope (tops 76)) ((pG "_law_houses_right") K) (.ref (He.cT K ("_law_houses_right", none)).1) A outer s H E).A (cxOf (L2N.CX P w) P w K mg base n__law_houses_right "_law_houses_right" (defScope (tops 76)) ((pG "_law_houses_right") K) (.ref (He.cT K ("_law_houses_right", none)).1) A outer s H E).env (cxOf (L2N.CX P w) P w K mg base n__law_houses_right "_law_houses_right" (defScope (tops 76)) ((pG "_law_houses_right") K) (.ref (He.cT K ("_law_houses_right", none)).1) A outer s H E).xe := passes_of rfl
  exact (sims_cons (xSet c1 0 (gTup (gA gS (gA gS g0))))
  (sims_cons (xFor c1 po (simi_of (gTup (gA gN (gA gI (gA (gTup g0) (gA (gLst (gA (gV 0) g0)) (gA (gRep (gTup (gA (gV 0) g0)) gI) (gA gS (gA (gTup (gA gI g0)) (gA (gTup (gA gN g0)) (gA (gTup (gA (gTup (gA gS g0)) g0)) (gA (gTup (gA (gTup (gA gS (gA gS (gA gS g0)))) g0)) (gA (gTup (gA (gLst (gA gS (gA gS g0))) g0)) (gA (gTup (gA (gTup (gA gS (gA gS g0))) g0)) (gA (gTup (gA (gTup (gA gS (gA gS g0))) g0)) (gA (gTup (gA (gTup (gA gS (gA gS g0))) g0)) (gA (gTup (gA (gTup (gA gS (gA gI g0))) g0)) (gA (gTup (gA (gV 0) (gA gN g0))) (gA (gD1 c1 (gV 0) gI) g0))))))))))))))))))) (uN c1 1) (sims_cons (sims_if (tCmp c1 (gNm (cs := csN) (k := 4) c1 c.g__law_name (nm_of c) c.tb__law_houses_right rfl (in__law_houses_right K) (one__law_houses_right c) (LamX.lamS_by (by kernel_rfl)) rfl (fun _ _ _ _ _ => rfl) (fun A outer s H E' f c' hr tk => by
    have cL : CF (lamZ _ A outer s H E' _ f c') E' 4 := ⟨rfl, hr, tk, sc__law_houses_right.nd⟩
    exact (gNew (k := 0) cL c.g_House c.k_House (k_House___init__ c) (gA (gV 1) (gA gS (gA (gTup (gA gI (gA gI g0))) g0))))) (fun A outer s H E' f c' => L2N.takes_of rfl rfl rfl rfl)) gS) (sims_one (sims_ret gB)) sims_nil)
  (sims_one (sims_if (tCmp c1 (gNm (cs := csN) (k := 4) c1 c.g__law_name (nm_of c) c.tb__law_houses_right rfl (in__law_houses_right K) (one__law_houses_right c) (LamX.lamS_by (by kernel_rfl)) rfl (fun _ _ _ _ _ => rfl) (fun A outer s H E' f c' hr tk => by
    have cL : CF (lamZ _ A outer s H E' _ f c') E' 4 := ⟨rfl, hr, tk, sc__law_houses_right.nd⟩
    exact (gNew (k := 0) cL c.g_House c.k_House (k_House___init__ c) (gA (gV 1) (gA gI (gA gI g0))))) (fun A outer s H E' f c' => L2N.takes_of rfl rfl rfl rfl)) gS) (sims_one (sims_ret gB)) sims_nil))))
  (sims_cons (xFor c1 po (simi_of (gTup (gA gN (gA gI (gA gS (gA gS (gA gS (gA (gLst (gA gS g0)) (gA (gTup (gA gS g0)) (gA gS (gA gB g0))))))))))) (uN c1 1) (sims_cons (sims_if (tCmp c1 (gNm (cs := csN) (k := 4) c1 c.g__law_name (nm_of c) c.tb__law_houses_right rfl (in__law_houses_right K) (one__law_houses_right c) (LamX.lamS_by (by kernel_rfl)) rfl (fun _ _ _ _ _ => rfl) (fun A outer s H E' f c' hr tk => by
    have cL : CF (lamZ _ A outer s H E' _ f c') E' 4 := ⟨rfl, hr, tk, sc__law_houses_right.nd⟩
    exact (gNew (k := 0) cL c.g_House c.k_House (k_House___init__ c) (gA (gTup (gA (gV 0) g0)) (gA (gV 1) (gA (gTup (gA gI (gA gI g0))) g0))))) (fun A outer s H E' f c' => L2N.takes_of rfl rfl rfl rfl)) gS) (sims_one (sims_ret gB)) sims_nil)
  (sims_one (sims_if (tCmp c1 (gNm (cs := csN) (k := 4) c1 c.g__law_name (nm_of c) c.tb__law_houses_right rfl (in__law_houses_right K) (one__law_houses_right c) (LamX.lamS_by (by kernel_rfl)) rfl (fun _ _ _ _ _ => rfl) (fun A outer s H E' f c' hr tk => by
    have cL : CF (lamZ _ A outer s H E' _ f c') E' 4 := ⟨rfl, hr, tk, sc__law_houses_right.nd⟩
    exact (gNew (k := 0) cL c.g_House c.k_House (k_House___init__ c) (gA (gRep (gTup (gA (gV 0) g0)) gI) (gA (gV 1) (gA gI g0))))) (fun A outer s H E' f c' => L2N.takes_of rfl rfl rfl rfl)) gS) (sims_one (sims_ret gB)) sims_nil))))
  (sims_cons (xFor c1 po (simi_of (gTup (gA gN (gA gI (gA (gTup g0) (gA (gTup (gA gI g0)) (gA (gTup (gA gI (gA gI (gA gI g0)))) (gA (gLst (gA gI (gA gI g0))) (gA (gTup (gA gI (gA gI g0))) (gA (gTup (gA gI (gA gI g0))) (gA (gTup (gA gB (gA gI g0))) (gA (gTup (gA gI (gA gN g0))) (gA (gTup (gA gI (gA gS g0))) (gA gS (gA (gOddI c1) g0))))))))))))))) (uN c1 1) (sims_one (sims_if (tCmp c1 (gNm (cs := csN) (k := 4) c1 c.g__law_name (nm_of c) c.tb__law_houses_right rfl (in__law_houses_right K) (one__law_houses_right c) (LamX.lamS_by (by kernel_rfl)) rfl (fun _ _ _ _ _ => rfl) (fun A outer s H E' f c' hr tk => by
    have cL : CF (lamZ _ A outer s H E' _ f c') E' 4 := ⟨rfl, hr, tk, sc__law_houses_right.nd⟩
    exact (gNew (k := 0) cL c.g_House c.k_House (k_House___init__ c) (gA (gTup (gA (gV 0) g0)) (gA gS (gA (gV 1) g0))))) (fun A outer s H E' f c' => L2N.takes_of rfl rfl rfl rfl)) gS) (sims_one (sims_ret gB)) sims_nil)))
  (sims_cons (xFor c1 po (simi_of (gTup (gA gN (gA gI (gA gS (gA (gTup (gA (gTup (gA (gV 0) g0)) (gA gS (gA (gTup (gA gI (gA gI g0))) g0)))) (gA sim_d0 g0))))))) (uN c1 1) (sims_cons (xSet c1 2 (gLst (gA (gNm (cs := csN) (k := 5) c1 c.g__law_name (nm_of c) c.tb__law_houses_right rfl (in__law_houses_right K) (one__law_houses_right c) (LamX.lamS_by (by kernel_rfl)) rfl (fun _ _ _ _ _ => rfl) (fun A outer s H E' f c' hr tk => by
    have cL : CF (lamZ _ A outer s H E' _ f c') E' 5 := ⟨rfl, hr, tk, sc__law_houses_right.nd⟩
    exact (gCall cL c.g_closed c.h_closed (k_closed c) (gA (gV 1) (gA gI (gA gI g0))))) (fun A outer s H E' f c' => L2N.takes_of rfl rfl rfl rfl)) (gA (gNm (cs := csN) (k := 5) c1 c.g__law_name (nm_of c) c.tb__law_houses_right rfl (in__law_houses_right K) (one__law_houses_right c) (LamX.lamS_by (by kernel_rfl)) rfl (fun _ _ _ _ _ => rfl) (fun A outer s H E' f c' hr tk => by
    have cL : CF (lamZ _ A outer s H E' _ f c') E' 5 := ⟨rfl, hr, tk, sc__law_houses_right.nd⟩
    exact (gCall cL c.g_reads_fine c.h_reads_fine (k_reads_fine c) (gA (gV 1) (gA gI (gA gI g0))))) (fun A outer s H E' f c' => L2N.takes_of rfl rfl rfl rfl)) g0))))
  (sims_cons (xSet c1 2 (gBinX (gV 2) (gLst (gA (gNm (cs := csN) (k := 6) c1 c.g__law_name (nm_of c) c.tb__law_houses_right rfl (in__law_houses_right K) (one__law_houses_right c) (LamX.lamS_by (by kernel_rfl)) rfl (fun _ _ _ _ _ => rfl) (fun A outer s H E' f c' hr tk => by
    have cL : CF (lamZ _ A outer s H E' _ f c') E' 6 := ⟨rfl, hr, tk, sc__law_houses_right.nd⟩
    exact (gCall cL c.g_after c.h_after (k_after c) (gA (gV 1) (gA gI (gA gI (gA gI g0)))))) (fun A outer s H E' f c' => L2N.takes_of rfl rfl rfl rfl)) (gA (gNm (cs := csN) (k := 8) c1 c.g__law_name (nm_of c) c.tb__law_houses_right rfl (in__law_houses_right K) (one__law_houses_right c) (LamX.lamS_by (by kernel_rfl)) rfl (fun _ _ _ _ _ => rfl) (fun A outer s H E' f c' hr tk => by
    have cL : CF (lamZ _ A outer s H E' _ f c') E' 8 := ⟨rfl, hr, tk, sc__law_houses_right.nd⟩
    exact (gCall cL c.g_judge c.h_judge (k_judge c) (gA (gV 1) (gA gI g0)))) (fun A outer s H E' f c' => L2N.takes_of rfl rfl rfl rfl)) g0)))))
  (sims_cons (xSet c1 2 (gBinX (gV 2) (gLst (gA (gNm (cs := csN) (k := 9) c1 c.g__law_name (nm_of c) c.tb__law_houses_right rfl (in__law_houses_right K) (one__law_houses_right c) (LamX.lamS_by (by kernel_rfl)) rfl (fun _ _ _ _ _ => rfl) (fun A outer s H E' f c' hr tk => by
    have cL : CF (lamZ _ A outer s H E' _ f c') E' 9 := ⟨rfl, hr, tk, sc__law_houses_right.nd⟩
    exact (gCall cL c.g_is_plan_safe c.h_is_plan_safe (k_is_plan_safe c) (gA (gV 1) (gA gI g0)))) (fun A outer s H E' f c' => L2N.takes_of rfl rfl rfl rfl)) (gA (gNm (cs := csN) (k := 5) c1 c.g__law_name (nm_of c) c.tb__law_houses_right rfl (in__law_houses_right K) (one__law_houses_right c) (LamX.lamS_by (by kernel_rfl)) rfl (fun _ _ _ _ _ => rfl) (fun A outer s H E' f c' hr tk => by
    have cL : CF (lamZ _ A outer s H E' _ f c') E' 5 := ⟨rfl, hr, tk, sc__law_houses_right.nd⟩
    exact (gMet (k := 1) cL c.s_Safe c.m_Safe_shows (k_Safe_shows c) (gNew (k := 1) cL c.g_Safe c.k_Safe (k_Safe___init__ c) (gA (gLst g0) g0)) (gA (gV 1) (gA gI g0)))) (fun A outer s H E' f c' => L2N.takes_of rfl rfl rfl rfl)) g0)))))
  (sims_cons (xSet c1 2 (gBinX (gV 2) (gLst (gA (gNm (cs := csN) (k := 5) c1 c.g__law_name (nm_of c) c.tb__law_houses_right rfl (in__law_houses_right K) (one__law_houses_right c) (LamX.lamS_by (by kernel_rfl)) rfl (fun _ _ _ _ _ => rfl) (fun A outer s H E' f c' hr tk => by
    have cL : CF (lamZ _ A outer s H E' _ f c') E' 5 := ⟨rfl, hr, tk, sc__law_houses_right.nd⟩
    exact (gMet (k := 3) cL c.s_Stale c.m_Stale_shows (k_Stale_shows c) (gNew (k := 3) cL c.g_Stale c.k_Stale (k_Stale___init__ c) (gA (gLst g0) g0)) (gA (gV 1) (gA gI g0)))) (fun A outer s H E' f c' => L2N.takes_of rfl rfl rfl rfl)) (gA (gNm (cs := csN) (k := 3) c1 c.g__law_name (nm_of c) c.tb__law_houses_right rfl (in__law_houses_right K) (one__law_houses_right c) (LamX.lamS_by (by kernel_rfl)) rfl (fun _ _ _ _ _ => rfl) (fun A outer s H E' f c' hr tk => by
    have cL : CF (lamZ _ A outer s H E' _ f c') E' 3 := ⟨rfl, hr, tk, sc__law_houses_right.nd⟩
    exact (gCall cL c.g_way c.h_way (k_way c) (gA (gV 1) g0))) (fun A outer s H E' f c' => L2N.takes_of rfl rfl rfl rfl)) g0)))))
  (sims_cons (xSet c1 2 (gBinX (gV 2) (gLst (gA (gNm (cs := csN) (k := 4) c1 c.g__law_name (nm_of c) c.tb__law_houses_right rfl (in__law_houses_right K) (one__law_houses_right c) (LamX.lamS_by (by kernel_rfl)) rfl (fun _ _ _ _ _ => rfl) (fun A outer s H E' f c' hr tk => by
    have cL : CF (lamZ _ A outer s H E' _ f c') E' 4 := ⟨rfl, hr, tk, sc__law_houses_right.nd⟩
    exact (gCall cL c.g_least_cost c.h_least_cost (k_least_cost c) (gA (gV 1) g0))) (fun A outer s H E' f c' => L2N.takes_of rfl rfl rfl rfl)) (gA (gNm (cs := csN) (k := 3) c1 c.g__law_name (nm_of c) c.tb__law_houses_right rfl (in__law_houses_right K) (one__law_houses_right c) (LamX.lamS_by (by kernel_rfl)) rfl (fun _ _ _ _ _ => rfl) (fun A outer s H E' f c' hr tk => by
    have cL : CF (lamZ _ A outer s H E' _ f c') E' 3 := ⟨rfl, hr, tk, sc__law_houses_right.nd⟩
    exact (gMet (k := 4) cL c.s_Way c.m_Way_shows (k_Way_shows c) (gNew (k := 4) cL c.g_Way c.k_Way (k_Way___init__ c) (gA (gLst g0) (gA sim_d0 g0))) (gA (gV 1) g0))) (fun A outer s H E' f c' => L2N.takes_of rfl rfl rfl rfl)) g0)))))
  (sims_cons (xSet c1 2 (gBinX (gV 2) (gLst (gA (gNm (cs := csN) (k := 3) c1 c.g__law_name (nm_of c) c.tb__law_houses_right rfl (in__law_houses_right K) (one__law_houses_right c) (LamX.lamS_by (by kernel_rfl)) rfl (fun _ _ _ _ _ => rfl) (fun A outer s H E' f c' hr tk => by
    have cL : CF (lamZ _ A outer s H E' _ f c') E' 3 := ⟨rfl, hr, tk, sc__law_houses_right.nd⟩
    exact (gMet (k := 5) cL c.s_Shut c.m_Shut_shows (k_Shut_shows c) (gNew (k := 5) cL c.g_Shut c.k_Shut (k_Shut___init__ c) (gA (gLst g0) g0)) (gA (gV 1) g0))) (fun A outer s H E' f c' => L2N.takes_of rfl rfl rfl rfl)) g0))))
  (sims_one (sims_if (tCmp c1 (gV 2) (gRep (gLst (gA gS g0)) gI)) (sims_one (sims_ret gB)) sims_nil)))))))))
  (sims_one (sims_ret (gCmp c1 (gNm (cs := csN) (k := 4) c1 c.g__law_name (nm_of c) c.tb__law_houses_right rfl (in__law_houses_right K) (one__law_houses_right c) (LamX.lamS_by (by kernel_rfl)) rfl (fun _ _ _ _ _ => rfl) (fun A outer s H E' f c' hr tk => by
    have cL : CF (lamZ _ A outer s H E' _ f c') E' 4 := ⟨rfl, hr, tk, sc__law_houses_right.nd⟩
    exact (gNew (k := 0) cL c.g_House c.k_House (k_House___init__ c) (gA (gRep (gTup (gA (gV 0) g0)) gI) (gA gS (gA (gTup (gA gI (gA gI g0))) g0))))) (fun A outer s H E' f c' => L2N.takes_of rfl rfl rfl rfl)) gS))))))))
theorem k__law_houses_right {P : Program} {w : World} {K : PySem.W.Frag} {mg : Str → Option Value} {base : Heap} (c : Fx P K mg base) : FnW P w K mg base (cas K) 12 f__law_houses_right ((pG "_law_houses_right") K) := by
  obtain ⟨fd, F⟩ := c.d__law_houses_right
  have hb : Binds K fd [] [] := F.bindsN fun _ _ _ _ _ _ us hl => match us, hl with | [], _ => rfl
  refine fn_simC (ps := []) F sc__law_houses_right hb fun A outer s H E => ?_
  rw [code_at F]
  exact b__law_houses_right c A outer s H E
/-! _law_steps_right -/
def n__law_steps_right : List Str := ["_law_house", "_law_old", "_law_start", "_law_steps", "_law_bad", "_law_names", "_law_some", "_law_at"]
theorem sc__law_steps_right : FnScope n__law_steps_right ["_law_house", "_law_old", "_law_start"] (defScope (tops 78)) := fnScopeB (by decide +kernel)
def m__law_steps_right : MS := (mSeq (mSet 3 (mLst (aC (mC .non) (aC (mC (.int 5)) (aC (mTup a0) (aC (mC (.str "copy")) (aC (mLst (aC (mC (.str "copy")) a0)) (aC (mTup (aC (mC (.str "copy")) (aC (mC (.int 1)) a0))) (aC (mTup (aC (mC (.str "Copy")) a0)) (aC (mTup (aC (mC (.str "mode")) a0)) (aC (mTup (aC (mC (.str "mode")) (aC (mC (.int 0)) a0))) (aC (mTup (aC (mC (.str "mode")) (aC (mC (.int 0)) (aC (mTup (aC (mC (.str "new")) a0)) a0)))) (aC (mTup (aC (mC (.str "mode")) (aC (mC (.int 2)) (aC (mV 1) a0)))) (aC (mTup (aC (mC (.str "mode")) (aC (mNeg (mC (.int 1))) (aC (mV 1) a0)))) (aC (mTup (aC (mC (.str "mode")) (aC (mC (.bl true)) (aC (mV 1) a0)))) (aC (mTup (aC (mC (.str "mode")) (aC (mC (.str "0")) (aC (mV 1) a0)))) (aC (mTup (aC (mC (.str "mode")) (aC (mC (.int 0)) (aC (mLst (aC (mC (.str "old")) (aC (mC (.str "old")) a0))) a0)))) (aC (mTup (aC (mC (.str "mode")) (aC (mC (.int 0)) (aC (mTup (aC (mC (.str "both")) (aC (mC (.str "old")) a0))) a0)))) (aC (mTup (aC (mC (.str "mode")) (aC (mC (.int 0)) (aC (mC (.str "old")) (aC (mC (.str "old")) a0))))) (aC (mTup (aC (mC (.str "mode")) (aC (mC (.int 0)) (aC (mV 1) (aC (mC (.int 1)) a0))))) (aC (mTup (aC (mC (.int 5)) a0)) (aC mOdd a0))))))))))))))))))))))
  (mSeq (mFor (mtN 4) (miOf (mV 3)) (mSeq (mIf (mCmp .NotEq (mName csN (mCall f_after (aC (mV 0) (aC (mTup (aC (mV 1) (aC (mV 1) a0))) (aC (mV 2) (aC (mV 4) a0)))))) (mC (.str "step"))) (mRet (mC (.bl false))) mNx)
  (mFor (mtT (mtC (mtN 6) (mtC (mtN 7) mt0))) (miOf (mTup (aC (mTup (aC (mLst (aC (mV 4) a0)) (aC (mC (.str " 0")) a0))) (aC (mTup (aC (mTup (aC (mTup (aC (mC (.str "copy")) a0)) (aC (mV 4) a0))) (aC (mC (.str " 1")) a0))) (aC (mTup (aC (mLst (aC (mTup (aC (mC (.str "copy")) a0)) (aC (mTup (aC (mC (.str "mode")) (aC (mC (.int 1)) (aC (mTup (aC (mC (.str "new")) (aC (mC (.str "both")) a0))) a0)))) (aC (mV 4) (aC (mC (.int 5)) a0))))) (aC (mC (.str " 2")) a0))) a0))))) (mSeq (mSet 5 (mLst (aC (mName csN (mCall f_judge (aC (mV 0) (aC (mV 6) a0)))) (aC (mName csN (mCall f_is_plan_safe (aC (mV 0) (aC (mV 6) a0)))) (aC (mName csN (mMet (tab1 f_Safe_shows) (newM 1 f_Safe___init__ (aC (mLst a0) a0)) [(1, 0)] (aC (mV 0) (aC (mV 6) a0)))) (aC (mName csN (mMet (tab1 f_Stale_shows) (newM 3 f_Stale___init__ (aC (mLst a0) a0)) [(3, 0)] (aC (mV 0) (aC (mV 6) a0)))) a0))))))
  (mIf (mCmp .NotEq (mV 5) (mRep (mLst (aC (mBinX .Add (mC (.str "plan")) (mV 7)) a0)) (mC (.int 4)))) (mRet (mC (.bl false))) mNx)))))
  (mSeq (mFor (mtN 4) (miOf (mTup (aC (mC .non) (aC (mC (.int 5)) (aC (mC (.str "copy")) (aC mD0 (aC (mRep (mLst (aC (mTup (aC (mC (.str "copy")) a0)) a0)) (mC (.int 13))) (aC (mRep (mTup (aC (mTup (aC (mC (.str "copy")) a0)) a0)) (mC (.int 13))) a0)))))))) (mSeq (mSet 5 (mLst (aC (mName csN (mCall f_judge (aC (mV 0) (aC (mV 4) a0)))) (aC (mName csN (mCall f_is_plan_safe (aC (mV 0) (aC (mV 4) a0)))) (aC (mName csN (mMet (tab1 f_Safe_shows) (newM 1 f_Safe___init__ (aC (mLst a0) a0)) [(1, 0)] (aC (mV 0) (aC (mV 4) a0)))) (aC (mName csN (mMet (tab1 f_Stale_shows) (newM 3 f_Stale___init__ (aC (mLst a0) a0)) [(3, 0)] (aC (mV 0) (aC (mV 4) a0)))) a0))))))
  (mIf (mCmp .NotEq (mV 5) (mRep (mLst (aC (mC (.str "plan")) a0)) (mC (.int 4)))) (mRet (mC (.bl false))) mNx)))
  (mSeq (mIf (mCmp .NotEq (mName csN (mCall f_judge (aC (mV 0) (aC (mRep (mLst (aC (mTup (aC (mC (.str "copy")) a0)) a0)) (mC (.int 12))) a0)))) (mC (.str ""))) (mRet (mC (.bl false))) mNx)
  (mSeq (mIf (mNot (mCall f_is_plan_safe (aC (mV 0) (aC (mTup a0) a0)))) (mRet (mC (.bl false))) mNx)
  (mRet (mCmp .Eq (mName csN (mCall f_after (aC (mV 0) (aC (mTup (aC (mV 1) (aC (mV 1) a0))) (aC (mV 2) (aC (mTup (aC (mC (.str "mode")) (aC (mC (.int 1)) (aC (mV 1) a0)))) a0)))))) (mC (.str "")))))))))
def f__law_steps_right : Fn := fnM 3 8 m__law_steps_right
theorem b__law_steps_right {P : Program} {w : World} {K : PySem.W.Frag} {mg : Str → Option Value} {base : Heap} (c : Fx P K mg base) (A : Around) (outer : List Env) (s : Shared) (H : Hp) (E : XK) (hr : Room 11 (A.deeper (envOfC "_law_steps_right" (defScope (tops 78)) s.heap.objs.size ((pG "_law_steps_right") K) (.ref (He.cT K ("_law_steps_right", none)).1)))) :
    SimSs (cxOf (L2N.CX P w) P w K mg base n__law_steps_right "_law_steps_right" (defScope (tops 78)) ((pG "_law_steps_right") K) (.ref (He.cT K ("_law_steps_right", none)).1) A outer s H E) ⟨P, w, K, cas K, E⟩ (defBody (tops 78)) m__law_steps_right := by
  have c1 : CF (cxOf (L2N.CX P w) P w K mg base n__law_steps_right "_law_steps_right" (defScope (tops 78)) ((pG "_law_steps_right") K) (.ref (He.cT K ("_law_steps_right", none)).1) A outer s H E) E 11 := ⟨rfl, hr, L2N.takes_of rfl rfl rfl rfl, sc__law_steps_right.nd⟩
  have po : PassesOwn (model P w) (cxOf (L2N.CX P w) P w K mg base n__law_steps_right "_law_steps_right" (defScope (tops 78)) ((pG "_law_steps_right") K) (.ref (He.cT K ("_law_steps_right", none)).1) A outer s H E).A (cxOf (L2N.CX P w) P w K mg base n__law_steps_right "_law_steps_right" (defScope (tops 78)) ((pG "_law_steps_right") K) (.ref (He.cT K ("_law_steps_right", none)).1) A outer s H E).env (cxOf (L2N.CX P w) P w K mg base n__law_steps_right "_law_steps_right" (defScope (tops 78)) ((pG "_law_steps_right") K) (.ref (He.cT K ("_law_steps_right", none)).1) A outer s H E).xe := passes_of rfl
  exact (sims_cons (xSet c1 3 (gLst (gA gN (gA gI (gA (gTup g0) (gA gS (gA (gLst (gA gS g0)) (gA (gTup (gA gS (gA gI g0))) (gA (gTup (gA gS g0)) (gA (gTup (gA gS g0)) (gA (gTup (gA gS (gA gI g0))) (gA (gTup (gA gS (gA gI (gA (gTup (gA gS g0)) g0)))) (gA (gTup (gA gS (gA gI (gA (gV 1) g0)))) (gA (gTup (gA gS (gA (gNeg gI) (gA (gV 1) g0)))) (gA (gTup (gA gS (gA gB (gA (gV 1) g0)))) (gA (gTup (gA gS (gA gS (gA (gV 1) g0)))) (gA (gTup (gA gS (gA gI (gA (gLst (gA gS (gA gS g0))) g0)))) (gA (gTup (gA gS (gA gI (gA (gTup (gA gS (gA gS g0))) g0)))) (gA (gTup (gA gS (gA gI (gA gS (gA gS g0))))) (gA (gTup (gA gS (gA gI (gA (gV 1) (gA gI g0))))) (gA (gTup (gA gI g0)) (gA (gOddS c1) g0))))))))))))))))))))))
  (sims_cons (xFor c1 po (simi_of (gV 3)) (uN c1 4) (sims_cons (sims_if (tCmp c1 (gNm (cs := csN) (k := 6) c1 c.g__law_name (nm_of c) c.tb__law_steps_right rfl (in__law_steps_right K) (one__law_steps_right c) (LamX.lamS_by (by kernel_rfl)) rfl (fun _ _ _ _ _ => rfl) (fun A outer s H E' f c' hr tk => by
    have cL : CF (lamZ _ A outer s H E' _ f c') E' 6 := ⟨rfl, hr, tk, sc__law_steps_right.nd⟩
    exact (gCall cL c.g_after c.h_after (k_after c) (gA (gV 0) (gA (gTup (gA (gV 1) (gA (gV 1) g0))) (gA (gV 2) (gA (gV 4) g0)))))) (fun A outer s H E' f c' => L2N.takes_of rfl rfl rfl rfl)) gS) (sims_one (sims_ret gB)) sims_nil)
  (sims_one (xFor c1 po (simi_of (gTup (gA (gTup (gA (gLst (gA (gV 4) g0)) (gA gS g0))) (gA (gTup (gA (gTup (gA (gTup (gA gS g0)) (gA (gV 4) g0))) (gA gS g0))) (gA (gTup (gA (gLst (gA (gTup (gA gS g0)) (gA (gTup (gA gS (gA gI (gA (gTup (gA gS (gA gS g0))) g0)))) (gA (gV 4) (gA gI g0))))) (gA gS g0))) g0))))) (uT c1 (uC (uN c1 6) (uC (uN c1 7) u0)) (mtC_len (mtC_len mt0_len))) (sims_cons (xSet c1 5 (gLst (gA (gNm (cs := csN) (k := 8) c1 c.g__law_name (nm_of c) c.tb__law_steps_right rfl (in__law_steps_right K) (one__law_steps_right c) (LamX.lamS_by (by kernel_rfl)) rfl (fun _ _ _ _ _ => rfl) (fun A outer s H E' f c' hr tk => by
    have cL : CF (lamZ _ A outer s H E' _ f c') E' 8 := ⟨rfl, hr, tk, sc__law_steps_right.nd⟩
    exact (gCall cL c.g_judge c.h_judge (k_judge c) (gA (gV 0) (gA (gV 6) g0)))) (fun A outer s H E' f c' => L2N.takes_of rfl rfl rfl rfl)) (gA (gNm (cs := csN) (k := 9) c1 c.g__law_name (nm_of c) c.tb__law_steps_right rfl (in__law_steps_right K) (one__law_steps_right c) (LamX.lamS_by (by kernel_rfl)) rfl (fun _ _ _ _ _ => rfl) (fun A outer s H E' f c' hr tk => by
    have cL : CF (lamZ _ A outer s H E' _ f c') E' 9 := ⟨rfl, hr, tk, sc__law_steps_right.nd⟩
    exact (gCall cL c.g_is_plan_safe c.h_is_plan_safe (k_is_plan_safe c) (gA (gV 0) (gA (gV 6) g0)))) (fun A outer s H E' f c' => L2N.takes_of rfl rfl rfl rfl)) (gA (gNm (cs := csN) (k := 5) c1 c.g__law_name (nm_of c) c.tb__law_steps_right rfl (in__law_steps_right K) (one__law_steps_right c) (LamX.lamS_by (by kernel_rfl)) rfl (fun _ _ _ _ _ => rfl) (fun A outer s H E' f c' hr tk => by
    have cL : CF (lamZ _ A outer s H E' _ f c') E' 5 := ⟨rfl, hr, tk, sc__law_steps_right.nd⟩
    exact (gMet (k := 1) cL c.s_Safe c.m_Safe_shows (k_Safe_shows c) (gNew (k := 1) cL c.g_Safe c.k_Safe (k_Safe___init__ c) (gA (gLst g0) g0)) (gA (gV 0) (gA (gV 6) g0)))) (fun A outer s H E' f c' => L2N.takes_of rfl rfl rfl rfl)) (gA (gNm (cs := csN) (k := 5) c1 c.g__law_name (nm_of c) c.tb__law_steps_right rfl (in__law_steps_right K) (one__law_steps_right c) (LamX.lamS_by (by kernel_rfl)) rfl (fun _ _ _ _ _ => rfl) (fun A outer s H E' f c' hr tk => by
    have cL : CF (lamZ _ A outer s H E' _ f c') E' 5 := ⟨rfl, hr, tk, sc__law_steps_right.nd⟩
    exact (gMet (k := 3) cL c.s_Stale c.m_Stale_shows (k_Stale_shows c) (gNew (k := 3) cL c.g_Stale c.k_Stale (k_Stale___init__ c) (gA (gLst g0) g0)) (gA (gV 0) (gA (gV 6) g0)))) (fun A outer s H E' f c' => L2N.takes_of rfl rfl rfl rfl)) g0))))))
  (sims_one (sims_if (tCmp c1 (gV 5) (gRep (gLst (gA (gBinX gS (gV 7)) g0)) gI)) (sims_one (sims_ret gB)) sims_nil)))))))
  (sims_cons (xFor c1 po (simi_of (gTup (gA gN (gA gI (gA gS (gA sim_d0 (gA (gRep (gLst (gA (gTup (gA gS g0)) g0)) gI) (gA (gRep (gTup (gA (gTup (gA gS g0)) g0)) gI) g0)))))))) (uN c1 4) (sims_cons (xSet c1 5 (gLst (gA (gNm (cs := csN) (k := 8) c1 c.g__law_name (nm_of c) c.tb__law_steps_right rfl (in__law_steps_right K) (one__law_steps_right c) (LamX.lamS_by (by kernel_rfl)) rfl (fun _ _ _ _ _ => rfl) (fun A outer s H E' f c' hr tk => by
    have cL : CF (lamZ _ A outer s H E' _ f c') E' 8 := ⟨rfl, hr, tk, sc__law_steps_right.nd⟩
    exact (gCall cL c.g_judge c.h_judge (k_judge c) (gA (gV 0) (gA (gV 4) g0)))) (fun A outer s H E' f c' => L2N.takes_of rfl rfl rfl rfl)) (gA (gNm (cs := csN) (k := 9) c1 c.g__law_name (nm_of c) c.tb__law_steps_right rfl (in__law_steps_right K) (one__law_steps_right c) (LamX.lamS_by (by kernel_rfl)) rfl (fun _ _ _ _ _ => rfl) (fun A outer s H E' f c' hr tk => by
    have cL : CF (lamZ _ A outer s H E' _ f c') E' 9 := ⟨rfl, hr, tk, sc__law_steps_right.nd⟩
    exact (gCall cL c.g_is_plan_safe c.h_is_plan_safe (k_is_plan_safe c) (gA (gV 0) (gA (gV 4) g0)))) (fun A outer s H E' f c' => L2N.takes_of rfl rfl rfl rfl)) (gA (gNm (cs := csN) (k := 5) c1 c.g__law_name (nm_of c) c.tb__law_steps_right rfl (in__law_steps_right K) (one__law_steps_right c) (LamX.lamS_by (by kernel_rfl)) rfl (fun _ _ _ _ _ => rfl) (fun A outer s H E' f c' hr tk => by
    have cL : CF (lamZ _ A outer s H E' _ f c') E' 5 := ⟨rfl, hr, tk, sc__law_steps_right.nd⟩
    exact (gMet (k := 1) cL c.s_Safe c.m_Safe_shows (k_Safe_shows c) (gNew (k := 1) cL c.g_Safe c.k_Safe (k_Safe___init__ c) (gA (gLst g0) g0)) (gA (gV 0) (gA (gV 4) g0)))) (fun A outer s H E' f c' => L2N.takes_of rfl rfl rfl rfl)) (gA (gNm (cs := csN) (k := 5) c1 c.g__law_name (nm_of c) c.tb__law_steps_right rfl (in__law_steps_right K) (one__law_steps_right c) (LamX.lamS_by (by kernel_rfl)) rfl (fun _ _ _ _ _ => rfl) (fun A outer s H E' f c' hr tk => by
    have cL : CF (lamZ _ A outer s H E' _ f c') E' 5 := ⟨rfl, hr, tk, sc__law_steps_right.nd⟩
    exact (gMet (k := 3) cL c.s_Stale c.m_Stale_shows (k_Stale_shows c) (gNew (k := 3) cL c.g_Stale c.k_Stale (k_Stale___init__ c) (gA (gLst g0) g0)) (gA (gV 0) (gA (gV 4) g0)))) (fun A outer s H E' f c' => L2N.takes_of rfl rfl rfl rfl)) g0))))))
  (sims_one (sims_if (tCmp c1 (gV 5) (gRep (gLst (gA gS g0)) gI)) (sims_one (sims_ret gB)) sims_nil))))
  (sims_cons (sims_if (tCmp c1 (gNm (cs := csN) (k := 8) c1 c.g__law_name (nm_of c) c.tb__law_steps_right rfl (in__law_steps_right K) (one__law_steps_right c) (LamX.lamS_by (by kernel_rfl)) rfl (fun _ _ _ _ _ => rfl) (fun A outer s H E' f c' hr tk => by
    have cL : CF (lamZ _ A outer s H E' _ f c') E' 8 := ⟨rfl, hr, tk, sc__law_steps_right.nd⟩
    exact (gCall cL c.g_judge c.h_judge (k_judge c) (gA (gV 0) (gA (gRep (gLst (gA (gTup (gA gS g0)) g0)) gI) g0)))) (fun A outer s H E' f c' => L2N.takes_of rfl rfl rfl rfl)) gS) (sims_one (sims_ret gB)) sims_nil)
  (sims_cons (sims_if (tNot (tV (gCall c1 c.g_is_plan_safe c.h_is_plan_safe (k_is_plan_safe c) (gA (gV 0) (gA (gTup g0) g0))))) (sims_one (sims_ret gB)) sims_nil)
  (sims_one (sims_ret (gCmp c1 (gNm (cs := csN) (k := 6) c1 c.g__law_name (nm_of c) c.tb__law_steps_right rfl (in__law_steps_right K) (one__law_steps_right c) (LamX.lamS_by (by kernel_rfl)) rfl (fun _ _ _ _ _ => rfl) (fun A outer s H E' f c' hr tk => by
    have cL : CF (lamZ _ A outer s H E' _ f c') E' 6 := ⟨rfl, hr, tk, sc__law_steps_right.nd⟩
    exact (gCall cL c.g_after c.h_after (k_after c) (gA (gV 0) (gA (gTup (gA (gV 1) (gA (gV 1) g0))) (gA (gV 2) (gA (gTup (gA gS (gA gI (gA (gV 1) g0)))) g0)))))) (fun A outer s H E' f c' => L2N.takes_of rfl rfl rfl rfl)) gS))))))))
theorem k__law_steps_right {P : Program} {w : World} {K : PySem.W.Frag} {mg : Str → Option Value} {base : Heap} (c : Fx P K mg base) : FnW P w K mg base (cas K) 12 f__law_steps_right ((pG "_law_steps_right") K) := by
  obtain ⟨fd, F⟩ := c.d__law_steps_right
  have hb : Binds K fd ["_law_house", "_law_old", "_law_start"] [] := F.bindsN fun _ _ _ _ _ _ us hl => match us, hl with | [_, _, _], _ => rfl
  refine fn_simC (ps := ["_law_house", "_law_old", "_law_start"]) F sc__law_steps_right hb fun A outer s H E => ?_
  rw [code_at F]
  exact b__law_steps_right c A outer s H E
/-! _law_views_right -/
def n__law_views_right : List Str := ["_law_house", "_law_bad", "_law_views", "_law_old", "_law_start", "_law_some"]
theorem sc__law_views_right : FnScope n__law_views_right ["_law_house"] (defScope (tops 77)) := fnScopeB (by decide +kernel)
def m__law_views_right : MS := (mSeq (mAs (mtT (mtC (mtN 3) (mtC (mtN 4) mt0))) (mTup (aC (mTup (aC (mC (.str "old")) (aC (mC (.str "old")) a0))) (aC (mTup (aC (mTup (aC (mC (.str "fresh")) (aC (mC (.str "empty")) a0))) a0)) a0))))
  (mSeq (mFor (mtN 1) (miOf (mTup (aC (mC .non) (aC (mC (.int 5)) (aC (mTup a0) (aC (mTup (aC (mV 3) a0)) (aC (mRep (mTup (aC (mV 3) a0)) (mC (.int 3))) (aC (mLst (aC (mV 3) (aC (mV 3) a0))) (aC (mTup (aC (mV 3) (aC (mC .non) a0))) (aC (mTup (aC (mV 3) (aC (mTup (aC (mC (.str "old")) a0)) a0))) (aC (mTup (aC (mV 3) (aC (mLst (aC (mC (.str "old")) (aC (mC (.str "old")) a0))) a0))) (aC (mTup (aC (mV 3) (aC (mTup (aC (mC (.str "new")) (aC (mC (.str "New")) a0))) a0))) (aC (mC (.str "oo")) (aC (mD2 (mV 3) (mTup (aC (mC (.str "new")) (aC (mC (.str "new")) a0))) 1 1) a0)))))))))))))) (mSeq (mSet 5 (mLst (aC (mName csN (mCall f_closed (aC (mV 0) (aC (mV 1) (aC (mC (.int 5)) a0))))) a0)))
  (mSeq (mSet 5 (mBinX .Add (mV 5) (mLst (aC (mName csN (mCall f_reads_fine (aC (mV 0) (aC (mV 1) (aC (mC (.int 5)) a0))))) a0))))
  (mSeq (mSet 5 (mBinX .Add (mV 5) (mLst (aC (mName csN (mCall f_after (aC (mV 0) (aC (mV 1) (aC (mC (.int 5)) (aC (mC (.int 5)) a0)))))) a0))))
  (mIf (mCmp .NotEq (mV 5) (mRep (mLst (aC (mC (.str "modes")) a0)) (mC (.int 3)))) (mRet (mC (.bl false))) mNx)))))
  (mSeq (mSet 2 (mLst (aC (mC .non) (aC (mC (.int 5)) (aC (mTup a0) (aC (mLst (aC (mTup (aC (mC (.str "fresh")) (aC (mC (.str "empty")) a0))) a0)) (aC (mTup (aC (mC (.str "fresh")) (aC (mC (.str "empty")) a0))) (aC (mTup (aC (mTup (aC (mC (.str "fresh")) a0)) a0)) (aC (mTup (aC (mTup (aC (mC (.str "empty")) (aC (mC (.str "fresh")) a0))) a0)) (aC (mTup (aC (mTup (aC (mC (.str "fresh")) (aC (mC (.str "Fresh")) a0))) a0)) (aC (mTup (aC (mLst (aC (mC (.str "fresh")) (aC (mC (.str "empty")) a0))) a0)) (aC (mTup (aC (mTup (aC (mC (.str "fresh")) (aC (mC (.str "fresh")) a0))) (aC (mTup (aC (mC (.str "fresh")) (aC (mC (.str "empty")) a0))) a0))) (aC (mTup (aC (mTup (aC (mC (.str "fresh")) (aC (mC (.str "empty")) a0))) (aC (mTup (aC (mC (.str "fresh")) (aC (mC (.str "empty")) a0))) a0))) (aC (mTup (aC (mTup (aC (mC (.str "fresh")) (aC (mC (.str "empty")) (aC (mC (.str "empty")) a0)))) a0)) (aC (mTup (aC (mTup (aC (mC (.str "fresh")) (aC (mC .non) a0))) a0)) (aC (mC (.str "fe")) (aC (mD1 (mTup (aC (mC (.str "fresh")) (aC (mC (.str "empty")) a0))) (mC (.int 1))) a0)))))))))))))))))
  (mSeq (mFor (mtN 1) (miOf (mV 2)) (mSeq (mSet 5 (mLst (aC (mName csN (mCall f_closed (aC (mV 0) (aC (mTup (aC (mV 3) (aC (mV 3) a0))) (aC (mV 1) a0))))) a0)))
  (mSeq (mSet 5 (mBinX .Add (mV 5) (mLst (aC (mName csN (mCall f_reads_fine (aC (mV 0) (aC (mTup (aC (mV 3) (aC (mV 3) a0))) (aC (mV 1) a0))))) a0))))
  (mSeq (mSet 5 (mBinX .Add (mV 5) (mLst (aC (mName csN (mCall f_after (aC (mV 0) (aC (mTup (aC (mV 3) (aC (mV 3) a0))) (aC (mV 1) (aC (mC (.int 5)) a0)))))) a0))))
  (mIf (mCmp .NotEq (mV 5) (mRep (mLst (aC (mC (.str "view")) a0)) (mC (.int 3)))) (mRet (mC (.bl false))) mNx)))))
  (mRet (mCall f__law_steps_right (aC (mV 0) (aC (mV 3) (aC (mV 4) a0)))))))))
def f__law_views_right : Fn := fnM 1 6 m__law_views_right
theorem b__law_views_right {P : Program} {w : World} {K : PySem.W.Frag} {mg : Str → Option Value} {base : Heap} (c : Fx P K mg base) (A : Around) (outer : List Env) (s : Shared) (H : Hp) (E : XK) (hr : Room 12 (A.deeper (envOfC "_law_views_right" (defScope (tops 77)) s.heap.objs.size ((pG "_law_views_right") K) (.ref (He.cT K ("_law_views_right", none)).1)))) :
    SimSs (cxOf (L2N.CX P w) P w K mg base n__law_views_right "_law_views_right" (defScope (tops 77)) ((pG "_law_views_right") K) (.ref (He.cT K ("_law_views_right", none)).1) A outer s H E) ⟨P, w, K, cas K, E⟩ (defBody (tops 77)) m__law_views_right := by
  have c1 : CF (cxOf (L2N.CX P w) P w K mg base n__law_views_right "_law_views_right" (defScope (tops 77)) ((pG "_law_views_right") K) (.ref (He.cT K ("_law_views_right", none)).1) A outer s H E) E 12 := ⟨rfl, hr, L2N.takes_of rfl rfl rfl rfl, sc__law_views_right.nd⟩
  have po : PassesOwn (model P w) (cxOf (L2N.CX P w) P w K mg base n__law_views_right "_law_views_right" (defScope (tops 77)) ((pG "_law_views_right") K) (.ref (He.cT K ("_law_views_right", none)).1) A outer s H E).A (cxOf (L2N.CX P w) P w K mg base n__law_views_right "_law_views_right" (defScope (tops 77)) ((pG "_law_views_right") K) (.ref (He.cT K ("_law_views_right", none)).1) A outer s H E).env (cxOf (L2N.CX P w) P w K mg base n__law_views_right "_law_views_right" (defScope (tops 77)) ((pG "_law_views_right") K) (.ref (He.cT K ("_law_views_right", none)).1) A outer s H E).xe := passes_of rfl
  exact (sims_cons (xAs (gTup (gA (gTup (gA gS (gA gS g0))) (gA (gTup (gA (gTup (gA gS (gA gS g0))) g0)) g0))) (uT c1 (uC (uN c1 3) (uC (uN c1 4) u0)) (mtC_len (mtC_len mt0_len))))
  (sims_cons (xFor c1 po (simi_of (gTup (gA gN (gA gI (gA (gTup g0) (gA (gTup (gA (gV 3) g0)) (gA (gRep (gTup (gA (gV 3) g0)) gI) (gA (gLst (gA (gV 3) (gA (gV 3) g0))) (gA (gTup (gA (gV 3) (gA gN g0))) (gA (gTup (gA (gV 3) (gA (gTup (gA gS g0)) g0))) (gA (gTup (gA (gV 3) (gA (gLst (gA gS (gA gS g0))) g0))) (gA (gTup (gA (gV 3) (gA (gTup (gA gS (gA gS g0))) g0))) (gA gS (gA (gD2 c1 (gV 3) (gTup (gA gS (gA gS g0)))) g0)))))))))))))) (uN c1 1) (sims_cons (xSet c1 5 (gLst (gA (gNm (cs := csN) (k := 5) c1 c.g__law_name (nm_of c) c.tb__law_views_right rfl (in__law_views_right K) (one__law_views_right c) (LamX.lamS_by (by kernel_rfl)) rfl (fun _ _ _ _ _ => rfl) (fun A outer s H E' f c' hr tk => by
    have cL : CF (lamZ _ A outer s H E' _ f c') E' 5 := ⟨rfl, hr, tk, sc__law_views_right.nd⟩
    exact (gCall cL c.g_closed c.h_closed (k_closed c) (gA (gV 0) (gA (gV 1) (gA gI g0))))) (fun A outer s H E' f c' => L2N.takes_of rfl rfl rfl rfl)) g0)))
  (sims_cons (xSet c1 5 (gBinX (gV 5) (gLst (gA (gNm (cs := csN) (k := 5) c1 c.g__law_name (nm_of c) c.tb__law_views_right rfl (in__law_views_right K) (one__law_views_right c) (LamX.lamS_by (by kernel_rfl)) rfl (fun _ _ _ _ _ => rfl) (fun A outer s H E' f c' hr tk => by
    have cL : CF (lamZ _ A outer s H E' _ f c') E' 5 := ⟨rfl, hr, tk, sc__law_views_right.nd⟩
    exact (gCall cL c.g_reads_fine c.h_reads_fine (k_reads_fine c) (gA (gV 0) (gA (gV 1) (gA gI g0))))) (fun A outer s H E' f c' => L2N.takes_of rfl rfl rfl rfl)) g0))))
  (sims_cons (xSet c1 5 (gBinX (gV 5) (gLst (gA (gNm (cs := csN) (k := 6) c1 c.g__law_name (nm_of c) c.tb__law_views_right rfl (in__law_views_right K) (one__law_views_right c) (LamX.lamS_by (by kernel_rfl)) rfl (fun _ _ _ _ _ => rfl) (fun A outer s H E' f c' hr tk => by
    have cL : CF (lamZ _ A outer s H E' _ f c') E' 6 := ⟨rfl, hr, tk, sc__law_views_right.nd⟩
    exact (gCall cL c.g_after c.h_after (k_after c) (gA (gV 0) (gA (gV 1) (gA gI (gA gI g0)))))) (fun A outer s H E' f c' => L2N.takes_of rfl rfl rfl rfl)) g0))))
  (sims_one (sims_if (tCmp c1 (gV 5) (gRep (gLst (gA gS g0)) gI)) (sims_one (sims_ret gB)) sims_nil))))))
  (sims_cons (xSet c1 2 (gLst (gA gN (gA gI (gA (gTup g0) (gA (gLst (gA (gTup (gA gS (gA gS g0))) g0)) (gA (gTup (gA gS (gA gS g0))) (gA (gTup (gA (gTup (gA gS g0)) g0)) (gA (gTup (gA (gTup (gA gS (gA gS g0))) g0)) (gA (gTup (gA (gTup (gA gS (gA gS g0))) g0)) (gA (gTup (gA (gLst (gA gS (gA gS g0))) g0)) (gA (gTup (gA (gTup (gA gS (gA gS g0))) (gA (gTup (gA gS (gA gS g0))) g0))) (gA (gTup (gA (gTup (gA gS (gA gS g0))) (gA (gTup (gA gS (gA gS g0))) g0))) (gA (gTup (gA (gTup (gA gS (gA gS (gA gS g0)))) g0)) (gA (gTup (gA (gTup (gA gS (gA gN g0))) g0)) (gA gS (gA (gD1 c1 (gTup (gA gS (gA gS g0))) gI) g0)))))))))))))))))
  (sims_cons (xFor c1 po (simi_of (gV 2)) (uN c1 1) (sims_cons (xSet c1 5 (gLst (gA (gNm (cs := csN) (k := 5) c1 c.g__law_name (nm_of c) c.tb__law_views_right rfl (in__law_views_right K) (one__law_views_right c) (LamX.lamS_by (by kernel_rfl)) rfl (fun _ _ _ _ _ => rfl) (fun A outer s H E' f c' hr tk => by
    have cL : CF (lamZ _ A outer s H E' _ f c') E' 5 := ⟨rfl, hr, tk, sc__law_views_right.nd⟩
    exact (gCall cL c.g_closed c.h_closed (k_closed c) (gA (gV 0) (gA (gTup (gA (gV 3) (gA (gV 3) g0))) (gA (gV 1) g0))))) (fun A outer s H E' f c' => L2N.takes_of rfl rfl rfl rfl)) g0)))
  (sims_cons (xSet c1 5 (gBinX (gV 5) (gLst (gA (gNm (cs := csN) (k := 5) c1 c.g__law_name (nm_of c) c.tb__law_views_right rfl (in__law_views_right K) (one__law_views_right c) (LamX.lamS_by (by kernel_rfl)) rfl (fun _ _ _ _ _ => rfl) (fun A outer s H E' f c' hr tk => by
    have cL : CF (lamZ _ A outer s H E' _ f c') E' 5 := ⟨rfl, hr, tk, sc__law_views_right.nd⟩
    exact (gCall cL c.g_reads_fine c.h_reads_fine (k_reads_fine c) (gA (gV 0) (gA (gTup (gA (gV 3) (gA (gV 3) g0))) (gA (gV 1) g0))))) (fun A outer s H E' f c' => L2N.takes_of rfl rfl rfl rfl)) g0))))
  (sims_cons (xSet c1 5 (gBinX (gV 5) (gLst (gA (gNm (cs := csN) (k := 6) c1 c.g__law_name (nm_of c) c.tb__law_views_right rfl (in__law_views_right K) (one__law_views_right c) (LamX.lamS_by (by kernel_rfl)) rfl (fun _ _ _ _ _ => rfl) (fun A outer s H E' f c' hr tk => by
    have cL : CF (lamZ _ A outer s H E' _ f c') E' 6 := ⟨rfl, hr, tk, sc__law_views_right.nd⟩
    exact (gCall cL c.g_after c.h_after (k_after c) (gA (gV 0) (gA (gTup (gA (gV 3) (gA (gV 3) g0))) (gA (gV 1) (gA gI g0)))))) (fun A outer s H E' f c' => L2N.takes_of rfl rfl rfl rfl)) g0))))
  (sims_one (sims_if (tCmp c1 (gV 5) (gRep (gLst (gA gS g0)) gI)) (sims_one (sims_ret gB)) sims_nil))))))
  (sims_one (sims_ret (gCall c1 c.g__law_steps_right c.h__law_steps_right (k__law_steps_right c) (gA (gV 0) (gA (gV 3) (gA (gV 4) g0))))))))))
theorem k__law_views_right {P : Program} {w : World} {K : PySem.W.Frag} {mg : Str → Option Value} {base : Heap} (c : Fx P K mg base) : FnW P w K mg base (cas K) 13 f__law_views_right ((pG "_law_views_right") K) := by
  obtain ⟨fd, F⟩ := c.d__law_views_right
  have hb : Binds K fd ["_law_house"] [] := F.bindsN fun _ _ _ _ _ _ us hl => match us, hl with | [_], _ => rfl
  refine fn_simC (ps := ["_law_house"]) F sc__law_views_right hb fun A outer s H E => ?_
  rw [code_at F]
  exact b__law_views_right c A outer s H E
/-! law -/
def n_law : List Str := ["_law_script", "_law_house"]
theorem sc_law : FnScope n_law ["_law_script"] (defScope (tops 79)) := fnScopeB (by decide +kernel)
def m_law : MS := (mSeq (mSet 1 (newM 0 f_House___init__ (aC (mTup (aC (mTup (aC (mC (.str "old")) (aC (mC (.str "old")) a0))) (aC (mTup (aC (mC (.str "old")) (aC (mC (.str "old")) a0))) a0))) (aC (mC (.str "check")) (aC (mTup (aC (mC (.int 2)) (aC (mC (.int 3)) a0))) a0)))))
  (mRet (andM (mCall0 f__law_houses_right) (andM (mCall f__law_views_right (aC (mV 1) a0)) (mIsi (mV 0) (.ty .list))))))
def f_law : Fn := fnM 1 2 m_law
theorem b_law {P : Program} {w : World} {K : PySem.W.Frag} {mg : Str → Option Value} {base : Heap} (c : Fx P K mg base) (cdv : Value) (A : Around) (outer : List Env) (s : Shared) (H : Hp) (E : XK) (hr : Room 13 (A.deeper (envOfC "law" (defScope (tops 79)) s.heap.objs.size ((pG "law") K) cdv))) :
    SimSs (cxOf (L2N.CX P w) P w K mg base n_law "law" (defScope (tops 79)) ((pG "law") K) cdv A outer s H E) ⟨P, w, K, cas K, E⟩ (defBody (tops 79)) m_law := by
  have c1 : CF (cxOf (L2N.CX P w) P w K mg base n_law "law" (defScope (tops 79)) ((pG "law") K) cdv A outer s H E) E 13 := ⟨rfl, hr, L2N.takes_of rfl rfl rfl rfl, sc_law.nd⟩
  have po : PassesOwn (model P w) (cxOf (L2N.CX P w) P w K mg base n_law "law" (defScope (tops 79)) ((pG "law") K) cdv A outer s H E).A (cxOf (L2N.CX P w) P w K mg base n_law "law" (defScope (tops 79)) ((pG "law") K) cdv A outer s H E).env (cxOf (L2N.CX P w) P w K mg base n_law "law" (defScope (tops 79)) ((pG "law") K) cdv A outer s H E).xe := passes_of rfl
  exact (sims_cons (xSet c1 1 (gNew (k := 0) c1 c.g_House c.k_House (k_House___init__ c) (gA (gTup (gA (gTup (gA gS (gA gS g0))) (gA (gTup (gA gS (gA gS g0))) g0))) (gA gS (gA (gTup (gA gI (gA gI g0))) g0)))))
  (sims_one (sims_ret (sim_and (gCall0 c1 c.g__law_houses_right c.h__law_houses_right (k__law_houses_right c)) (sim_and (gCall c1 c.g__law_views_right c.h__law_views_right (k__law_views_right c) (gA (gV 1) g0)) (sim_one (gIsi1 .list c.b_isinstance c.b_list bt_list (gV 0))))))))
theorem k_law {P : Program} {w : World} {K : PySem.W.Frag} {mg : Str → Option Value} {base : Heap} (c : Fx P K mg base) : FnW P w K mg base (cas K) 14 f_law ((pG "law") K) := by
  obtain ⟨fd, F⟩ := c.d_law
  exact fn_sim (ps := ["_law_script"]) F sc_law (F.bindsN fun _ _ _ _ _ _ us hl => match us, hl with | [_], _ => rfl) (b_law c)
/-! the head -/
theorem fx_of {EX : PySem.W.Frag → Bool} {K : PySem.W.Frag} {h base : Heap} {mg : Str → Option Value} (X : K.In h) (G : h.Ns mainGlobals mg) (s : SaysQ PP.main.file EX defs xis tfs h K) (e : factsB facts K = true) (xb : exB K = true) (tb : ∀ p ∈ tfs.map (He.cT K), LamX.TabB base mg p.1 p.2) : Fx PP K mg base := by
  unfold exB at xb
  simp only [Bool.and_eq_true] at xb
  obtain ⟨xb1, xb2, xb3, xb4, xb5⟩ := xb
  exact {
    tb_stale_run := tb _ (List.mem_map.mpr ⟨("stale_run", none), by simp [tfs], rfl⟩)
    tb__law_houses_right := tb _ (List.mem_map.mpr ⟨("_law_houses_right", none), by simp [tfs], rfl⟩)
    tb__law_views_right := tb _ (List.mem_map.mpr ⟨("_law_views_right", none), by simp [tfs], rfl⟩)
    tb__law_steps_right := tb _ (List.mem_map.mpr ⟨("_law_steps_right", none), by simp [tfs], rfl⟩)
    x_BadHouse := XiP.say (d := xi_BadHouse) (by kernel_rfl) (fc_free X G (facts_at e 13 rfl)) (s.xi 0 rfl).1 (s.xi 0 rfl).2 (by kernel_rfl) rfl rfl ⟨_, rfl, rfl⟩ (fun _ _ _ _ _ _ _ us hl => match us, hl with | [_, _], _ => rfl)
    x_BadPlan := XiP.say (d := xi_BadPlan) (by kernel_rfl) (fc_free X G (facts_at e 13 rfl)) (s.xi 1 rfl).1 (s.xi 1 rfl).2 (by kernel_rfl) rfl rfl ⟨_, rfl, rfl⟩ (fun _ _ _ _ _ _ _ us hl => match us, hl with | [_, _], _ => rfl)
    x_BadModes := xplB_ok xb1
    x_BadStep := xplB_ok xb2
    x_BadView := xplB_ok xb3
    nmk := xb4
    tbd := xb5
    d__law_name := s.def_ 54 rfl
    g__law_name := fc_glo X G (facts_at e 105 rfl)
    h__law_name := facts_at (f := .keep "_law_name") e 106 rfl
    d_is_mode := s.def_ 0 rfl
    d_are_modes := s.def_ 1 rfl
    d_is_integer := s.def_ 2 rfl
    d_House___init__ := s.def_ 3 rfl
    d_check_house := s.def_ 4 rfl
    d_House___len__ := s.def_ 5 rfl
    d_check_modes := s.def_ 6 rfl
    d_is_view := s.def_ 7 rfl
    d_check_view := s.def_ 8 rfl
    d_aged := s.def_ 9 rfl
    d_written := s.def_ 10 rfl
    d_view_of := s.def_ 11 rfl
    d_grown := s.def_ 12 rfl
    d_closed := s.def_ 13 rfl
    d_is_fine := s.def_ 14 rfl
    d_is_safe := s.def_ 15 rfl
    d_reads_fine := s.def_ 16 rfl
    d_is_step := s.def_ 17 rfl
    d_check_step := s.def_ 18 rfl
    d_modes_after := s.def_ 19 rfl
    d_hands_from := s.def_ 20 rfl
    d_put_down := s.def_ 21 rfl
    d_copied := s.def_ 22 rfl
    d_view_after := s.def_ 23 rfl
    d_after := s.def_ 24 rfl
    d_check_plan := s.def_ 25 rfl
    d_State___init__ := s.def_ 26 rfl
    d_State_key := s.def_ 27 rfl
    d_State_moved := s.def_ 28 rfl
    d_State_is_stale := s.def_ 29 rfl
    d_events_of := s.def_ 30 rfl
    d_State_can := s.def_ 31 rfl
    d_State_begin := s.def_ 32 rfl
    d_State_does := s.def_ 33 rfl
    d_stale_run := s.def_ 34 rfl
    d_Safe___init__ := s.def_ 35 rfl
    d_modes_by := s.def_ 36 rfl
    d_views_of := s.def_ 37 rfl
    d_Stale___init__ := s.def_ 38 rfl
    d_judge_of := s.def_ 39 rfl
    d_judge := s.def_ 40 rfl
    d_is_plan_safe := s.def_ 41 rfl
    d_Safe_shows := s.def_ 42 rfl
    d_Stale_shows := s.def_ 43 rfl
    d_way := s.def_ 44 rfl
    d_least_cost := s.def_ 45 rfl
    d_Way___init__ := s.def_ 46 rfl
    d_Way_shows := s.def_ 47 rfl
    d_Shut___init__ := s.def_ 48 rfl
    d_Shut_shows := s.def_ 49 rfl
    d__law_houses_right := s.def_ 50 rfl
    d__law_steps_right := s.def_ 51 rfl
    d__law_views_right := s.def_ 52 rfl
    d_law := s.def_ 53 rfl
    b_ValueError := fc_free X G (facts_at e 0 rfl)
    b_all := fc_free X G (facts_at e 1 rfl)
    b_bool := fc_free X G (facts_at e 2 rfl)
    b_dict := fc_free X G (facts_at e 3 rfl)
    b_enumerate := fc_free X G (facts_at e 4 rfl)
    b_int := fc_free X G (facts_at e 5 rfl)
    b_isinstance := fc_free X G (facts_at e 6 rfl)
    b_len := fc_free X G (facts_at e 7 rfl)
    b_list := fc_free X G (facts_at e 8 rfl)
    b_next := fc_free X G (facts_at e 9 rfl)
    b_range := fc_free X G (facts_at e 10 rfl)
    b_sorted := fc_free X G (facts_at e 11 rfl)
    b_str := fc_free X G (facts_at e 12 rfl)
    b_super := fc_free X G (facts_at e 13 rfl)
    b_tuple := fc_free X G (facts_at e 14 rfl)
    b_zip := fc_free X G (facts_at e 15 rfl)
    v_BOTH := fc_val X G (facts_at e 16 rfl)
    v_CHANGE := fc_val X G (facts_at e 17 rfl)
    v_CONTENTS := fc_val X G (facts_at e 18 rfl)
    v_COPIERS := fc_val X G (facts_at e 19 rfl)
    v_COPY := fc_val X G (facts_at e 20 rfl)
    v_EMPTY := fc_val X G (facts_at e 21 rfl)
    v_FIRST := fc_val X G (facts_at e 22 rfl)
    v_FRESH := fc_val X G (facts_at e 23 rfl)
    v_MAX_PLAN := fc_val X G (facts_at e 24 rfl)
    v_MAX_PRICE := fc_val X G (facts_at e 25 rfl)
    v_MAX_SERVERS := fc_val X G (facts_at e 26 rfl)
    v_MODES := fc_val X G (facts_at e 27 rfl)
    v_NEW := fc_val X G (facts_at e 28 rfl)
    v_OLD := fc_val X G (facts_at e 29 rfl)
    v_STALE := fc_val X G (facts_at e 30 rfl)
    g_is_mode := fc_glo X G (facts_at e 31 rfl)
    h_is_mode := facts_at (f := .keep "is_mode") e 32 rfl
    g_are_modes := fc_glo X G (facts_at e 33 rfl)
    h_are_modes := facts_at (f := .keep "are_modes") e 34 rfl
    g_is_integer := fc_glo X G (facts_at e 35 rfl)
    h_is_integer := facts_at (f := .keep "is_integer") e 36 rfl
    g_check_house := fc_glo X G (facts_at e 37 rfl)
    h_check_house := facts_at (f := .keep "check_house") e 38 rfl
    g_check_modes := fc_glo X G (facts_at e 39 rfl)
    h_check_modes := facts_at (f := .keep "check_modes") e 40 rfl
    g_is_view := fc_glo X G (facts_at e 41 rfl)
    h_is_view := facts_at (f := .keep "is_view") e 42 rfl
    g_check_view := fc_glo X G (facts_at e 43 rfl)
    h_check_view := facts_at (f := .keep "check_view") e 44 rfl
    g_aged := fc_glo X G (facts_at e 45 rfl)
    h_aged := facts_at (f := .keep "aged") e 46 rfl
    g_written := fc_glo X G (facts_at e 47 rfl)
    h_written := facts_at (f := .keep "written") e 48 rfl
    g_view_of := fc_glo X G (facts_at e 49 rfl)
    h_view_of := facts_at (f := .keep "view_of") e 50 rfl
    g_grown := fc_glo X G (facts_at e 51 rfl)
    h_grown := facts_at (f := .keep "grown") e 52 rfl
    g_closed := fc_glo X G (facts_at e 53 rfl)
    h_closed := facts_at (f := .keep "closed") e 54 rfl
    g_is_fine := fc_glo X G (facts_at e 55 rfl)
    h_is_fine := facts_at (f := .keep "is_fine") e 56 rfl
    g_is_safe := fc_glo X G (facts_at e 57 rfl)
    h_is_safe := facts_at (f := .keep "is_safe") e 58 rfl
    g_reads_fine := fc_glo X G (facts_at e 59 rfl)
    h_reads_fine := facts_at (f := .keep "reads_fine") e 60 rfl
    g_is_step := fc_glo X G (facts_at e 61 rfl)
    h_is_step := facts_at (f := .keep "is_step") e 62 rfl
    g_check_step := fc_glo X G (facts_at e 63 rfl)
    h_check_step := facts_at (f := .keep "check_step") e 64 rfl
    g_modes_after := fc_glo X G (facts_at e 65 rfl)
    h_modes_after := facts_at (f := .keep "modes_after") e 66 rfl
    g_hands_from := fc_glo X G (facts_at e 67 rfl)
    h_hands_from := facts_at (f := .keep "hands_from") e 68 rfl
    g_put_down := fc_glo X G (facts_at e 69 rfl)
    h_put_down := facts_at (f := .keep "put_down") e 70 rfl
    g_copied := fc_glo X G (facts_at e 71 rfl)
    h_copied := facts_at (f := .keep "copied") e 72 rfl
    g_view_after := fc_glo X G (facts_at e 73 rfl)
    h_view_after := facts_at (f := .keep "view_after") e 74 rfl
    g_after := fc_glo X G (facts_at e 75 rfl)
    h_after := facts_at (f := .keep "after") e 76 rfl
    g_check_plan := fc_glo X G (facts_at e 77 rfl)
    h_check_plan := facts_at (f := .keep "check_plan") e 78 rfl
    g_events_of := fc_glo X G (facts_at e 79 rfl)
    h_events_of := facts_at (f := .keep "events_of") e 80 rfl
    g_stale_run := fc_glo X G (facts_at e 81 rfl)
    h_stale_run := facts_at (f := .keep "stale_run") e 82 rfl
    g_modes_by := fc_glo X G (facts_at e 83 rfl)
    h_modes_by := facts_at (f := .keep "modes_by") e 84 rfl
    g_views_of := fc_glo X G (facts_at e 85 rfl)
    h_views_of := facts_at (f := .keep "views_of") e 86 rfl
    g_judge_of := fc_glo X G (facts_at e 87 rfl)
    h_judge_of := facts_at (f := .keep "judge_of") e 88 rfl
    g_judge := fc_glo X G (facts_at e 89 rfl)
    h_judge := facts_at (f := .keep "judge") e 90 rfl
    g_is_plan_safe := fc_glo X G (facts_at e 91 rfl)
    h_is_plan_safe := facts_at (f := .keep "is_plan_safe") e 92 rfl
    g_way := fc_glo X G (facts_at e 93 rfl)
    h_way := facts_at (f := .keep "way") e 94 rfl
    g_least_cost := fc_glo X G (facts_at e 95 rfl)
    h_least_cost := facts_at (f := .keep "least_cost") e 96 rfl
    g__law_houses_right := fc_glo X G (facts_at e 97 rfl)
    h__law_houses_right := facts_at (f := .keep "_law_houses_right") e 98 rfl
    g__law_steps_right := fc_glo X G (facts_at e 99 rfl)
    h__law_steps_right := facts_at (f := .keep "_law_steps_right") e 100 rfl
    g__law_views_right := fc_glo X G (facts_at e 101 rfl)
    h__law_views_right := facts_at (f := .keep "_law_views_right") e 102 rfl
    g_law := fc_glo X G (facts_at e 103 rfl)
    h_law := facts_at (f := .keep "law") e 104 rfl
    g_BadHouse := fc_glo X G (facts_at e 107 rfl)
    g_BadModes := fc_glo X G (facts_at e 108 rfl)
    g_BadPlan := fc_glo X G (facts_at e 109 rfl)
    g_BadStep := fc_glo X G (facts_at e 110 rfl)
    g_BadView := fc_glo X G (facts_at e 111 rfl)
    g_ShelfError := fc_glo X G (facts_at e 112 rfl)
    g_House := fc_glo X G (facts_at e 113 rfl)
    s_House := fc_scl (facts_at e 114 rfl)
    t_House_copies := fc_slt (facts_at e 115 rfl)
    t_House_costs := fc_slt (facts_at e 116 rfl)
    t_House_first := fc_slt (facts_at e 117 rfl)
    m_House___len__ := fc_meth (facts_at e 118 rfl)
    k_House := fc_mk (facts_at e 119 rfl)
    g_Safe := fc_glo X G (facts_at e 120 rfl)
    s_Safe := fc_scl (facts_at e 121 rfl)
    t_Safe_views := fc_slt (facts_at e 122 rfl)
    m_Safe_shows := fc_meth (facts_at e 123 rfl)
    k_Safe := fc_mk (facts_at e 124 rfl)
    g_State := fc_glo X G (facts_at e 125 rfl)
    s_State := fc_scl (facts_at e 126 rfl)
    t_State_begun := fc_slt (facts_at e 127 rfl)
    t_State_contents := fc_slt (facts_at e 128 rfl)
    t_State_current := fc_slt (facts_at e 129 rfl)
    t_State_hand := fc_slt (facts_at e 130 rfl)
    t_State_house := fc_slt (facts_at e 131 rfl)
    t_State_steps := fc_slt (facts_at e 132 rfl)
    m_State_key := fc_meth (facts_at e 133 rfl)
    m_State_moved := fc_meth (facts_at e 134 rfl)
    m_State_is_stale := fc_meth (facts_at e 135 rfl)
    m_State_can := fc_meth (facts_at e 136 rfl)
    m_State_begin := fc_meth (facts_at e 137 rfl)
    m_State_does := fc_meth (facts_at e 138 rfl)
    k_State := fc_mk (facts_at e 139 rfl)
    g_Stale := fc_glo X G (facts_at e 140 rfl)
    s_Stale := fc_scl (facts_at e 141 rfl)
    t_Stale_run := fc_slt (facts_at e 142 rfl)
    m_Stale_shows := fc_meth (facts_at e 143 rfl)
    k_Stale := fc_mk (facts_at e 144 rfl)
    g_Way := fc_glo X G (facts_at e 145 rfl)
    s_Way := fc_scl (facts_at e 146 rfl)
    t_Way_levels := fc_slt (facts_at e 147 rfl)
    t_Way_steps := fc_slt (facts_at e 148 rfl)
    m_Way_shows := fc_meth (facts_at e 149 rfl)
    k_Way := fc_mk (facts_at e 150 rfl)
    g_Shut := fc_glo X G (facts_at e 151 rfl)
    s_Shut := fc_scl (facts_at e 152 rfl)
    t_Shut_spots := fc_slt (facts_at e 153 rfl)
    m_Shut_shows := fc_meth (facts_at e 154 rfl)
    k_Shut := fc_mk (facts_at e 155 rfl)
    i_House := ⟨fc_isit (facts_at e 156 rfl), fun z hz => by
    rcases List.mem_cons.mp hz with hz | hz
    · subst hz; exact ⟨fc_scl (facts_at e 114 rfl), fc_isi (facts_at e 157 rfl)⟩
    rcases List.mem_cons.mp hz with hz | hz
    · subst hz; exact ⟨fc_scl (facts_at e 121 rfl), fc_isi (facts_at e 158 rfl)⟩
    rcases List.mem_cons.mp hz with hz | hz
    · subst hz; exact ⟨fc_scl (facts_at e 126 rfl), fc_isi (facts_at e 159 rfl)⟩
    rcases List.mem_cons.mp hz with hz | hz
    · subst hz; exact ⟨fc_scl (facts_at e 141 rfl), fc_isi (facts_at e 160 rfl)⟩
    rcases List.mem_cons.mp hz with hz | hz
    · subst hz; exact ⟨fc_scl (facts_at e 146 rfl), fc_isi (facts_at e 161 rfl)⟩
    rcases List.mem_cons.mp hz with hz | hz
    · subst hz; exact ⟨fc_scl (facts_at e 152 rfl), fc_isi (facts_at e 162 rfl)⟩
    · cases hz
⟩
    i_Safe := ⟨fc_isit (facts_at e 163 rfl), fun z hz => by
    rcases List.mem_cons.mp hz with hz | hz
    · subst hz; exact ⟨fc_scl (facts_at e 114 rfl), fc_isi (facts_at e 164 rfl)⟩
    rcases List.mem_cons.mp hz with hz | hz
    · subst hz; exact ⟨fc_scl (facts_at e 121 rfl), fc_isi (facts_at e 165 rfl)⟩
    rcases List.mem_cons.mp hz with hz | hz
    · subst hz; exact ⟨fc_scl (facts_at e 126 rfl), fc_isi (facts_at e 166 rfl)⟩
    rcases List.mem_cons.mp hz with hz | hz
    · subst hz; exact ⟨fc_scl (facts_at e 141 rfl), fc_isi (facts_at e 167 rfl)⟩
    rcases List.mem_cons.mp hz with hz | hz
    · subst hz; exact ⟨fc_scl (facts_at e 146 rfl), fc_isi (facts_at e 168 rfl)⟩
    rcases List.mem_cons.mp hz with hz | hz
    · subst hz; exact ⟨fc_scl (facts_at e 152 rfl), fc_isi (facts_at e 169 rfl)⟩
    · cases hz
⟩
    i_State := ⟨fc_isit (facts_at e 170 rfl), fun z hz => by
    rcases List.mem_cons.mp hz with hz | hz
    · subst hz; exact ⟨fc_scl (facts_at e 114 rfl), fc_isi (facts_at e 171 rfl)⟩
    rcases List.mem_cons.mp hz with hz | hz
    · subst hz; exact ⟨fc_scl (facts_at e 121 rfl), fc_isi (facts_at e 172 rfl)⟩
    rcases List.mem_cons.mp hz with hz | hz
    · subst hz; exact ⟨fc_scl (facts_at e 126 rfl), fc_isi (facts_at e 173 rfl)⟩
    rcases List.mem_cons.mp hz with hz | hz
    · subst hz; exact ⟨fc_scl (facts_at e 141 rfl), fc_isi (facts_at e 174 rfl)⟩
    rcases List.mem_cons.mp hz with hz | hz
    · subst hz; exact ⟨fc_scl (facts_at e 146 rfl), fc_isi (facts_at e 175 rfl)⟩
    rcases List.mem_cons.mp hz with hz | hz
    · subst hz; exact ⟨fc_scl (facts_at e 152 rfl), fc_isi (facts_at e 176 rfl)⟩
    · cases hz
⟩
    i_Stale := ⟨fc_isit (facts_at e 177 rfl), fun z hz => by
    rcases List.mem_cons.mp hz with hz | hz
    · subst hz; exact ⟨fc_scl (facts_at e 114 rfl), fc_isi (facts_at e 178 rfl)⟩
    rcases List.mem_cons.mp hz with hz | hz
    · subst hz; exact ⟨fc_scl (facts_at e 121 rfl), fc_isi (facts_at e 179 rfl)⟩
    rcases List.mem_cons.mp hz with hz | hz
    · subst hz; exact ⟨fc_scl (facts_at e 126 rfl), fc_isi (facts_at e 180 rfl)⟩
    rcases List.mem_cons.mp hz with hz | hz
    · subst hz; exact ⟨fc_scl (facts_at e 141 rfl), fc_isi (facts_at e 181 rfl)⟩
    rcases List.mem_cons.mp hz with hz | hz
    · subst hz; exact ⟨fc_scl (facts_at e 146 rfl), fc_isi (facts_at e 182 rfl)⟩
    rcases List.mem_cons.mp hz with hz | hz
    · subst hz; exact ⟨fc_scl (facts_at e 152 rfl), fc_isi (facts_at e 183 rfl)⟩
    · cases hz
⟩
    i_Way := ⟨fc_isit (facts_at e 184 rfl), fun z hz => by
    rcases List.mem_cons.mp hz with hz | hz
    · subst hz; exact ⟨fc_scl (facts_at e 114 rfl), fc_isi (facts_at e 185 rfl)⟩
    rcases List.mem_cons.mp hz with hz | hz
    · subst hz; exact ⟨fc_scl (facts_at e 121 rfl), fc_isi (facts_at e 186 rfl)⟩
    rcases List.mem_cons.mp hz with hz | hz
    · subst hz; exact ⟨fc_scl (facts_at e 126 rfl), fc_isi (facts_at e 187 rfl)⟩
    rcases List.mem_cons.mp hz with hz | hz
    · subst hz; exact ⟨fc_scl (facts_at e 141 rfl), fc_isi (facts_at e 188 rfl)⟩
    rcases List.mem_cons.mp hz with hz | hz
    · subst hz; exact ⟨fc_scl (facts_at e 146 rfl), fc_isi (facts_at e 189 rfl)⟩
    rcases List.mem_cons.mp hz with hz | hz
    · subst hz; exact ⟨fc_scl (facts_at e 152 rfl), fc_isi (facts_at e 190 rfl)⟩
    · cases hz
⟩
    i_Shut := ⟨fc_isit (facts_at e 191 rfl), fun z hz => by
    rcases List.mem_cons.mp hz with hz | hz
    · subst hz; exact ⟨fc_scl (facts_at e 114 rfl), fc_isi (facts_at e 192 rfl)⟩
    rcases List.mem_cons.mp hz with hz | hz
    · subst hz; exact ⟨fc_scl (facts_at e 121 rfl), fc_isi (facts_at e 193 rfl)⟩
    rcases List.mem_cons.mp hz with hz | hz
    · subst hz; exact ⟨fc_scl (facts_at e 126 rfl), fc_isi (facts_at e 194 rfl)⟩
    rcases List.mem_cons.mp hz with hz | hz
    · subst hz; exact ⟨fc_scl (facts_at e 141 rfl), fc_isi (facts_at e 195 rfl)⟩
    rcases List.mem_cons.mp hz with hz | hz
    · subst hz; exact ⟨fc_scl (facts_at e 146 rfl), fc_isi (facts_at e 196 rfl)⟩
    rcases List.mem_cons.mp hz with hz | hz
    · subst hz; exact ⟨fc_scl (facts_at e 152 rfl), fc_isi (facts_at e 197 rfl)⟩
    · cases hz
⟩
  }
end Ev
set_option Elab.async false
set_option linter.all false
set_option maxRecDepth 100000
set_option maxHeartbeats 0
namespace Ev
open PySem PySem.Spec PyProof.Rows L2
/-- the script, as an object of the machine -/
def isScr (ns : List Int) (o : AO) : Prop := o = .fz ns ∨ o = .lst (ns.map .int)
def mu0 (a : Addr) : Mu := fun n => if n = 0 then some a else none
theorem mu0_at {a b : Addr} {n : Nat} (h : mu0 a n = some b) : n = 0 ∧ b = a := by
  unfold mu0 at h
  by_cases e : n = 0
  · rw [if_pos e] at h; exact ⟨e, (Option.some.inj h).symm⟩
  · rw [if_neg e] at h; cases h
theorem rel0 {W : Wd} {H : Hp} {a : Addr} {o : AO} (hT : LamX.Tabs W.ca.T H) (h : RelO W.P W.w W.K W.ca false (mu0 a) H a o) : RelH W 1 (mu0 a) (hO o) H where
  lim := by show 1 ≤ top; decide
  rol := Nat.le_refl _
  roe := rfl
  inj := fun n m b h1 h2 => by rw [(mu0_at h1).1, (mu0_at h2).1]
  obj := fun n x e => by
    have hn : n < 1 := AH.get_lt e
    have en : n = 0 := by omega
    subst en
    rw [hO_get] at e; cases e
    exact ⟨a, rfl, h⟩
  back := fun n b e => by
    obtain ⟨en, _⟩ := mu0_at e
    subst en
    exact ⟨_, hO_get o⟩
  full := fun n e => by
    have e : n < 1 := e
    have en : n = 0 := by omega
    subst en
    exact ⟨_, hO_get o⟩
  tabs := hT
theorem lookup_in {a : Addr} {o : Obj} : ∀ {l : List (Addr × Obj)}, l.lookup a = some o → (a, o) ∈ l
  | [], e => by cases e
  | (b, u) :: r, e => by
    rw [List.lookup_cons] at e
    cases q : (a == b) with
    | true => rw [q] at e; cases e; rw [eq_of_beq q]; exact List.mem_cons_self
    | false => rw [q] at e; exact List.mem_cons_of_mem _ (lookup_in e)
/-- no exception leaves -/
theorem fn_cx0 {P : Program} {w : World} {K : PySem.W.Frag} {mg : Str → Option Value} {base : Heap} {k : Nat} {f : Addr} {fd : FuncData} {ps : List Str} {sp : Sp} (F : FnOk P w K mg base (L2N.CX P w) k f fd ps sp) : FnOk P w K mg base CX0 k f fd ps (fun vs H Q _ => sp vs H Q E0) :=
  ⟨fun vs H Q E h => F.len vs H Q E0 h, fun A outer s H args us vs Q E hr e0 hb hv hs => codeAny_mono (F.run A outer s H args us vs Q E0 hr e0 hb hv hs) fun r s' hq => by
    cases r with
    | ok fl => cases fl <;> exact hq
    | error e =>
      obtain ⟨_, _, _, _, _, _, _, _, _, _, _, _, z⟩ := (show L2N.CX P w outer H s E0 e s' from hq)
      exact z.elim⟩
theorem noLst_ok {K : PySem.W.Frag} (h : noLst K = true) {a : Addr} {o : Obj} (e : K.lookup a = some o) : o.cls ≠ .type "list" := fun z => by
  have hm : (a, o) ∈ K := lookup_in e
  have k := List.all_eq_true.mp (show (K.all fun p => match p.2.cls with | .type n => !decide (n = "list") | _ => true) = true from h) _ hm
  dsimp only at k
  rw [z] at k
  simp at k
/-- the script, as the machine has it -/
theorem script_sp {P : Program} {w : World} {K : PySem.W.Frag} {ca : Ca} {F : Fn} {H : Hp} {a : Addr} {ns : List Int} (hn : ns.length ≤ 63) (hT : LamX.Tabs ca.T H) (hK : noLst K = true) (hS : SqL K H a (ns.map V.int)) (hF : ∀ o, isScr ns o → ∃ h', F [.obj 0] (hO o) = .ok (.bl true) h') : spF ⟨P, w, K, ca, E0⟩ F [.ref a] H (fun v _ => v = .bl true) fun _ _ _ => False := by
  have key : ∃ o, isScr ns o ∧ RelO P w K ca false (mu0 a) H a o := by
    rcases hS with hS | ⟨o, its, n, hk, hc, _⟩
    · rcases hS with hS | ⟨o, hS⟩
      · exact ⟨_, .inr rfl, by rw [List.length_map, sizeLine_eq]; omega, _, hS, den_ints ns⟩
      · exact ⟨_, .inl rfl, o, hS⟩
    · exact absurd hc (noLst_ok hK hk)
  obtain ⟨o, h1, h2⟩ := key
  obtain ⟨h', e⟩ := hF o h1
  refine ⟨1, mu0 a, hO o, [.obj 0], rel0 (W := ⟨P, w, K, ca, fun _ _ _ => False⟩) hT h2, .cons (.obj rfl) .nil, ?_⟩
  rw [e]
  intro μ u H' st R d
  cases d
  rfl
theorem all_of {w : World} {K : PySem.W.Frag} {h : Heap} {mg : Str → Option Value} {f : Addr} (X : K.In h) (G : h.Ns mainGlobals mg) (hfa : mg ("law" : Str) = some (.ref f)) (c : SaysQ PP.main.file exK defs xis tfs h K) :
    noLst K = true ∧ ∃ fd : FuncData, (∀ (s : Shared) (v : Value), BindsTo s fd ⟨[v], []⟩ [("_law_script", v)]) ∧ ∀ base : Heap, (∀ p ∈ tfs.map (He.cT K), LamX.TabB base mg p.1 p.2) → FnOk PP w K mg base CX0 14 f fd ["_law_script"] (fun vs H Q _ => spF ⟨PP, w, K, cas K, E0⟩ f_law vs H Q E0) := by
  obtain ⟨e1, e23⟩ := Bool.and_eq_true_iff.mp c.three.1
  obtain ⟨e2, e3⟩ := Bool.and_eq_true_iff.mp e23
  have fl : mg ("law" : Str) = some (.ref (pG "law" K)) := fc_glo X G (facts_at e2 103 rfl)
  have e := hfa.symm.trans fl
  cases e
  obtain ⟨fd, F⟩ : FnP K "law" "law" (tops 79) (pG "law" K) := c.def_ 53 rfl
  refine ⟨e1, fd, fun s v => ?_, fun base tb => fn_cx0 (fn_okS (ps := ["_law_script"]) F sc_law (b_law (fx_of X G c e2 e3 tb)))⟩
  exact (FunD.bindsA (ps := ["_law_script"]) F fun _ _ _ _ _ _ us hl => match us, hl with | [_], _ => rfl) s [v] rfl
/-- THE LAW, from what the machine answers -/
theorem holds_of (hp : ∀ ns : List Int, ns.length ≤ 63 → ∀ o, isScr ns o → ∃ h', f_law [.obj 0] (hO o) = .ok (.bl true) h') : PySem.Challenge.rw_shelfmove_k04_refused.Holds := by
  w_on; o_law
  refine HandSHeadRun.head_any (r := PySem.W.OpenLaw.row PySem.Challenge.rw_shelfmove_k04_refused) (q := PySem.W.view (PySem.W.OpenLaw.row PySem.Challenge.rw_shelfmove_k04_refused).prog [79]) (H := hk) (ob := ob) (M := 8000) (loose := loose) (d := HandSHeadRun.topDef (PySem.W.OpenLaw.row PySem.Challenge.rw_shelfmove_k04_refused).prog 79) (kwd := []) ob_eq
    (by kernel_rfl) (fun s => by kernel_rfl) run (by kernel_rfl) (by kernel_rfl) (by kernel_rfl) (by rfl) (by first | assumption | decide +kernel) (by decide +kernel) ⟨rfl, rfl, rfl, rfl, rfl, by decide +kernel⟩ ?hw ?hc
  case hw => w_witness2
  case hc =>
    refine LamX.walk_ofTsE (l := PySem.Challenge.rw_shelfmove_k04_refused) (n := 63) (k := 14) (x := "_law_script") (CX := fun _ => L2.CX0) rfl (by decide) (by kernel_rfl) ⟨rfl, by decide, by decide⟩ ?F (fun _ _ _ _ _ z => z)
    intro w mg fa h Y G hmg0
    obtain ⟨K, KX, c⟩ := Y
    have hmg : mg ("law" : PySem.Str) = some (.ref fa) := by
      have e : (HandSHeadRun.topDef (PySem.W.OpenLaw.row PySem.Challenge.rw_shelfmove_k04_refused).prog 79).name = ("law" : PySem.Str) := by kernel_rfl
      rw [← e]
      exact hmg0
    obtain ⟨nl, fd, hb, hF⟩ := all_of (w := w) KX G hmg c
    refine ⟨K, KX, fd, tfs.map (He.cT K), fun vs H Q _ => spF ⟨PySem.Challenge.rw_shelfmove_k04_refused.prog, w, K, cas K, E0⟩ f_law vs H Q E0, fun p hp => ?_, fun p hp => ?_, fun p hp => ?_, hb, fun H a ns hl _ hT hS => script_sp hl ?_ nl hS (hp ns hl), fun base _ _ tb => hF base tb⟩
    · obtain ⟨q, hq, rfl⟩ := List.mem_map.mp hp
      exact c.empty q hq
    · obtain ⟨q, hq, rfl⟩ := List.mem_map.mp hp
      exact c.out q hq
    · obtain ⟨q, hq, rfl⟩ := List.mem_map.mp hp
      exact PySem.W.codeHd_of_K KX (c.hd q hq)
    · intro p hp
      rcases List.mem_cons.mp hp with z | hp
      · rw [z]
        exact LamX.TabS.nil (hT _ (List.mem_map.mpr ⟨("stale_run", none), by simp [tfs], rfl⟩))
      rcases List.mem_cons.mp hp with z | hp
      · rw [z]
        exact LamX.TabS.nil (hT _ (List.mem_map.mpr ⟨("_law_houses_right", none), by simp [tfs], rfl⟩))
      rcases List.mem_cons.mp hp with z | hp
      · rw [z]
        exact LamX.TabS.nil (hT _ (List.mem_map.mpr ⟨("_law_views_right", none), by simp [tfs], rfl⟩))
      rcases List.mem_cons.mp hp with z | hp
      · rw [z]
        exact LamX.TabS.nil (hT _ (List.mem_map.mpr ⟨("_law_steps_right", none), by simp [tfs], rfl⟩))
      cases hp
end Ev
set_option Elab.async false
set_option linter.all false
set_option maxRecDepth 100000
set_option maxHeartbeats 0
namespace Ev
open PySem PySem.Spec PyProof.Rows L2
def okT : R AV → Bool
  | .ok (.bl b) _ => b
  | _ => false
theorem okT_ok {x : R AV} (h : okT x = true) : ∃ h', x = .ok (.bl true) h' := by
  cases x with
  | ok v g =>
    cases v with
    | bl b => cases b with
      | true => exact ⟨g, rfl⟩
      | false => cases h
    | _ => cases h
  | _ => cases h
theorem law_fz (ns : List Int) : okT (f_law [.obj 0] (hO (.fz ns))) = true := by kernel_rfl
theorem law_lst (ns : List Int) : okT (f_law [.obj 0] (hO (.lst (ns.map .int)))) = true := by kernel_rfl
end Ev
set_option Elab.async false
set_option linter.all false
namespace Ev
open PySem PySem.Spec PyProof.Rows L2
theorem law_ok (ns : List Int) {o : AO} (s : isScr ns o) : ∃ h', f_law [.obj 0] (hO o) = .ok (.bl true) h' := by
  rcases s with e | e
  · rw [e]; exact okT_ok (law_fz ns)
  · rw [e]; exact okT_ok (law_lst ns)
end Ev
theorem PySem.Challenge.cw_shelfmove_k04_refused_holds : PySem.Challenge.rw_shelfmove_k04_refused.Holds :=
  Ev.holds_of fun ns _ o s => Ev.law_ok ns s
