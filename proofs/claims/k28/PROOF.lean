import PyProof.Rows.All
import Wide.All
import OpenK.AllK
import Wide.FinOn
import HandS.ForMost
import HandS.Wide
import HandS.TupAny
import HandS.IsInst
import HandS.Style
import HandS.Flow
import HandS.Deep
import HandS.Walk
import HandS.Zip
import PyProof.ReprReads
import HandS.TryOnly
import HandS.Ends
import PyProof.Rows.ReprOcc
import PySem.Challenge.RW_fewclues_k28_whole_readings_shares_and_r
section SMpA
set_option Elab.async false
set_option linter.all false
/-! MpA: a small evaluator of Python over plain data. -/
namespace Mp
open PySem
/-- plain data: tuples by value, lists by number -/
inductive DV where
  | non | bl (b : Bool) | int (i : Int) | str (s : Str) | tup (xs : List DV) | rl (xs : List DV) | ref (n : Nat)
  deriving Inhabited
mutual
def DV.beq : DV → DV → Bool
  | .non, .non => true
  | .bl a, .bl b => a == b
  | .int a, .int b => a == b
  | .str a, .str b => decide (a = b)
  | .tup a, .tup b => DV.beqs a b
  | .rl a, .rl b => DV.beqs a b
  | .ref a, .ref b => a == b
  | _, _ => false
def DV.beqs : List DV → List DV → Bool
  | [], [] => true
  | x :: xs, y :: ys => DV.beq x y && DV.beqs xs ys
  | _, _ => false
end
mutual
theorem DV.beq_eq : ∀ (a b : DV), DV.beq a b = true ↔ a = b
  | .non, b => by cases b <;> simp [DV.beq]
  | .bl _, b => by cases b <;> simp [DV.beq]
  | .int _, b => by cases b <;> simp [DV.beq]
  | .str _, b => by cases b <;> simp [DV.beq]
  | .ref _, b => by cases b <;> simp [DV.beq]
  | .tup xs, b => by
    cases b with
    | tup ys => simp [DV.beq, DV.beqs_eq xs ys]
    | _ => simp [DV.beq]
  | .rl xs, b => by
    cases b with
    | rl ys => simp [DV.beq, DV.beqs_eq xs ys]
    | _ => simp [DV.beq]
theorem DV.beqs_eq : ∀ (a b : List DV), DV.beqs a b = true ↔ a = b
  | [], [] => by simp [DV.beqs]
  | [], _ :: _ => by simp [DV.beqs]
  | _ :: _, [] => by simp [DV.beqs]
  | x :: xs, y :: ys => by simp [DV.beqs, DV.beq_eq x y, DV.beqs_eq xs ys]
end
instance : DecidableEq DV := fun a b => if h : DV.beq a b = true then .isTrue ((DV.beq_eq a b).mp h) else .isFalse fun e => h ((DV.beq_eq a b).mpr e)
/-- what stands at a number: a list -/
inductive MO where
  | lst (xs : List DV)
  deriving DecidableEq
abbrev Mem := List MO
/-- a value, or a new thing that has no number yet -/
inductive RV where
  | val (d : DV) | new (o : MO)
inductive Res (α : Type) where
  | ok (a : α) (m : Mem) | fail
abbrev M (α : Type) := Mem → Res α
def Res.bind {α β : Type} (r : Res α) (f : α → Mem → Res β) : Res β := match r with
  | .ok a m => f a m
  | .fail => .fail
@[simp] theorem Res.bind_ok {α β : Type} (a : α) (m : Mem) (f : α → Mem → Res β) : (Res.ok a m).bind f = f a m := rfl
@[simp] theorem Res.bind_fail {α β : Type} (f : α → Mem → Res β) : (Res.fail : Res α).bind f = .fail := rfl
/-- an answer, or none -/
def Res.of {α : Type} (o : Option α) (m : Mem) : Res α := match o with
  | some a => .ok a m
  | none => .fail
@[simp] theorem Res.of_some {α : Type} (a : α) (m : Mem) : Res.of (some a) m = .ok a m := rfl
@[simp] theorem Res.of_none {α : Type} (m : Mem) : Res.of (none : Option α) m = .fail := rfl
theorem Res.bind_inv {α β : Type} {r : Res α} {f : α → Mem → Res β} {b : β} {m : Mem} (h : r.bind f = .ok b m) : ∃ a m1, r = .ok a m1 ∧ f a m1 = .ok b m := by
  cases r with
  | ok a m1 => exact ⟨a, m1, rfl, h⟩
  | fail => cases h
theorem Res.of_inv {α : Type} {o : Option α} {a : α} {m m' : Mem} (h : Res.of o m = .ok a m') : o = some a ∧ m' = m := by
  cases o with
  | some b => cases h; exact ⟨rfl, rfl⟩
  | none => cases h
def force : RV → M DV
  | .val d, m => .ok d m
  | .new o, m => .ok (.ref m.length) (m ++ [o])
@[simp] theorem force_val (d : DV) (m : Mem) : force (.val d) m = .ok d m := rfl
@[simp] theorem force_new (o : MO) (m : Mem) : force (.new o) m = .ok (.ref m.length) (m ++ [o]) := rfl
/-! ### the text -/
inductive Bop where
  | add | sub | mul | fdiv | mod | pow | shl | shr | band | bor | bxor
  deriving DecidableEq
inductive Cop where
  | eq | ne | lt | le | gt | ge | isin | notin
  deriving DecidableEq
inductive Ty where
  | int | bool | str | tuple | list | non
  deriving DecidableEq
inductive Blt where
  | abs | int | len | all | any | tuple | list | sum | min | max | repr
  deriving DecidableEq
inductive Mth where
  | append | pop | popAt | extend
  deriving DecidableEq
inductive ItK where
  | seq | range | range3 | enum | zip
  deriving DecidableEq
inductive Pat where
  | nm (i : Nat) | tup (ps : List Pat)
mutual
inductive E where
  | v (i : Nat) | c (d : DV) | g (x : Str) (d : DV) | tup (es : Es) | lst (es : Es) | bin (op : Bop) (a b : E) | neg (a : E) | not (a : E) | and (es : Es) | or (es : Es)
  | cmp (op : Cop) (a b : E) | cmp2 (op op' : Cop) (a b c : E) | isN (neg : Bool) (a : E) | isB (neg b : Bool) (a : E) | ife (c a b : E) | ix (a i : E) | sl (a : E) (lo hi : Es)
  | call (f : Nat) (es : Es) | blt (b : Blt) (es : Es) | isi (a : E) (ts : List Ty) | mth (m : Mth) (o : E) (es : Es) | comp (elt : E) (p : Pat) (k : ItK) (its : Es) (cs : Es) (own : List Nat)
inductive Es where
  | nil | cons (e : E) (es : Es)
end
mutual
inductive S where
  | asg (p : Pat) (e : E) | asgl (ps : List Pat) (e : E) | aix (o i e : E) | ex (e : E) | ret (e : E) | retn | ife (c : E) (a b : Ss) | wh (c : E) (b : Ss) | for (p : Pat) (k : ItK) (its : Es) (b : Ss) | pass | cont | never
inductive Ss where
  | nil | cons (s : S) (ss : Ss)
end
def Es.len : Es → Nat
  | .nil => 0
  | .cons _ es => es.len + 1
/-! ### values -/
abbrev LE := List (Option DV)
mutual
def DV.lim (n : Nat) : DV → Bool
  | .ref k => decide (k < n)
  | .tup xs => DV.lims n xs
  | .rl xs => DV.lims n xs
  | .non => true
  | .bl _ => true
  | .int _ => true
  | .str _ => true
def DV.lims (n : Nat) : List DV → Bool
  | [] => true
  | x :: xs => DV.lim n x && DV.lims n xs
end
def MO.items : MO → List DV
  | .lst xs => xs
def Mem.lim (n : Nat) (m : Mem) : Bool := m.all fun o => DV.lims n o.items
/-- a list or a tuple's items: is it a list; its number -/
def seqOf (m : Mem) : RV → Option (Bool × List DV × List Nat)
  | .val (.tup ds) => some (false, ds, [])
  | .val (.rl ds) => some (true, ds, [])
  | .val (.ref n) => match m[n]? with
    | some o => some (true, o.items, [n])
    | none => none
  | .new o => some (true, o.items, [])
  | _ => none
/-- a list that may be written -/
def lstOf (m : Mem) : RV → Option (List DV)
  | .val (.ref n) => (m[n]?).map MO.items
  | .new o => some o.items
  | _ => none
/-- the data of a value -/
def snap : Nat → Mem → DV → Option PyData
  | 0, _, _ => none
  | n + 1, m, d => match d with
    | .non => some .none
    | .bl b => some (.bool b)
    | .int i => some (.int i)
    | .str s => if PyData.strOk s = true then some (.str s) else none
    | .tup ds => (ds.mapM fun d => snap n m d).map PyData.tuple
    | .rl ds => (ds.mapM fun d => snap n m d).map PyData.list
    | .ref k => match m[k]? with
      | some o => (o.items.mapM fun d => snap n m d).map PyData.list
      | none => none
def snapR (m : Mem) : RV → Option PyData
  | .val d => snap 40 m d
  | .new o => (o.items.mapM fun d => snap 39 m d).map PyData.list
def mulOk (i j : Int) : Bool := (decide (-(2 ^ 64) < i) && decide (i < 2 ^ 64)) || (decide (-(2 ^ 64) < j) && decide (j < 2 ^ 64)) || decide (i.natAbs.log2 + j.natAbs.log2 < 1000000)
def big : Nat := 1000000
def binI (op : Bop) (i j : Int) : Option Int := match op with
  | .add => some (i + j)
  | .sub => some (i - j)
  | .mul => if mulOk i j = true then some (i * j) else none
  | .fdiv => if 0 < j ∧ j.natAbs.log2 < 9000 then some (i / j) else if j ≠ 0 ∧ j.natAbs < 1073741824 then some (i.fdiv j) else none
  | .mod => if 0 < j then some (i % j) else if j ≠ 0 then some (i.fmod j) else none
  | .pow => if 0 ≤ j ∧ j ≤ 1000000 ∧ i.natAbs < 2 ^ 64 then some (i ^ j.toNat) else none
  | .shl => if 0 ≤ j ∧ j ≤ 1000000 ∧ i.natAbs < 2 ^ 64 then some (i * 2 ^ j.toNat) else none
  | .shr => if 0 ≤ j then some (i / 2 ^ j.toNat) else none
  | .band => some (Builtin.bitAnd i j)
  | .bor => some (Builtin.bitOr i j)
  | .bxor => some (Builtin.bitXor i j)
def bin (op : Bop) (m : Mem) (a b : RV) : Option RV := match a, b with
  | .val (.int i), .val (.int j) => (binI op i j).map fun k => .val (.int k)
  | .val (.str x), .val (.str y) => if op = .add ∧ x.length + y.length ≤ sizeLine then some (.val (.str (x ++ y))) else none
  | .val (.tup xs), .val (.tup ys) => if op = .add ∧ xs.length + ys.length ≤ sizeLine then some (.val (.tup (xs ++ ys))) else none
  | a, b => match lstOf m a, lstOf m b with
    | some xs, some ys => if op = .add ∧ xs.length + ys.length ≤ sizeLine then some (.new (.lst (xs ++ ys))) else none
    | _, _ => none
def flat : DV → Bool
  | .non => true
  | .bl _ => true
  | .int _ => true
  | .str _ => true
  | _ => false
/-- is one of them so -/
def flatEq : DV → DV → Bool
  | .non, .non => true
  | .bl a, .bl b => a == b
  | .bl a, .int b => (if a then (1 : Int) else 0) == b
  | .int a, .bl b => a == (if b then (1 : Int) else 0)
  | .int a, .int b => a == b
  | .str a, .str b => a == b
  | _, _ => false
def inD (m : Mem) (a b : RV) : Option Bool := match a with
  | .val d => match seqOf m b with
    | some (_, ds, _) => if flat d = true ∧ ds.all flat = true then some (ds.any fun e => flatEq e d) else none
    | none => none
  | _ => none
def cmpD (op : Cop) (m : Mem) (a b : RV) : Option Bool := match op with
  | .eq => match snapR m a, snapR m b with
    | some x, some y => some (PyData.eqv x y)
    | _, _ => none
  | .ne => match snapR m a, snapR m b with
    | some x, some y => some (!PyData.eqv x y)
    | _, _ => none
  | .lt => match a, b with
    | .val (.int i), .val (.int j) => some (decide (i < j))
    | .val (.str i), .val (.str j) => some (decide (i.cps.toList < j.cps.toList))
    | _, _ => none
  | .le => match a, b with
    | .val (.int i), .val (.int j) => some (decide (i ≤ j))
    | .val (.str i), .val (.str j) => some (!decide (j.cps.toList < i.cps.toList))
    | _, _ => none
  | .gt => match a, b with
    | .val (.int i), .val (.int j) => some (decide (j < i))
    | .val (.str i), .val (.str j) => some (decide (j.cps.toList < i.cps.toList))
    | _, _ => none
  | .ge => match a, b with
    | .val (.int i), .val (.int j) => some (decide (j ≤ i))
    | .val (.str i), .val (.str j) => some (!decide (i.cps.toList < j.cps.toList))
    | _, _ => none
  | .isin => inD m a b
  | .notin => (inD m a b).map fun k => !k
def tru (m : Mem) : RV → Option Bool
  | .val .non => some false
  | .val (.bl b) => some b
  | .val (.int i) => some (i != 0)
  | .val (.str s) => if s.length ≤ sizeLine then some ((s.length : Int) != 0) else none
  | r => match seqOf m r with
    | some (_, ds, _) => some (!ds.isEmpty)
    | none => none
def cut {α : Type} (xs : List α) (lo hi : Option Int) : List α := (xs.drop (HT.sIx xs.length 0 lo)).take (HT.sIx xs.length xs.length hi - HT.sIx xs.length 0 lo)
def slice (m : Mem) (a : RV) (lo hi : Option Int) : Option RV := match a with
  | .val (.str z) => if z.length ≤ sizeLine then some (.val (.str (L2.cutS z lo hi))) else none
  | a => match seqOf m a with
    | some (true, ds, _) => some (.new (.lst (cut ds lo hi)))
    | some (false, ds, _) => some (.val (.tup (cut ds lo hi)))
    | none => none
def item (m : Mem) (a : RV) (i : RV) : Option RV := match a, i with
  | .val (.str z), .val (.int i) => if z.length ≤ sizeLine then (L2.atI z.cps.toList i).map fun c => .val (.str ⟨#[c]⟩) else none
  | a, .val (.int i) => match seqOf m a with
    | some (_, ds, _) => (L2.atI ds i).map .val
    | none => none
  | _, _ => none
def tyOf (m : Mem) : RV → Option Ty
  | .val (.bl _) => some .bool
  | .val (.int _) => some .int
  | .val (.str _) => some .str
  | .val .non => some .non
  | r => match seqOf m r with
    | some (true, _, _) => some .list
    | some (false, _, _) => some .tuple
    | none => none
def Ty.sub (t u : Ty) : Bool := decide (t = u) || (decide (t = .bool) && decide (u = .int))
def isiD (m : Mem) (r : RV) (ts : List Ty) : Option Bool := (tyOf m r).map fun t => ts.any fun u => t.sub u
mutual
def wt : PyData → Nat
  | .none => 1
  | .bool _ => 1
  | .int _ => 1
  | .str s => 1 + s.length
  | .list xs => 1 + wts xs
  | .tuple xs => 1 + wts xs
  | .dict _ => 1
def wts : List PyData → Nat
  | [] => 0
  | x :: xs => wt x + wts xs
end
def intsOf (ds : List DV) : Option (List Int) := ds.mapM fun d => match d with | .int i => some i | _ => none
def boolsOf (ds : List DV) : Option (List Bool) := ds.mapM fun d => match d with | .bl i => some i | _ => none
def bltD (b : Blt) (m : Mem) (rs : List RV) : Option RV := match b, rs with
  | .abs, [.val (.int i)] => some (.val (.int (if i < 0 then -i else i)))
  | .int, [.val (.int i)] => some (.val (.int i))
  | .int, [.val (.bl k)] => some (.val (.int (if k then 1 else 0)))
  | .len, [.val (.str s)] => if s.length ≤ sizeLine then some (.val (.int s.length)) else none
  | .len, [r] => match seqOf m r with
    | some (_, ds, _) => some (.val (.int ds.length))
    | none => none
  | .all, [r] => match seqOf m r with
    | some (true, ds, _) => (boolsOf ds).map fun bs => .val (.bl (bs.all id))
    | _ => none
  | .any, [r] => match seqOf m r with
    | some (true, ds, _) => (boolsOf ds).map fun bs => .val (.bl (bs.any id))
    | _ => none
  | .tuple, [r] => match seqOf m r with
    | some (_, ds, _) => some (.val (.tup ds))
    | none => none
  | .list, [r] => match seqOf m r with
    | some (_, ds, _) => some (.new (.lst ds))
    | none => none
  | .sum, [r] => match seqOf m r with
    | some (_, ds, _) => (intsOf ds).map fun ns => .val (.int ns.sum)
    | none => none
  | .min, [.val (.int i), .val (.int j)] => some (.val (.int (if j < i then j else i)))
  | .max, [.val (.int i), .val (.int j)] => some (.val (.int (if j > i then j else i)))
  | .max, [r] => match seqOf m r with
    | some (true, ds, _) => match intsOf ds with
      | some (n :: ns) => some (.val (.int (ns.foldl max n)))
      | _ => none
    | _ => none
  | .min, [r] => match seqOf m r with
    | some (true, ds, _) => match intsOf ds with
      | some (n :: ns) => some (.val (.int (ns.foldl min n)))
      | _ => none
    | _ => none
  | .repr, [r] => match snapR m r with
    | some d => if d.showable = true ∧ wt d ≤ 8000 then some (.val (.str d.shown)) else none
    | none => none
  | _, _ => none
def mthD (t : Mth) (m : Mem) (o : RV) (rs : List DV) : Option (RV × Mem) := match t, o, rs with
  | .append, .val (.ref n), [d] => match m[n]? with
    | some (.lst ds) => if ds.length < sizeLine then some (.val .non, m.set n (.lst (ds ++ [d]))) else none
    | _ => none
  | .pop, .val (.ref n), [] => match m[n]? with
    | some (.lst ds) => match ds[ds.length - 1]? with
      | some d => some (.val d, m.set n (.lst ds.dropLast))
      | none => none
    | _ => none
  | .popAt, .val (.ref n), [.int i] => match m[n]? with
    | some (.lst ds) => match seqIndex? i ds.length with
      | some k => match ds[k]? with
        | some d => if -(2 ^ 63) ≤ i ∧ i < 2 ^ 63 then some (.val d, m.set n (.lst (ds.eraseIdx k))) else none
        | none => none
      | none => none
    | _ => none
  | .extend, .val (.ref n), [.ref j] => match m[n]? with
    | some (.lst ds) => match m[j]? with
      | some (.lst es) => if ds.length + es.length ≤ sizeLine then some (.val .non, m.set n (.lst (ds ++ es))) else none
      | _ => none
    | _ => none
  | _, _, _ => none
def enumD : Nat → List DV → List DV
  | _, [] => []
  | i, d :: ds => .tup [.int (i : Nat), d] :: enumD (i + 1) ds
def zipD (xs ys : List DV) : List DV := List.zipWith (fun x y => .tup [x, y]) xs ys
/-- what is walked: the items, the numbers that must stay -/
def itD (k : ItK) (m : Mem) (rs : List RV) : Option (List DV × List Nat) := match k, rs with
  | .seq, [r] => (seqOf m r).map fun q => (q.2.1, q.2.2)
  | .range, [.val (.int j)] => if -(2 ^ 62) ≤ j ∧ j < 2 ^ 62 then some ((List.range j.toNat).map fun i => .int (i : Nat), []) else none
  | .range, [.val (.int i), .val (.int j)] => if -(2 ^ 62) ≤ i ∧ i < 2 ^ 62 ∧ -(2 ^ 62) ≤ j ∧ j < 2 ^ 62 then some ((List.range (j - i).toNat).map fun k => .int (i + (k : Nat)), []) else none
  | .range3, [.val (.int i), .val (.int j), .val (.int c)] => if c ≠ 0 ∧ c.natAbs < 1073741824 ∧ Builtin.Range.small i j c = true ∧ 0 ≤ Builtin.Range.rangeSize i j c then some ((List.range (Builtin.Range.rangeSize i j c).toNat).map fun k => .int (i + (k : Nat) * c), []) else none
  | .enum, [r] => match seqOf m r with
    | some (true, ds, ks) => some (enumD 0 ds, ks)
    | _ => none
  | .zip, [r, r'] => match seqOf m r with
    | some (b, ds, ks) => match seqOf m r' with
      | some (b', es, ks') => if b = b' then some (zipD ds es, ks ++ ks') else none
      | none => none
    | none => none
  | _, _ => none
mutual
def Pat.put : Pat → DV → LE → Option LE
  | .nm i, d, env => some (env.set i (some d))
  | .tup ps, .tup ds, env => Pat.puts ps ds env
  | .tup _, _, _ => none
def Pat.puts : List Pat → List DV → LE → Option LE
  | [], [], env => some env
  | p :: ps, d :: ds, env => match Pat.put p d env with
    | some e => Pat.puts ps ds e
    | none => none
  | _, _, _ => none
end
def wipe (env : LE) : List Nat → LE
  | [] => env
  | i :: is => (wipe env is).set i none
def same (ks : List Nat) (m m' : Mem) : Bool := ks.all fun k => decide (m'[k]? = m[k]?)
def loopC (body : DV → Mem → Res (Option DV)) (fix : Mem → Bool) : List DV → Mem → Res (List DV)
  | [], m => .ok [] m
  | d :: ds, m => (body d m).bind fun x m1 => if fix m1 = true then (loopC body fix ds m1).bind fun xs m2 => .ok (match x with | some y => y :: xs | none => xs) m2 else .fail
/-! ### expressions -/
section
variable (cf : Nat → List DV → M RV)
mutual
def ev : E → LE → M RV
  | .v i, env, m => match env[i]? with
    | some (some d) => .ok (.val d) m
    | _ => .fail
  | .c d, _, m => .ok (.val d) m
  | .g _ d, _, m => .ok (.val d) m
  | .tup es, env, m => (evs es env m).bind fun ds m1 => .ok (.val (.tup ds)) m1
  | .lst es, env, m => (evs es env m).bind fun ds m1 => .ok (.new (.lst ds)) m1
  | .bin op a b, env, m => (ev a env m).bind fun x m1 => (ev b env m1).bind fun y m2 => Res.of (bin op m2 x y) m2
  | .neg a, env, m => (ev a env m).bind fun x m1 => match x with
    | .val (.int i) => .ok (.val (.int (-i))) m1
    | _ => .fail
  | .not a, env, m => (ev a env m).bind fun x m1 => Res.of ((tru m1 x).map fun b => .val (.bl (!b))) m1
  | .and es, env, m => evAnd es env m
  | .or es, env, m => evOr es env m
  | .cmp op a b, env, m => (ev a env m).bind fun x m1 => (ev b env m1).bind fun y m2 => Res.of ((cmpD op m2 x y).map fun b => .val (.bl b)) m2
  | .cmp2 op op' a b c, env, m => (ev a env m).bind fun x m1 => (ev b env m1).bind fun y m2 => match cmpD op m2 x y with
    | some true => (ev c env m2).bind fun z m3 => Res.of ((cmpD op' m3 y z).map fun b => .val (.bl b)) m3
    | some false => .ok (.val (.bl false)) m2
    | none => .fail
  | .isN neg a, env, m => (ev a env m).bind fun x m1 => match x with
    | .val d => .ok (.val (.bl (if neg then !decide (d = .non) else decide (d = .non)))) m1
    | .new _ => .ok (.val (.bl neg)) m1
  | .isB neg b a, env, m => (ev a env m).bind fun x m1 => match x with
    | .val (.bl k) => .ok (.val (.bl (if neg then !decide (k = b) else decide (k = b)))) m1
    | _ => .fail
  | .ife c a b, env, m => (ev c env m).bind fun x m1 => match tru m1 x with
    | some true => ev a env m1
    | some false => ev b env m1
    | none => .fail
  | .ix a i, env, m => (ev a env m).bind fun x m1 => (ev i env m1).bind fun y m2 => Res.of (item m2 x y) m2
  | .sl a lo hi, env, m => (ev a env m).bind fun x m1 => (evPart lo env m1).bind fun l m2 => (evPart hi env m2).bind fun h m3 => Res.of (slice m3 x l h) m3
  | .call f es, env, m => (evs es env m).bind fun ds m1 => cf f ds m1
  | .blt b es, env, m => (evrs es env m).bind fun rs m1 => Res.of (bltD b m1 rs) m1
  | .isi a ts, env, m => (ev a env m).bind fun x m1 => Res.of ((isiD m1 x ts).map fun b => .val (.bl b)) m1
  | .mth t o es, env, m => (ev o env m).bind fun x m1 => (evs es env m1).bind fun ds m2 => match mthD t m2 x ds with
    | some (r, m3) => .ok r m3
    | none => .fail
  | .comp elt p k its cs own, env, m => (evrs its env m).bind fun rs m1 => match itD k m1 rs with
    | some (ds, ks) => (loopC (fun d m2 => match p.put d (wipe env own) with
        | some env' => (evTs cs env' m2).bind fun t m3 => if t = true then (ev elt env' m3).bind fun x m4 => (force x m4).bind fun y m5 => .ok (some y) m5 else .ok none m3
        | none => .fail) (same ks m1) ds m1).bind fun xs m2 => if xs.length < sizeLine then .ok (.new (.lst xs)) m2 else .fail
    | none => .fail
def evs : Es → LE → M (List DV)
  | .nil, _, m => .ok [] m
  | .cons e es, env, m => (ev e env m).bind fun x m1 => (force x m1).bind fun d m2 => (evs es env m2).bind fun ds m3 => .ok (d :: ds) m3
def evrs : Es → LE → M (List RV)
  | .nil, _, m => .ok [] m
  | .cons e es, env, m => (ev e env m).bind fun x m1 => (evrs es env m1).bind fun ds m3 => .ok (x :: ds) m3
def evAnd : Es → LE → M RV
  | .nil, _, _ => .fail
  | .cons e es, env, m => match es with
    | .nil => ev e env m
    | .cons e' es' => (ev e env m).bind fun x m1 => match tru m1 x with
      | some true => evAnd (.cons e' es') env m1
      | some false => .ok x m1
      | none => .fail
def evOr : Es → LE → M RV
  | .nil, _, _ => .fail
  | .cons e es, env, m => match es with
    | .nil => ev e env m
    | .cons e' es' => (ev e env m).bind fun x m1 => match tru m1 x with
      | some true => .ok x m1
      | some false => evOr (.cons e' es') env m1
      | none => .fail
def evPart : Es → LE → M (Option Int)
  | .nil, _, m => .ok none m
  | .cons e _, env, m => (ev e env m).bind fun x m1 => match x with
    | .val (.int i) => .ok (some i) m1
    | _ => .fail
def evTs : Es → LE → M Bool
  | .nil, _, m => .ok true m
  | .cons e es, env, m => (ev e env m).bind fun x m1 => match tru m1 x with
    | some true => evTs es env m1
    | some false => .ok false m1
    | none => .fail
end
/-! ### statements -/
inductive Fl where
  | nx (env : LE) | rt (r : RV) | ct (env : LE)
def whl (c : LE → M Bool) (b : LE → M Fl) : Nat → LE → M Fl
  | 0, _, _ => .fail
  | n + 1, env, m => (c env m).bind fun t m1 => if t = true then (b env m1).bind fun fl m2 => match fl with
      | .nx env' => whl c b n env' m2
      | .ct env' => whl c b n env' m2
      | .rt r => .ok (.rt r) m2
    else .ok (.nx env) m1
def forL (p : Pat) (b : LE → M Fl) (fix : Mem → Bool) : List DV → LE → M Fl
  | [], env, m => .ok (.nx env) m
  | d :: ds, env, m => match p.put d env with
    | some env1 => (b env1 m).bind fun fl m1 => match fl with
      | .nx env' => if fix m1 = true then forL p b fix ds env' m1 else .fail
      | .ct env' => if fix m1 = true then forL p b fix ds env' m1 else .fail
      | .rt r => .ok (.rt r) m1
    | none => .fail
def evT (e : E) (env : LE) : M Bool := fun m => (ev cf e env m).bind fun x m1 => Res.of (tru m1 x) m1
def fuel : Nat := 2 ^ 20000
mutual
def evS : S → LE → M Fl
  | .asg p e, env, m => (ev cf e env m).bind fun x m1 => (force x m1).bind fun d m2 => Res.of ((p.put d env).map .nx) m2
  | .asgl ps e, env, m => (ev cf e env m).bind fun x m1 => (force x m1).bind fun d m2 => match seqOf m2 (.val d) with
    | some (true, ds, _) => Res.of ((Pat.puts ps ds env).map .nx) m2
    | _ => .fail
  | .aix o i e, env, m => (ev cf e env m).bind fun x m1 => (force x m1).bind fun d m2 => (ev cf o env m2).bind fun y m3 => (ev cf i env m3).bind fun z m4 => match y, z with
    | .val (.ref n), .val (.int k) => match m4[n]? with
      | some (.lst ds) => match L2.ixN ds.length k with
        | some j => .ok (.nx env) (m4.set n (.lst (ds.set j d)))
        | none => .fail
      | _ => .fail
    | _, _ => .fail
  | .ex e, env, m => (ev cf e env m).bind fun _ m1 => .ok (.nx env) m1
  | .ret e, env, m => (ev cf e env m).bind fun x m1 => .ok (.rt x) m1
  | .retn, _, m => .ok (.rt (.val .non)) m
  | .ife c a b, env, m => (evT cf c env m).bind fun t m1 => if t = true then evSs a env m1 else evSs b env m1
  | .wh c b, env, m => whl (evT cf c) (evSs b) fuel env m
  | .for p k its b, env, m => (evrs cf its env m).bind fun rs m1 => match itD k m1 rs with
    | some (ds, ks) => forL p (evSs b) (same ks m1) ds env m1
    | none => .fail
  | .pass, env, m => .ok (.nx env) m
  | .cont, env, m => .ok (.ct env) m
  | .never, _, _ => .fail
def evSs : Ss → LE → M Fl
  | .nil, env, m => .ok (.nx env) m
  | .cons s ss, env, m => (evS s env m).bind fun fl m1 => match fl with
    | .nx env' => evSs ss env' m1
    | .ct env' => .ok (.ct env') m1
    | .rt r => .ok (.rt r) m1
end
end
/-! ### calls -/
/-- what a call leaves: the new lists that nobody holds are gone -/
def gc (m0 : Mem) (r : RV) (m1 : Mem) : Res RV :=
  if m1.take m0.length = m0 ∨ Mem.lim m0.length (m1.take m0.length) = true then match r with
    | .val d => if d.lim m0.length = true then .ok r (m1.take m0.length) else match d with
      | .ref n => match m1[n]? with
        | some (.lst ds) => if DV.lims m0.length ds = true then .ok (.new (.lst ds)) (m1.take m0.length) else .ok r m1
        | none => .ok r m1
      | _ => .ok r m1
    | .new (.lst ds) => if DV.lims m0.length ds = true then .ok r (m1.take m0.length) else .ok r m1
  else .ok r m1
structure Def where
  np : Nat
  n : Nat
  body : Ss
def runD (cf : Nat → List DV → M RV) (d : Def) (ds : List DV) (m : Mem) : Res RV :=
  if ds.length = d.np then (evSs cf d.body (ds.map some ++ List.replicate (d.n - d.np) none) m).bind fun fl m1 => match fl with
    | .rt r => gc m r m1
    | .nx _ => gc m (.val .non) m1
    | .ct _ => .fail
  else .fail
def callF (P : List Def) : Nat → Nat → List DV → M RV
  | 0, _, _, _ => .fail
  | k + 1, f, ds, m => match P[f]? with
    | some d => runD (callF P k) d ds m
    | none => .fail
end Mp
end SMpA
section SMpB
set_option Elab.async false
set_option linter.all false
/-! MpB: how plain data stands in the model's heap. -/
namespace Mp
open PySem PySem.Spec
open L2 (V Hp HO St TE TT TA TI TG TS Ends Rd SqL SqT PE PT PA PS PSs PG PI Cx Inv RelV Vals upd upd_same upd_ne)
section
variable {K : PySem.W.Frag}
/-- a list that is only read -/
def SqF (K : PySem.W.Frag) (H : Hp) (a : Addr) (xs : List V) : Prop := (∃ o, H a = some (.frz o (.lst xs))) ∨ SqL K (fun _ => none) a xs
theorem SqF.seq {H : Hp} {a : Addr} {xs : List V} (h : SqF K H a xs) : SqL K H a xs := by
  rcases h with ⟨o, h⟩ | (h | ⟨o, h⟩) | h
  · exact .inl (.inr ⟨o, h⟩)
  · cases h
  · cases h
  · exact .inr h
mutual
def VR (K : PySem.W.Frag) (H : Hp) (φ : List Addr) : DV → V → Prop
  | .non, v => v = .non
  | .bl b, v => v = .bl b
  | .int i, v => v = .int i
  | .str s, v => v = .str s
  | .ref n, v => ∃ a, v = .ref a ∧ φ[n]? = some a
  | .tup ds, v => ∃ a xs, v = .ref a ∧ SqT K H a xs ∧ VRs K H φ ds xs
  | .rl ds, v => ∃ a xs, v = .ref a ∧ SqF K H a xs ∧ VRs K H φ ds xs
def VRs (K : PySem.W.Frag) (H : Hp) (φ : List Addr) : List DV → List V → Prop
  | [], vs => vs = []
  | d :: ds, vs => ∃ v r, vs = v :: r ∧ VR K H φ d v ∧ VRs K H φ ds r
end
/-- what stands at a number -/
def OR (K : PySem.W.Frag) (H : Hp) (φ : List Addr) (a : Addr) : MO → Prop
  | .lst ds => ∃ xs, H a = some (.lst xs) ∧ VRs K H φ ds xs
structure MR (K : PySem.W.Frag) (H : Hp) (φ : List Addr) (m : Mem) : Prop where
  len : φ.length = m.length
  nd : φ.Nodup
  ob : ∀ (n : Nat) (a : Addr) (o : MO), φ[n]? = some a → m[n]? = some o → OR K H φ a o
/-- from a state to a later one: numbers are given to new things, what has none stays -/
structure Ext (φ : List Addr) (H : Hp) (φ' : List Addr) (H' : Hp) : Prop where
  pre : ∀ (n : Nat) (a : Addr), φ[n]? = some a → φ'[n]? = some a
  new : ∀ b, b ∈ φ' → b ∈ φ ∨ H b = none
  keep : ∀ b o, H b = some o → b ∉ φ → H' b = some o
theorem Ext.refl (φ : List Addr) (H : Hp) : Ext φ H φ H := ⟨fun _ _ h => h, fun _ h => .inl h, fun _ _ h _ => h⟩
theorem Ext.sub {φ φ' : List Addr} {H H' : Hp} (E : Ext φ H φ' H') {b : Addr} (h : b ∈ φ) : b ∈ φ' := by
  obtain ⟨i, hi, e⟩ := List.getElem_of_mem h
  exact List.mem_of_getElem? (E.pre i b (by rw [List.getElem?_eq_getElem hi, e]))
theorem Ext.trans {φ φ1 φ2 : List Addr} {H H1 H2 : Hp} (E : Ext φ H φ1 H1) (F : Ext φ1 H1 φ2 H2) : Ext φ H φ2 H2 := by
  have nb : ∀ b o, H b = some o → b ∉ φ → b ∉ φ1 := fun b o e hn hb => by
    rcases E.new b hb with h | h
    · exact hn h
    · rw [e] at h; cases h
  refine ⟨fun n a h => F.pre n a (E.pre n a h), fun b hb => ?_, fun b o e hn => F.keep b o (E.keep b o e hn) (nb b o e hn)⟩
  rcases F.new b hb with h | h
  · exact E.new b h
  · cases e : H b with
    | none => exact .inr rfl
    | some o =>
      by_cases hn : b ∈ φ
      · exact .inl hn
      · rw [E.keep b o e hn] at h; cases h
theorem MR.plain {H : Hp} {φ : List Addr} {m : Mem} (M : MR K H φ m) {a : Addr} (h : a ∈ φ) : ∃ xs, H a = some (.lst xs) := by
  obtain ⟨i, hi, e⟩ := List.getElem_of_mem h
  have hm : i < m.length := by rw [← M.len]; exact hi
  have q := M.ob i a m[i] (by rw [List.getElem?_eq_getElem hi, e]) (List.getElem?_eq_getElem hm)
  cases e2 : m[i] with
  | lst ds =>
    rw [e2] at q
    obtain ⟨xs, q, _⟩ := q
    exact ⟨xs, q⟩
theorem MR.fresh {H : Hp} {φ : List Addr} {m : Mem} (M : MR K H φ m) {a : Addr} (h : H a = none) : a ∉ φ := fun ha => by
  obtain ⟨xs, e⟩ := M.plain ha
  rw [h] at e
  cases e
theorem MR.notIn {H : Hp} {φ : List Addr} {m : Mem} (M : MR K H φ m) {a : Addr} {xs : List V} (h : Rd H a (.tup xs)) : a ∉ φ := fun ha => by
  obtain ⟨ys, q⟩ := M.plain ha
  rcases h with h | ⟨p, h⟩ <;> rw [q] at h <;> cases h
theorem SqT_ext {H H' : Hp} {φ φ' : List Addr} {m : Mem} (M : MR K H φ m) (E : Ext φ H φ' H') {a : Addr} {xs : List V} (h : SqT K H a xs) : SqT K H' a xs := by
  rcases h with h | h
  · have hn := M.notIn h
    rcases h with h | ⟨o, h⟩
    · exact .inl (.inl (E.keep _ _ h hn))
    · exact .inl (.inr ⟨o, E.keep _ _ h hn⟩)
  · exact .inr h
theorem SqF_ext {H H' : Hp} {φ φ' : List Addr} {m : Mem} (M : MR K H φ m) (E : Ext φ H φ' H') {a : Addr} {xs : List V} (h : SqF K H a xs) : SqF K H' a xs := by
  rcases h with ⟨o, h⟩ | h
  · refine .inl ⟨o, E.keep _ _ h fun ha => ?_⟩
    obtain ⟨ys, q⟩ := M.plain ha
    rw [q] at h
    cases h
  · exact .inr h
mutual
theorem VR.mono {H H' : Hp} {φ φ' : List Addr} (hp : ∀ (n : Nat) (a : Addr), φ[n]? = some a → φ'[n]? = some a) (ht : ∀ a xs, SqT K H a xs → SqT K H' a xs) (hl : ∀ a xs, SqF K H a xs → SqF K H' a xs) : ∀ (d : DV) (v : V), VR K H φ d v → VR K H' φ' d v
  | .non, _, h => h
  | .bl _, _, h => h
  | .int _, _, h => h
  | .str _, _, h => h
  | .ref n, v, h => by
    obtain ⟨a, e, q⟩ := h
    exact ⟨a, e, hp n a q⟩
  | .tup ds, v, h => by
    obtain ⟨a, xs, e, q, r⟩ := h
    exact ⟨a, xs, e, ht a xs q, VRs.mono hp ht hl ds xs r⟩
  | .rl ds, v, h => by
    obtain ⟨a, xs, e, q, r⟩ := h
    exact ⟨a, xs, e, hl a xs q, VRs.mono hp ht hl ds xs r⟩
theorem VRs.mono {H H' : Hp} {φ φ' : List Addr} (hp : ∀ (n : Nat) (a : Addr), φ[n]? = some a → φ'[n]? = some a) (ht : ∀ a xs, SqT K H a xs → SqT K H' a xs) (hl : ∀ a xs, SqF K H a xs → SqF K H' a xs) : ∀ (ds : List DV) (vs : List V), VRs K H φ ds vs → VRs K H' φ' ds vs
  | [], _, h => h
  | d :: ds, vs, h => by
    obtain ⟨v, r, e, q, t⟩ := h
    exact ⟨v, r, e, VR.mono hp ht hl d v q, VRs.mono hp ht hl ds r t⟩
end
theorem VR.ext {H H' : Hp} {φ φ' : List Addr} {m : Mem} (M : MR K H φ m) (E : Ext φ H φ' H') {d : DV} {v : V} (h : VR K H φ d v) : VR K H' φ' d v := VR.mono E.pre (fun _ _ => SqT_ext M E) (fun _ _ => SqF_ext M E) d v h
theorem VRs.ext {H H' : Hp} {φ φ' : List Addr} {m : Mem} (M : MR K H φ m) (E : Ext φ H φ' H') {ds : List DV} {vs : List V} (h : VRs K H φ ds vs) : VRs K H' φ' ds vs := VRs.mono E.pre (fun _ _ => SqT_ext M E) (fun _ _ => SqF_ext M E) ds vs h
theorem VRs.length {H : Hp} {φ : List Addr} : ∀ {ds : List DV} {vs : List V}, VRs K H φ ds vs → vs.length = ds.length
  | [], _, h => by rw [show _ = [] from h]; rfl
  | d :: ds, vs, h => by
    obtain ⟨v, r, e, _, t⟩ := h
    rw [e, List.length_cons, List.length_cons, VRs.length t]
theorem VRs.get {H : Hp} {φ : List Addr} : ∀ {ds : List DV} {vs : List V} {i : Nat} {d : DV}, VRs K H φ ds vs → ds[i]? = some d → ∃ v, vs[i]? = some v ∧ VR K H φ d v
  | [], _, _, _, _, e => by simp at e
  | d :: ds, vs, 0, _, h, e => by
    obtain ⟨v, r, e1, q, _⟩ := h
    cases e
    exact ⟨v, by rw [e1]; rfl, q⟩
  | d :: ds, vs, i + 1, x, h, e => by
    obtain ⟨v, r, e1, _, t⟩ := h
    obtain ⟨w, h1, h2⟩ := VRs.get (i := i) (d := x) t (by simpa using e)
    exact ⟨w, by rw [e1]; simpa using h1, h2⟩
theorem VRs.get' {H : Hp} {φ : List Addr} {ds : List DV} {vs : List V} {i : Nat} {v : V} (h : VRs K H φ ds vs) (e : vs[i]? = some v) : ∃ d, ds[i]? = some d ∧ VR K H φ d v := by
  have hl := h.length
  have hi : i < ds.length := by
    have := (List.getElem?_eq_some_iff.mp e).1
    omega
  obtain ⟨w, h1, h2⟩ := h.get (List.getElem?_eq_getElem hi)
  rw [e] at h1
  cases h1
  exact ⟨_, List.getElem?_eq_getElem hi, h2⟩
theorem VRs.append {H : Hp} {φ : List Addr} : ∀ {ds es : List DV} {vs us : List V}, VRs K H φ ds vs → VRs K H φ es us → VRs K H φ (ds ++ es) (vs ++ us)
  | [], _, _, _, h, g => by rw [show _ = [] from h]; exact g
  | d :: ds, es, vs, us, h, g => by
    obtain ⟨v, r, e, q, t⟩ := h
    rw [e]
    exact ⟨v, r ++ us, rfl, q, VRs.append t g⟩
theorem VRs.drop {H : Hp} {φ : List Addr} : ∀ (n : Nat) {ds : List DV} {vs : List V}, VRs K H φ ds vs → VRs K H φ (ds.drop n) (vs.drop n)
  | 0, _, _, h => h
  | n + 1, [], vs, h => by rw [show vs = [] from h]; exact rfl
  | n + 1, d :: ds, vs, h => by
    obtain ⟨v, r, e, _, t⟩ := h
    rw [e]
    exact VRs.drop n t
theorem VRs.take {H : Hp} {φ : List Addr} : ∀ (n : Nat) {ds : List DV} {vs : List V}, VRs K H φ ds vs → VRs K H φ (ds.take n) (vs.take n)
  | 0, _, _, h => rfl
  | n + 1, [], vs, h => by rw [show vs = [] from h]; exact rfl
  | n + 1, d :: ds, vs, h => by
    obtain ⟨v, r, e, q, t⟩ := h
    rw [e]
    exact ⟨v, r.take n, rfl, q, VRs.take n t⟩
theorem VRs.set {H : Hp} {φ : List Addr} {d : DV} {v : V} (g : VR K H φ d v) : ∀ (i : Nat) {ds : List DV} {vs : List V}, VRs K H φ ds vs → VRs K H φ (ds.set i d) (vs.set i v)
  | _, [], vs, h => by rw [show vs = [] from h]; exact rfl
  | 0, e :: ds, vs, h => by
    obtain ⟨w, r, e1, _, t⟩ := h
    rw [e1]
    exact ⟨v, r, rfl, g, t⟩
  | i + 1, e :: ds, vs, h => by
    obtain ⟨w, r, e1, q, t⟩ := h
    rw [e1]
    exact ⟨w, r.set i v, rfl, q, VRs.set g i t⟩
theorem VRs.snoc {H : Hp} {φ : List Addr} {ds : List DV} {vs : List V} {d : DV} {v : V} (h : VRs K H φ ds vs) (g : VR K H φ d v) : VRs K H φ (ds ++ [d]) (vs ++ [v]) := h.append ⟨v, [], rfl, g, rfl⟩
/-- the slots -/
structure ER (K : PySem.W.Frag) (H : Hp) (φ : List Addr) (env : LE) (σ : St) : Prop where
  len : σ.length = env.length
  at_ : ∀ (i : Nat) (d : DV), env[i]? = some (some d) → ∃ v, σ[i]? = some (some v) ∧ VR K H φ d v
theorem ER.ext {H H' : Hp} {φ φ' : List Addr} {m : Mem} {env : LE} {σ : St} (R : ER K H φ env σ) (M : MR K H φ m) (E : Ext φ H φ' H') : ER K H' φ' env σ :=
  ⟨R.len, fun i d h => let ⟨v, e, q⟩ := R.at_ i d h; ⟨v, e, q.ext M E⟩⟩
theorem ER.set {H : Hp} {φ : List Addr} {env : LE} {σ : St} (R : ER K H φ env σ) {d : DV} {v : V} (i : Nat) (g : VR K H φ d v) : ER K H φ (env.set i (some d)) (σ.set i (some v)) := by
  refine ⟨by rw [List.length_set, List.length_set]; exact R.len, fun j e h => ?_⟩
  by_cases hj : i = j
  · subst hj
    have hi : i < env.length := by
      have := (List.getElem?_eq_some_iff.mp h).1
      rwa [List.length_set] at this
    rw [List.getElem?_set_self hi] at h
    cases h
    exact ⟨v, List.getElem?_set_self (by rw [R.len]; exact hi), g⟩
  · rw [List.getElem?_set_ne hj] at h
    rw [List.getElem?_set_ne hj]
    exact R.at_ j e h
theorem ER.unset {H : Hp} {φ : List Addr} {env : LE} {σ : St} (R : ER K H φ env σ) (i : Nat) : ER K H φ (env.set i none) (σ.set i none) := by
  refine ⟨by rw [List.length_set, List.length_set]; exact R.len, fun j e h => ?_⟩
  by_cases hj : i = j
  · subst hj
    by_cases hi : i < env.length
    · rw [List.getElem?_set_self hi] at h; cases h
    · rw [List.getElem?_eq_none (by rw [List.length_set]; omega)] at h; cases h
  · rw [List.getElem?_set_ne hj] at h
    rw [List.getElem?_set_ne hj]
    exact R.at_ j e h
theorem ER.wipe {H : Hp} {φ : List Addr} {env : LE} {σ : St} (R : ER K H φ env σ) : ∀ is : List Nat, ER K H φ (Mp.wipe env is) (L2.wipe σ is)
  | [] => R
  | i :: is => (ER.wipe R is).unset i
/-- values without a number yet -/
def RR (K : PySem.W.Frag) (H : Hp) (φ' : List Addr) (H' : Hp) : RV → V → Prop
  | .val d, v => VR K H' φ' d v
  | .new o, v => ∃ a, v = .ref a ∧ H a = none ∧ a ∉ φ' ∧ ∃ ds xs, o = .lst ds ∧ H' a = some (.lst xs) ∧ VRs K H' φ' ds xs
theorem RR.ext {H H1 H2 : Hp} {φ1 φ2 : List Addr} {m : Mem} {r : RV} {v : V} (h : RR K H φ1 H1 r v) (M : MR K H1 φ1 m) (E : Ext φ1 H1 φ2 H2) : RR K H φ2 H2 r v := by
  cases r with
  | val d => exact VR.ext M E h
  | new o =>
    obtain ⟨a, e, hn, ha, ds, xs, eo, hx, g⟩ := h
    refine ⟨a, e, hn, fun hb => ?_, ds, xs, eo, E.keep _ _ hx ha, g.ext M E⟩
    rcases E.new a hb with q | q
    · exact ha q
    · rw [hx] at q; cases q
/-- seen from an earlier base -/
theorem RR.base {H0 H1 H2 : Hp} {φ0 φ1 φ2 : List Addr} {r : RV} {v : V} (h : RR K H1 φ2 H2 r v) (E : Ext φ0 H0 φ1 H1) (E2 : Ext φ1 H1 φ2 H2) : RR K H0 φ2 H2 r v := by
  cases r with
  | val d => exact h
  | new o =>
    obtain ⟨a, e, hn, ha, w⟩ := h
    refine ⟨a, e, ?_, ha, w⟩
    cases q : H0 a with
    | none => rfl
    | some o =>
      by_cases hb : a ∈ φ0
      · exact absurd (E2.sub (E.sub hb)) ha
      · rw [E.keep a o q hb] at hn; cases hn
theorem force_ok {H H' : Hp} {φ φ' : List Addr} {m m' : Mem} {r : RV} {d : DV} {v : V} (h : RR K H φ' H' r v) (E : Ext φ H φ' H') (M : MR K H' φ' m) (f : force r m = .ok d m') :
    ∃ φ'', (∀ (n : Nat) (b : Addr), φ'[n]? = some b → φ''[n]? = some b) ∧ Ext φ H φ'' H' ∧ MR K H' φ'' m' ∧ VR K H' φ'' d v := by
  cases r with
  | val d' =>
    cases f
    exact ⟨φ', fun _ _ q => q, E, M, h⟩
  | new o =>
    cases f
    obtain ⟨a, e, hn, ha, ds, xs, eo, hx, g⟩ := h
    have pre : ∀ (n : Nat) (b : Addr), φ'[n]? = some b → (φ' ++ [a])[n]? = some b := fun n b q => by
      rw [List.getElem?_append_left (List.getElem?_eq_some_iff.mp q).1]; exact q
    refine ⟨φ' ++ [a], pre, ⟨fun n b q => pre n b (E.pre n b q), fun b hb => ?_, E.keep⟩, ⟨?_, ?_, fun n b o' h1 h2 => ?_⟩, a, e, ?_⟩
    · rcases List.mem_append.mp hb with q | q
      · exact E.new b q
      · rw [List.mem_singleton.mp q]; exact .inr hn
    · rw [List.length_append, List.length_append, M.len]; rfl
    · exact List.nodup_append.mpr ⟨M.nd, by simp, fun x hx y hy => by rw [List.mem_singleton.mp hy]; exact fun q => ha (q ▸ hx)⟩
    · have up : ∀ {o'}, OR K H' φ' b o' → OR K H' (φ' ++ [a]) b o' := fun {o'} q => by
        cases o' with
        | lst zs => obtain ⟨ys, h3, h4⟩ := q; exact ⟨ys, h3, VRs.mono pre (fun _ _ z => z) (fun _ _ z => z) _ _ h4⟩
      by_cases hlt : n < m.length
      · rw [List.getElem?_append_left hlt] at h2
        rw [List.getElem?_append_left (by rw [M.len]; exact hlt)] at h1
        exact up (M.ob n b o' h1 h2)
      · have hl : n < (φ' ++ [a]).length := (List.getElem?_eq_some_iff.mp h1).1
        rw [List.length_append, M.len] at hl
        have en : n = m.length := by simp at hl; omega
        rw [en, List.getElem?_append_right (Nat.le_refl _), Nat.sub_self] at h2
        rw [en, ← M.len, List.getElem?_append_right (Nat.le_refl _), Nat.sub_self] at h1
        cases h1
        cases h2
        refine up ?_
        rw [eo]
        exact ⟨xs, hx, g⟩
    · rw [← M.len, List.getElem?_append_right (Nat.le_refl _), Nat.sub_self]
      rfl
theorem ER.pre {H : Hp} {φ φ' : List Addr} {env : LE} {σ : St} (R : ER K H φ env σ) (hp : ∀ (n : Nat) (a : Addr), φ[n]? = some a → φ'[n]? = some a) : ER K H φ' env σ :=
  ⟨R.len, fun i d h => let ⟨v, e, q⟩ := R.at_ i d h; ⟨v, e, VR.mono hp (fun _ _ z => z) (fun _ _ z => z) d v q⟩⟩
end
end Mp
end SMpB
section SMpC
set_option Elab.async false
set_option linter.all false
/-! MpC: readings by the evaluator; operators. -/
namespace Mp
open PySem PySem.Spec
open L2 (V Hp HO St TE TT TA TI TG TS TO Ends Rd SqL SqT PE PT PA PS PSs PG PI PO Cx Inv RelV Vals upd upd_same upd_ne OpR VK R2)
theorem PE.imp {X : Cx} {e : Expr} {t t' : TE} (h : PE X e t) (w : ∀ σ H Q, t' σ H Q → t σ H Q) : PE X e t' := ⟨fun pins s σ H Q I q => h.run pins s σ H Q I (w σ H Q q)⟩
theorem PT.imp {X : Cx} {e : Expr} {t t' : TT} (h : PT X e t) (w : ∀ σ H Q, t' σ H Q → t σ H Q) : PT X e t' := ⟨fun pins s σ H Q I q => h.run pins s σ H Q I (w σ H Q q)⟩
theorem PA.imp {X : Cx} {e : List Expr} {t t' : TA} (h : PA X e t) (w : ∀ σ H Q, t' σ H Q → t σ H Q) : PA X e t' := ⟨fun pos pins s σ H Q I q => h.run pos pins s σ H Q I (w σ H Q q)⟩
theorem PO.imp {X : Cx} {e : Option Expr} {t t' : TO} (h : PO X e t) (w : ∀ σ H Q, t' σ H Q → t σ H Q) : PO X e t' := ⟨fun pins s σ H Q I q => h.run pins s σ H Q I (w σ H Q q)⟩
theorem PS.imp {X : Cx} {e : Stmt} {t t' : TS} (h : PS X e t) (w : ∀ D σ H, t' D σ H → t D σ H) : PS X e t' := ⟨fun pins s σ H D I q => h.run pins s σ H D I (w D σ H q)⟩
theorem PSs.imp {X : Cx} {e : List Stmt} {t t' : TS} (h : PSs X e t) (w : ∀ D σ H, t' D σ H → t D σ H) : PSs X e t' := ⟨fun pins s σ H D I q => h.run pins s σ H D I (w D σ H q)⟩
section
variable {K : PySem.W.Frag}
/-- slots and numbers as they stand -/
structure At (K : PySem.W.Frag) (σ : St) (H : Hp) (env : LE) (m : Mem) (φ : List Addr) : Prop where
  er : ER K H φ env σ
  mr : MR K H φ m
theorem At.ext {σ : St} {H H' : Hp} {env : LE} {m m' : Mem} {φ φ' : List Addr} (a : At K σ H env m φ) (E : Ext φ H φ' H') (M : MR K H' φ' m') : At K σ H' env m' φ' := ⟨a.er.ext a.mr E, M⟩
/-- what f gives, it gives -/
def tR (K : PySem.W.Frag) (f : LE → M RV) : TE := fun σ H Q => ∃ env m φ r m', At K σ H env m φ ∧ f env m = .ok r m' ∧ ∀ v H' φ', Ext φ H φ' H' → MR K H' φ' m' → RR K H φ' H' r v → Q v H'
def tV (K : PySem.W.Frag) (f : LE → M DV) : TE := fun σ H Q => ∃ env m φ r m', At K σ H env m φ ∧ f env m = .ok r m' ∧ ∀ v H' φ', Ext φ H φ' H' → MR K H' φ' m' → VR K H' φ' r v → Q v H'
def tT (K : PySem.W.Frag) (f : LE → M Bool) : TT := fun σ H Q => ∃ env m φ r m', At K σ H env m φ ∧ f env m = .ok r m' ∧ ∀ H' φ', Ext φ H φ' H' → MR K H' φ' m' → Q r H'
def tP (K : PySem.W.Frag) (f : LE → M (Option Int)) : TO := fun σ H Q => ∃ env m φ r m', At K σ H env m φ ∧ f env m = .ok r m' ∧ ∀ H' φ', Ext φ H φ' H' → MR K H' φ' m' → Q r H'
def tVs (K : PySem.W.Frag) (f : LE → M (List DV)) : TA := fun σ H Q => ∃ env m φ r m', At K σ H env m φ ∧ f env m = .ok r m' ∧ ∀ v H' φ', Ext φ H φ' H' → MR K H' φ' m' → VRs K H' φ' r v → Q v H'
def RRs (K : PySem.W.Frag) (H : Hp) (φ' : List Addr) (H' : Hp) : List RV → List V → Prop
  | [], vs => vs = []
  | r :: rs, vs => ∃ v us, vs = v :: us ∧ RR K H φ' H' r v ∧ RRs K H φ' H' rs us
theorem RRs.ext {H H1 H2 : Hp} {φ1 φ2 : List Addr} {m : Mem} (M : MR K H1 φ1 m) (E : Ext φ1 H1 φ2 H2) : ∀ {rs : List RV} {vs : List V}, RRs K H φ1 H1 rs vs → RRs K H φ2 H2 rs vs
  | [], _, h => h
  | _ :: _, _, ⟨v, us, e, h, t⟩ => ⟨v, us, e, h.ext M E, RRs.ext M E t⟩
theorem RRs.base {H0 H1 H2 : Hp} {φ0 φ1 φ2 : List Addr} (E : Ext φ0 H0 φ1 H1) (E2 : Ext φ1 H1 φ2 H2) : ∀ {rs : List RV} {vs : List V}, RRs K H1 φ2 H2 rs vs → RRs K H0 φ2 H2 rs vs
  | [], _, h => h
  | _ :: _, _, ⟨v, us, e, h, t⟩ => ⟨v, us, e, h.base (φ0 := φ0) (φ1 := φ1) E E2, RRs.base E E2 t⟩
def tRs (K : PySem.W.Frag) (f : LE → M (List RV)) : TA := fun σ H Q => ∃ env m φ r m', At K σ H env m φ ∧ f env m = .ok r m' ∧ ∀ v H' φ', Ext φ H φ' H' → MR K H' φ' m' → RRs K H φ' H' r v → Q v H'
/-- where two values stand, and the rest of the way -/
structure Two (K : PySem.W.Frag) (H0 : Hp) (k : Mem → RV → RV → Res RV) (Q : VK) (x y : V) (H : Hp) (φ0 φ : List Addr) (m : Mem) (a b : RV) (r : RV) (m' : Mem) : Prop where
  e : Ext φ0 H0 φ H
  mr : MR K H φ m
  ra : RR K H0 φ H a x
  rb : RR K H0 φ H b y
  go : k m a b = .ok r m'
  q : ∀ v H' φ', Ext φ0 H0 φ' H' → MR K H' φ' m' → RR K H0 φ' H' r v → Q v H'
theorem two {f g : LE → M RV} {k : Mem → RV → RV → Res RV} {σ : St} {H : Hp} {Q : VK} {R : V → V → Hp → Prop} (h : tR K (fun env m => (f env m).bind fun x m1 => (g env m1).bind fun y m2 => k m2 x y) σ H Q)
    (w : ∀ x y H2 φ0 φ m a b r m', Two K H k Q x y H2 φ0 φ m a b r m' → R x y H2) : tR K f σ H fun x H1 => tR K g σ H1 fun y H2 => R x y H2 := by
  obtain ⟨env, m, φ, r, m', A, e, q⟩ := h
  obtain ⟨a, m1, e1, e⟩ := Res.bind_inv e
  obtain ⟨b, m2, e2, e⟩ := Res.bind_inv e
  refine ⟨env, m, φ, a, m1, A, e1, fun x H1 φ1 E1 M1 R1 => ⟨env, m1, φ1, b, m2, A.ext E1 M1, e2, fun y H2 φ2 E2 M2 R2 => ?_⟩⟩
  exact w x y H2 φ φ2 m2 a b r m' ⟨E1.trans E2, M2, R1.ext M1 E2, R2.base E1 E2, e, q⟩
theorem one {f : LE → M RV} {k : Mem → RV → Res RV} {σ : St} {H : Hp} {Q : VK} {R : V → Hp → Prop} (h : tR K (fun env m => (f env m).bind fun x m1 => k m1 x) σ H Q)
    (w : ∀ x H2 φ0 φ m a r m', Ext φ0 H φ H2 → MR K H2 φ m → RR K H φ H2 a x → k m a = .ok r m' → (∀ v H' φ', Ext φ0 H φ' H' → MR K H' φ' m' → RR K H φ' H' r v → Q v H') → R x H2) : tR K f σ H R := by
  obtain ⟨env, m, φ, r, m', A, e, q⟩ := h
  obtain ⟨a, m1, e1, e⟩ := Res.bind_inv e
  exact ⟨env, m, φ, a, m1, A, e1, fun x H1 φ1 E1 M1 R1 => w x H1 φ φ1 m1 a r m' E1 M1 R1 e q⟩
/-- a new thing at p, not numbered -/
theorem Ext.laid {φ0 φ : List Addr} {H0 H : Hp} {p : Addr} {o : HO} (E : Ext φ0 H0 φ H) (hp : H p = none) : Ext φ0 H0 φ (upd H p o) :=
  ⟨E.pre, E.new, fun b u e hn => by
    have h1 := E.keep b u e hn
    rw [upd_ne (L2.ne_of_none h1 hp)]
    exact h1⟩
theorem VR.laid {H : Hp} {φ : List Addr} {p : Addr} {o : HO} (hp : H p = none) {d : DV} {v : V} (h : VR K H φ d v) : VR K (upd H p o) φ d v := by
  have rd : ∀ {a u}, H a = some u → (upd H p o) a = some u := fun {a u} e => by rw [upd_ne (L2.ne_of_none e hp)]; exact e
  refine VR.mono (fun _ _ z => z) (fun a xs q => ?_) (fun a xs q => ?_) d v h
  · rcases q with (q | ⟨z, q⟩) | q
    · exact .inl (.inl (rd q))
    · exact .inl (.inr ⟨z, rd q⟩)
    · exact .inr q
  · rcases q with ⟨z, q⟩ | q
    · exact .inl ⟨z, rd q⟩
    · exact .inr q
theorem VRs.laid {H : Hp} {φ : List Addr} {p : Addr} {o : HO} (hp : H p = none) : ∀ {ds : List DV} {vs : List V}, VRs K H φ ds vs → VRs K (upd H p o) φ ds vs
  | [], _, h => h
  | _ :: _, _, ⟨v, r, e, q, t⟩ => ⟨v, r, e, q.laid hp, VRs.laid hp t⟩
theorem MR.laid {H : Hp} {φ : List Addr} {m : Mem} {p : Addr} {o : HO} (M : MR K H φ m) (hp : H p = none) : MR K (upd H p o) φ m := by
  refine ⟨M.len, M.nd, fun n a ob h1 h2 => ?_⟩
  cases ob with
  | lst ds =>
    obtain ⟨xs, e, g⟩ := M.ob n a _ h1 h2
    exact ⟨xs, by rw [upd_ne (L2.ne_of_none e hp)]; exact e, g.laid hp⟩
theorem RR.none {H0 H : Hp} {φ0 φ : List Addr} (E : Ext φ0 H0 φ H) {p : Addr} (hp : H p = none) (hf : p ∉ φ) : H0 p = none := by
  cases e : H0 p with
  | none => rfl
  | some o =>
    by_cases hn : p ∈ φ0
    · exact absurd (E.sub hn) hf
    · rw [E.keep p o e hn] at hp; cases hp
/-- a new list, a new tuple -/
theorem new_lst {φ0 φ : List Addr} {H0 H : Hp} {m : Mem} {p : Addr} {ds : List DV} {xs : List V} (E : Ext φ0 H0 φ H) (M : MR K H φ m) (hp : H p = none) (g : VRs K H φ ds xs) :
    Ext φ0 H0 φ (upd H p (.lst xs)) ∧ MR K (upd H p (.lst xs)) φ m ∧ RR K H0 φ (upd H p (.lst xs)) (.new (.lst ds)) (.ref p) :=
  ⟨E.laid hp, M.laid hp, p, rfl, RR.none E hp (M.fresh hp), M.fresh hp, ds, xs, rfl, upd_same, g.laid hp⟩
theorem new_tup {φ0 φ : List Addr} {H0 H : Hp} {m : Mem} {p : Addr} {ds : List DV} {xs : List V} (E : Ext φ0 H0 φ H) (M : MR K H φ m) (hp : H p = none) (g : VRs K H φ ds xs) :
    Ext φ0 H0 φ (upd H p (.tup xs)) ∧ MR K (upd H p (.tup xs)) φ m ∧ VR K (upd H p (.tup xs)) φ (.tup ds) (.ref p) :=
  ⟨E.laid hp, M.laid hp, p, xs, rfl, .inl (.inl upd_same), g.laid hp⟩
/-- a sequence's items -/
theorem seq_ok {H0 H : Hp} {φ : List Addr} {m : Mem} {r : RV} {x : V} {b : Bool} {ds : List DV} {ks : List Nat} (h : RR K H0 φ H r x) (M : MR K H φ m) (e : seqOf m r = some (b, ds, ks)) :
    ∃ a xs, x = .ref a ∧ VRs K H φ ds xs ∧ (b = true → SqL K H a xs) ∧ (b = false → SqT K H a xs ∧ ∃ d, r = .val (.tup d)) := by
  cases r with
  | new o =>
    cases o with
    | lst zs =>
      obtain ⟨a, e1, _, _, ys, xs, e2, e3, g⟩ := h
      cases e2
      cases e
      exact ⟨a, xs, e1, g, fun _ => .inl (.inl e3), (fun z => nomatch z)⟩
  | val d =>
    cases d with
    | tup zs =>
      cases e
      obtain ⟨a, xs, e1, q, g⟩ := h
      exact ⟨a, xs, e1, g, (fun z => nomatch z), fun _ => ⟨q, _, rfl⟩⟩
    | rl zs =>
      cases e
      obtain ⟨a, xs, e1, q, g⟩ := h
      exact ⟨a, xs, e1, g, fun _ => q.seq, (fun z => nomatch z)⟩
    | ref n =>
      obtain ⟨a, e1, hn⟩ := h
      have e : (match m[n]? with | some o => some (true, o.items, [n]) | none => none) = some (b, ds, ks) := e
      cases e2 : m[n]? with
      | none => rw [e2] at e; cases e
      | some o =>
        rw [e2] at e
        cases o with
        | lst zs =>
          cases e
          obtain ⟨xs, e3, g⟩ := M.ob n a _ hn e2
          exact ⟨a, xs, e1, g, fun _ => .inl (.inl e3), (fun z => nomatch z)⟩
    | non => cases e
    | bl _ => cases e
    | int _ => cases e
    | str _ => cases e
end
end Mp
end SMpC
section SMpD
set_option Elab.async false
set_option linter.all false
set_option maxHeartbeats 1000000
/-! MpD: operators over the evaluator. -/
namespace Mp
open PySem PySem.Spec
open L2 (V Hp HO St TE TT TA TI TG TS TO Ends Rd SqL SqT PE PT PA PS PSs PG PI PO Cx Inv RelV Vals upd upd_same upd_ne OpR VK R2)
def Bop.py : Bop → Operator
  | .add => .Add | .sub => .Sub | .mul => .Mult | .fdiv => .FloorDiv | .mod => .Mod | .pow => .Pow | .shl => .LShift | .shr => .RShift | .band => .BitAnd | .bor => .BitOr | .bxor => .BitXor
section
variable {K : PySem.W.Frag}
/-- two values stand, r comes of them, the numbers as they were -/
structure Bin (K : PySem.W.Frag) (k : Mem → RV → RV → Option RV) (x y : V) (H : Hp) (Q : VK) (H0 : Hp) (φ0 φ : List Addr) (m : Mem) (a b r : RV) : Prop where
  e : Ext φ0 H0 φ H
  mr : MR K H φ m
  ra : RR K H0 φ H a x
  rb : RR K H0 φ H b y
  go : k m a b = some r
  q : ∀ v H', Ext φ0 H0 φ H' → MR K H' φ m → RR K H0 φ H' r v → Q v H'
def rB (K : PySem.W.Frag) (k : Mem → RV → RV → Option RV) : R2 := fun x y H Q => ∃ H0 φ0 φ m a b r, Bin K k x y H Q H0 φ0 φ m a b r
theorem lst_ok {H0 H : Hp} {φ : List Addr} {m : Mem} {r : RV} {x : V} {ds : List DV} (h : RR K H0 φ H r x) (M : MR K H φ m) (e : lstOf m r = some ds) : ∃ a xs, x = .ref a ∧ VRs K H φ ds xs ∧ H a = some (.lst xs) := by
  cases r with
  | new o =>
    cases o with
    | lst zs =>
      obtain ⟨a, e1, _, _, ys, xs, e2, e3, g⟩ := h
      cases e2
      cases e
      exact ⟨a, xs, e1, g, e3⟩
  | val d =>
    cases d with
    | ref n =>
      obtain ⟨a, e1, hn⟩ := h
      obtain ⟨o, e2, e3⟩ := Option.map_eq_some_iff.mp (show (m[n]?).map MO.items = some ds from e)
      cases o with
      | lst zs =>
        cases e3
        obtain ⟨xs, e4, g⟩ := M.ob n a _ hn e2
        exact ⟨a, xs, e1, g, e4⟩
    | non => cases e
    | bl _ => cases e
    | int _ => cases e
    | str _ => cases e
    | tup _ => cases e
    | rl _ => cases e
variable {X : Cx}
theorem bin_int {op : Bop} {x y : V} {H : Hp} {Q : VK} {pins : List (Addr × Obj)} {s : Shared} {σ : St} {v u : Value} (I : Inv X pins σ H s) (rx : RelV x v) (ry : RelV y u) {i j k : Int} (hx : x = .int i) (hy : y = .int j) (e : binI op i j = some k) (q : Q (.int k) H) :
    wpAny (model X.prog X.w) X.A (binaryOp op.py v u) (L2.EP X pins σ Q) X.xe s := by
  cases op with
  | add => cases e; exact L2.op_add pins s σ H x y v u Q I rx ry ⟨i, j, hx, hy, q⟩
  | sub => cases e; exact L2.op_sub pins s σ H x y v u Q I rx ry ⟨i, j, hx, hy, q⟩
  | mul =>
    unfold binI at e
    by_cases h : mulOk i j = true
    · simp only [h, if_true] at e
      cases e
      unfold mulOk at h
      simp only [Bool.or_eq_true, Bool.and_eq_true, decide_eq_true_eq] at h
      rcases h with (h | h) | h
      · exact L2.op_mul pins s σ H x y v u Q I rx ry ⟨i, j, hx, hy, .inl h, q⟩
      · exact L2.op_mul pins s σ H x y v u Q I rx ry ⟨i, j, hx, hy, .inr h, q⟩
      · exact L2.op_mulW pins s σ H x y v u Q I rx ry ⟨i, j, hx, hy, h, q⟩
    · simp [h] at e
  | fdiv =>
    unfold binI at e
    by_cases h : 0 < j ∧ j.natAbs.log2 < 9000
    · simp only [if_pos h] at e
      cases e
      exact L2.op_fdivW pins s σ H x y v u Q I rx ry ⟨i, j, hx, hy, h, q⟩
    · simp only [if_neg h] at e
      by_cases h2 : j ≠ 0 ∧ j.natAbs < 1073741824
      · simp only [if_pos h2] at e
        cases e
        exact L2.op_fdivN pins s σ H x y v u Q I rx ry ⟨i, j, hx, hy, h2, q⟩
      · simp only [if_neg h2] at e
        cases e
  | mod =>
    unfold binI at e
    by_cases h : 0 < j
    · simp only [if_pos h] at e
      cases e
      exact L2.op_mod pins s σ H x y v u Q I rx ry ⟨i, j, hx, hy, h, q⟩
    · simp only [if_neg h] at e
      by_cases h2 : j ≠ 0
      · simp only [if_pos h2] at e
        cases e
        exact L2.op_modN pins s σ H x y v u Q I rx ry ⟨i, j, hx, hy, h2, q⟩
      · simp only [if_neg h2] at e
        cases e
  | pow =>
    unfold binI at e
    by_cases h : 0 ≤ j ∧ j ≤ 1000000 ∧ i.natAbs < 2 ^ 64
    · simp only [if_pos h] at e
      cases e
      exact L2.op_pow pins s σ H x y v u Q I rx ry ⟨i, j, hx, hy, h, q⟩
    · simp only [if_neg h] at e
      cases e
  | shl =>
    unfold binI at e
    by_cases h : 0 ≤ j ∧ j ≤ 1000000 ∧ i.natAbs < 2 ^ 64
    · simp only [if_pos h] at e
      cases e
      exact L2.op_shl pins s σ H x y v u Q I rx ry ⟨i, j, hx, hy, h, q⟩
    · simp only [if_neg h] at e
      cases e
  | shr =>
    unfold binI at e
    by_cases h : 0 ≤ j
    · simp only [if_pos h] at e
      cases e
      exact L2.op_shr pins s σ H x y v u Q I rx ry ⟨i, j, hx, hy, h, q⟩
    · simp only [if_neg h] at e
      cases e
  | band => cases e; exact L2.op_and pins s σ H x y v u Q I rx ry ⟨i, j, hx, hy, q⟩
  | bor => cases e; exact L2.op_or pins s σ H x y v u Q I rx ry ⟨i, j, hx, hy, q⟩
  | bxor => cases e; exact L2.op_xor pins s σ H x y v u Q I rx ry ⟨i, j, hx, hy, q⟩
theorem op_bin (op : Bop) : OpR X (binaryOp op.py) (rB X.K (bin op)) := by
  intro pins s σ H x y v u Q I rx ry h
  obtain ⟨H0, φ0, φ, m, a, b, r, B⟩ := h
  obtain ⟨E, M, ra, rb, go, q⟩ := B
  have lst : (match lstOf m a, lstOf m b with
    | some xs, some ys => if op = .add ∧ xs.length + ys.length ≤ sizeLine then some (RV.new (.lst (xs ++ ys))) else none
    | _, _ => none) = some r → wpAny (model X.prog X.w) X.A (binaryOp op.py v u) (L2.EP X pins σ Q) X.xe s := fun go => by
    cases e1 : lstOf m a with
    | none => rw [e1] at go; cases go
    | some xs =>
      cases e2 : lstOf m b with
      | none => rw [e1, e2] at go; cases go
      | some ys =>
        rw [e1, e2] at go
        by_cases hc : op = .add ∧ xs.length + ys.length ≤ sizeLine
        · simp only [if_pos hc] at go
          cases go
          obtain ⟨ro, hl⟩ := hc
          subst ro
          obtain ⟨p, vs, ep, gp, hp⟩ := lst_ok ra M e1
          obtain ⟨p2, ws, ep2, gp2, hp2⟩ := lst_ok rb M e2
          refine L2.op_cat pins s σ H x y v u Q I rx ry ⟨p, p2, vs, ws, ep, ep2, hp, hp2, by rw [gp.length, gp2.length]; exact hl, fun l hl => ?_⟩
          obtain ⟨E2, M2, R2⟩ := new_lst E M hl (gp.append gp2)
          exact q _ _ E2 M2 R2
        · simp only [if_neg hc] at go
          cases go
  cases a with
  | new o => cases b with
    | new o2 => exact lst go
    | val d2 => cases d2 <;> exact lst go
  | val d =>
    cases d with
    | int i => cases b with
      | new o2 => exact lst go
      | val d2 => cases d2 with
        | int j =>
          obtain ⟨k, e1, e2⟩ := Option.map_eq_some_iff.mp (show (binI op i j).map (fun k => RV.val (.int k)) = some r from go)
          subst e2
          exact bin_int I rx ry ra rb e1 (q _ _ E M rfl)
        | _ => exact lst go
    | str i => cases b with
      | new o2 => exact lst go
      | val d2 => cases d2 with
        | str j =>
          have go : (if op = .add ∧ i.length + j.length ≤ sizeLine then some (RV.val (.str (i ++ j))) else none) = some r := go
          by_cases hc : op = .add ∧ i.length + j.length ≤ sizeLine
          · rw [if_pos hc] at go
            cases go
            obtain ⟨ro, hl⟩ := hc
            subst ro
            exact L2.op_add_str pins s σ H x y v u Q I rx ry ⟨i, j, ra, rb, hl, q _ _ E M rfl⟩
          · rw [if_neg hc] at go
            cases go
        | _ => exact lst go
    | tup xs => cases b with
      | new o2 => exact lst go
      | val d2 => cases d2 with
        | tup ys =>
          have go : (if op = .add ∧ xs.length + ys.length ≤ sizeLine then some (RV.val (.tup (xs ++ ys))) else none) = some r := go
          by_cases hc : op = .add ∧ xs.length + ys.length ≤ sizeLine
          · rw [if_pos hc] at go
            cases go
            obtain ⟨ro, hl⟩ := hc
            subst ro
            obtain ⟨p, vs, ep, hp, gp⟩ := ra
            obtain ⟨p2, ws, ep2, hp2, gp2⟩ := rb
            refine L2.op_catA pins s σ H x y v u Q I rx ry ⟨p, p2, vs, ws, ep, ep2, hp, hp2, by rw [gp.length, gp2.length]; exact hl, fun z => ?_, fun _ z => ?_, fun _ _ l hl => ?_⟩
            · subst z
              exact q _ _ E M ⟨p2, ws, rfl, hp2, gp.append gp2⟩
            · subst z
              exact q _ _ E M ⟨p, vs, rfl, hp, by simpa using gp.append gp2⟩
            · obtain ⟨E2, M2, R2⟩ := new_tup E M hl (gp.append gp2)
              exact q _ _ E2 M2 R2
          · rw [if_neg hc] at go
            cases go
        | _ => exact lst go
    | _ => cases b with
      | new o2 => exact lst go
      | val d2 => cases d2 <;> exact lst go
end
end Mp
end SMpD
section SMpE
set_option Elab.async false
set_option linter.all false
set_option maxHeartbeats 1000000
/-! MpE: the data of a value: ==, repr. -/
namespace Mp
open PySem PySem.Spec
open L2 (V Hp HO St TE TT TA TI TG TS TO Ends Rd SqL SqT PE PT PA PS PSs PG PI PO Cx Inv RelV Vals upd upd_same upd_ne OpR VK R2 Dp DpAll CallR)
section
variable {K : PySem.W.Frag}
theorem mapM_nil {α β : Type} {f : α → Option β} : ([] : List α).mapM f = some [] := by simp
theorem mapM_cons {α β : Type} {f : α → Option β} {x : α} {xs : List α} {ys : List β} (h : (x :: xs).mapM f = some ys) : ∃ y zs, f x = some y ∧ xs.mapM f = some zs ∧ ys = y :: zs := by
  rw [List.mapM_cons] at h
  cases e : f x with
  | none => rw [e] at h; cases h
  | some y =>
    rw [e] at h
    cases e2 : xs.mapM f with
    | none => rw [e2] at h; cases h
    | some zs => rw [e2] at h; cases h; exact ⟨y, zs, rfl, rfl, rfl⟩
theorem snaps_of {n : Nat} {m : Mem} {H : Hp} {φ : List Addr} (ih : ∀ (d : DV) (v : V) (p : PyData), snap n m d = some p → VR K H φ d v → Dp K H v p ∧ p.canLay0 = true ∧ p.depth ≤ n) :
    ∀ (ds : List DV) (xs : List V) (ps : List PyData), ds.mapM (fun d => snap n m d) = some ps → VRs K H φ ds xs → DpAll K H xs ps ∧ PyData.canLayAll0 ps = true ∧ PyData.depthAll ps ≤ n
  | [], xs, ps, h, g => by
    rw [mapM_nil] at h
    cases h
    rw [show xs = [] from g]
    exact ⟨.nil, by simp [PyData.canLayAll0], by simp [PyData.depthAll]⟩
  | d :: ds, xs, ps, h, g => by
    obtain ⟨p, zs, e1, e2, rfl⟩ := mapM_cons h
    obtain ⟨v, r, rfl, g1, g2⟩ := g
    obtain ⟨a1, a2, a3⟩ := ih d v p e1 g1
    obtain ⟨b1, b2, b3⟩ := snaps_of ih ds r zs e2 g2
    exact ⟨.cons a1 b1, by simp [PyData.canLayAll0, a2, b2], by simp only [PyData.depthAll]; omega⟩
theorem snap_ok {m : Mem} {H : Hp} {φ : List Addr} (M : MR K H φ m) : ∀ (n : Nat) (d : DV) (v : V) (p : PyData), snap n m d = some p → VR K H φ d v → Dp K H v p ∧ p.canLay0 = true ∧ p.depth ≤ n
  | 0, _, _, _, h, _ => by cases h
  | n + 1, d, v, p, h, g => by
    cases d with
    | non => cases h; rw [show v = .non from g]; exact ⟨.non, by simp [PyData.canLay0], by simp [PyData.depth]⟩
    | bl b => cases h; rw [show v = .bl b from g]; exact ⟨.bl b, by simp [PyData.canLay0], by simp [PyData.depth]⟩
    | int b => cases h; rw [show v = .int b from g]; exact ⟨.int b, by simp [PyData.canLay0], by simp [PyData.depth]⟩
    | str b =>
      have h : (if PyData.strOk b = true then some (PyData.str b) else none) = some p := h
      by_cases hb : PyData.strOk b = true
      · rw [if_pos hb] at h
        cases h
        rw [show v = .str b from g]
        exact ⟨.str b, by simp [PyData.canLay0, hb], by simp [PyData.depth]⟩
      · rw [if_neg hb] at h; cases h
    | tup ds =>
      obtain ⟨ps, e, rfl⟩ := Option.map_eq_some_iff.mp (show (ds.mapM fun d => snap n m d).map PyData.tuple = some p from h)
      obtain ⟨a, xs, rfl, hs, g⟩ := g
      obtain ⟨b1, b2, b3⟩ := snaps_of (snap_ok M n) ds xs ps e g
      exact ⟨.tup hs b1, by simp [PyData.canLay0, b2], by simp only [PyData.depth]; omega⟩
    | rl ds =>
      obtain ⟨ps, e, rfl⟩ := Option.map_eq_some_iff.mp (show (ds.mapM fun d => snap n m d).map PyData.list = some p from h)
      obtain ⟨a, xs, rfl, hs, g⟩ := g
      obtain ⟨b1, b2, b3⟩ := snaps_of (snap_ok M n) ds xs ps e g
      exact ⟨.lst hs.seq b1, by simp [PyData.canLay0, b2], by simp only [PyData.depth]; omega⟩
    | ref k =>
      have h : (match m[k]? with | some o => (o.items.mapM fun d => snap n m d).map PyData.list | none => none) = some p := h
      cases e : m[k]? with
      | none => rw [e] at h; cases h
      | some o =>
        rw [e] at h
        obtain ⟨ps, e2, rfl⟩ := Option.map_eq_some_iff.mp h
        obtain ⟨a, rfl, ha⟩ := g
        cases o with
        | lst ds =>
          obtain ⟨xs, hs, g⟩ := M.ob k a _ ha e
          obtain ⟨b1, b2, b3⟩ := snaps_of (snap_ok M n) ds xs ps e2 g
          exact ⟨.lst (.inl (.inl hs)) b1, by simp [PyData.canLay0, b2], by simp only [PyData.depth]; omega⟩
theorem snapR_ok {m : Mem} {H0 H : Hp} {φ : List Addr} (M : MR K H φ m) {r : RV} {v : V} {p : PyData} (h : snapR m r = some p) (g : RR K H0 φ H r v) : Dp K H v p ∧ p.canLay0 = true ∧ p.depth ≤ 40 := by
  cases r with
  | val d => exact snap_ok M 40 d v p h g
  | new o =>
    obtain ⟨ps, e, rfl⟩ := Option.map_eq_some_iff.mp (show (o.items.mapM fun d => snap 39 m d).map PyData.list = some p from h)
    obtain ⟨a, rfl, _, _, ds, xs, rfl, hx, g⟩ := g
    obtain ⟨b1, b2, b3⟩ := snaps_of (snap_ok M 39) ds xs ps e g
    exact ⟨.lst (.inl (.inl hx)) b1, by simp [PyData.canLay0, b2], by simp only [PyData.depth]; omega⟩
theorem snapR_shaped {p : PyData} (h1 : p.canLay0 = true) (h2 : p.depth ≤ 40) : SeqAt.shaped p = true := by
  unfold SeqAt.shaped
  rw [h1, decide_eq_true (show p.depth ≤ 64 by omega)]
  rfl
def Cop.py : Cop → CmpOp
  | .eq => .Eq | .ne => .NotEq | .lt => .Lt | .le => .LtE | .gt => .Gt | .ge => .GtE | .isin => .In | .notin => .NotIn
variable {X : Cx}
def rC (K : PySem.W.Frag) (op : Cop) : R2 := fun x y H Q => ∃ H0 φ m a b r, MR K H φ m ∧ RR K H0 φ H a x ∧ RR K H0 φ H b y ∧ cmpD op m a b = some r ∧ Q (.bl r) H
theorem in_inv {m : Mem} {a b : RV} {r : Bool} (h : inD m a b = some r) : ∃ d bb ds ks, a = .val d ∧ seqOf m b = some (bb, ds, ks) ∧ flat d = true ∧ ds.all flat = true ∧ r = ds.any fun e => flatEq e d := by
  unfold inD at h
  cases a with
  | new _ => cases h
  | val d =>
    simp only at h
    split at h
    · rename_i bb ds ks hs
      split at h
      · rename_i hf
        cases h
        exact ⟨d, bb, ds, ks, rfl, hs, hf.1, hf.2, rfl⟩
      · cases h
    · cases h
theorem flat_V {H : Hp} {φ : List Addr} {d : DV} {x : V} (h : flat d = true) (g : VR X.K H φ d x) : L2.flatV x = true := by
  cases d <;> first | (cases g; rfl) | (exact absurd h (by decide)) | cases h
theorem flats_V {H : Hp} {φ : List Addr} : ∀ {ds : List DV} {xs : List V}, ds.all flat = true → VRs X.K H φ ds xs → xs.all L2.flatV = true
  | [], _, _, g => by cases g; rfl
  | d :: ds, _, h, g => by
    obtain ⟨v, r, rfl, g1, g2⟩ := g
    rw [List.all_cons, Bool.and_eq_true] at h
    rw [List.all_cons, flat_V h.1 g1, flats_V h.2 g2]
    rfl
theorem eqV_eq {H : Hp} {φ : List Addr} {d e : DV} {x y : V} (h1 : flat d = true) (h2 : flat e = true) (g1 : VR X.K H φ d x) (g2 : VR X.K H φ e y) : L2.eqV y x = flatEq e d := by
  cases d <;> first | (exact absurd h1 Bool.false_ne_true) | skip
  all_goals (cases g1; cases e <;> first | (cases g2; rfl) | (exact absurd h2 Bool.false_ne_true))
theorem inV_eq {H : Hp} {φ : List Addr} {d : DV} {x : V} (h1 : flat d = true) (g1 : VR X.K H φ d x) : ∀ {ds : List DV} {xs : List V}, ds.all flat = true → VRs X.K H φ ds xs → L2.inV x xs = ds.any fun e => flatEq e d
  | [], _, _, g => by cases g; rfl
  | e :: ds, _, h, g => by
    obtain ⟨v, r, rfl, g2, g3⟩ := g
    rw [List.all_cons, Bool.and_eq_true] at h
    have ih := inV_eq h1 g1 h.2 g3
    unfold L2.inV at ih ⊢
    rw [List.any_cons, List.any_cons, eqV_eq h1 h.1 g1 g2, ih]
theorem op_cmp (hu : X.A.units + 64 < cLine) (op : Cop) : OpR X (compareOp op.py) (rC X.K op) := by
  intro pins s σ H x y v u Q I rx ry h
  obtain ⟨H0, φ, m, a, b, r, M, ra, rb, e, q⟩ := h
  have two : ∀ {o : Option PyData} {o2 : Option PyData} {f : PyData → PyData → Bool}, (match o, o2 with | some x, some y => some (f x y) | _, _ => none) = some r → ∃ c d, o = some c ∧ o2 = some d ∧ f c d = r := fun {o o2 f} z => by
    cases o with
    | none => cases z
    | some c => cases o2 with
      | none => cases z
      | some d => cases z; exact ⟨c, d, rfl, rfl, rfl⟩
  cases op with
  | eq =>
    obtain ⟨c, d, e1, e2, e3⟩ := two (show (match snapR m a, snapR m b with | some x, some y => some (PyData.eqv x y) | _, _ => none) = some r from e)
    obtain ⟨c1, c2, c3⟩ := snapR_ok M e1 ra
    obtain ⟨d1, d2, d3⟩ := snapR_ok M e2 rb
    subst e3
    exact L2.op_eqD hu pins s σ H x y v u Q I rx ry ⟨c, d, c1, d1, snapR_shaped c2 c3, snapR_shaped d2 d3, q⟩
  | ne =>
    obtain ⟨c, d, e1, e2, e3⟩ := two (show (match snapR m a, snapR m b with | some x, some y => some (!PyData.eqv x y) | _, _ => none) = some r from e)
    obtain ⟨c1, c2, c3⟩ := snapR_ok M e1 ra
    obtain ⟨d1, d2, d3⟩ := snapR_ok M e2 rb
    subst e3
    exact L2.op_neD hu pins s σ H x y v u Q I rx ry ⟨c, d, c1, d1, snapR_shaped c2 c3, snapR_shaped d2 d3, q⟩
  | lt =>
    simp only [cmpD] at e
    split at e
    · cases e; exact L2.op_lt pins s σ H x y v u Q I rx ry ⟨_, _, ra, rb, q⟩
    · cases e; exact L2.op_lt_str pins s σ H x y v u Q I rx ry ⟨_, _, ra, rb, q⟩
    · cases e
  | le =>
    simp only [cmpD] at e
    split at e
    · cases e; exact L2.op_le pins s σ H x y v u Q I rx ry ⟨_, _, ra, rb, q⟩
    · cases e; exact L2.op_le_str pins s σ H x y v u Q I rx ry ⟨_, _, ra, rb, q⟩
    · cases e
  | gt =>
    simp only [cmpD] at e
    split at e
    · cases e; exact L2.op_gt pins s σ H x y v u Q I rx ry ⟨_, _, ra, rb, q⟩
    · cases e; exact L2.op_gt_str pins s σ H x y v u Q I rx ry ⟨_, _, ra, rb, q⟩
    · cases e
  | ge =>
    simp only [cmpD] at e
    split at e
    · cases e; exact L2.op_ge pins s σ H x y v u Q I rx ry ⟨_, _, ra, rb, q⟩
    · cases e; exact L2.op_ge_str pins s σ H x y v u Q I rx ry ⟨_, _, ra, rb, q⟩
    · cases e
  | isin =>
    obtain ⟨d, bb, ds, ks, rfl, e1, h1, h2, rfl⟩ := in_inv (show inD m a b = some r from e)
    obtain ⟨p, xs, rfl, g, hl, ht⟩ := seq_ok rb M e1
    refine L2.op_in_seq pins s σ H x _ v u Q I rx ry ⟨p, xs, rfl, by cases bb with | true => exact .inl (hl rfl) | false => exact .inr (ht rfl).1, flat_V h1 ra, flats_V h2 g, ?_⟩
    rw [if_neg Bool.false_ne_true, inV_eq h1 ra h2 g]
    exact q
  | notin =>
    obtain ⟨k, e0, rfl⟩ := Option.map_eq_some_iff.mp (show (inD m a b).map (fun k => !k) = some r from e)
    obtain ⟨d, bb, ds, ks, rfl, e1, h1, h2, rfl⟩ := in_inv e0
    obtain ⟨p, xs, rfl, g, hl, ht⟩ := seq_ok rb M e1
    refine L2.op_notIn_seq pins s σ H x _ v u Q I rx ry ⟨p, xs, rfl, by cases bb with | true => exact .inl (hl rfl) | false => exact .inr (ht rfl).1, flat_V h1 ra, flats_V h2 g, ?_⟩
    rw [if_pos rfl, inV_eq h1 ra h2 g]
    exact q
/-! ### the written form's length -/
theorem joined_le (ts : List Str) : (tupleText ts).length ≤ piled ts + 3 ∧ (listText ts).length ≤ piled ts + 2 := by
  constructor
  · unfold tupleText
    rw [strLen_append, strLen_append]
    have e1 : ((("(" : String) : Str)).length = 1 := rfl
    have e3 : (((if ts.length == 1 then ",)" else ")" : String) : Str)).length ≤ 2 := by split <;> decide
    by_cases h : ts = []
    · subst h
      have : (Str.join ", " []).length = 0 := rfl
      omega
    · have := join_length_add ts h
      omega
  · cases ts with
    | nil => exact Nat.le_refl _
    | cons t r =>
      have hX : (listText (t :: r)).length = (textFrom 0 "[" (t :: r)).length + 1 := by
        show (textFrom 0 "[" (t :: r) ++ "]").length = _
        rw [strLen_append]
        rfl
      have hY : (textFrom 0 "[" (t :: r)).length = (textFrom 1 (("[" : Str) ++ (if (0 : Nat) > 0 then ", " else "" : String) ++ t) r).length := rfl
      have e : ((("[" : Str) ++ (if (0 : Nat) > 0 then ", " else "" : String) ++ t)).length = 1 + t.length := by
        rw [strLen_append, strLen_append]
        rfl
      have h := textFrom_length_pos r 1 (("[" : Str) ++ (if (0 : Nat) > 0 then ", " else "" : String) ++ t) (Nat.succ_pos 0)
      rw [hX, hY, h, e, piled_cons]
      omega
mutual
theorem shown_le : ∀ p : PyData, p.canLay0 = true → p.showable = true → p.shown.length + 2 ≤ 1930 * wt p
  | .none, _, _ => by simp only [PyData.shown, wt]; decide
  | .bool b, _, _ => by cases b <;> simp only [PyData.shown, wt] <;> decide
  | .int i, _, h => by
    have h2 : i.natAbs.log2 < 1920 := by simpa [PyData.showable] using h
    have := PyProof.Rows.int_text_len_1921 h2
    simp only [PyData.shown, wt]
    omega
  | .str s, h, _ => by
    have h1 : PyData.strOk s = true := by simpa [PyData.canLay0] using h
    have h2 : ∀ c ∈ s.cps.toList, c < 16 ^ 8 := fun c hc => by
      unfold PyData.strOk at h1
      rw [Array.all_eq_true'] at h1
      have := h1 c (by simpa using hc)
      simp at this
      omega
    have := StrLaws.reprText_len s h2
    simp only [PyData.shown, wt]
    omega
  | .list xs, h, h' => by
    have h1 : PyData.canLayAll0 xs = true := by simpa [PyData.canLay0] using h
    have h2 : PyData.showableAll xs = true := by simpa [PyData.showable] using h'
    have := showns_le xs h1 h2
    have j := (joined_le (PyData.shownAll xs)).2
    simp only [PyData.shown, wt]
    omega
  | .tuple xs, h, h' => by
    have h1 : PyData.canLayAll0 xs = true := by simpa [PyData.canLay0] using h
    have h2 : PyData.showableAll xs = true := by simpa [PyData.showable] using h'
    have := showns_le xs h1 h2
    have j := (joined_le (PyData.shownAll xs)).1
    simp only [PyData.shown, wt]
    omega
  | .dict kvs, h, _ => by simp [PyData.canLay0] at h
theorem showns_le : ∀ ps : List PyData, PyData.canLayAll0 ps = true → PyData.showableAll ps = true → piled (PyData.shownAll ps) ≤ 1930 * wts ps
  | [], _, _ => by simp [PyData.shownAll, wts, piled]
  | p :: ps, h, h' => by
    simp only [PyData.canLayAll0, Bool.and_eq_true] at h
    simp only [PyData.showableAll, Bool.and_eq_true] at h'
    have a := shown_le p h.1 h'.1
    have b := showns_le ps h.2 h'.2
    simp only [PyData.shownAll, wts, piled_cons]
    omega
end
/-- repr(x) -/
theorem call_repr (hg : X.A.guards = some []) (hu : X.A.units + 64 < cLine) : CallR X (.builtin "repr") (fun xs H Q => ∃ x H0 φ m r d, xs = [x] ∧ MR X.K H φ m ∧ RR X.K H0 φ H r x ∧ snapR m r = some d ∧ d.showable = true ∧ wt d ≤ 8000 ∧ Q (.str d.shown) H) := by
  intro pins s σ H xs us Q I rel h
  obtain ⟨x, H0, φ, m, r, d, rfl, M, rr, e, hs, hw, q⟩ := h
  obtain ⟨u, rfl, ru⟩ := L2.vals1 rel
  obtain ⟨h1, h2, h3⟩ := snapR_ok M e rr
  have hz : d.shown.length ≤ sizeLine := by
    have := shown_le d h2 hs
    rw [sizeLine_eq]
    omega
  obtain ⟨as, rd⟩ := Dp.reads I d x u h1 ru
  have nd : d.hasDict = true → sysModules ∉ as := PyData.noDict_hsm (PyData.hasDict_of_canLay d h2)
  cases h1 with
  | non => cases ru; exact PySem.P.repr_of_none ⟨.str _, H, I.tok _, ⟨_, rfl⟩, by simpa only [PyData.shown] using q⟩
  | bl b =>
    cases (show u = Value.bool b from ru)
    exact PySem.P.repr_of_bool ⟨.str _, H, I.tok _, ⟨_, rfl⟩, by simpa only [PyData.shown] using q⟩
  | int i =>
    obtain ⟨t, rfl⟩ := ru
    exact PySem.P.repr_of_int (by simpa [PyData.showable] using hs) ⟨.str _, H, I.tok _, ⟨_, rfl⟩, by simpa only [PyData.shown] using q⟩
  | str z =>
    obtain ⟨t, rfl⟩ := ru
    exact PySem.P.repr_of_str ⟨.str _, H, I.tok _, ⟨_, rfl⟩, by simpa only [PyData.shown] using q⟩ (by simpa only [PyData.shown] using hz)
  | lst _ _ =>
    cases ru
    exact repr_of_reads' rd hs nd hg (by omega) (fun _ _ z => z) (fun h' w tk k => ⟨.str _, H, I.kept (t' := tk) k, ⟨_, rfl⟩, q⟩) hz
  | tup _ _ =>
    cases ru
    exact repr_of_reads' rd hs nd hg (by omega) (fun _ _ z => z) (fun h' w tk k => ⟨.str _, H, I.kept (t' := tk) k, ⟨_, rfl⟩, q⟩) hz
end
end Mp
end SMpE
section SMpF
set_option Elab.async false
set_option linter.all false
set_option maxHeartbeats 1000000
/-! MpF: truth, items, slices, built-ins. -/
namespace Mp
open PySem PySem.Spec
open L2 (V Hp HO St TE TT TA TI TG TS TO Ends Rd SqL SqT PE PT PA PS PSs PG PI PO Cx Inv RelV Vals upd upd_same upd_ne OpR VK R2 Dp DpAll CallR SlR IxR TruV LenV)
section
variable {K : PySem.W.Frag}
theorem isEmpty_len {α β : Type} {xs : List α} {ys : List β} (h : xs.length = ys.length) : xs.isEmpty = ys.isEmpty := by
  cases xs <;> cases ys <;> first | rfl | (simp at h)
theorem tru_V {H0 H : Hp} {φ : List Addr} {m : Mem} {r : RV} {x : V} {k : Bool} (h : RR K H0 φ H r x) (M : MR K H φ m) (e : tru m r = some k) : TruV K x H k := by
  have sq : (match seqOf m r with | some (_, ds, _) => some (!ds.isEmpty) | none => none) = some k → TruV K x H k := fun e => by
    cases e1 : seqOf m r with
    | none => rw [e1] at e; cases e
    | some q =>
      obtain ⟨b, ds, ks⟩ := q
      rw [e1] at e
      cases e
      obtain ⟨a, xs, rfl, g, hl, ht⟩ := seq_ok h M e1
      cases b with
      | true => exact .inl ⟨xs, hl rfl, by rw [isEmpty_len g.length]⟩
      | false => exact .inr (.inl ⟨xs, (ht rfl).1, by rw [isEmpty_len g.length]⟩)
  cases r with
  | new o => exact sq e
  | val d =>
    cases d with
    | non => cases e; rw [show x = .non from h]; exact rfl
    | bl b => cases e; rw [show x = .bl k from h]; exact rfl
    | int i => cases e; rw [show x = .int i from h]; exact rfl
    | str z =>
      have e : (if z.length ≤ sizeLine then some ((z.length : Int) != 0) else none) = some k := e
      by_cases hz : z.length ≤ sizeLine
      · rw [if_pos hz] at e
        cases e
        rw [show x = .str z from h]
        exact ⟨hz, rfl⟩
      · rw [if_neg hz] at e; cases e
    | tup _ => exact sq e
    | rl _ => exact sq e
    | ref _ => exact sq e
theorem cut_V (xs : List V) (lo hi : Option Int) : L2.cutV xs lo hi = cut xs lo hi := rfl
theorem VRs.cut {H : Hp} {φ : List Addr} {ds : List DV} {xs : List V} (g : VRs K H φ ds xs) (lo hi : Option Int) : VRs K H φ (Mp.cut ds lo hi) (L2.cutV xs lo hi) := by
  rw [cut_V]
  unfold Mp.cut
  rw [g.length]
  exact (g.drop _).take _
theorem VRs.atI {H : Hp} {φ : List Addr} {ds : List DV} {xs : List V} (g : VRs K H φ ds xs) {i : Int} {d : DV} (e : L2.atI ds i = some d) : ∃ v, L2.atI xs i = some v ∧ VR K H φ d v := by
  unfold L2.atI at e ⊢
  rw [g.length]
  cases q : L2.ixN ds.length i with
  | none => rw [q] at e; cases e
  | some j =>
    rw [q] at e
    exact g.get e
variable {X : Cx}
/-- a value and its rest -/
structure Un (K : PySem.W.Frag) (o : Option RV) (x : V) (H : Hp) (Q : VK) (H0 : Hp) (φ0 φ : List Addr) (m : Mem) (a r : RV) : Prop where
  e : Ext φ0 H0 φ H
  mr : MR K H φ m
  ra : RR K H0 φ H a x
  go : o = some r
  q : ∀ v H', Ext φ0 H0 φ H' → MR K H' φ m → RR K H0 φ H' r v → Q v H'
def rS (K : PySem.W.Frag) : V → Option Int → Option Int → Hp → VK → Prop := fun x lo hi H Q => ∃ H0 φ0 φ m a r, Un K (slice m a lo hi) x H Q H0 φ0 φ m a r
theorem op_slice : SlR X (rS X.K) := by
  intro pins s σ H x v vl vu lo hi sl Q I rx hs pl pu h
  obtain ⟨H0, φ0, φ, m, a, r, E, M, ra, go, q⟩ := h
  have sq : (match seqOf m a with | some (true, ds, _) => some (RV.new (.lst (cut ds lo hi))) | some (false, ds, _) => some (RV.val (.tup (cut ds lo hi))) | none => none) = some r →
      ∃ T id, typeLookup (.type T) "__getitem__" = pure (some (.builtin id)) ∧ s.TypeIs v T ∧ wpAny (model X.prog X.w) X.A (getItem v (.ref sl)) (L2.EP X pins σ Q) X.xe s := fun go => by
    cases e1 : seqOf m a with
    | none => rw [e1] at go; cases go
    | some z =>
      obtain ⟨b, ds, ks⟩ := z
      rw [e1] at go
      obtain ⟨p, xs, ex, g, hl, ht⟩ := seq_ok ra M e1
      cases b with
      | true =>
        cases go
        refine L2.sl_list pins s σ H x v vl vu lo hi sl Q I rx hs pl pu ⟨p, xs, ex, hl rfl, fun l hn => ?_⟩
        obtain ⟨E2, M2, R2⟩ := new_lst E M hn (g.cut lo hi)
        exact q _ _ E2 M2 R2
      | false =>
        cases go
        refine L2.sl_tupA pins s σ H x v vl vu lo hi sl Q I rx hs pl pu ⟨p, xs, ex, (ht rfl).1, fun w => ?_, fun w l hn => ?_⟩
        · have ec : L2.cutV xs lo hi = xs := by
            unfold L2.cutV
            rw [w.1, w.2]
            simp
          have g2 := g.cut lo hi
          rw [ec] at g2
          exact q _ _ E M ⟨p, xs, rfl, (ht rfl).1, g2⟩
        · obtain ⟨E2, M2, R2⟩ := new_tup E M hn (g.cut lo hi)
          exact q _ _ E2 M2 R2
  cases a with
  | new o => exact sq go
  | val d =>
    cases d with
    | str z =>
      have go : (if z.length ≤ sizeLine then some (RV.val (.str (L2.cutS z lo hi))) else none) = some r := go
      by_cases hz : z.length ≤ sizeLine
      · rw [if_pos hz] at go
        cases go
        exact L2.sl_str pins s σ H x v vl vu lo hi sl Q I rx hs pl pu ⟨z, ra, hz, q _ _ E M rfl⟩
      · rw [if_neg hz] at go; cases go
    | _ => exact sq go
def rI' (K : PySem.W.Frag) : R2 := fun x y H Q => ∃ H0 φ0 φ m a b r, Bin K item x y H Q H0 φ0 φ m a b r
theorem op_item : IxR X (rI' X.K) := by
  intro value sl pins s σ H x y v u Q I rx ry h hs
  obtain ⟨H0, φ0, φ, m, a, b, r, E, M, ra, rb, go, q⟩ := h
  cases b with
  | new o => cases a with
    | new _ => cases go
    | val d => cases d <;> cases go
  | val d2 =>
    cases d2 with
    | int i =>
      have sq : (match seqOf m a with | some (_, ds, _) => (L2.atI ds i).map RV.val | none => none) = some r → wpAny (model X.prog X.w) X.A (PyProof.Rows.subscriptTail value sl v u) (L2.EP X pins σ Q) X.xe s := fun go => by
        cases e1 : seqOf m a with
        | none => rw [e1] at go; cases go
        | some z =>
          obtain ⟨b, ds, ks⟩ := z
          rw [e1] at go
          obtain ⟨d, e2, e3⟩ := Option.map_eq_some_iff.mp go
          subst e3
          obtain ⟨p, xs, ex, g, hl, ht⟩ := seq_ok ra M e1
          obtain ⟨w, hw, gw⟩ := g.atI e2
          cases b with
          | true => exact L2.ix_list value sl pins s σ H x y v u Q I rx ry ⟨p, xs, i, w, ex, rb, hl rfl, hw, q _ _ E M gw⟩ hs
          | false => exact L2.ix_tup value sl pins s σ H x y v u Q I rx ry ⟨p, xs, i, w, ex, rb, (ht rfl).1, hw, q _ _ E M gw⟩ hs
      cases a with
      | new o => exact sq go
      | val d =>
        cases d with
        | str z =>
          have go : (if z.length ≤ sizeLine then (L2.atI z.cps.toList i).map fun c => RV.val (.str ⟨#[c]⟩) else none) = some r := go
          by_cases hz : z.length ≤ sizeLine
          · rw [if_pos hz] at go
            obtain ⟨c, e2, e3⟩ := Option.map_eq_some_iff.mp go
            subst e3
            exact L2.ix_str value sl pins s σ H x y v u Q I rx ry ⟨z, i, c, ra, rb, hz, e2, q _ _ E M rfl⟩ hs
          · rw [if_neg hz] at go; cases go
        | _ => exact sq go
    | _ => cases a with
      | new _ => cases go
      | val d => cases d <;> cases go
/-! ### built-ins -/
def Blt.val : Blt → Value
  | .abs => .builtin "abs" | .int => .type "int" | .len => .builtin "len" | .all => .builtin "all" | .any => .builtin "any" | .tuple => .type "tuple" | .list => .type "list" | .sum => .builtin "sum" | .min => .builtin "min" | .max => .builtin "max" | .repr => .builtin "repr"
def Blt.nm : Blt → Str
  | .abs => "abs" | .int => "int" | .len => "len" | .all => "all" | .any => "any" | .tuple => "tuple" | .list => "list" | .sum => "sum" | .min => "min" | .max => "max" | .repr => "repr"
theorem Blt.boot (b : Blt) : bootBuiltins b.nm = some b.val := by cases b <;> decide +kernel
def rBlt (K : PySem.W.Frag) (b : Blt) : List V → Hp → VK → Prop := fun xs H Q => ∃ H0 φ0 φ m rs r, Ext φ0 H0 φ H ∧ MR K H φ m ∧ RRs K H0 φ H rs xs ∧ bltD b m rs = some r ∧ ∀ v H', Ext φ0 H0 φ H' → MR K H' φ m → RR K H0 φ H' r v → Q v H'
theorem ints_V {H : Hp} {φ : List Addr} : ∀ {ds : List DV} {ns : List Int} {xs : List V}, intsOf ds = some ns → VRs K H φ ds xs → xs = ns.map V.int
  | [], ns, xs, e, g => by
    unfold intsOf at e
    rw [mapM_nil] at e
    cases e
    exact g
  | d :: ds, ns, xs, e, g => by
    unfold intsOf at e
    obtain ⟨n, ms, e1, e2, rfl⟩ := mapM_cons e
    obtain ⟨v, r, rfl, g1, g2⟩ := g
    rw [ints_V (ds := ds) e2 g2]
    cases d with
    | int i => cases e1; rw [show v = .int n from g1]; rfl
    | _ => cases e1
theorem bools_V {H : Hp} {φ : List Addr} : ∀ {ds : List DV} {ns : List Bool} {xs : List V}, boolsOf ds = some ns → VRs K H φ ds xs → xs = ns.map V.bl
  | [], ns, xs, e, g => by
    unfold boolsOf at e
    rw [mapM_nil] at e
    cases e
    exact g
  | d :: ds, ns, xs, e, g => by
    unfold boolsOf at e
    obtain ⟨n, ms, e1, e2, rfl⟩ := mapM_cons e
    obtain ⟨v, r, rfl, g1, g2⟩ := g
    rw [bools_V (ds := ds) e2 g2]
    cases d with
    | bl i => cases e1; rw [show v = .bl n from g1]; rfl
    | _ => cases e1
theorem RRs.one {H0 H : Hp} {φ : List Addr} {r : RV} {xs : List V} (h : RRs K H0 φ H [r] xs) : ∃ x, xs = [x] ∧ RR K H0 φ H r x := by
  obtain ⟨v, us, rfl, g, t⟩ := h
  rw [show us = [] from t]
  exact ⟨v, rfl, g⟩
theorem RRs.two {H0 H : Hp} {φ : List Addr} {r r' : RV} {xs : List V} (h : RRs K H0 φ H [r, r'] xs) : ∃ x y, xs = [x, y] ∧ RR K H0 φ H r x ∧ RR K H0 φ H r' y := by
  obtain ⟨v, us, rfl, g, t⟩ := h
  obtain ⟨y, rfl, g2⟩ := t.one
  exact ⟨v, y, rfl, g, g2⟩
theorem seq_case {m : Mem} {r : RV} {α : Type} {f : Bool → List DV → Option α} {c : α} (h : (match seqOf m r with | some (b, ds, _) => f b ds | none => none) = some c) : ∃ b ds ks, seqOf m r = some (b, ds, ks) ∧ f b ds = some c := by
  cases e : seqOf m r with
  | none => rw [e] at h; cases h
  | some z =>
    obtain ⟨b, ds, ks⟩ := z
    rw [e] at h
    exact ⟨b, ds, ks, rfl, h⟩
theorem seq_caseT {m : Mem} {r : RV} {α : Type} {f : List DV → Option α} {c : α} (h : (match seqOf m r with | some (true, ds, _) => f ds | _ => none) = some c) : ∃ ds ks, seqOf m r = some (true, ds, ks) ∧ f ds = some c := by
  cases e : seqOf m r with
  | none => rw [e] at h; cases h
  | some z =>
    obtain ⟨b, ds, ks⟩ := z
    rw [e] at h
    cases b with
    | true => exact ⟨ds, ks, rfl, h⟩
    | false => cases h
theorem foldl_max : ∀ (ns : List Int) (n m : Int), m ∈ n :: ns → (∀ y ∈ n :: ns, y ≤ m) → m = ns.foldl max n
  | [], n, m, h, _ => by simpa using h
  | x :: ns, n, m, h, hm => by
    rw [List.foldl_cons]
    refine foldl_max ns (max n x) m ?_ ?_
    · rcases List.mem_cons.mp h with rfl | h
      · have := hm x (by simp)
        exact List.mem_cons.mpr (.inl (by omega))
      · rcases List.mem_cons.mp h with rfl | h
        · have := hm n (by simp)
          exact List.mem_cons.mpr (.inl (by omega))
        · exact List.mem_cons.mpr (.inr h)
    · intro y hy
      rcases List.mem_cons.mp hy with rfl | hy
      · have h1 := hm n (by simp)
        have h2 := hm x (by simp)
        omega
      · exact hm y (by simp [hy])
theorem foldl_min : ∀ (ns : List Int) (n m : Int), m ∈ n :: ns → (∀ y ∈ n :: ns, m ≤ y) → m = ns.foldl min n
  | [], n, m, h, _ => by simpa using h
  | x :: ns, n, m, h, hm => by
    rw [List.foldl_cons]
    refine foldl_min ns (min n x) m ?_ ?_
    · rcases List.mem_cons.mp h with rfl | h
      · have := hm x (by simp)
        exact List.mem_cons.mpr (.inl (by omega))
      · rcases List.mem_cons.mp h with rfl | h
        · have := hm n (by simp)
          exact List.mem_cons.mpr (.inl (by omega))
        · exact List.mem_cons.mpr (.inr h)
    · intro y hy
      rcases List.mem_cons.mp hy with rfl | hy
      · have h1 := hm n (by simp)
        have h2 := hm x (by simp)
        omega
      · exact hm y (by simp [hy])
/-- the sum of a tuple -/
theorem sumTup {prog : Program} {w : World} {A : Around} {E : Value → Shared → Prop} {s : Shared} {l : Addr} {xs : Array (Int × Tok)} {Q : Value → Shared → Prop} (hh : A.handled = none) (hl : s.heap.IsTuple l (intItems xs))
    (h : ∀ h' tk t', (∀ b o, s.heap.get? b = some o → h'.get? b = some o) → Q (.int (preSum (numAt xs) xs.size) t') { s with heap := h', toks := tk }) :
    wpAny (model prog w) A (call (.builtin "sum") [.ref l]) Q E s := by
  have hlt : l < s.heap.objs.size := by obtain ⟨_, e, _⟩ := hl; exact Heap.lt_size e
  refine PySem.call_sum_walkG (wpAny_pyIter_tuple hl ⟨s.heap.objs.size, _, _, _, _, _, numAt xs, rfl, Walks.tuple (A := A.in1) hh _ l (Nat.ne_of_lt hlt) (intItems xs), ⟨⟨_, Heap.get?_push_size _ rfl, rfl, rfl⟩, hl.push _⟩, fun b hb => ?_, (fun _ _ => intItems_at), fun h' tk t' hk => ?_⟩)
  · show b < (s.heap.push _).objs.size
    rw [Heap.size_push]
    simp only [List.mem_cons, List.not_mem_nil, or_false] at hb
    rcases hb with rfl | rfl
    · exact Nat.lt_succ_self _
    · exact Nat.lt_succ_of_lt hlt
  · have := h h' tk t' fun b o e => hk b o (fun hm => by
      rw [List.mem_singleton] at hm
      exact absurd (hm ▸ Heap.lt_size e) (Nat.lt_irrefl _)) (Heap.get?_push_of_some _ e)
    simpa [intItems] using this
theorem cr_sumT (hc : X.calm = true) : CallR X (.builtin "sum") (fun vs H Q => ∃ (a : Addr) (ns : List Int), vs = [V.ref a] ∧ SqT X.K H a (ns.map V.int) ∧ Q (.int ns.sum) H) := by
  intro pins s σ H vs us Q I r h
  obtain ⟨a, ns, rfl, hs, q⟩ := h
  obtain ⟨its, rv, hl, _⟩ := I.tuple hs
  rw [L2.Vals.ref1 r]
  obtain ⟨xs, e⟩ := rv.ints.allInts.items
  have hn : numsOf (intItems xs).toList = ns := by rw [← e]; exact rv.ints.numsOf
  rw [nums_intItems] at hn
  have hl' : s.heap.IsTuple a its.toArray := hl
  rw [e] at hl'
  refine sumTup (I.ok.hd hc) hl' fun h' tk t' hk => ?_
  refine ⟨.int _, H, I.kept hk, ⟨_, rfl⟩, ?_⟩
  rw [preSum_eq, List.take_of_length_le (by simp), hn]
  exact q
theorem call_blt (hc : X.calm = true) (hg : X.A.guards = some []) (hu : X.A.units + 64 < cLine) (b : Blt) : CallR X b.val (rBlt X.K b) := by
  intro pins s σ H xs us Q I rel h
  obtain ⟨H0, φ0, φ, m, rs, r, E, M, rr, go, q⟩ := h
  cases b with
  | abs =>
    unfold bltD at go
    split at go <;> first | contradiction | skip
    cases go
    obtain ⟨x, rfl, g⟩ := rr.one
    exact L2.call_abs pins s σ H _ us Q I rel ⟨_, by rw [show x = V.int _ from g], q _ _ E M rfl⟩
  | int =>
    unfold bltD at go
    split at go <;> first | contradiction | skip
    · cases go
      obtain ⟨x, rfl, g⟩ := rr.one
      exact L2.call_int1 pins s σ H _ us Q I rel (.inl ⟨_, by rw [show x = V.int _ from g], q _ _ E M rfl⟩)
    · cases go
      obtain ⟨x, rfl, g⟩ := rr.one
      exact L2.call_int1 pins s σ H _ us Q I rel (.inr ⟨_, by rw [show x = V.bl _ from g], q _ _ E M rfl⟩)
  | len =>
    unfold bltD at go
    split at go <;> first | contradiction | skip
    · rename_i z _
      obtain ⟨x, rfl, g⟩ := rr.one
      by_cases hz : z.length ≤ sizeLine
      · rw [if_pos hz] at go
        cases go
        exact L2.call_len pins s σ H _ us Q I rel ⟨x, z.length, rfl, by rw [show x = V.str z from g]; exact ⟨hz, rfl⟩, q _ _ E M rfl⟩
      · rw [if_neg hz] at go; cases go
    · obtain ⟨b, ds, ks, e1, e2⟩ := seq_case go
      cases e2
      obtain ⟨x, rfl, g⟩ := rr.one
      obtain ⟨p, ys, rfl, g2, hl, ht⟩ := seq_ok g M e1
      refine L2.call_len pins s σ H _ us Q I rel ⟨_, ds.length, rfl, ?_, q _ _ E M rfl⟩
      cases b with
      | true => exact .inl ⟨ys, hl rfl, g2.length.symm⟩
      | false => exact .inr ⟨ys, (ht rfl).1, g2.length.symm⟩
  | all =>
    unfold bltD at go
    split at go <;> first | contradiction | skip
    obtain ⟨ds, ks, e1, e2⟩ := seq_caseT go
    obtain ⟨bs, e3, e4⟩ := Option.map_eq_some_iff.mp e2
    subst e4
    obtain ⟨x, rfl, g⟩ := rr.one
    obtain ⟨p, ys, rfl, g2, hl, _⟩ := seq_ok g M e1
    have := hl rfl
    rw [bools_V e3 g2] at this
    exact L2.cr_all hc pins s σ H _ us Q I rel ⟨p, bs, rfl, this, q _ _ E M rfl⟩
  | any =>
    unfold bltD at go
    split at go <;> first | contradiction | skip
    obtain ⟨ds, ks, e1, e2⟩ := seq_caseT go
    obtain ⟨bs, e3, e4⟩ := Option.map_eq_some_iff.mp e2
    subst e4
    obtain ⟨x, rfl, g⟩ := rr.one
    obtain ⟨p, ys, rfl, g2, hl, _⟩ := seq_ok g M e1
    have := hl rfl
    rw [bools_V e3 g2] at this
    exact L2.cr_any hc pins s σ H _ us Q I rel ⟨p, bs, rfl, this, q _ _ E M rfl⟩
  | tuple =>
    unfold bltD at go
    split at go <;> first | contradiction | skip
    obtain ⟨b, ds, ks, e1, e2⟩ := seq_case go
    cases e2
    obtain ⟨x, rfl, g⟩ := rr.one
    obtain ⟨p, ys, rfl, g2, hl, ht⟩ := seq_ok g M e1
    cases b with
    | true =>
      refine L2.call_tuple_of pins s σ H _ us Q I rel ⟨p, ys, rfl, .inl ⟨hl rfl, fun l hn => ?_⟩⟩
      obtain ⟨E2, M2, R2⟩ := new_tup E M hn g2
      exact q _ _ E2 M2 R2
    | false =>
      obtain ⟨ht1, d, rfl⟩ := ht rfl
      cases e1
      exact L2.call_tuple_of pins s σ H _ us Q I rel ⟨p, ys, rfl, .inr ⟨ht1, q _ _ E M g⟩⟩
  | list =>
    unfold bltD at go
    split at go <;> first | contradiction | skip
    obtain ⟨b, ds, ks, e1, e2⟩ := seq_case go
    cases e2
    obtain ⟨x, rfl, g⟩ := rr.one
    obtain ⟨p, ys, rfl, g2, hl, ht⟩ := seq_ok g M e1
    refine L2.call_list_of pins s σ H _ us Q I rel ⟨p, ys, rfl, ?_, fun l hn => ?_⟩
    · cases b with
      | true => exact .inl (hl rfl)
      | false => exact .inr (ht rfl).1
    · obtain ⟨E2, M2, R2⟩ := new_lst E M hn g2
      exact q _ _ E2 M2 R2
  | sum =>
    unfold bltD at go
    split at go <;> first | contradiction | skip
    obtain ⟨b, ds, ks, e1, e2⟩ := seq_case go
    obtain ⟨bs, e3, e4⟩ := Option.map_eq_some_iff.mp e2
    subst e4
    obtain ⟨x, rfl, g⟩ := rr.one
    obtain ⟨p, ys, rfl, g2, hl, ht⟩ := seq_ok g M e1
    cases b with
    | true =>
      have := hl rfl
      rw [ints_V e3 g2] at this
      exact L2.cr_sum hc pins s σ H _ us Q I rel ⟨p, bs, rfl, this, q _ _ E M rfl⟩
    | false =>
      have := (ht rfl).1
      rw [ints_V e3 g2] at this
      exact cr_sumT hc pins s σ H _ us Q I rel ⟨p, bs, rfl, this, q _ _ E M rfl⟩
  | min =>
    unfold bltD at go
    split at go <;> first | contradiction | skip
    · cases go
      obtain ⟨x, y, rfl, g, g2⟩ := rr.two
      exact L2.call_min2 hc pins s σ H _ us Q I rel ⟨_, _, by rw [show x = V.int _ from g, show y = V.int _ from g2], q _ _ E M rfl⟩
    · obtain ⟨ds, ks, e1, e2⟩ := seq_caseT go
      split at e2
      · rename_i n ns e3
        cases e2
        obtain ⟨x, rfl, g⟩ := rr.one
        obtain ⟨p, ys, rfl, g2, hl, _⟩ := seq_ok g M e1
        have := hl rfl
        rw [ints_V e3 g2] at this
        exact L2.cr_min hc pins s σ H _ us Q I rel ⟨p, n :: ns, rfl, this, by simp, fun m h1 h2 => by rw [foldl_min ns n m h1 h2]; exact q _ _ E M rfl⟩
      · cases e2
  | max =>
    unfold bltD at go
    split at go <;> first | contradiction | skip
    · cases go
      obtain ⟨x, y, rfl, g, g2⟩ := rr.two
      exact L2.call_max2 hc pins s σ H _ us Q I rel ⟨_, _, by rw [show x = V.int _ from g, show y = V.int _ from g2], q _ _ E M rfl⟩
    · obtain ⟨ds, ks, e1, e2⟩ := seq_caseT go
      split at e2
      · rename_i n ns e3
        cases e2
        obtain ⟨x, rfl, g⟩ := rr.one
        obtain ⟨p, ys, rfl, g2, hl, _⟩ := seq_ok g M e1
        have := hl rfl
        rw [ints_V e3 g2] at this
        exact L2.cr_max hc pins s σ H _ us Q I rel ⟨p, n :: ns, rfl, this, by simp, fun m h1 h2 => by rw [foldl_max ns n m h1 h2]; exact q _ _ E M rfl⟩
      · cases e2
  | repr =>
    unfold bltD at go
    split at go <;> first | contradiction | skip
    rename_i r0 _
    obtain ⟨x, rfl, g⟩ := rr.one
    cases e1 : snapR m r0 with
    | none => rw [e1] at go; cases go
    | some d =>
      rw [e1] at go
      have go : (if d.showable = true ∧ wt d ≤ 8000 then some (RV.val (.str d.shown)) else none) = some r := go
      by_cases hz : d.showable = true ∧ wt d ≤ 8000
      · rw [if_pos hz] at go
        cases go
        exact call_repr hg hu pins s σ H _ us Q I rel ⟨x, H0, φ, m, r0, d, rfl, M, g, e1, hz.1, hz.2, q _ _ E M rfl⟩
      · rw [if_neg hz] at go; cases go
end
end Mp
end SMpF
section SMpG
set_option Elab.async false
set_option linter.all false
set_option maxHeartbeats 1000000
/-! MpG: calls of defs, what is walked, targets. -/
namespace Mp
open PySem PySem.Spec
open L2 (V Hp HO St TE TT TA TI TG TGs TS TO Ends Rd SqL SqT PE PT PA PS PSs PG PGs PI PO Cx Inv RelV Vals upd upd_same upd_ne OpR VK R2 XK Sp Room Env0 Binds It Walk)
/-! ### calls -/
/-- a def keeps its promise wherever no guard stands around -/
structure FnG (P : Program) (w : World) (K : PySem.W.Frag) (mg : Str → Option Value) (base : Heap) (k : Nat) (f : Addr) (fd : FuncData) (ps : List Str) (sp : Sp) : Prop where
  len : ∀ vs H Q E, sp vs H Q E → vs.length = ps.length
  run : ∀ (A : Around) (outer : List Env) (s : Shared) (H : Hp) (args : Args) (us : List Value) (vs : List V) (Q : VK), A.guards = some [] → Room k A → Env0 P w K mg base A outer s H →
    BindsTo s fd args (ps.zip us) → Vals vs us → sp vs H Q L2.E0 → codeAny (model P w) A (.call (.ref f) args) (L2.CR L2.CX0 outer P w H s Q L2.E0) s
section
variable {X : Cx} {k : Nat} {f : Addr} {fd : FuncData} {ps : List Str} {sp : Sp} {x : Str} {p pos : Pos} {e : Expr} {es : List Expr} {t : TA}
theorem goes_in {pins : List (Addr × Obj)} {σ : St} {H : Hp} {s : Shared} {Q : VK} {us : List Value} {vs : List V} (F : FnG X.prog X.w X.K X.mg X.base k f fd ps sp) (hg : X.A.guards = some []) (hr : Room k X.A)
    (hb : Binds X.K fd ps []) (I : Inv X pins σ H s) (r : Vals vs us) (h : sp vs H Q L2.E0) : wpAny (model X.prog X.w) X.A (call (.ref f) us) (L2.EP X pins σ Q) X.xe s := by
  have hl : (us ++ []).length = ps.length := by
    rw [List.append_nil, ← r.length]
    exact F.len _ _ _ _ h
  have b := hb s us I.kIn hl
  rw [List.append_nil] at b
  refine wpAny_call (codeAny_mono (F.run X.A X.stack s H ⟨us, []⟩ us vs Q hg hr I.env0 b r h) fun res s' q => ?_)
  cases res with
  | error _ => exact False.elim q
  | ok fl => cases fl with
    | ret u => exact I.after q
    | next => exact False.elim q
    | brk => exact False.elim q
    | cont => exact False.elim q
theorem pe_go (F : FnG X.prog X.w X.K X.mg X.base k f fd ps sp) (hgd : X.A.guards = some []) (hr : Room k X.A) (hg : L2.Gl X x) (hm : X.mg x = some (.ref f)) (hk : PySem.W.keepIn X.K (.ref f) = true) (hb : Binds X.K fd ps [])
    (ha : PA X (e :: es) t) (hdb : (x == ("__debug__" : Str)) = false) (he : starEach (e :: es) X.env = (false, eval e X.env) :: starEach es X.env) (hpl : (backTo pos (starEach es X.env)).any (·.1) = false) :
    PE X (.Call (.Name x p) (e :: es) [] pos) (fun σ H Q => t σ H fun vs H1 => sp vs H1 Q L2.E0) :=
  ⟨fun pins s σ H Q I h => wpAny_Call_Name_kw (L2.ld_glob I hg hm (PySem.W.callWith_K (h₀ := X.base) I.ok.mod.kin hk
    (L2.thn (ha.run pos pins s σ H _ I h) fun _ _ ⟨_, _, I1, r, q⟩ => ⟨I1.kIn, goes_in F hgd hr hb I1 r q⟩) he hpl) hdb)⟩
theorem pe_go0 (F : FnG X.prog X.w X.K X.mg X.base k f fd ps sp) (hgd : X.A.guards = some []) (hr : Room k X.A) (hg : L2.Gl X x) (hm : X.mg x = some (.ref f)) (hk : PySem.W.keepIn X.K (.ref f) = true) (hb : Binds X.K fd ps [])
    (hdb : (x == ("__debug__" : Str)) = false) : PE X (.Call (.Name x p) [] [] pos) (fun _ H Q => sp [] H Q L2.E0) :=
  ⟨fun pins s σ H Q I h => wpAny_Call_Name_kw (L2.ld_glob I hg hm (PySem.W.callWith_K0 I.kIn hk (goes_in (us := []) F hgd hr hb I .nil h)) hdb)⟩
end
/-- what a def of the evaluator promises -/
def spF (K : PySem.W.Frag) (g : List DV → M RV) : Sp := fun vs H Q _ => ∃ ds m φ r m', VRs K H φ ds vs ∧ MR K H φ m ∧ g ds m = .ok r m' ∧ ∀ v H' φ', Ext φ H φ' H' → MR K H' φ' m' → RR K H φ' H' r v → Q v H'
section
variable {K : PySem.W.Frag}
/-! ### what is walked -/
/-- the walk J gives the items ds, while the numbers ks stay as they are -/
def Feed (K : PySem.W.Frag) (φ : List Addr) (H : Hp) (m : Mem) (ds : List DV) (ks : List Nat) (J : It) : Prop :=
  ∃ (G : Hp → Prop) (Y : Nat → Hp → V → Hp → Prop), Walk J ds.length G Y ∧
    (∀ φ' H' m', Ext φ H φ' H' → MR K H' φ' m' → same ks m m' = true → G H') ∧
    ∀ i φ' H' m' x H1, i < ds.length → Ext φ H φ' H' → MR K H' φ' m' → same ks m m' = true → Y i H' x H1 → ∃ d, ds[i]? = some d ∧ Ext φ' H' φ' H1 ∧ MR K H1 φ' m' ∧ VR K H1 φ' d x
def tI (K : PySem.W.Frag) (f : LE → M (List DV × List Nat)) : TI := fun σ H R => ∃ env m φ q m', At K σ H env m φ ∧ f env m = .ok q m' ∧ ∀ J H' φ', Ext φ H φ' H' → MR K H' φ' m' → Feed K φ' H' m' q.1 q.2 J → R J H'
theorem PI.imp {X : Cx} {tg e : Expr} {t t' : TI} (h : PI X tg e t) (w : ∀ σ H R, t' σ H R → t σ H R) : PI X tg e t' := ⟨fun pins s σ H R I q => h.run pins s σ H R I (w σ H R q)⟩
theorem walk_itl {a : Addr} {n : Nat} : Walk (L2.Itl K a) n (fun H => ∃ xs, SqL K H a xs ∧ xs.length = n) (fun i H x H' => H' = H ∧ ∀ xs, SqL K H a xs → xs[i]? = some x) :=
  ⟨fun i H hi ⟨xs, q, e⟩ => ⟨xs, xs[i]'(by omega), q, by simp [e, hi]⟩, fun H ⟨xs, q, e⟩ => ⟨xs, q, Nat.le_of_eq e⟩, fun i H x H' hi _ y => y⟩
theorem walk_itt {a : Addr} {n : Nat} : Walk (L2.Itt K a) n (fun H => ∃ xs, SqT K H a xs ∧ xs.length = n) (fun i H x H' => H' = H ∧ ∀ xs, SqT K H a xs → xs[i]? = some x) :=
  ⟨fun i H hi ⟨xs, q, e⟩ => ⟨xs, xs[i]'(by omega), q, by simp [e, hi]⟩, fun H ⟨xs, q, e⟩ => ⟨xs, q, Nat.le_of_eq e⟩, fun i H x H' hi _ y => y⟩
/-- a sequence stays readable -/
theorem seq_stay {H0 H H' : Hp} {φ φ' : List Addr} {m m' : Mem} {r : RV} {a : Addr} {b : Bool} {ds : List DV} {ks : List Nat} (h : RR K H0 φ H r (.ref a)) (M : MR K H φ m) (e : seqOf m r = some (b, ds, ks)) (E : Ext φ H φ' H') (M' : MR K H' φ' m')
    (s : same ks m m' = true) : ∃ xs, VRs K H' φ' ds xs ∧ (b = true → SqL K H' a xs) ∧ (b = false → SqT K H' a xs) := by
  cases r with
  | new o =>
    cases o with
    | lst zs =>
      obtain ⟨c, e1, _, hc, ys, xs, e2, e3, g⟩ := h
      cases e1
      cases e2
      cases e
      exact ⟨xs, g.ext M E, fun _ => .inl (.inl (E.keep _ _ e3 hc)), fun z => nomatch z⟩
  | val d =>
    cases d with
    | tup zs =>
      cases e
      obtain ⟨c, xs, e1, q, g⟩ := h
      cases e1
      exact ⟨xs, g.ext M E, (fun z => nomatch z), fun _ => SqT_ext M E q⟩
    | rl zs =>
      cases e
      obtain ⟨c, xs, e1, q, g⟩ := h
      cases e1
      exact ⟨xs, g.ext M E, fun _ => (SqF_ext M E q).seq, fun z => nomatch z⟩
    | ref n =>
      obtain ⟨c, e1, hn⟩ := h
      cases e1
      have e : (match m[n]? with | some o => some (true, o.items, [n]) | none => none) = some (b, ds, ks) := e
      cases e2 : m[n]? with
      | none => rw [e2] at e; cases e
      | some o =>
        rw [e2] at e
        cases o with
        | lst zs =>
          cases e
          have s1 : m'[n]? = m[n]? := by
            unfold same at s
            simpa using s
          rw [e2] at s1
          obtain ⟨xs, e3, g⟩ := M'.ob n a _ (E.pre n a hn) s1
          exact ⟨xs, g, fun _ => .inl (.inl e3), fun z => nomatch z⟩
    | non => cases e
    | bl _ => cases e
    | int _ => cases e
    | str _ => cases e
theorem feed_seq {H0 H : Hp} {φ : List Addr} {m : Mem} {r : RV} {a : Addr} {b : Bool} {ds : List DV} {ks : List Nat} (h : RR K H0 φ H r (.ref a)) (M : MR K H φ m) (e : seqOf m r = some (b, ds, ks)) :
    (b = true → Feed K φ H m ds ks (L2.Itl K a)) ∧ (b = false → Feed K φ H m ds ks (L2.Itt K a)) := by
  constructor
  · rintro rfl
    refine ⟨_, _, walk_itl, fun φ' H' m' E M' s => ?_, fun i φ' H' m' x H1 hi E M' s y => ?_⟩
    · obtain ⟨xs, g, q, _⟩ := seq_stay h M e E M' s
      exact ⟨xs, q rfl, g.length⟩
    · obtain ⟨xs, g, q, _⟩ := seq_stay h M e E M' s
      obtain ⟨rfl, y⟩ := y
      obtain ⟨d, e1, g1⟩ := g.get' (y xs (q rfl))
      exact ⟨d, e1, Ext.refl _ _, M', g1⟩
  · rintro rfl
    refine ⟨_, _, walk_itt, fun φ' H' m' E M' s => ?_, fun i φ' H' m' x H1 hi E M' s y => ?_⟩
    · obtain ⟨xs, g, _, q⟩ := seq_stay h M e E M' s
      exact ⟨xs, q rfl, g.length⟩
    · obtain ⟨xs, g, _, q⟩ := seq_stay h M e E M' s
      obtain ⟨rfl, y⟩ := y
      obtain ⟨d, e1, g1⟩ := g.get' (y xs (q rfl))
      exact ⟨d, e1, Ext.refl _ _, M', g1⟩
theorem feed_range {H : Hp} {φ : List Addr} {m : Mem} {lo : Int} {n : Nat} {ds : List DV} (e : ds = (List.range n).map fun k => DV.int (lo + (k : Nat))) : Feed K φ H m ds [] (L2.Itr lo n) := by
  subst e
  refine ⟨fun _ => True, _, by rw [List.length_map, List.length_range]; exact L2.walk_range, fun _ _ _ _ _ _ => trivial, fun i φ' H' m' x H1 hi E M' s y => ?_⟩
  obtain ⟨rfl, rfl⟩ := y
  rw [List.length_map, List.length_range] at hi
  exact ⟨.int (lo + (i : Nat)), by rw [List.getElem?_map, List.getElem?_range hi]; rfl, Ext.refl _ _, M', rfl⟩
theorem feed_rangeC {H : Hp} {φ : List Addr} {m : Mem} {lo c : Int} {n : Nat} {ds : List DV} (e : ds = (List.range n).map fun k => DV.int (lo + (k : Nat) * c)) : Feed K φ H m ds [] (L2.Itc lo c n) := by
  subst e
  refine ⟨fun _ => True, _, by rw [List.length_map, List.length_range]; exact L2.walk_rangeC, fun _ _ _ _ _ _ => trivial, fun i φ' H' m' x H1 hi E M' s y => ?_⟩
  obtain ⟨rfl, rfl⟩ := y
  rw [List.length_map, List.length_range] at hi
  exact ⟨.int (lo + (i : Nat) * c), by rw [List.getElem?_map, List.getElem?_range hi]; rfl, Ext.refl _ _, M', rfl⟩
theorem enumD_len : ∀ (k : Nat) (ds : List DV), (enumD k ds).length = ds.length
  | _, [] => rfl
  | k, d :: ds => by rw [enumD, List.length_cons, List.length_cons, enumD_len (k + 1) ds]
theorem enumD_get : ∀ (k : Nat) (ds : List DV) (i : Nat), (enumD k ds)[i]? = (ds[i]?).map fun d => .tup [.int ((k + i : Nat) : Int), d]
  | _, [], i => by simp [enumD]
  | k, d :: ds, 0 => by simp [enumD]
  | k, d :: ds, i + 1 => by
    rw [enumD, List.getElem?_cons_succ, List.getElem?_cons_succ, enumD_get (k + 1) ds i]
    rw [show k + 1 + i = k + (i + 1) by omega]
theorem zipD_len (xs ys : List DV) : (zipD xs ys).length = min xs.length ys.length := List.length_zipWith
theorem zipD_get {xs ys : List DV} {i : Nat} {x y : DV} (h1 : xs[i]? = some x) (h2 : ys[i]? = some y) : (zipD xs ys)[i]? = some (.tup [x, y]) := by
  unfold zipD
  rw [List.getElem?_zipWith, h1, h2]
theorem same_app {ks ks' : List Nat} {m m' : Mem} (h : same (ks ++ ks') m m' = true) : same ks m m' = true ∧ same ks' m m' = true := by
  unfold same at h ⊢
  rw [List.all_append, Bool.and_eq_true] at h
  exact h
theorem feed_enum {H0 H : Hp} {φ : List Addr} {m : Mem} {r : RV} {a : Addr} {ds : List DV} {ks : List Nat} (h : RR K H0 φ H r (.ref a)) (M : MR K H φ m) (e : seqOf m r = some (true, ds, ks)) : Feed K φ H m (enumD 0 ds) ks (L2.Ite K a) := by
  refine ⟨fun H => ∃ xs, SqL K H a xs ∧ xs.length = ds.length, _, ⟨fun i H hi ⟨xs, q, e⟩ => ⟨xs, xs[i]'(by rw [e]; rwa [enumD_len] at hi), q, by simp⟩, fun H ⟨xs, q, e⟩ => ⟨xs, q, by rw [enumD_len]; exact Nat.le_of_eq e⟩, fun i H x H' hi _ y => y⟩,
    fun φ' H' m' E M' s => ?_, fun i φ' H' m' x H1 hi E M' s y => ?_⟩
  · obtain ⟨xs, g, q, _⟩ := seq_stay h M e E M' s
    exact ⟨xs, q rfl, g.length⟩
  · obtain ⟨xs, g, q, _⟩ := seq_stay h M e E M' s
    obtain ⟨T, z, rfl, hT, rfl, y⟩ := y
    obtain ⟨d, e1, g1⟩ := g.get' (y xs (q rfl))
    obtain ⟨E2, M2, R2⟩ := new_tup (ds := [.int (i : Nat), d]) (Ext.refl φ' H') M' hT ⟨_, _, rfl, rfl, _, _, rfl, g1, rfl⟩
    exact ⟨.tup [.int (i : Nat), d], by rw [enumD_get, e1, Nat.zero_add]; rfl, E2, M2, R2⟩
theorem feed_zip {H0 H0' H : Hp} {φ : List Addr} {m : Mem} {r r' : RV} {a b : Addr} {bb : Bool} {ds es : List DV} {ks ks' : List Nat} (h : RR K H0 φ H r (.ref a)) (h' : RR K H0' φ H r' (.ref b)) (M : MR K H φ m) (e : seqOf m r = some (bb, ds, ks)) (e' : seqOf m r' = some (bb, es, ks')) :
    (bb = true → Feed K φ H m (zipD ds es) (ks ++ ks') (L2.Itz K a b)) ∧ (bb = false → Feed K φ H m (zipD ds es) (ks ++ ks') (RZ.ItzT K a b)) := by
  constructor
  · rintro rfl
    refine ⟨fun H => ∃ xs ys, SqL K H a xs ∧ SqL K H b ys ∧ xs.length = ds.length ∧ ys.length = es.length, _, ⟨fun i H hi ⟨xs, ys, q, q', l, l'⟩ => ?_, fun H ⟨xs, ys, q, q', l, l'⟩ => ⟨xs, ys, q, q', by rw [zipD_len]; omega⟩, fun i H x H' hi _ y => y⟩,
      fun φ' H' m' E M' s => ?_, fun i φ' H' m' x H1 hi E M' s y => ?_⟩
    · rw [zipD_len] at hi
      exact ⟨xs, ys, xs[i]'(by omega), ys[i]'(by omega), q, q', by simp, by simp⟩
    · obtain ⟨s1, s2⟩ := same_app s
      obtain ⟨xs, g, q, _⟩ := seq_stay h M e E M' s1
      obtain ⟨ys, g', q', _⟩ := seq_stay h' M e' E M' s2
      exact ⟨xs, ys, q rfl, q' rfl, g.length, g'.length⟩
    · obtain ⟨s1, s2⟩ := same_app s
      obtain ⟨xs, g, q, _⟩ := seq_stay h M e E M' s1
      obtain ⟨ys, g', q', _⟩ := seq_stay h' M e' E M' s2
      obtain ⟨T, z, z', rfl, hT, rfl, y, y'⟩ := y
      obtain ⟨d, e1, g1⟩ := g.get' (y xs (q rfl))
      obtain ⟨d', e1', g1'⟩ := g'.get' (y' ys (q' rfl))
      obtain ⟨E2, M2, R2⟩ := new_tup (ds := [d, d']) (Ext.refl φ' H') M' hT ⟨_, _, rfl, g1, _, _, rfl, g1', rfl⟩
      exact ⟨.tup [d, d'], zipD_get e1 e1', E2, M2, R2⟩
  · rintro rfl
    refine ⟨fun H => ∃ xs ys, SqT K H a xs ∧ SqT K H b ys ∧ xs.length = ds.length ∧ ys.length = es.length, _, ⟨fun i H hi ⟨xs, ys, q, q', l, l'⟩ => ?_, fun H ⟨xs, ys, q, q', l, l'⟩ => ⟨xs, ys, q, q', by rw [zipD_len]; omega⟩, fun i H x H' hi _ y => y⟩,
      fun φ' H' m' E M' s => ?_, fun i φ' H' m' x H1 hi E M' s y => ?_⟩
    · rw [zipD_len] at hi
      exact ⟨xs, ys, xs[i]'(by omega), ys[i]'(by omega), q, q', by simp, by simp⟩
    · obtain ⟨s1, s2⟩ := same_app s
      obtain ⟨xs, g, _, q⟩ := seq_stay h M e E M' s1
      obtain ⟨ys, g', _, q'⟩ := seq_stay h' M e' E M' s2
      exact ⟨xs, ys, q rfl, q' rfl, g.length, g'.length⟩
    · obtain ⟨s1, s2⟩ := same_app s
      obtain ⟨xs, g, _, q⟩ := seq_stay h M e E M' s1
      obtain ⟨ys, g', _, q'⟩ := seq_stay h' M e' E M' s2
      obtain ⟨T, z, z', rfl, hT, rfl, y, y'⟩ := y
      obtain ⟨d, e1, g1⟩ := g.get' (y xs (q rfl))
      obtain ⟨d', e1', g1'⟩ := g'.get' (y' ys (q' rfl))
      obtain ⟨E2, M2, R2⟩ := new_tup (ds := [d, d']) (Ext.refl φ' H') M' hT ⟨_, _, rfl, g1, _, _, rfl, g1', rfl⟩
      exact ⟨.tup [d, d'], zipD_get e1 e1', E2, M2, R2⟩
variable {X : Cx} {tg : Expr}
/-- over a sequence -/
theorem pi_seq {e : Expr} {f : LE → M RV} (he : PE X e (tR X.K f)) : PI X tg e (tI X.K fun env m => (f env m).bind fun r m1 => Res.of (itD .seq m1 [r]) m1) := by
  have both : PI X tg e (fun σ H R => L2.iList X.K (tR X.K f) σ H R ∨ L2.iTup X.K (tR X.K f) σ H R) := ⟨fun pins s σ H R I h => by
    rcases h with h | h
    · exact (L2.pi_list he).run pins s σ H R I h
    · exact (L2.pi_tup he).run pins s σ H R I h⟩
  refine PI.imp both fun σ H R h => ?_
  obtain ⟨env, m, φ, q, m', A, e1, w⟩ := h
  obtain ⟨r, m1, e2, e1⟩ := Res.bind_inv e1
  obtain ⟨e1, rfl⟩ := Res.of_inv e1
  obtain ⟨z, e3, e4⟩ := Option.map_eq_some_iff.mp (show (seqOf m' r).map (fun q => (q.2.1, q.2.2)) = some q from e1)
  subst e4
  obtain ⟨b, ds, ks⟩ := z
  cases b with
  | true =>
    refine .inl ⟨env, m, φ, r, m', A, e2, fun v H' φ' E M g => ?_⟩
    obtain ⟨a, xs, rfl, g2, hl, _⟩ := seq_ok g M e3
    exact ⟨a, rfl, ⟨xs, hl rfl⟩, w _ _ _ E M ((feed_seq g M e3).1 rfl)⟩
  | false =>
    refine .inr ⟨env, m, φ, r, m', A, e2, fun v H' φ' E M g => ?_⟩
    obtain ⟨a, xs, rfl, g2, _, ht⟩ := seq_ok g M e3
    exact ⟨a, rfl, ⟨xs, (ht rfl).1⟩, w _ _ _ E M ((feed_seq g M e3).2 rfl)⟩
theorem pi_rng1 {a : Expr} {f : LE → M (List RV)} {p pos : Pos} (hg : L2.Gl X "range") (hm : X.mg "range" = none) (ha : PA X [a] (tRs X.K f)) (hs : starEach [a] X.env = [(false, eval a X.env)])
    (h1 : ∀ env m rs m', f env m = .ok rs m' → rs.length = 1) : PI X tg (.Call (.Name "range" p) [a] [] pos) (tI X.K fun env m => (f env m).bind fun r m1 => Res.of (itD .range m1 r) m1) := by
  refine PI.imp (L2.pi_range1 hg hm ha hs) fun σ H R h => ?_
  obtain ⟨env, m, φ, q, m', A, e1, w⟩ := h
  obtain ⟨rs, m1, e2, e1⟩ := Res.bind_inv e1
  obtain ⟨e1, rfl⟩ := Res.of_inv e1
  refine ⟨env, m, φ, rs, m', A, e2, fun vs H' φ' E M g => ?_⟩
  have hl := h1 _ _ _ _ e2
  unfold itD at e1
  split at e1 <;> first | contradiction | skip
  · rename_i j _ _
    by_cases hj : -(2 ^ 62) ≤ j ∧ j < 2 ^ 62
    · rw [if_pos hj] at e1
      cases e1
      obtain ⟨x, rfl, g1⟩ := RRs.one g
      exact ⟨j, by rw [show x = V.int j from g1], hj.1, hj.2, w _ _ _ E M (feed_range (lo := 0) (by simp))⟩
    · rw [if_neg hj] at e1; cases e1
  · simp at hl
theorem pi_rng2 {a b : Expr} {f : LE → M (List RV)} {p pos : Pos} (hg : L2.Gl X "range") (hm : X.mg "range" = none) (ha : PA X [a, b] (tRs X.K f)) (hs : starEach [a, b] X.env = [(false, eval a X.env), (false, eval b X.env)])
    (hs2 : starEach [b] X.env = [(false, eval b X.env)]) (h1 : ∀ env m rs m', f env m = .ok rs m' → rs.length = 2) : PI X tg (.Call (.Name "range" p) [a, b] [] pos) (tI X.K fun env m => (f env m).bind fun r m1 => Res.of (itD .range m1 r) m1) := by
  refine PI.imp (L2.pi_range2 hg hm ha hs hs2) fun σ H R h => ?_
  obtain ⟨env, m, φ, q, m', A, e1, w⟩ := h
  obtain ⟨rs, m1, e2, e1⟩ := Res.bind_inv e1
  obtain ⟨e1, rfl⟩ := Res.of_inv e1
  refine ⟨env, m, φ, rs, m', A, e2, fun vs H' φ' E M g => ?_⟩
  have hl := h1 _ _ _ _ e2
  unfold itD at e1
  split at e1 <;> first | contradiction | skip
  · simp at hl
  · rename_i i j _ _
    by_cases hj : -(2 ^ 62) ≤ i ∧ i < 2 ^ 62 ∧ -(2 ^ 62) ≤ j ∧ j < 2 ^ 62
    · rw [if_pos hj] at e1
      cases e1
      obtain ⟨x, y, rfl, g1, g2⟩ := RRs.two g
      exact ⟨i, j, by rw [show x = V.int i from g1, show y = V.int j from g2], hj, w _ _ _ E M (feed_range rfl)⟩
    · rw [if_neg hj] at e1; cases e1
theorem RRs.three {H0 H : Hp} {φ : List Addr} {r r' r2 : RV} {xs : List V} (h : RRs K H0 φ H [r, r', r2] xs) : ∃ x y z, xs = [x, y, z] ∧ RR K H0 φ H r x ∧ RR K H0 φ H r' y ∧ RR K H0 φ H r2 z := by
  obtain ⟨x, ys, rfl, h1, h⟩ := h
  obtain ⟨y, z, rfl, h2, h3⟩ := RRs.two h
  exact ⟨x, y, z, rfl, h1, h2, h3⟩
theorem pi_rng3 {a b c : Expr} {f : LE → M (List RV)} {p pos : Pos} (hg : L2.Gl X "range") (hm : X.mg "range" = none) (ha : PA X [a, b, c] (tRs X.K f)) (hs : starEach [a, b, c] X.env = (false, eval a X.env) :: starEach [b, c] X.env)
    (hpl : (backTo pos (starEach [b, c] X.env)).any (·.1) = false) (h1 : ∀ env m rs m', f env m = .ok rs m' → rs.length = 3) : PI X tg (.Call (.Name "range" p) [a, b, c] [] pos) (tI X.K fun env m => (f env m).bind fun r m1 => Res.of (itD .range3 m1 r) m1) := by
  refine PI.imp (L2.pi_range3 hg hm ha hs hpl) fun σ H R h => ?_
  obtain ⟨env, m, φ, q, m', A, e1, w⟩ := h
  obtain ⟨rs, m1, e2, e1⟩ := Res.bind_inv e1
  obtain ⟨e1, rfl⟩ := Res.of_inv e1
  refine ⟨env, m, φ, rs, m', A, e2, fun vs H' φ' E M g => ?_⟩
  unfold itD at e1
  split at e1 <;> first | contradiction | skip
  rename_i i j k _ _
  split at e1
  · rename_i hc
    cases e1
    obtain ⟨x, y, z, rfl, g1, g2, g3⟩ := RRs.three g
    exact ⟨i, j, k, (Builtin.Range.rangeSize i j k).toNat, by rw [show x = V.int i from g1, show y = V.int j from g2, show z = V.int k from g3], ⟨hc.1, hc.2.1, hc.2.2.1, by omega⟩, w _ _ _ E M (feed_rangeC rfl)⟩
  · cases e1
theorem pi_enm {a : Expr} {f : LE → M (List RV)} {p pos tpos : Pos} {elts : List Expr} {kk : Nat} (hg : L2.Gl X "enumerate") (hm : X.mg "enumerate" = none) (ha : PA X [a] (tRs X.K f)) (hs : starEach [a] X.env = [(false, eval a X.env)]) :
    PI X (.Tuple elts kk tpos) (.Call (.Name "enumerate" p) [a] [] pos) (tI X.K fun env m => (f env m).bind fun r m1 => Res.of (itD .enum m1 r) m1) := by
  refine PI.imp (L2.pi_enum hg hm ha hs) fun σ H R h => ?_
  obtain ⟨env, m, φ, q, m', A, e1, w⟩ := h
  obtain ⟨rs, m1, e2, e1⟩ := Res.bind_inv e1
  obtain ⟨e1, rfl⟩ := Res.of_inv e1
  refine ⟨env, m, φ, rs, m', A, e2, fun vs H' φ' E M g => ?_⟩
  unfold itD at e1
  split at e1 <;> first | contradiction | skip
  rename_i r _
  split at e1
  · rename_i ds ks hq
    cases e1
    obtain ⟨x, rfl, g1⟩ := RRs.one g
    obtain ⟨a, xs, rfl, g2, hl, _⟩ := seq_ok g1 M hq
    exact ⟨a, xs, rfl, hl rfl, w _ _ _ E M (feed_enum g1 M hq)⟩
  · cases e1
theorem pi_zp {a b : Expr} {f : LE → M (List RV)} {p pos tpos : Pos} {elts : List Expr} {kk : Nat} (hg : L2.Gl X "zip") (hm : X.mg "zip" = none) (ha : PA X [a, b] (tRs X.K f)) (hs : starEach [a, b] X.env = (false, eval a X.env) :: starEach [b] X.env)
    (hpl : (backTo pos (starEach [b] X.env)).any (·.1) = false) :
    PI X (.Tuple elts kk tpos) (.Call (.Name "zip" p) [a, b] [] pos) (tI X.K fun env m => (f env m).bind fun r m1 => Res.of (itD .zip m1 r) m1) := by
  refine PI.imp (RZ.pi_zipA hg hm ha hs hpl) fun σ H R h => ?_
  obtain ⟨env, m, φ, q, m', A, e1, w⟩ := h
  obtain ⟨rs, m1, e2, e1⟩ := Res.bind_inv e1
  obtain ⟨e1, rfl⟩ := Res.of_inv e1
  refine ⟨env, m, φ, rs, m', A, e2, fun vs H' φ' E M g => ?_⟩
  unfold itD at e1
  split at e1 <;> first | contradiction | skip
  rename_i r r' _
  split at e1
  · rename_i bb ds ks hq
    split at e1
    · rename_i bb' es ks' hq'
      split at e1
      · rename_i hb
        subst hb
        cases e1
        obtain ⟨x, y, rfl, g1, g2⟩ := RRs.two g
        obtain ⟨a, xs, rfl, g3, hl, ht⟩ := seq_ok g1 M hq
        obtain ⟨b, ys, rfl, g4, hl', ht'⟩ := seq_ok g2 M hq'
        refine ⟨a, b, xs, ys, rfl, ?_⟩
        cases bb with
        | true => exact .inl ⟨hl rfl, hl' rfl, w _ _ _ E M ((feed_zip g1 g2 M hq hq').1 rfl)⟩
        | false => exact .inr ⟨(ht rfl).1, (ht' rfl).1, w _ _ _ E M ((feed_zip g1 g2 M hq hq').2 rfl)⟩
      · cases e1
    · cases e1
  · cases e1
/-! ### targets -/
mutual
def Pat.slots : Pat → List Nat
  | .nm i => [i]
  | .tup ps => Pat.slotss ps
def Pat.slotss : List Pat → List Nat
  | [] => []
  | p :: ps => Pat.slots p ++ Pat.slotss ps
end
/-- what a target does to the slots -/
def Put (K : PySem.W.Frag) (is : List Nat) (f : LE → Option LE) (σ : St) (H : Hp) (Q : St → Hp → Prop) : Prop :=
  ∃ env m φ env', At K σ H env m φ ∧ f env = some env' ∧ ∀ σ', At K σ' H env' m φ → σ'.length = σ.length → (∀ j, j ∉ is → σ'[j]? = σ[j]?) → Q σ' H
def tG (K : PySem.W.Frag) (p : Pat) : TG := fun v σ H Q => ∃ env m φ d env', At K σ H env m φ ∧ VR K H φ d v ∧ p.put d env = some env' ∧ ∀ σ', At K σ' H env' m φ → σ'.length = σ.length → (∀ j, j ∉ p.slots → σ'[j]? = σ[j]?) → Q σ' H
def tGs (K : PySem.W.Frag) (ps : List Pat) : TGs := fun vs σ H Q => ∃ env m φ ds env', At K σ H env m φ ∧ VRs K H φ ds vs ∧ Pat.puts ps ds env = some env' ∧ ∀ σ', At K σ' H env' m φ → σ'.length = σ.length → (∀ j, j ∉ Pat.slotss ps → σ'[j]? = σ[j]?) → Q σ' H
theorem PG.imp {e : Expr} {t t' : TG} (h : PG X e t) (w : ∀ v σ H Q, t' v σ H Q → t v σ H Q) : PG X e t' := ⟨fun pins s σ H v u Q I r q => h.run pins s σ H v u Q I r (w v σ H Q q)⟩
theorem PGs.imp {e : List Expr} {t t' : TGs} (h : PGs X e t) (w : ∀ v σ H Q, t' v σ H Q → t v σ H Q) : PGs X e t' := ⟨fun pins s σ H v u Q I r q => h.run pins s σ H v u Q I r (w v σ H Q q)⟩
theorem pg_nm {i : Nat} {x : Str} {pos : Pos} (hN : X.N.Nodup) (hi : X.N[i]? = some x) (hx : L2.Loc X.env.scope x) (hf : X.fn x = true ∨ X.env.scope.names.lookup x = some .local) : PG X (.Name x pos) (tG X.K (.nm i)) := by
  refine PG.imp (L2.pg_name hN hi hx hf) fun v σ H Q h => ?_
  obtain ⟨env, m, φ, d, env', A, g, e, q⟩ := h
  cases e
  refine q _ ⟨A.er.set i g, A.mr⟩ (by rw [List.length_set]) fun j hj => ?_
  rw [List.getElem?_set_ne]
  intro e
  subst e
  exact hj (by simp [Pat.slots])
theorem pgs_nil : PGs X [] (tGs X.K []) := by
  refine PGs.imp L2.pgs_nil fun vs σ H Q h => ?_
  obtain ⟨env, m, φ, ds, env', A, g, e, q⟩ := h
  cases ds with
  | nil =>
    cases e
    exact ⟨g, q _ A rfl fun _ _ => rfl⟩
  | cons d ds => cases e
theorem pgs_cons {e : Expr} {es : List Expr} {p : Pat} {ps : List Pat} (h1 : PG X e (tG X.K p)) (h2 : PGs X es (tGs X.K ps)) (hs : (assignEach (e :: es) X.env).map (·.2) = assign e X.env :: (assignEach es X.env).map (·.2)) :
    PGs X (e :: es) (tGs X.K (p :: ps)) := by
  refine PGs.imp (L2.pgs_cons h1 h2 hs) fun vs σ H Q h => ?_
  obtain ⟨env, m, φ, ds, env', A, g, e, q⟩ := h
  cases ds with
  | nil => cases e
  | cons d ds =>
    obtain ⟨v, r, rfl, g1, g2⟩ := g
    have e : (match Pat.put p d env with | some e => Pat.puts ps ds e | none => none) = some env' := e
    cases e1 : Pat.put p d env with
    | none => rw [e1] at e; cases e
    | some env1 =>
      rw [e1] at e
      refine ⟨v, r, rfl, env, m, φ, d, env1, A, g1, e1, fun σ1 A1 l1 k1 => ⟨env1, m, φ, ds, env', A1, g2, e, fun σ2 A2 l2 k2 => ?_⟩⟩
      refine q σ2 A2 (l2.trans l1) fun j hj => ?_
      have hj : j ∉ Pat.slots p ++ Pat.slotss ps := hj
      rw [List.mem_append, not_or] at hj
      rw [k2 j hj.2, k1 j hj.1]
theorem puts_len : ∀ {ps : List Pat} {ds : List DV} {env env' : LE}, Pat.puts ps ds env = some env' → ds.length = ps.length
  | [], [], _, _, _ => rfl
  | [], _ :: _, _, _, h => by cases h
  | _ :: _, [], _, _, h => by cases h
  | p :: ps, d :: ds, env, env', h => by
    have h : (match Pat.put p d env with | some e => Pat.puts ps ds e | none => none) = some env' := h
    cases e1 : Pat.put p d env with
    | none => rw [e1] at h; cases h
    | some env1 =>
      rw [e1] at h
      rw [List.length_cons, List.length_cons, puts_len h]
theorem pg_tp {es : List Expr} {k : Nat} {pos : Pos} {ps : List Pat} (hc : X.calm = true) (h : PGs X es (tGs X.K ps)) (hn : (assignEach es X.env).length = ps.length) (hst : (assignEach es X.env).findIdx? (·.1) = none) : PG X (.Tuple es k pos) (tG X.K (.tup ps)) := by
  refine PG.imp (L2.pg_tup hc h hn hst) fun v σ H Q h => ?_
  obtain ⟨env, m, φ, d, env', A, g, e, q⟩ := h
  cases d with
  | tup ds =>
    obtain ⟨a, xs, rfl, hs, g⟩ := g
    have e : Pat.puts ps ds env = some env' := e
    exact ⟨a, xs, rfl, hs, by rw [g.length, puts_len e], env, m, φ, ds, env', A, g, e, q⟩
  | _ => cases e
end
end Mp
end SMpG
section SMpH
set_option Elab.async false
set_option linter.all false
set_option maxHeartbeats 1000000
/-! MpH: the rules of expressions over the evaluator, one by one. -/
namespace Mp
open PySem PySem.Spec
open L2 (V Hp HO St TE TT TA TI TG TGs TS TO Ends Rd SqL SqT PE PT PA PS PSs PG PGs PI PO PW PTs Cx Inv RelV Vals upd upd_same upd_ne OpR VK R2 XK Sp Room Env0 Binds It Walk CallR)
section
variable {X : Cx} {a b c e x : Expr} {es xs : List Expr} {pos p2 : Pos} {f g h : LE → M RV}
theorem pe_fc (he : PE X e (tR X.K f)) : PE X e (tV X.K fun env m => (f env m).bind force) := PE.imp he fun σ H Q w => by
  obtain ⟨env, m, φ, d, m', A, e1, q⟩ := w
  obtain ⟨r, m1, e2, e1⟩ := Res.bind_inv e1
  refine ⟨env, m, φ, r, m1, A, e2, fun v H' φ' E M R => ?_⟩
  obtain ⟨φ2, hp, E2, M2, g⟩ := force_ok R E M e1
  exact q v H' φ2 E2 M2 g
theorem pa_nil' (cf : Nat → List DV → M RV) : PA X [] (tVs X.K (evs cf .nil)) := PA.imp L2.pa_nil fun σ H Q w => by
  obtain ⟨env, m, φ, d, m', A, e1, q⟩ := w
  cases e1
  exact q [] H φ (Ext.refl _ _) A.mr rfl
theorem pa_cons' {cf : Nat → List DV → M RV} {e' : E} {es' : Es} (he : PE X e (tR X.K (ev cf e'))) (ht : PA X es (tVs X.K (evs cf es'))) (hs : starEach (e :: es) X.env = (false, eval e X.env) :: starEach es X.env) :
    PA X (e :: es) (tVs X.K (evs cf (.cons e' es'))) := PA.imp (L2.pa_cons (pe_fc he) ht hs) fun σ H Q w => by
  obtain ⟨env, m, φ, d, m', A, e1, q⟩ := w
  obtain ⟨r, m1, e2, e1⟩ := Res.bind_inv e1
  obtain ⟨d1, m2, e3, e1⟩ := Res.bind_inv e1
  obtain ⟨ds, m3, e4, e1⟩ := Res.bind_inv e1
  cases e1
  refine ⟨env, m, φ, d1, m2, A, by show (ev cf e' env m).bind force = _; rw [e2]; exact e3, fun v H' φ' E M R => ⟨env, m2, φ', ds, _, A.ext E M, e4, fun vs H2 φ2 E2 M2 R2 => ?_⟩⟩
  exact q _ _ _ (E.trans E2) M2 ⟨v, vs, rfl, R.ext M E2, R2⟩
theorem pr_nil (cf : Nat → List DV → M RV) : PA X [] (tRs X.K (evrs cf .nil)) := PA.imp L2.pa_nil fun σ H Q w => by
  obtain ⟨env, m, φ, d, m', A, e1, q⟩ := w
  cases e1
  exact q [] H φ (Ext.refl _ _) A.mr rfl
theorem pr_cons {cf : Nat → List DV → M RV} {e' : E} {es' : Es} (he : PE X e (tR X.K (ev cf e'))) (ht : PA X es (tRs X.K (evrs cf es'))) (hs : starEach (e :: es) X.env = (false, eval e X.env) :: starEach es X.env) :
    PA X (e :: es) (tRs X.K (evrs cf (.cons e' es'))) := PA.imp (L2.pa_cons he ht hs) fun σ H Q w => by
  obtain ⟨env, m, φ, d, m', A, e1, q⟩ := w
  obtain ⟨r, m1, e2, e1⟩ := Res.bind_inv e1
  obtain ⟨ds, m3, e4, e1⟩ := Res.bind_inv e1
  cases e1
  refine ⟨env, m, φ, r, m1, A, e2, fun v H' φ' E M R => ⟨env, m1, φ', ds, _, A.ext E M, e4, fun vs H2 φ2 E2 M2 R2 => ?_⟩⟩
  exact q _ _ _ (E.trans E2) M2 ⟨v, vs, rfl, R.ext M E2, R2.base E E2⟩
theorem pe_v {i : Nat} {y : Str} (cf : Nat → List DV → M RV) (hN : X.N[i]? = some y) (hv : L2.Vis X.env.scope y) (hd : (y == ("__debug__" : Str)) = false) (hcd : (y == ("__classdict__" : Str)) = false) : PE X (.Name y pos) (tR X.K (ev cf (.v i))) :=
  PE.imp (L2.pe_var hN hv hd hcd) fun σ H Q w => by
    obtain ⟨env, m, φ, d, m', A, e1, q⟩ := w
    have e1 : (match env[i]? with | some (some d) => Res.ok (RV.val d) m | _ => .fail) = .ok d m' := e1
    split at e1
    · rename_i d1 hd1
      cases e1
      obtain ⟨v, h1, h2⟩ := A.er.at_ i _ hd1
      exact ⟨v, h1, q v H φ (Ext.refl _ _) A.mr h2⟩
    · cases e1
theorem pe_k {d : DV} {v : V} (cf : Nat → List DV → M RV) (h : PE X e (L2.tC v)) (g : ∀ H φ, VR X.K H φ d v) : PE X e (tR X.K (ev cf (.c d))) := PE.imp h fun σ H Q w => by
  obtain ⟨env, m, φ, r, m', A, e1, q⟩ := w
  cases e1
  exact q v H φ (Ext.refl _ _) A.mr (g H φ)
theorem pe_tp {cf : Nat → List DV → M RV} {es' : Es} {k : Nat} (h : PA X xs (tVs X.K (evs cf es'))) (hl : ∀ env m ds m', evs cf es' env m = .ok ds m' → ds.length ≤ 1000) : PE X (.Tuple xs k pos) (tR X.K (ev cf (.tup es'))) :=
  PE.imp (L2.pe_tup h) fun σ H Q w => by
    obtain ⟨env, m, φ, r, m', A, e1, q⟩ := w
    obtain ⟨ds, m1, e2, e1⟩ := Res.bind_inv e1
    cases e1
    refine ⟨env, m, φ, ds, _, A, e2, fun vs H' φ' E M R => ⟨?_, fun p hp => ?_⟩⟩
    · rw [R.length]
      exact Nat.le_of_lt (L2.small1000 (hl _ _ _ _ e2))
    · obtain ⟨E2, M2, g⟩ := new_tup E M hp R
      exact q _ _ _ E2 M2 g
theorem pe_ls {cf : Nat → List DV → M RV} {es' : Es} (h : PA X xs (tVs X.K (evs cf es'))) (hl : ∀ env m ds m', evs cf es' env m = .ok ds m' → ds.length ≤ 1000) : PE X (.List xs pos) (tR X.K (ev cf (.lst es'))) :=
  PE.imp (L2.pe_lst h) fun σ H Q w => by
    obtain ⟨env, m, φ, r, m', A, e1, q⟩ := w
    obtain ⟨ds, m1, e2, e1⟩ := Res.bind_inv e1
    cases e1
    refine ⟨env, m, φ, ds, _, A, e2, fun vs H' φ' E M R => ⟨?_, fun p hp => ?_⟩⟩
    · rw [R.length]
      exact Nat.le_of_lt (L2.small1000 (hl _ _ _ _ e2))
    · obtain ⟨E2, M2, g⟩ := new_lst E M hp R
      exact q _ _ _ E2 M2 g
theorem evs_len (cf : Nat → List DV → M RV) : ∀ (es : Es) (env : LE) (m : Mem) (ds : List DV) (m' : Mem), evs cf es env m = .ok ds m' → ds.length = es.len
  | .nil, _, _, _, _, h => by cases h; rfl
  | .cons e es, env, m, ds, m', h => by
    obtain ⟨r, m1, _, h⟩ := Res.bind_inv h
    obtain ⟨d1, m2, _, h⟩ := Res.bind_inv h
    obtain ⟨zs, m3, e4, h⟩ := Res.bind_inv h
    cases h
    rw [List.length_cons, evs_len cf es _ _ _ _ e4]
    rfl
theorem evrs_len (cf : Nat → List DV → M RV) : ∀ (es : Es) (env : LE) (m : Mem) (ds : List RV) (m' : Mem), evrs cf es env m = .ok ds m' → ds.length = es.len
  | .nil, _, _, _, _, h => by cases h; rfl
  | .cons e es, env, m, ds, m', h => by
    obtain ⟨r, m1, _, h⟩ := Res.bind_inv h
    obtain ⟨zs, m3, e4, h⟩ := Res.bind_inv h
    cases h
    rw [List.length_cons, evrs_len cf es _ _ _ _ e4]
    rfl
theorem pe_bin (op : Bop) (ha : PE X a (tR X.K f)) (hb : PE X b (tR X.K g)) : PE X (.BinOp a op.py b pos) (tR X.K fun env m => (f env m).bind fun x m1 => (g env m1).bind fun y m2 => Res.of (bin op m2 x y) m2) :=
  PE.imp (L2.pe_op (op_bin op) ha hb) fun σ H Q w => two w fun x y H2 φ0 φ m a b r m' T => by
    obtain ⟨E, M, ra, rb, go, q⟩ := T
    obtain ⟨go, rfl⟩ := Res.of_inv go
    exact ⟨_, φ0, φ, _, a, b, r, E, M, ra, rb, go, fun v H' => q v H' φ⟩
theorem pe_ng (ha : PE X a (tR X.K f)) : PE X (.UnaryOp .USub a pos) (tR X.K fun env m => (f env m).bind fun x m1 => match x with | .val (.int i) => .ok (.val (.int (-i))) m1 | _ => .fail) :=
  PE.imp (L2.pe_un L2.un_neg ha) fun σ H Q w => one w fun x H2 φ0 φ m a r m' E M R go q => by
    split at go
    · cases go
      exact ⟨_, R, q _ _ φ E M rfl⟩
    · cases go
theorem pe_nt (ha : PE X a (tR X.K f)) : PE X (.UnaryOp .Not a pos) (tR X.K fun env m => (f env m).bind fun x m1 => Res.of ((tru m1 x).map fun b => .val (.bl (!b))) m1) :=
  PE.imp (L2.pe_notT ha) fun σ H Q w => one w fun x H2 φ0 φ m a r m' E M R go q => by
    obtain ⟨go, rfl⟩ := Res.of_inv go
    obtain ⟨k, e1, rfl⟩ := Option.map_eq_some_iff.mp go
    exact ⟨k, tru_V R M e1, q _ _ φ E M rfl⟩
theorem pe_cp (hu : X.A.units + 64 < cLine) (op : Cop) (hm : behindInMarks op.py b = false) (ha : PE X a (tR X.K f)) (hb : PE X b (tR X.K g)) :
    PE X (.Compare a [op.py] [b] pos) (tR X.K fun env m => (f env m).bind fun x m1 => (g env m1).bind fun y m2 => Res.of ((cmpD op m2 x y).map fun b => .val (.bl b)) m2) :=
  PE.imp (L2.pe_cmpR (op_cmp hu op) ha hb hm) fun σ H Q w => two w fun x y H2 φ0 φ m a b r m' T => by
    obtain ⟨E, M, ra, rb, go, q⟩ := T
    obtain ⟨go, rfl⟩ := Res.of_inv go
    obtain ⟨k, e1, rfl⟩ := Option.map_eq_some_iff.mp go
    exact ⟨_, φ, _, a, b, k, M, ra, rb, e1, q _ _ φ E M rfl⟩
theorem pt_cp (hu : X.A.units + 64 < cLine) (op : Cop) (hm : behindInMarks op.py b = false) (ha : PE X a (tR X.K f)) (hb : PE X b (tR X.K g)) :
    PT X (.Compare a [op.py] [b] pos) (tT X.K fun env m => ((f env m).bind fun x m1 => (g env m1).bind fun y m2 => Res.of ((cmpD op m2 x y).map fun b => RV.val (.bl b)) m2).bind fun x m1 => Res.of (tru m1 x) m1) :=
  PT.imp (L2.pt_cmpR (op_cmp hu op) ha hb hm) fun σ H Q w => by
    obtain ⟨env, m, φ, t, m', A, e1, q⟩ := w
    obtain ⟨r, m1, e2, e1⟩ := Res.bind_inv e1
    obtain ⟨e1, rfl⟩ := Res.of_inv e1
    refine two (k := fun m2 x y => Res.of ((cmpD op m2 x y).map fun b => RV.val (.bl b)) m2) (Q := fun v H' => ∃ k, v = .bl k ∧ Q k H') ⟨env, m, φ, r, _, A, e2, fun v H' φ' E M R => ?_⟩ fun x y H2 φ0 φ m a b r m' T => ?_
    · obtain ⟨x1, m2, _, e2⟩ := Res.bind_inv e2
      obtain ⟨x2, m3, _, e2⟩ := Res.bind_inv e2
      obtain ⟨e2, e3⟩ := Res.of_inv e2
      obtain ⟨k, _, rfl⟩ := Option.map_eq_some_iff.mp e2
      cases e1
      exact ⟨_, R, q _ _ E M⟩
    · obtain ⟨E, M, ra, rb, go, q⟩ := T
      obtain ⟨go, rfl⟩ := Res.of_inv go
      obtain ⟨k, e1, rfl⟩ := Option.map_eq_some_iff.mp go
      exact ⟨_, φ, _, a, b, k, M, ra, rb, e1, q _ _ φ E M rfl⟩
/-- a chain of two -/
def chn (op op' : Cop) (f g h : LE → M RV) : LE → M RV := fun env m => (f env m).bind fun x m1 => (g env m1).bind fun y m2 => match cmpD op m2 x y with
    | some true => (h env m2).bind fun z m3 => Res.of ((cmpD op' m3 y z).map fun b => .val (.bl b)) m3
    | some false => .ok (.val (.bl false)) m2
    | none => .fail
theorem chn_ok {op op' : Cop} {σ : St} {H : Hp} {Q : VK} (w : tR X.K (chn op op' f g h) σ H Q) : L2.tChain (rC X.K op) (rC X.K op') (tR X.K f) (tR X.K g) (tR X.K h) σ H Q := by
  obtain ⟨env, m, φ, t, m', A, e1, q⟩ := w
  obtain ⟨x1, m1, e2, e1⟩ := Res.bind_inv e1
  obtain ⟨x2, m2, e3, e1⟩ := Res.bind_inv e1
  refine ⟨env, m, φ, x1, m1, A, e2, fun v1 H1 φ1 E1 M1 R1 => ⟨env, m1, φ1, x2, m2, A.ext E1 M1, e3, fun v2 H2 φ2 E2 M2 R2 => ?_⟩⟩
  cases e4 : cmpD op m2 x1 x2 with
  | none => simp only [e4] at e1; cases e1
  | some k =>
    have R1' := R1.ext M1 E2
    have R2' := R2.base E1 E2
    refine ⟨H, φ2, m2, x1, x2, k, M2, R1', R2', e4, k, rfl, ?_⟩
    cases k with
    | false =>
      simp only [e4] at e1
      cases e1
      rw [if_neg (by decide)]
      exact q _ _ _ (E1.trans E2) M2 rfl
    | true =>
      simp only [e4] at e1
      obtain ⟨x3, m3, e5, e1⟩ := Res.bind_inv e1
      obtain ⟨e1, rfl⟩ := Res.of_inv e1
      obtain ⟨k2, e6, rfl⟩ := Option.map_eq_some_iff.mp e1
      rw [if_pos rfl]
      refine ⟨env, m2, φ2, x3, _, (A.ext E1 M1).ext E2 M2, e5, fun v3 H3 φ3 E3 M3 R3 => ?_⟩
      exact ⟨H, φ3, _, x2, x3, k2, M3, R2'.ext M2 E3, R3.base (E1.trans E2) E3, e6, q _ _ _ ((E1.trans E2).trans E3) M3 rfl⟩
theorem chn_bl {op op' : Cop} {env : LE} {m m' : Mem} {r : RV} (e1 : chn op op' f g h env m = .ok r m') : ∃ k, r = .val (.bl k) := by
  obtain ⟨x1, m1, e2, e1⟩ := Res.bind_inv e1
  obtain ⟨x2, m2, e3, e1⟩ := Res.bind_inv e1
  cases e4 : cmpD op m2 x1 x2 with
  | none => simp only [e4] at e1; cases e1
  | some k => cases k with
    | false => simp only [e4] at e1; cases e1; exact ⟨_, rfl⟩
    | true =>
      simp only [e4] at e1
      obtain ⟨x3, m3, e5, e1⟩ := Res.bind_inv e1
      obtain ⟨e1, _⟩ := Res.of_inv e1
      obtain ⟨k2, e6, rfl⟩ := Option.map_eq_some_iff.mp e1
      exact ⟨_, rfl⟩
theorem pe_ch (hu : X.A.units + 64 < cLine) (op op' : Cop) (hm : lastMarks [op.py, op'.py] [b, c] = false) (ha : PE X a (tR X.K f)) (hb : PE X b (tR X.K g)) (hc : PE X c (tR X.K h)) : PE X (.Compare a [op.py, op'.py] [b, c] pos) (tR X.K (chn op op' f g h)) :=
  PE.imp (L2.pe_chain (op_cmp hu op) (op_cmp hu op') ha hb hc hm) fun _ _ _ w => chn_ok w
theorem pt_ch (hu : X.A.units + 64 < cLine) (op op' : Cop) (hm : lastMarks [op.py, op'.py] [b, c] = false) (ha : PE X a (tR X.K f)) (hb : PE X b (tR X.K g)) (hc : PE X c (tR X.K h)) :
    PT X (.Compare a [op.py, op'.py] [b, c] pos) (tT X.K fun env m => (chn op op' f g h env m).bind fun x m1 => Res.of (tru m1 x) m1) :=
  PT.imp (L2.pt_chain (op_cmp hu op) (op_cmp hu op') ha hb hc hm) fun σ H Q w => by
    obtain ⟨env, m, φ, t, m', A, e1, q⟩ := w
    obtain ⟨r, m1, e2, e1⟩ := Res.bind_inv e1
    obtain ⟨e1, rfl⟩ := Res.of_inv e1
    refine chn_ok (Q := fun v H' => ∃ k, v = .bl k ∧ Q k H') ⟨env, m, φ, r, _, A, e2, fun v H' φ' E M R => ?_⟩
    obtain ⟨k, rfl⟩ := chn_bl e2
    cases e1
    exact ⟨_, R, q _ _ E M⟩
theorem is_non {H : Hp} {φ : List Addr} {d : DV} {x : V} {K : PySem.W.Frag} (R : VR K H φ d x) : decide (x = .non) = decide (d = .non) := by
  cases d with
  | non => rw [show x = .non from R]; rfl
  | bl _ => rw [show x = .bl _ from R]; rfl
  | int _ => rw [show x = .int _ from R]; rfl
  | str _ => rw [show x = .str _ from R]; rfl
  | tup _ => obtain ⟨a, _, rfl, _⟩ := R; rfl
  | rl _ => obtain ⟨a, _, rfl, _⟩ := R; rfl
  | ref _ => obtain ⟨a, rfl, _⟩ := R; rfl
theorem is0_a {K : PySem.W.Frag} {H H2 : Hp} {φ0 φ : List Addr} {m m' : Mem} {a r : RV} {x : V} {Q : VK} (E : Ext φ0 H φ H2) (M : MR K H2 φ m) (R : RR K H φ H2 a x) (go : (match a with
    | .val d => Res.ok (RV.val (.bl (if false = true then !decide (d = DV.non) else decide (d = DV.non)))) m
    | .new _ => .ok (.val (.bl false)) m) = .ok r m') (q : ∀ v H' φ', Ext φ0 H φ' H' → MR K H' φ' m' → RR K H φ' H' r v → Q v H') : V.non = .non ∧ Q (.bl (decide (x = .non))) H2 := by
  refine ⟨rfl, ?_⟩
  cases a with
  | val d => cases go; rw [is_non (K := K) R]; exact q _ _ φ E M rfl
  | new o =>
    cases go
    obtain ⟨p, rfl, _⟩ := R
    exact q _ _ φ E M rfl
theorem is0_b {K : PySem.W.Frag} {H H2 : Hp} {φ0 φ : List Addr} {m m' : Mem} {a r : RV} {x : V} {Q : VK} (E : Ext φ0 H φ H2) (M : MR K H2 φ m) (R : RR K H φ H2 a x) (go : (match a with
    | .val d => Res.ok (RV.val (.bl (if true = true then !decide (d = DV.non) else decide (d = DV.non)))) m
    | .new _ => .ok (.val (.bl true)) m) = .ok r m') (q : ∀ v H' φ', Ext φ0 H φ' H' → MR K H' φ' m' → RR K H φ' H' r v → Q v H') : V.non = .non ∧ Q (.bl (!decide (x = .non))) H2 := by
  refine ⟨rfl, ?_⟩
  cases a with
  | val d => cases go; rw [is_non (K := K) R]; exact q _ _ φ E M rfl
  | new o =>
    cases go
    obtain ⟨p, rfl, _⟩ := R
    exact q _ _ φ E M rfl
theorem pe_is0 {neg : Bool} {j : Nat} (ha : PE X a (tR X.K f)) : PE X (.Compare a [if neg then .IsNot else .Is] [.Constant .none j p2] pos) (tR X.K fun env m => (f env m).bind fun x m1 => match x with
    | .val d => .ok (.val (.bl (if neg then !decide (d = .non) else decide (d = .non)))) m1
    | .new _ => .ok (.val (.bl neg)) m1) := by
  cases neg with
  | false => exact PE.imp (L2.pe_cmpR L2.op_isN ha L2.pe_non (L2.nomark _)) fun σ H Q w => one w fun x H2 φ0 φ m a r m' E M R go q => is0_a E M R go q
  | true => exact PE.imp (L2.pe_cmpR L2.op_notN ha L2.pe_non (L2.nomark _)) fun σ H Q w => one w fun x H2 φ0 φ m a r m' E M R go q => is0_b E M R go q
theorem pe_is1 {neg k : Bool} {j : Nat} (ha : PE X a (tR X.K f)) : PE X (.Compare a [if neg then .IsNot else .Is] [.Constant (.bool k) j p2] pos) (tR X.K fun env m => (f env m).bind fun x m1 => match x with
    | .val (.bl b) => .ok (.val (.bl (if neg then !decide (b = k) else decide (b = k)))) m1
    | _ => .fail) := by
  cases neg with
  | false =>
    refine PE.imp (L2.pe_cmpR L2.op_isBl ha L2.pe_bl (L2.nomark _)) fun σ H Q w => one w fun x H2 φ0 φ m a r m' E M R go q => ?_
    split at go
    · cases go; exact ⟨_, k, R, rfl, q _ _ φ E M rfl⟩
    · cases go
  | true =>
    refine PE.imp (L2.pe_cmpR L2.op_notBl ha L2.pe_bl (L2.nomark _)) fun σ H Q w => one w fun x H2 φ0 φ m a r m' E M R go q => ?_
    split at go
    · cases go; exact ⟨_, k, R, rfl, q _ _ φ E M rfl⟩
    · cases go
theorem pe_if {t : LE → M Bool} (hc : PT X c (tT X.K t)) (ha : PE X a (tR X.K f)) (hb : PE X b (tR X.K g)) : PE X (.IfExp c a b pos) (tR X.K fun env m => (t env m).bind fun k m1 => if k = true then f env m1 else g env m1) :=
  PE.imp (L2.pe_ifExp hc ha hb) fun σ H Q w => by
    obtain ⟨env, m, φ, r, m', A, e1, q⟩ := w
    obtain ⟨k, m1, e2, e1⟩ := Res.bind_inv e1
    refine ⟨env, m, φ, k, m1, A, e2, fun H' φ' E M => ?_⟩
    cases k with
    | true => exact ⟨env, m1, φ', r, m', A.ext E M, e1, fun v H2 φ2 E2 M2 R2 => q _ _ _ (E.trans E2) M2 (R2.base E E2)⟩
    | false => exact ⟨env, m1, φ', r, m', A.ext E M, e1, fun v H2 φ2 E2 M2 R2 => q _ _ _ (E.trans E2) M2 (R2.base E E2)⟩
theorem pe_it (hs : L2.PlainIx b) (ha : PE X a (tR X.K f)) (hb : PE X b (tR X.K g)) : PE X (.Subscript a b pos) (tR X.K fun env m => (f env m).bind fun x m1 => (g env m1).bind fun y m2 => Res.of (item m2 x y) m2) :=
  PE.imp (L2.pe_ix op_item ha hb hs) fun σ H Q w => two w fun x y H2 φ0 φ m a b r m' T => by
    obtain ⟨E, M, ra, rb, go, q⟩ := T
    obtain ⟨go, rfl⟩ := Res.of_inv go
    exact ⟨_, φ0, φ, _, a, b, r, E, M, ra, rb, go, fun v H' => q v H' φ⟩
theorem po_nil (cf : Nat → List DV → M RV) : PO X none (tP X.K (evPart cf .nil)) := PO.imp L2.po_none fun σ H Q w => by
  obtain ⟨env, m, φ, r, m', A, e1, q⟩ := w
  cases e1
  exact q _ _ (Ext.refl _ _) A.mr
theorem po_one {cf : Nat → List DV → M RV} {e' : E} {es' : Es} (he : PE X e (tR X.K (ev cf e'))) : PO X (some e) (tP X.K (evPart cf (.cons e' es'))) := PO.imp (L2.po_some he) fun σ H Q w => by
  obtain ⟨env, m, φ, r, m', A, e1, q⟩ := w
  obtain ⟨x, m1, e2, e1⟩ := Res.bind_inv e1
  refine ⟨env, m, φ, x, m1, A, e2, fun v H' φ' E M R => ?_⟩
  split at e1
  · cases e1; exact ⟨_, R, q _ _ E M⟩
  · cases e1
theorem pe_sl {lo hi : Option Expr} {l h : LE → M (Option Int)} (ha : PE X a (tR X.K f)) (hl : PO X lo (tP X.K l)) (hh : PO X hi (tP X.K h)) : PE X (.Subscript a (.Slice lo hi none p2) pos) (tR X.K fun env m => (f env m).bind fun x m1 => (l env m1).bind fun i m2 => (h env m2).bind fun j m3 => Res.of (slice m3 x i j) m3) :=
  PE.imp (L2.pe_slice op_slice ha hl hh) fun σ H Q w => by
    obtain ⟨env, m, φ, r, m', A, e1, q⟩ := w
    obtain ⟨x, m1, e2, e1⟩ := Res.bind_inv e1
    obtain ⟨i, m2, e3, e1⟩ := Res.bind_inv e1
    obtain ⟨j, m3, e4, e1⟩ := Res.bind_inv e1
    obtain ⟨e1, rfl⟩ := Res.of_inv e1
    refine ⟨env, m, φ, x, m1, A, e2, fun v H1 φ1 E1 M1 R1 => ⟨env, m1, φ1, i, m2, A.ext E1 M1, e3, fun H2 φ2 E2 M2 => ⟨env, m2, φ2, j, _, (A.ext E1 M1).ext E2 M2, e4, fun H3 φ3 E3 M3 => ?_⟩⟩⟩
    exact ⟨H, φ, φ3, _, x, r, (E1.trans E2).trans E3, M3, (R1.ext M1 E2).ext M2 E3, e1, fun v H' => q v H' φ3⟩
theorem pe_bl {cf : Nat → List DV → M RV} {bl : Blt} {es' : Es} {y : Str} (hc : X.calm = true) (hgd : X.A.guards = some []) (hu : X.A.units + 64 < cLine) (hn : y = bl.nm) (hg : L2.Gl X y) (hm : X.mg y = none) (ha : PA X (e :: es) (tRs X.K (evrs cf es')))
    (he : starEach (e :: es) X.env = (false, eval e X.env) :: starEach es X.env) (hpl : (backTo pos (starEach es X.env)).any (·.1) = false) : PE X (.Call (.Name y p2) (e :: es) [] pos) (tR X.K (ev cf (.blt bl es'))) := by
  have fin : ∀ {id : Value}, bl.val = id → PE X (.Call (.Name y p2) (e :: es) [] pos) (L2.tCB (rBlt X.K bl) (tRs X.K (evrs cf es'))) := fun {id} hid => by
    have hv := bl.boot
    rw [← hn] at hv
    have hc2 := call_blt hc hgd hu bl
    have n1 : y ≠ "__name__" := by rw [hn]; cases bl <;> decide
    have n2 : (y == ("__debug__" : Str)) = false := by rw [hn]; cases bl <;> decide
    cases bl with
    | abs => exact L2.pe_callB hc2 hg hm hv ha n1 n2 he hpl
    | int => exact L2.pe_callTy hc2 hg hm hv ha n1 n2 he hpl
    | len => exact L2.pe_callB hc2 hg hm hv ha n1 n2 he hpl
    | all => exact L2.pe_callB hc2 hg hm hv ha n1 n2 he hpl
    | any => exact L2.pe_callB hc2 hg hm hv ha n1 n2 he hpl
    | tuple => exact L2.pe_callTy hc2 hg hm hv ha n1 n2 he hpl
    | list => exact L2.pe_callTy hc2 hg hm hv ha n1 n2 he hpl
    | sum => exact L2.pe_callB hc2 hg hm hv ha n1 n2 he hpl
    | min => exact L2.pe_callB hc2 hg hm hv ha n1 n2 he hpl
    | max => exact L2.pe_callB hc2 hg hm hv ha n1 n2 he hpl
    | repr => exact L2.pe_callB hc2 hg hm hv ha n1 n2 he hpl
  refine PE.imp (fin rfl) fun σ H Q w => ?_
  obtain ⟨env, m, φ, r, m', A, e1, q⟩ := w
  obtain ⟨rs, m1, e2, e1⟩ := Res.bind_inv e1
  obtain ⟨e1, rfl⟩ := Res.of_inv e1
  exact ⟨env, m, φ, rs, _, A, e2, fun vs H' φ' E M R => ⟨H, φ, φ', _, rs, r, E, M, R, e1, fun v H2 => q v H2 φ'⟩⟩
/-- a call of a def -/
theorem pe_cl {cf : Nat → List DV → M RV} {k : Nat} {es' : Es} {fa : Addr} {fd : FuncData} {ps : List Str} {y : Str} {i : Nat} (F : FnG X.prog X.w X.K X.mg X.base k fa fd ps (spF X.K (cf i))) (hgd : X.A.guards = some []) (hr : Room k X.A) (hg : L2.Gl X y)
    (hm : X.mg y = some (.ref fa)) (hk : PySem.W.keepIn X.K (.ref fa) = true) (hb : Binds X.K fd ps []) (hdb : (y == ("__debug__" : Str)) = false) (ha : PA X xs (tVs X.K (evs cf es')))
    (he : ∀ e es, xs = e :: es → starEach (e :: es) X.env = (false, eval e X.env) :: starEach es X.env ∧ (backTo pos (starEach es X.env)).any (·.1) = false) (hl : xs.length = es'.len) : PE X (.Call (.Name y p2) xs [] pos) (tR X.K (ev cf (.call i es'))) := by
  cases xs with
  | cons e es =>
    obtain ⟨h1, h2⟩ := he e es rfl
    refine PE.imp (pe_go F hgd hr hg hm hk hb ha hdb h1 h2) fun σ H Q w => ?_
    obtain ⟨env, m, φ, r, m', A, e1, q⟩ := w
    obtain ⟨ds, m1, e2, e1⟩ := Res.bind_inv e1
    exact ⟨env, m, φ, ds, m1, A, e2, fun vs H' φ' E M R => ⟨ds, m1, φ', r, m', R, M, e1, fun v H2 φ2 E2 M2 R2 => q _ _ _ (E.trans E2) M2 (R2.base E E2)⟩⟩
  | nil =>
    refine PE.imp (pe_go0 F hgd hr hg hm hk hb hdb) fun σ H Q w => ?_
    obtain ⟨env, m, φ, r, m', A, e1, q⟩ := w
    obtain ⟨ds, m1, e2, e1⟩ := Res.bind_inv e1
    cases es' with
    | nil =>
      cases e2
      exact ⟨[], m, φ, r, m', rfl, A.mr, e1, fun v H2 φ2 E2 M2 R2 => q _ _ _ E2 M2 R2⟩
    | cons _ _ => simp [Es.len] at hl
end
end Mp
end SMpH
section SMpI
set_option Elab.async false
set_option linter.all false
set_option maxHeartbeats 1000000
/-! MpI: and, or, isinstance, append, comprehensions. -/
namespace Mp
open PySem PySem.Spec
open L2 (V Hp HO St TE TT TA TI TG TGs TS TO Ends Rd SqL SqT PE PT PA PS PSs PG PGs PI PO PW PTs Cx Inv RelV Vals upd upd_same upd_ne OpR VK R2 XK Sp Room Env0 Binds It Walk CallR TyX ClsV)
section
variable {K : PySem.W.Frag}
/-! ### stores -/
theorem idx_eq {l : List Addr} (h : l.Nodup) {i j : Nat} {a : Addr} (h1 : l[i]? = some a) (h2 : l[j]? = some a) : i = j := by
  obtain ⟨q1, e1⟩ := List.getElem?_eq_some_iff.mp h1
  obtain ⟨q2, e2⟩ := List.getElem?_eq_some_iff.mp h2
  exact (List.getElem_inj h).mp (e1.trans e2.symm)
theorem VR.over {H : Hp} {φ : List Addr} {D : Addr} {ys zs : List V} (h : H D = some (.lst ys)) {d : DV} {v : V} (g : VR K H φ d v) : VR K (upd H D (.lst zs)) φ d v := by
  have nd : ∀ {a u}, H a = some u → (∀ w, u ≠ .lst w) → (upd H D (.lst zs)) a = some u := fun {a u} e n => by
    rw [upd_ne]
    · exact e
    · intro z
      rw [z, h] at e
      cases e
      exact n ys rfl
  refine VR.mono (fun _ _ z => z) (fun a xs q => ?_) (fun a xs q => ?_) d v g
  · rcases q with (q | ⟨z, q⟩) | q
    · exact .inl (.inl (nd q (fun _ z => nomatch z)))
    · exact .inl (.inr ⟨z, nd q (fun _ z => nomatch z)⟩)
    · exact .inr q
  · rcases q with ⟨z, q⟩ | q
    · exact .inl ⟨z, nd q (fun _ z => nomatch z)⟩
    · exact .inr q
theorem VRs.over {H : Hp} {φ : List Addr} {D : Addr} {ys zs : List V} (h : H D = some (.lst ys)) : ∀ {ds : List DV} {vs : List V}, VRs K H φ ds vs → VRs K (upd H D (.lst zs)) φ ds vs
  | [], _, g => g
  | _ :: _, _, ⟨v, r, e, q, t⟩ => ⟨v, r, e, q.over h, VRs.over h t⟩
/-- a list without a number is written -/
theorem MR.over {H : Hp} {φ : List Addr} {m : Mem} {D : Addr} {ys zs : List V} (M : MR K H φ m) (h : H D = some (.lst ys)) (hn : D ∉ φ) : MR K (upd H D (.lst zs)) φ m := by
  refine ⟨M.len, M.nd, fun n a o h1 h2 => ?_⟩
  cases o with
  | lst ds =>
    obtain ⟨xs, e, g⟩ := M.ob n a _ h1 h2
    have na : a ≠ D := fun z => by
      subst z
      exact hn (List.mem_of_getElem? h1)
    exact ⟨xs, by rw [upd_ne na]; exact e, g.over h⟩
theorem Ext.over {H0 H : Hp} {φ0 φ : List Addr} {D : Addr} {o : HO} (E : Ext φ0 H0 φ H) (h : H0 D = none) : Ext φ0 H0 φ (upd H D o) :=
  ⟨E.pre, E.new, fun b u e hn => by
    rw [upd_ne (fun z => by rw [z, h] at e; cases e)]
    exact E.keep b u e hn⟩
/-- a list with a number is written -/
theorem MR.write {H : Hp} {φ : List Addr} {m : Mem} {n : Nat} {a : Addr} {ds ds' : List DV} {zs : List V} (M : MR K H φ m) (h1 : φ[n]? = some a) (h2 : m[n]? = some (.lst ds)) (g : VRs K H φ ds' zs) :
    MR K (upd H a (.lst zs)) φ (m.set n (.lst ds')) := by
  obtain ⟨xs, e, _⟩ := M.ob n a _ h1 h2
  refine ⟨by rw [List.length_set]; exact M.len, M.nd, fun j b o h3 h4 => ?_⟩
  by_cases hj : n = j
  · subst hj
    rw [h1] at h3
    cases h3
    rw [List.getElem?_set_self (List.getElem?_eq_some_iff.mp h2).1] at h4
    cases h4
    exact ⟨zs, upd_same, g.over e⟩
  · rw [List.getElem?_set_ne hj] at h4
    have nb : b ≠ a := fun z => by
      subst z
      exact hj (idx_eq M.nd h1 h3)
    cases o with
    | lst es =>
      obtain ⟨ys, e2, g2⟩ := M.ob j b _ h3 h4
      exact ⟨ys, by rw [upd_ne nb]; exact e2, g2.over e⟩
theorem Ext.write {H0 H : Hp} {φ0 φ : List Addr} {a : Addr} {o : HO} (E : Ext φ0 H0 φ H) (h : a ∈ φ) : Ext φ0 H0 φ (upd H a o) :=
  ⟨E.pre, E.new, fun b u e hn => by
    rw [upd_ne]
    · exact E.keep b u e hn
    · intro z
      rw [z] at e hn
      rcases E.new a h with q | q
      · exact hn q
      · rw [e] at q; cases q⟩
theorem Ext.mem {H0 H : Hp} {φ0 φ : List Addr} (E : Ext φ0 H0 φ H) {D : Addr} {o : HO} (h : H0 D = some o) (hn : D ∉ φ0) : D ∉ φ ∧ H D = some o := by
  refine ⟨fun z => ?_, E.keep D o h hn⟩
  rcases E.new D z with q | q
  · exact hn q
  · rw [h] at q; cases q
/-! ### and, or -/
variable {X : Cx} {a b c e x : Expr} {es xs rest : List Expr} {pos p2 : Pos} {f g h : LE → M RV} {cf : Nat → List DV → M RV} {e' e2 : E} {es' : Es}
theorem pe_a1 (ha : PE X a (tR X.K (ev cf e'))) : PE X (.BoolOp .And [a] pos) (tR X.K (evAnd cf (.cons e' .nil))) := PE.imp (L2.pe_one ha) fun σ H Q w => w
theorem pe_o1 (ha : PE X a (tR X.K (ev cf e'))) : PE X (.BoolOp .Or [a] pos) (tR X.K (evOr cf (.cons e' .nil))) := PE.imp (L2.pe_one ha) fun σ H Q w => w
theorem pe_a2 (ha : PE X a (tR X.K (ev cf e'))) (hb : PE X (.BoolOp .And (b :: rest) pos) (tR X.K (evAnd cf (.cons e2 es')))) : PE X (.BoolOp .And (a :: b :: rest) pos) (tR X.K (evAnd cf (.cons e' (.cons e2 es')))) :=
  PE.imp (L2.pe_andT ha hb) fun σ H Q w => by
    obtain ⟨env, m, φ, r, m', A, e1, q⟩ := w
    obtain ⟨x, m1, e3, e1⟩ := Res.bind_inv (show ((ev cf e' env m).bind fun x m1 => match tru m1 x with | some true => evAnd cf (.cons e2 es') env m1 | some false => .ok x m1 | none => .fail) = _ from e1)
    refine ⟨env, m, φ, x, m1, A, e3, fun v H1 φ1 E1 M1 R1 => ?_⟩
    cases e4 : tru m1 x with
    | none => simp only [e4] at e1; cases e1
    | some k =>
      refine ⟨k, tru_V R1 M1 e4, ?_⟩
      cases k with
      | true =>
        simp only [e4] at e1
        rw [if_pos rfl]
        exact ⟨env, m1, φ1, r, m', A.ext E1 M1, e1, fun v2 H2 φ2 E2 M2 R2 => q _ _ _ (E1.trans E2) M2 (R2.base E1 E2)⟩
      | false =>
        simp only [e4] at e1
        cases e1
        rw [if_neg (by decide)]
        exact q _ _ _ E1 M1 R1
theorem pe_o2 (ha : PE X a (tR X.K (ev cf e'))) (hb : PE X (.BoolOp .Or (b :: rest) pos) (tR X.K (evOr cf (.cons e2 es')))) : PE X (.BoolOp .Or (a :: b :: rest) pos) (tR X.K (evOr cf (.cons e' (.cons e2 es')))) :=
  PE.imp (L2.pe_orT ha hb) fun σ H Q w => by
    obtain ⟨env, m, φ, r, m', A, e1, q⟩ := w
    obtain ⟨x, m1, e3, e1⟩ := Res.bind_inv (show ((ev cf e' env m).bind fun x m1 => match tru m1 x with | some true => .ok x m1 | some false => evOr cf (.cons e2 es') env m1 | none => .fail) = _ from e1)
    refine ⟨env, m, φ, x, m1, A, e3, fun v H1 φ1 E1 M1 R1 => ?_⟩
    cases e4 : tru m1 x with
    | none => simp only [e4] at e1; cases e1
    | some k =>
      refine ⟨k, tru_V R1 M1 e4, ?_⟩
      cases k with
      | false =>
        simp only [e4] at e1
        rw [if_neg (by decide)]
        exact ⟨env, m1, φ1, r, m', A.ext E1 M1, e1, fun v2 H2 φ2 E2 M2 R2 => q _ _ _ (E1.trans E2) M2 (R2.base E1 E2)⟩
      | true =>
        simp only [e4] at e1
        cases e1
        rw [if_pos rfl]
        exact q _ _ _ E1 M1 R1
/-- the truth of what f gives -/
def tst (f : LE → M RV) : LE → M Bool := fun env m => (f env m).bind fun x m1 => Res.of (tru m1 x) m1
theorem pw_a1 (ha : PT X a (tT X.K (tst (ev cf e')))) : PW X (.BoolOp .And [a] pos) (tT X.K (tst (evAnd cf (.cons e' .nil)))) := L2.pw_and1 ha
theorem pw_o1 (ha : PT X a (tT X.K (tst (ev cf e')))) : PW X (.BoolOp .Or [a] pos) (tT X.K (tst (evOr cf (.cons e' .nil)))) := L2.pw_or1 ha
theorem PW.imp {t t' : TT} (h : PW X e t) (w : ∀ σ H Q, t' σ H Q → t σ H Q) : PW X e t' := ⟨fun wh pins s σ H Q I q => h.run wh pins s σ H Q I (w σ H Q q)⟩
theorem pw_a2 (ha : PT X a (tT X.K (tst (ev cf e')))) (hb : PW X (.BoolOp .And (b :: rest) pos) (tT X.K (tst (evAnd cf (.cons e2 es'))))) : PW X (.BoolOp .And (a :: b :: rest) pos) (tT X.K (tst (evAnd cf (.cons e' (.cons e2 es'))))) :=
  PW.imp (L2.pw_and ha hb) fun σ H Q w => by
    obtain ⟨env, m, φ, t, m', A, e1, q⟩ := w
    obtain ⟨r, m2, e1, e5⟩ := Res.bind_inv e1
    obtain ⟨x, m1, e3, e1⟩ := Res.bind_inv (show ((ev cf e' env m).bind fun x m1 => match tru m1 x with | some true => evAnd cf (.cons e2 es') env m1 | some false => .ok x m1 | none => .fail) = _ from e1)
    cases e4 : tru m1 x with
    | none => simp only [e4] at e1; cases e1
    | some k =>
      refine ⟨env, m, φ, k, m1, A, by show (ev cf e' env m).bind _ = _; rw [e3]; show Res.of (tru m1 x) m1 = _; rw [e4]; rfl, fun H1 φ1 E1 M1 => ?_⟩
      cases k with
      | true =>
        simp only [e4] at e1
        rw [if_pos rfl]
        exact ⟨env, m1, φ1, t, m', A.ext E1 M1, by show (evAnd cf (.cons e2 es') env m1).bind _ = _; rw [e1]; exact e5, fun H2 φ2 E2 M2 => q _ _ (E1.trans E2) M2⟩
      | false =>
        simp only [e4] at e1
        cases e1
        obtain ⟨e5, rfl⟩ := Res.of_inv e5
        rw [e4] at e5
        cases e5
        rw [if_neg (by decide)]
        exact q _ _ E1 M1
theorem pw_o2 (ha : PT X a (tT X.K (tst (ev cf e')))) (hb : PW X (.BoolOp .Or (b :: rest) pos) (tT X.K (tst (evOr cf (.cons e2 es'))))) : PW X (.BoolOp .Or (a :: b :: rest) pos) (tT X.K (tst (evOr cf (.cons e' (.cons e2 es'))))) :=
  PW.imp (L2.pw_or ha hb) fun σ H Q w => by
    obtain ⟨env, m, φ, t, m', A, e1, q⟩ := w
    obtain ⟨r, m2, e1, e5⟩ := Res.bind_inv e1
    obtain ⟨x, m1, e3, e1⟩ := Res.bind_inv (show ((ev cf e' env m).bind fun x m1 => match tru m1 x with | some true => .ok x m1 | some false => evOr cf (.cons e2 es') env m1 | none => .fail) = _ from e1)
    cases e4 : tru m1 x with
    | none => simp only [e4] at e1; cases e1
    | some k =>
      refine ⟨env, m, φ, k, m1, A, by show (ev cf e' env m).bind _ = _; rw [e3]; show Res.of (tru m1 x) m1 = _; rw [e4]; rfl, fun H1 φ1 E1 M1 => ?_⟩
      cases k with
      | false =>
        simp only [e4] at e1
        rw [if_neg (by decide)]
        exact ⟨env, m1, φ1, t, m', A.ext E1 M1, by show (evOr cf (.cons e2 es') env m1).bind _ = _; rw [e1]; exact e5, fun H2 φ2 E2 M2 => q _ _ (E1.trans E2) M2⟩
      | true =>
        simp only [e4] at e1
        cases e1
        obtain ⟨e5, rfl⟩ := Res.of_inv e5
        rw [e4] at e5
        cases e5
        rw [if_pos rfl]
        exact q _ _ E1 M1
theorem pt_nt (ha : PT X a (tT X.K (tst f))) : PT X (.UnaryOp .Not a pos) (tT X.K (tst fun env m => (f env m).bind fun x m1 => Res.of ((tru m1 x).map fun b => .val (.bl (!b))) m1)) :=
  PT.imp (L2.pt_not ha) fun σ H Q w => by
    obtain ⟨env, m, φ, t, m', A, e1, q⟩ := w
    obtain ⟨r, m2, e1, e5⟩ := Res.bind_inv e1
    obtain ⟨x, m1, e3, e1⟩ := Res.bind_inv e1
    obtain ⟨e1, rfl⟩ := Res.of_inv e1
    obtain ⟨k, e6, rfl⟩ := Option.map_eq_some_iff.mp e1
    obtain ⟨e5, rfl⟩ := Res.of_inv e5
    cases e5
    exact ⟨env, m, φ, k, _, A, by show (f env m).bind _ = _; rw [e3]; show Res.of (tru _ x) _ = _; rw [e6]; rfl, fun H1 φ1 E1 M1 => q _ _ E1 M1⟩
theorem pt_tr (ha : PE X a (tR X.K f)) (he : ∀ whole, isTrue a X.env whole = (do let v ← whole; standAt a.pos; holding [v] (truthy v))) : PT X a (tT X.K (tst f)) :=
  PT.imp (L2.pt_truth ha he) fun σ H Q w => by
    obtain ⟨env, m, φ, t, m', A, e1, q⟩ := w
    obtain ⟨r, m2, e1, e5⟩ := Res.bind_inv e1
    obtain ⟨e5, rfl⟩ := Res.of_inv e5
    exact ⟨env, m, φ, r, _, A, e1, fun v H1 φ1 E1 M1 R1 => ⟨t, tru_V R1 M1 e5, q _ _ E1 M1⟩⟩
theorem tst_of {K : PySem.W.Frag} {F : LE → M RV} (hb : ∀ env m r m', F env m = .ok r m' → ∃ b, r = .val (.bl b)) {σ : St} {H : Hp} {Q : Bool → Hp → Prop} (w : tT K (tst F) σ H Q) : tR K F σ H fun v H' => ∃ k, v = .bl k ∧ Q k H' := by
  obtain ⟨env, m, φ, t, m', A, e1, q⟩ := w
  obtain ⟨r, m2, e1, e5⟩ := Res.bind_inv e1
  obtain ⟨e5, rfl⟩ := Res.of_inv e5
  obtain ⟨b, rfl⟩ := hb _ _ _ _ e1
  cases e5
  exact ⟨env, m, φ, _, _, A, e1, fun v H1 φ1 E1 M1 R1 => ⟨_, R1, q _ _ E1 M1⟩⟩
theorem pt_is0 {neg : Bool} {j : Nat} (ha : PE X a (tR X.K f)) : PT X (.Compare a [if neg then .IsNot else .Is] [.Constant .none j p2] pos) (tT X.K (tst fun env m => (f env m).bind fun x m1 => match x with
    | .val d => .ok (.val (.bl (if neg then !decide (d = DV.non) else decide (d = DV.non)))) m1
    | .new _ => .ok (.val (.bl neg)) m1)) := by
  have hb : ∀ env m r m', ((f env m).bind fun x m1 => match x with
    | .val d => Res.ok (RV.val (.bl (if neg then !decide (d = DV.non) else decide (d = DV.non)))) m1
    | .new _ => .ok (.val (.bl neg)) m1) = .ok r m' → ∃ b, r = .val (.bl b) := fun env m r m' e1 => by
    obtain ⟨x1, m1, e2, e1⟩ := Res.bind_inv e1
    split at e1 <;> (cases e1; exact ⟨_, rfl⟩)
  cases neg with
  | false => exact PT.imp (L2.pt_cmpR L2.op_isN ha L2.pe_non (L2.nomark _)) fun σ H Q w => one (tst_of hb w) fun x H2 φ0 φ m a r m' E M R go q => is0_a E M R go q
  | true => exact PT.imp (L2.pt_cmpR L2.op_notN ha L2.pe_non (L2.nomark _)) fun σ H Q w => one (tst_of hb w) fun x H2 φ0 φ m a r m' E M R go q => is0_b E M R go q
theorem pt_is1 {neg k : Bool} {j : Nat} (ha : PE X a (tR X.K f)) : PT X (.Compare a [if neg then .IsNot else .Is] [.Constant (.bool k) j p2] pos) (tT X.K (tst fun env m => (f env m).bind fun x m1 => match x with
    | .val (.bl b) => .ok (.val (.bl (if neg then !decide (b = k) else decide (b = k)))) m1
    | _ => .fail)) := by
  have hb : ∀ env m r m', ((f env m).bind fun x m1 => match x with
    | .val (.bl b) => Res.ok (RV.val (.bl (if neg then !decide (b = k) else decide (b = k)))) m1
    | _ => .fail) = .ok r m' → ∃ b, r = .val (.bl b) := fun env m r m' e1 => by
    obtain ⟨x1, m1, e2, e1⟩ := Res.bind_inv e1
    split at e1 <;> cases e1
    exact ⟨_, rfl⟩
  cases neg with
  | false =>
    refine PT.imp (L2.pt_cmpR L2.op_isBl ha L2.pe_bl (L2.nomark _)) fun σ H Q w => one (tst_of hb w) fun x H2 φ0 φ m a r m' E M R go q => ?_
    split at go
    · cases go; exact ⟨_, k, R, rfl, q _ _ φ E M rfl⟩
    · cases go
  | true =>
    refine PT.imp (L2.pt_cmpR L2.op_notBl ha L2.pe_bl (L2.nomark _)) fun σ H Q w => one (tst_of hb w) fun x H2 φ0 φ m a r m' E M R go q => ?_
    split at go
    · cases go; exact ⟨_, k, R, rfl, q _ _ φ E M rfl⟩
    · cases go
theorem pt_if {t : LE → M Bool} {f g : LE → M RV} (hc : PT X c (tT X.K t)) (ha : PT X a (tT X.K (tst f))) (hb : PT X b (tT X.K (tst g))) : PT X (.IfExp c a b pos) (tT X.K (tst fun env m => (t env m).bind fun k m1 => if k = true then f env m1 else g env m1)) := by
  refine ⟨fun pins s σ H Q I w => ?_⟩
  obtain ⟨env, m, φ, r, m', A, e1, q⟩ := w
  obtain ⟨x, m2, e1, e5⟩ := Res.bind_inv e1
  obtain ⟨k, m1, e2, e1⟩ := Res.bind_inv e1
  refine PyProof.Rows.isTrue_IfExp (L2.thn (hc.run pins s σ H (fun k' H1 => k' = k ∧ ∃ φ1, Ext φ H φ1 H1 ∧ MR X.K H1 φ1 m1) I ⟨env, m, φ, k, m1, A, e2, fun H1 φ1 E1 M1 => ⟨rfl, φ1, E1, M1⟩⟩) fun k' s1 ⟨H1, I1, ek, φ1, E1, M1⟩ => ?_)
  subst ek
  cases k' with
  | true => exact ha.run pins s1 σ H1 Q I1 ⟨env, m1, φ1, r, m', A.ext E1 M1, by show (f env m1).bind _ = _; rw [show f env m1 = _ from e1]; exact e5, fun H2 φ2 E2 M2 => q _ _ (E1.trans E2) M2⟩
  | false => exact hb.run pins s1 σ H1 Q I1 ⟨env, m1, φ1, r, m', A.ext E1 M1, by show (g env m1).bind _ = _; rw [show g env m1 = _ from e1]; exact e5, fun H2 φ2 E2 M2 => q _ _ (E1.trans E2) M2⟩
/-! ### isinstance -/
def Ty.nm : Ty → String
  | .int => "int" | .bool => "bool" | .str => "str" | .tuple => "tuple" | .list => "list" | .non => "NoneType"
theorem kit_sub (t u : Ty) (hu : u ≠ .non) : PySem.W.kitOne K (.type t.nm) (.type u.nm) = some (t.sub u) := L2.kit_ty (by cases u <;> first | exact absurd rfl hu | (cases t <;> decide +kernel))
theorem ty_X {H0 H : Hp} {φ : List Addr} {m : Mem} {r : RV} {x : V} {t : Ty} (R : RR K H0 φ H r x) (M : MR K H φ m) (e : tyOf m r = some t) : TyX K H x (.type t.nm) := by
  have tupT : ∀ {a : Addr} {xs : List V}, SqT K H a xs → TyX K H (.ref a) (.type "tuple") := fun {a xs} h => by
    rcases h with (h | ⟨o, h⟩) | ⟨o, its, n, h1, h2, _⟩
    · exact .base (.tup h)
    · exact .fTuple h
    · exact .kTuple h1 h2
  cases r with
  | new o =>
    cases o with
    | lst zs =>
      obtain ⟨a, rfl, _, _, ds, xs, _, h, _⟩ := R
      cases e
      exact .base (.lst h)
  | val d =>
    cases d with
    | non => cases e; rw [show x = .non from R]; exact .base .non
    | bl b => cases e; rw [show x = .bl b from R]; exact .base (.bl b)
    | int b => cases e; rw [show x = .int b from R]; exact .base (.int b)
    | str b => cases e; rw [show x = .str b from R]; exact .base (.str b)
    | tup ds =>
      cases e
      obtain ⟨a, xs, rfl, h, _⟩ := R
      exact tupT h
    | rl ds =>
      cases e
      obtain ⟨a, xs, rfl, h, _⟩ := R
      rcases h with ⟨o, h⟩ | (h | ⟨o, h⟩) | ⟨o, its, n, h1, h2, _⟩
      · exact .base (.frz h)
      · cases h
      · cases h
      · exact .kList h1 h2
    | ref n =>
      obtain ⟨a, rfl, hn⟩ := R
      have e : (match seqOf m (.val (.ref n)) with | some (true, _, _) => some Ty.list | some (false, _, _) => some .tuple | none => none) = some t := e
      have e3 : seqOf m (.val (.ref n)) = (match m[n]? with | some o => some (true, o.items, [n]) | none => none) := rfl
      rw [e3] at e
      cases e2 : m[n]? with
      | none => rw [e2] at e; cases e
      | some o =>
        rw [e2] at e
        cases o with
        | lst zs =>
          cases e
          obtain ⟨xs, h, _⟩ := M.ob n a _ hn e2
          exact .base (.lst h)
theorem isi_ev {σ : St} {H : Hp} {Q : VK} {ts : List Ty} {R : V → Hp → Prop} (w : tR K (fun env m => (f env m).bind fun x m1 => Res.of ((isiD m1 x ts).map fun b => .val (.bl b)) m1) σ H Q)
    (k : ∀ x H1 φ1 m1 r t, MR K H1 φ1 m1 → RR K H φ1 H1 r x → tyOf m1 r = some t → (∀ H2, Ext φ1 H1 φ1 H2 → MR K H2 φ1 m1 → Q (.bl (ts.any fun u => t.sub u)) H2) → R x H1) : tR K f σ H R := by
  obtain ⟨env, m, φ, r, m', A, e1, q⟩ := w
  obtain ⟨x, m1, e2, e1⟩ := Res.bind_inv e1
  obtain ⟨e1, rfl⟩ := Res.of_inv e1
  obtain ⟨b, e3, rfl⟩ := Option.map_eq_some_iff.mp e1
  obtain ⟨t, e4, rfl⟩ := Option.map_eq_some_iff.mp e3
  exact ⟨env, m, φ, x, _, A, e2, fun v H1 φ1 E1 M1 R1 => k v H1 φ1 _ x t M1 R1 e4 fun H2 E2 M2 => q _ _ _ (E1.trans E2) M2 rfl⟩
/-- a class's name -/
def TyN (X : Cx) (t : Ty) (x : Expr) : Prop := ∃ y p, x = .Name y p ∧ y = Str.ofString t.nm ∧ L2.Gl X y ∧ X.mg y = none ∧ t ≠ .non
theorem pe_tyn {t : Ty} (h : TyN X t x) : PE X x (L2.tC (.ty t.nm)) := by
  obtain ⟨y, p, rfl, rfl, hg, hm, hn⟩ := h
  refine L2.pe_bltn hg hm (u := .type t.nm) ?_ rfl ?_ ?_ <;> cases t <;> first | exact absurd rfl hn | decide +kernel
theorem pe_is {t : Ty} (hg : L2.Gl X "isinstance") (hm : X.mg "isinstance" = none) (ha : PE X a (tR X.K f)) (ht : TyN X t x) (he : starEach [a, x] X.env = (false, eval a X.env) :: starEach [x] X.env) (he2 : starEach [x] X.env = [(false, eval x X.env)]) :
    PE X (.Call (.Name "isinstance" p2) [a, x] [] pos) (tR X.K fun env m => (f env m).bind fun x m1 => Res.of ((isiD m1 x [t]).map fun b => .val (.bl b)) m1) := by
  refine PE.imp (L2.pe_callB L2.call_isi hg hm PyProof.Rows.boot_isinstance (L2.pa_cons ha (L2.pa_cons (pe_tyn ht) L2.pa_nil (by rw [he2]; rfl)) he) (by decide) (by decide) he (by rw [he2]; rfl)) fun σ H Q w => ?_
  refine isi_ev w fun v H1 φ1 m1 r u M1 R1 e q => ?_
  obtain ⟨_, _, _, _, _, _, hn⟩ := ht
  exact ⟨v, .ty t.nm, .type u.nm, .type t.nm, u.sub t, rfl, .ty _, ty_X R1 M1 e, kit_sub u t hn, by simpa using q H1 (Ext.refl _ _) M1⟩
theorem pa_tys : ∀ {ts : List Ty} {xs : List Expr}, PySem.Paired (TyN X) ts xs → (∀ e es, (e :: es) <:+ xs → starEach (e :: es) X.env = (false, eval e X.env) :: starEach es X.env) → PA X xs (fun _ H Q => Q (ts.map fun t => .ty t.nm) H)
  | _, _, .nil, _ => L2.pa_nil
  | _, _, .cons h t, hs => PA.imp (L2.pa_cons (pe_tyn h) (pa_tys t fun e es q => hs e es (q.trans (List.suffix_cons ..))) (hs _ _ (List.suffix_refl _))) fun σ H Q w => w
theorem kit_any {t : Ty} : ∀ {ts : List Ty}, (∀ u ∈ ts, u ≠ .non) → PySem.W.kitAny K (.type t.nm) (ts.map fun u => .type u.nm) = some (ts.any fun u => t.sub u)
  | [], _ => L2.kitAny_nil
  | u :: ts, h => by
    refine L2.kitAny_cons (kit_sub t u (h u (by simp))) (fun e => ?_) fun e => ?_
    · rw [kit_any fun v hv => h v (by simp [hv]), List.any_cons, e, Bool.false_or]
    · rw [List.any_cons, e, Bool.true_or]
theorem pe_is2 {ts : List Ty} {k : Nat} {p3 : Pos} (hg : L2.Gl X "isinstance") (hm : X.mg "isinstance" = none) (ha : PE X a (tR X.K f)) (ht : PySem.Paired (TyN X) ts xs) (hl : ts.length ≤ 1000) (he : starEach [a, .Tuple xs k p3] X.env = (false, eval a X.env) :: starEach [.Tuple xs k p3] X.env)
    (hs : ∀ e es, (e :: es) <:+ xs → starEach (e :: es) X.env = (false, eval e X.env) :: starEach es X.env) :
    PE X (.Call (.Name "isinstance" p2) [a, .Tuple xs k p3] [] pos) (tR X.K fun env m => (f env m).bind fun x m1 => Res.of ((isiD m1 x ts).map fun b => .val (.bl b)) m1) := by
  refine PE.imp (L2.pe_callB L2.call_isiT hg hm PyProof.Rows.boot_isinstance (L2.pa_cons ha (L2.pa_cons (L2.pe_tup (pa_tys ht hs)) L2.pa_nil rfl) he) (by decide) (by decide) he rfl) fun σ H Q w => ?_
  refine isi_ev w fun v H1 φ1 m1 r u M1 R1 e q => ?_
  have hn : ∀ u ∈ ts, u ≠ .non := fun u hu => by
    obtain ⟨i, hi, e⟩ := List.getElem_of_mem hu
    have : ∀ {ts : List Ty} {xs : List Expr}, PySem.Paired (TyN X) ts xs → ∀ u ∈ ts, u ≠ .non := fun {ts xs} p => by
      induction p with
      | nil => intro u h; cases h
      | cons a b ih =>
        intro u h
        rcases List.mem_cons.mp h with rfl | h
        · obtain ⟨_, _, _, _, _, _, z⟩ := a; exact z
        · exact ih u h
    exact this ht u hu
  refine ⟨by rw [List.length_map]; exact Nat.le_of_lt (L2.small1000 hl), fun p hp => ?_⟩
  have E2 : Ext φ1 H1 φ1 (upd H1 p (.tup (ts.map fun t => .ty t.nm))) := (Ext.refl _ _).laid hp
  have M2 : MR X.K (upd H1 p (.tup (ts.map fun t => .ty t.nm))) φ1 m1 := M1.laid hp
  refine ⟨v, p, _, .type u.nm, ts.map fun u => .type u.nm, _, rfl, upd_same, ?_, ty_X (R1.ext M1 E2) M2 e, kit_any hn, q _ E2 M2⟩
  have : ∀ ts : List Ty, PySem.Paired ClsV (ts.map fun t => V.ty t.nm) (ts.map fun u => Value.type u.nm) := fun ts => by
    induction ts with
    | nil => exact .nil
    | cons t ts ih => exact .cons (.ty _) ih
  exact this ts
end
end Mp
end SMpI
section SMpJ
set_option Elab.async false
set_option linter.all false
set_option maxHeartbeats 1000000
/-! MpJ: append, comprehensions. -/
namespace Mp
open PySem PySem.Spec
open L2 (V Hp HO St TE TT TA TI TG TGs TS TO Ends Rd SqL SqT PE PT PA PS PSs PG PGs PI PO PW PTs Cx Inv RelV Vals upd upd_same upd_ne OpR VK R2 XK Sp Room Env0 Binds It Walk CallR)
section
variable {X : Cx} {a b c e x o : Expr} {es xs rest : List Expr} {pos p2 ap : Pos} {f g h : LE → M RV} {cf : Nat → List DV → M RV} {e' e2 : E} {es' : Es}
theorem pe_app {o' : E} (ho : PE X o (tR X.K (ev cf o'))) (ha : PA X [e] (tVs X.K (evs cf es'))) (hb : attributeBase o "append" X.env (eval o X.env) = eval o X.env) (hl : (ap.endLine == pos.line) = true) (hs : starEach [e] X.env = (false, eval e X.env) :: starEach [] X.env) :
    PE X (.Call (.Attribute o "append" ap) [e] [] pos) (tR X.K (ev cf (.mth .append o' es'))) := by
  refine PE.imp (L2.pe_bm PySem.F.plainAttrs_list PySem.F.slot_list_append PySem.F.type_list_append L2.mt_append ho ha hb (by rw [hs]; rfl) hl hs rfl) fun σ H Q w => ?_
  obtain ⟨env, m, φ, r, m', A, e1, q⟩ := w
  obtain ⟨x, m1, e2, e1⟩ := Res.bind_inv e1
  obtain ⟨ds, m2, e3, e1⟩ := Res.bind_inv e1
  refine ⟨env, m, φ, x, m1, A, e2, fun v H1 φ1 E1 M1 R1 => ?_⟩
  have shape : ∃ n zs d, x = .val (.ref n) ∧ ds = [d] ∧ m2[n]? = some (.lst zs) ∧ zs.length < sizeLine ∧ r = .val .non ∧ m' = m2.set n (.lst (zs ++ [d])) := by
    unfold mthD at e1
    split at e1
    · rename_i r0 m0 hq
      cases e1
      split at hq <;> first | contradiction | skip
      rename_i n d _
      split at hq
      · rename_i zs hz
        split at hq
        · rename_i hlt
          cases hq
          exact ⟨n, zs, d, rfl, rfl, hz, hlt, rfl, rfl⟩
        · cases hq
      · cases hq
    · cases e1
  obtain ⟨n, zs, d, rfl, rfl, hz, hlt, rfl, rfl⟩ := shape
  obtain ⟨l, rfl, hn⟩ := R1
  have ty1 : ∃ ys, SqL X.K H1 l ys := by
    obtain ⟨ys, h⟩ := M1.plain (List.mem_of_getElem? hn)
    exact ⟨ys, .inl (.inl h)⟩
  refine ⟨.inl ⟨rfl, ty1⟩, env, m1, φ1, [d], m2, A.ext E1 M1, e3, fun vs H2 φ2 E2 M2 R2 => ?_⟩
  obtain ⟨y, us, rfl, gy, gu⟩ := R2
  rw [show us = [] from gu]
  have hn2 := E2.pre n l hn
  obtain ⟨ys, hy, g2⟩ := M2.ob n l _ hn2 hz
  refine ⟨l, ys, y, rfl, rfl, hy, by rw [g2.length]; exact hlt, ?_⟩
  exact q _ _ φ2 ((E1.trans E2).write (List.mem_of_getElem? hn2)) (M2.write hn2 hz (g2.snoc gy)) rfl
theorem VRs.dropLast {K : PySem.W.Frag} {H : Hp} {φ : List Addr} {ds : List DV} {vs : List V} (h : VRs K H φ ds vs) : VRs K H φ ds.dropLast vs.dropLast := by
  rw [List.dropLast_eq_take, List.dropLast_eq_take, h.length]
  exact h.take _
theorem VRs.erase {K : PySem.W.Frag} {H : Hp} {φ : List Addr} : ∀ (i : Nat) {ds : List DV} {vs : List V}, VRs K H φ ds vs → VRs K H φ (ds.eraseIdx i) (vs.eraseIdx i)
  | _, [], _, h => by cases h; exact rfl
  | 0, d :: ds, _, h => by
    obtain ⟨v, r, rfl, _, g⟩ := h
    exact g
  | i + 1, d :: ds, _, h => by
    obtain ⟨v, r, rfl, g1, g⟩ := h
    exact ⟨v, r.eraseIdx i, rfl, g1, VRs.erase i g⟩
theorem pe_pop {o' : E} (ho : PE X o (tR X.K (ev cf o'))) (hb : attributeBase o "pop" X.env (eval o X.env) = eval o X.env) (hl : (ap.endLine == pos.line) = true) :
    PE X (.Call (.Attribute o "pop" ap) [] [] pos) (tR X.K (ev cf (.mth .pop o' .nil))) := by
  refine PE.imp (L2.pe_bm0 PySem.F.plainAttrs_list PySem.F.slot_list_pop PySem.F.type_list_pop L2.mt_pop ho hb hl) fun σ H Q w => ?_
  obtain ⟨env, m, φ, r, m', A, e1, q⟩ := w
  obtain ⟨x, m1, e2, e1⟩ := Res.bind_inv e1
  obtain ⟨ds, m2, e3, e1⟩ := Res.bind_inv e1
  cases e3
  refine ⟨env, m, φ, x, m1, A, e2, fun v H1 φ1 E1 M1 R1 => ?_⟩
  have shape : ∃ n zs d, x = .val (.ref n) ∧ m1[n]? = some (.lst zs) ∧ zs[zs.length - 1]? = some d ∧ r = .val d ∧ m' = m1.set n (.lst zs.dropLast) := by
    unfold mthD at e1
    split at e1
    · rename_i r0 m0 hq
      cases e1
      split at hq <;> first | contradiction | skip
      rename_i n _ _
      split at hq
      · rename_i zs hz
        split at hq
        · rename_i d hd
          cases hq
          exact ⟨n, zs, d, rfl, hz, hd, rfl, rfl⟩
        · cases hq
      · cases hq
    · cases e1
  obtain ⟨n, zs, d, rfl, hz, hd, rfl, rfl⟩ := shape
  obtain ⟨l, rfl, hn⟩ := R1
  have ty1 : ∃ ys, SqL X.K H1 l ys := by
    obtain ⟨ys, h⟩ := M1.plain (List.mem_of_getElem? hn)
    exact ⟨ys, .inl (.inl h)⟩
  obtain ⟨ys, hy, g2⟩ := M1.ob n l _ hn hz
  obtain ⟨y, e4, gy⟩ := g2.get hd
  rw [← g2.length] at e4
  exact ⟨.inl ⟨rfl, ty1⟩, l, ys, y, rfl, rfl, hy, e4, q _ _ φ1 (E1.write (List.mem_of_getElem? hn)) (M1.write hn hz g2.dropLast) (VR.over hy gy)⟩
theorem pe_popAt {o' : E} (ho : PE X o (tR X.K (ev cf o'))) (ha : PA X [e] (tVs X.K (evs cf es'))) (hb : attributeBase o "pop" X.env (eval o X.env) = eval o X.env) (hl : (ap.endLine == pos.line) = true) (hs : starEach [e] X.env = (false, eval e X.env) :: starEach [] X.env) :
    PE X (.Call (.Attribute o "pop" ap) [e] [] pos) (tR X.K (ev cf (.mth .popAt o' es'))) := by
  refine PE.imp (L2.pe_bm PySem.F.plainAttrs_list PySem.F.slot_list_pop PySem.F.type_list_pop L2.mt_popAt ho ha hb (by rw [hs]; rfl) hl hs rfl) fun σ H Q w => ?_
  obtain ⟨env, m, φ, r, m', A, e1, q⟩ := w
  obtain ⟨x, m1, e2, e1⟩ := Res.bind_inv e1
  obtain ⟨ds, m2, e3, e1⟩ := Res.bind_inv e1
  refine ⟨env, m, φ, x, m1, A, e2, fun v H1 φ1 E1 M1 R1 => ?_⟩
  have shape : ∃ n zs i k d, x = .val (.ref n) ∧ ds = [.int i] ∧ m2[n]? = some (.lst zs) ∧ seqIndex? i zs.length = some k ∧ zs[k]? = some d ∧ (-(2 ^ 63) ≤ i ∧ i < 2 ^ 63) ∧ r = .val d ∧ m' = m2.set n (.lst (zs.eraseIdx k)) := by
    unfold mthD at e1
    split at e1
    · rename_i r0 m0 hq
      cases e1
      split at hq <;> first | contradiction | skip
      rename_i n i _
      split at hq
      · rename_i zs hz
        split at hq
        · rename_i k hk
          split at hq
          · rename_i d hd
            split at hq
            · rename_i hi
              cases hq
              exact ⟨n, zs, i, k, d, rfl, rfl, hz, hk, hd, hi, rfl, rfl⟩
            · cases hq
          · cases hq
        · cases hq
      · cases hq
    · cases e1
  obtain ⟨n, zs, i, k, d, rfl, rfl, hz, hk, hd, hi, rfl, rfl⟩ := shape
  obtain ⟨l, rfl, hn⟩ := R1
  have ty1 : ∃ ys, SqL X.K H1 l ys := by
    obtain ⟨ys, h⟩ := M1.plain (List.mem_of_getElem? hn)
    exact ⟨ys, .inl (.inl h)⟩
  refine ⟨.inl ⟨rfl, ty1⟩, env, m1, φ1, [.int i], m2, A.ext E1 M1, e3, fun vs H2 φ2 E2 M2 R2 => ?_⟩
  obtain ⟨y0, us, rfl, gy0, gu⟩ := R2
  rw [show us = [] from gu]
  have hn2 := E2.pre n l hn
  obtain ⟨ys, hy, g2⟩ := M2.ob n l _ hn2 hz
  obtain ⟨y, e4, gy⟩ := g2.get hd
  exact ⟨l, ys, i, k, y, rfl, by rw [show y0 = V.int i from gy0], hy, hi.1, hi.2, by rw [g2.length]; exact hk, e4, q _ _ φ2 ((E1.trans E2).write (List.mem_of_getElem? hn2)) (M2.write hn2 hz (VRs.erase k g2)) (VR.over hy gy)⟩
theorem pe_ext {o' : E} (ho : PE X o (tR X.K (ev cf o'))) (ha : PA X [e] (tVs X.K (evs cf es'))) (hb : attributeBase o "extend" X.env (eval o X.env) = eval o X.env) (hl : (ap.endLine == pos.line) = true) (hs : starEach [e] X.env = (false, eval e X.env) :: starEach [] X.env) :
    PE X (.Call (.Attribute o "extend" ap) [e] [] pos) (tR X.K (ev cf (.mth .extend o' es'))) := by
  refine PE.imp (L2.pe_bm PySem.F.plainAttrs_list PySem.F.slot_list_extend PySem.F.type_list_extend L2.mt_extend ho ha hb (by rw [hs]; rfl) hl hs rfl) fun σ H Q w => ?_
  obtain ⟨env, m, φ, r, m', A, e1, q⟩ := w
  obtain ⟨x, m1, e2, e1⟩ := Res.bind_inv e1
  obtain ⟨ds, m2, e3, e1⟩ := Res.bind_inv e1
  refine ⟨env, m, φ, x, m1, A, e2, fun v H1 φ1 E1 M1 R1 => ?_⟩
  have shape : ∃ n zs j ws, x = .val (.ref n) ∧ ds = [.ref j] ∧ m2[n]? = some (.lst zs) ∧ m2[j]? = some (.lst ws) ∧ zs.length + ws.length ≤ sizeLine ∧ r = .val .non ∧ m' = m2.set n (.lst (zs ++ ws)) := by
    unfold mthD at e1
    split at e1
    · rename_i r0 m0 hq
      cases e1
      split at hq <;> first | contradiction | skip
      rename_i n j _
      split at hq
      · rename_i zs hz
        split at hq
        · rename_i ws hw
          split at hq
          · rename_i hi
            cases hq
            exact ⟨n, zs, j, ws, rfl, rfl, hz, hw, hi, rfl, rfl⟩
          · cases hq
        · cases hq
      · cases hq
    · cases e1
  obtain ⟨n, zs, j, ws, rfl, rfl, hz, hw, hi, rfl, rfl⟩ := shape
  obtain ⟨l, rfl, hn⟩ := R1
  have ty1 : ∃ ys, SqL X.K H1 l ys := by
    obtain ⟨ys, h⟩ := M1.plain (List.mem_of_getElem? hn)
    exact ⟨ys, .inl (.inl h)⟩
  refine ⟨.inl ⟨rfl, ty1⟩, env, m1, φ1, [.ref j], m2, A.ext E1 M1, e3, fun vs H2 φ2 E2 M2 R2 => ?_⟩
  obtain ⟨y0, us, rfl, ⟨b, rfl, hb2⟩, gu⟩ := R2
  rw [show us = [] from gu]
  have hn2 := E2.pre n l hn
  obtain ⟨ys, hy, g2⟩ := M2.ob n l _ hn2 hz
  obtain ⟨us2, hu, g3⟩ := M2.ob j b _ hb2 hw
  exact ⟨l, b, ys, us2, rfl, rfl, hy, hu, by rw [g2.length, g3.length]; exact hi, q _ _ φ2 ((E1.trans E2).write (List.mem_of_getElem? hn2)) (M2.write hn2 hz (g2.append g3)) rfl⟩
/-! ### comprehensions -/
theorem pts_nil' : PTs X [] (tT X.K (evTs cf .nil)) := ⟨fun pins s σ H Q I w => L2.pts_nil.run pins s σ H Q I (by
  obtain ⟨env, m, φ, t, m', A, e1, q⟩ := w
  cases e1
  exact q H φ (Ext.refl _ _) A.mr)⟩
theorem pts_one' (h : PT X c (tT X.K (tst (ev cf e')))) : PTs X [c] (tT X.K (evTs cf (.cons e' .nil))) := ⟨fun pins s σ H Q I w => (L2.pts_one h).run pins s σ H Q I (by
  obtain ⟨env, m, φ, t, m', A, e1, q⟩ := w
  obtain ⟨x, m1, e2, e1⟩ := Res.bind_inv e1
  refine ⟨env, m, φ, t, m', A, ?_, q⟩
  show (ev cf e' env m).bind _ = _
  rw [e2]
  show Res.of (tru m1 x) m1 = _
  cases e3 : tru m1 x with
  | none => simp only [e3] at e1; cases e1
  | some k => cases k <;> (simp only [e3] at e1; cases e1; rfl))⟩
theorem wipe_same {σ σ' : St} (hl : σ'.length = σ.length) : ∀ (is : List Nat), (∀ j, j ∉ is → σ'[j]? = σ[j]?) → L2.wipe σ' is = L2.wipe σ is := by
  have key : ∀ (is : List Nat) (τ : St) (j : Nat), (L2.wipe τ is)[j]? = if j ∈ is ∧ j < τ.length then some none else τ[j]? := fun is τ j => by
    induction is with
    | nil => simp [L2.wipe]
    | cons i is ih =>
      show ((L2.wipe τ is).set i none)[j]? = _
      by_cases hj : i = j
      · subst hj
        by_cases hi : i < τ.length
        · rw [List.getElem?_set_self (by rw [L2.wipe_length]; exact hi), if_pos ⟨by simp, hi⟩]
        · rw [List.getElem?_eq_none (by rw [List.length_set, L2.wipe_length]; omega), if_neg (fun z => hi z.2), List.getElem?_eq_none (by omega)]
      · rw [List.getElem?_set_ne hj, ih]
        have : (j ∈ i :: is ∧ j < τ.length) ↔ (j ∈ is ∧ j < τ.length) := by
          rw [List.mem_cons]
          constructor
          · rintro ⟨z | z, w⟩
            · exact absurd z.symm hj
            · exact ⟨z, w⟩
          · exact fun ⟨z, w⟩ => ⟨.inr z, w⟩
        by_cases hc : j ∈ is ∧ j < τ.length
        · rw [if_pos hc, if_pos (this.mpr hc)]
        · rw [if_neg hc, if_neg (fun z => hc (this.mp z))]
  intro is hs
  refine List.ext_getElem? fun j => ?_
  rw [key, key, hl]
  by_cases hj : j ∈ is
  · by_cases hi : j < σ.length
    · rw [if_pos ⟨hj, hi⟩, if_pos ⟨hj, hi⟩]
    · rw [if_neg (fun z => hi z.2), if_neg (fun z => hi z.2), List.getElem?_eq_none (by omega), List.getElem?_eq_none (by omega)]
  · rw [if_neg (fun z => hj z.1), if_neg (fun z => hj z.1), hs j hj]
theorem wipe_len {env : LE} : ∀ is : List Nat, (Mp.wipe env is).length = env.length
  | [] => rfl
  | i :: is => by
    show ((Mp.wipe env is).set i none).length = _
    rw [List.length_set, wipe_len is]
/-- the block's reading -/
def tBlk (K : PySem.W.Frag) (cf : Nat → List DV → M RV) (elt : E) (p : Pat) (k : ItK) (its cs : Es) (own : List Nat) : TE :=
  L2.tLc (tI K fun env m => (evrs cf its env m).bind fun rs m1 => Res.of (itD k m1 rs) m1) (tG K p) (tT K (evTs cf cs)) (tV K fun env m => (ev cf elt env m).bind force) own
theorem lc_ok {K : PySem.W.Frag} {elt : E} {p : Pat} {k : ItK} {its cs : Es} {own : List Nat} (hp : ∀ i ∈ p.slots, i ∈ own) {σ : St} {H : Hp} {Q : VK} (w : tR K (ev cf (.comp elt p k its cs own)) σ H Q) : tBlk K cf elt p k its cs own σ H Q := by
  obtain ⟨env, m, φ, r, m', A, e1, q⟩ := w
  obtain ⟨rs, m1, e2, e1⟩ := Res.bind_inv e1
  cases e3 : itD k m1 rs with
  | none => simp only [e3] at e1; cases e1
  | some z =>
    obtain ⟨ds, ks⟩ := z
    simp only [e3] at e1
    obtain ⟨all, m2, e4, e1⟩ := Res.bind_inv e1
    by_cases hz : all.length < sizeLine
    · rw [if_pos hz] at e1
      cases e1
      refine ⟨env, m, φ, (ds, ks), m1, A, by show (evrs cf its env m).bind _ = _; rw [e2]; show Res.of (itD k m1 rs) m1 = _; rw [e3]; rfl, fun J H1 φ1 E1 M1 F D hD => ?_⟩
      obtain ⟨G, Y, wk, stay, give⟩ := F
      generalize hbody : (fun (d : DV) (m2 : Mem) => match p.put d (Mp.wipe env own) with
        | some env' => (evTs cf cs env' m2).bind fun t m3 => if t = true then (ev cf elt env' m3).bind fun x m4 => (force x m4).bind fun y m5 => .ok (some y) m5 else .ok none m3
        | none => Res.fail) = body at e4
      have hD0 : H D = none := RR.none E1 hD (M1.fresh hD)
      refine L2.lc_it wk (fun i Hc => ∃ mi φi accd accv tl, Ext φ1 H1 φi Hc ∧ MR K Hc φi mi ∧ D ∉ φi ∧ Hc D = some (.lst accv) ∧ VRs K Hc φi accd accv ∧ loopC body (same ks m1) (ds.drop i) mi = .ok tl m' ∧ accd ++ tl = all ∧ same ks m1 mi = true)
        ⟨m1, φ1, [], [], all, (Ext.refl _ _).laid hD, M1.laid hD, M1.fresh hD, upd_same, rfl, e4, rfl, by unfold same; simp⟩ (fun i Hc hi P => ?_) (fun i v Hc H' hi P y => ?_) fun Hc P => ?_
      · obtain ⟨mi, φi, accd, accv, tl, Ei, Mi, nD, hDv, gacc, el, ea, sm⟩ := P
        exact stay φi Hc mi Ei Mi sm
      · obtain ⟨mi, φi, accd, accv, tl, Ei, Mi, nD, hDv, gacc, el, ea, sm⟩ := P
        obtain ⟨d, hd, Eg, Mg, gd⟩ := give i φi Hc mi v H' hi Ei Mi sm y
        have hdr : ds.drop i = d :: ds.drop (i + 1) := by
          have hlt : i < ds.length := hi
          rw [List.drop_eq_getElem_cons hlt]
          rw [List.getElem?_eq_getElem hlt] at hd
          cases hd
          rfl
        rw [hdr] at el
        obtain ⟨ox, m3, e5, el⟩ := Res.bind_inv (show (body d mi).bind _ = _ from el)
        by_cases hfx : same ks m1 m3 = true
        · rw [if_pos hfx] at el
          obtain ⟨tl2, m4, e6, el⟩ := Res.bind_inv el
          rw [← hbody] at e5
          cases e7 : p.put d (Mp.wipe env own) with
          | none => simp only [e7] at e5; cases e5
          | some env1 =>
            simp only [e7] at e5
            obtain ⟨t, m5, e8, e5⟩ := Res.bind_inv e5
            have EA : Ext φ H φi H' := (E1.trans Ei).trans Eg
            have A1 : At K (L2.wipe σ own) H' (Mp.wipe env own) mi φi := ⟨(A.er.ext A.mr EA).wipe own, Mg⟩
            obtain ⟨nD1, hD1⟩ := Eg.mem hDv nD
            refine ⟨Mp.wipe env own, mi, φi, d, env1, A1, gd, e7, fun σ2 A2 l2 k2 => ⟨?_, ?_⟩⟩
            · have : L2.wipe σ2 own = L2.wipe (L2.wipe σ own) own := wipe_same l2 own fun j hj => k2 j fun z => hj (hp j z)
              rw [this]
              refine wipe_same (L2.wipe_length σ own) own fun j hj => ?_
              have gen : ∀ (is : List Nat) (τ : St), j ∉ is → (L2.wipe τ is)[j]? = τ[j]? := fun is τ h => L2.wipe_out h
              exact gen own σ hj
            · refine ⟨env1, mi, φi, t, m5, A2, e8, fun H3 φ3 E3 M3 => ?_⟩
              obtain ⟨nD3, hD3⟩ := E3.mem hD1 nD1
              cases t with
              | false =>
                rw [if_neg (by decide)] at e5
                cases e5
                cases el
                rw [if_neg (by decide)]
                exact ⟨_, φ3, accd, accv, _, (Ei.trans Eg).trans E3, M3, nD3, hD3, (gacc.ext Mi Eg).ext Mg E3, e6, ea, hfx⟩
              | true =>
                rw [if_pos rfl] at e5
                obtain ⟨x, m6, e9, e5⟩ := Res.bind_inv e5
                obtain ⟨y2, m7, e10, e5⟩ := Res.bind_inv e5
                cases e5
                cases el
                rw [if_pos rfl]
                refine ⟨env1, m5, φ3, y2, _, A2.ext E3 M3, by show (ev cf elt env1 m5).bind force = _; rw [e9]; exact e10, fun u H4 φ4 E4 M4 g4 => ?_⟩
                obtain ⟨nD4, hD4⟩ := E4.mem hD3 nD3
                have ga := ((gacc.ext Mi Eg).ext Mg E3).ext M3 E4
                refine ⟨accv, hD4, ?_, _, φ4, accd ++ [y2], accv ++ [u], _, ?_, M4.over hD4 nD4, nD4, upd_same, (ga.snoc g4).over hD4, e6, ?_, hfx⟩
                · rw [gacc.length]
                  have := congrArg List.length ea
                  simp only [List.length_append, List.length_cons] at this
                  omega
                · exact (((Ei.trans Eg).trans E3).trans E4).over hD
                · rw [List.append_assoc]; exact ea
        · rw [if_neg hfx] at el; cases el
      · obtain ⟨mi, φi, accd, accv, tl, Ei, Mi, nD, hDv, gacc, el, ea, sm⟩ := P
        rw [List.drop_length] at el
        cases el
        rw [List.append_nil] at ea
        subst ea
        exact q _ _ φi (E1.trans Ei) Mi ⟨D, rfl, hD0, nD, accd, accv, rfl, hDv, gacc⟩
    · rw [if_neg hz] at e1; cases e1
end
end Mp
end SMpJ
section SMpK
set_option Elab.async false
set_option linter.all false
set_option maxHeartbeats 2000000
/-! MpK: the evaluator's texts beside the program's; the rules together. -/
namespace Mp
open PySem PySem.Spec
open L2 (V Hp HO St TE TT TA TI TG TGs TS TO Ends Rd SqL SqT PE PT PA PS PSs PG PGs PI PO PW PTs Cx Inv RelV Vals upd upd_same upd_ne OpR VK R2 XK Sp Room Env0 Binds It Walk CallR)
structure Sig where
  name : Str
  ps : List Str
structure Tab where
  fns : List Sig
  con : List (Str × DV)
  blt : List Str
structure Lex where
  N : List Str
  sc : Scope
  fnl : Str → Bool
def Lex.blk (L : Lex) (s : Scope) : Lex := ⟨L.N, L2.relS s L.sc, fun x => s.names.lookup x == some .cell⟩
def okN (y : Str) : Bool := !(y == ("__debug__" : Str)) && !(y == ("__classdict__" : Str)) && !(y == ("__name__" : Str))
def visB (L : Lex) (y : Str) : Bool := okN y && (match L.sc.names.lookup y with | some .local => true | some .cell => true | some .free => true | _ => false)
def globB (L : Lex) (y : Str) : Bool := okN y && (match L.sc.names.lookup y with | some .globalImplicit => true | _ => false)
def plain : Expr → Bool
  | .Starred .. => false
  | .Slice .. => false
  | .Set .. => false
  | _ => true
def notCall : Expr → Bool
  | .Call .. => false
  | _ => true
def chkC : DV → Const → Bool
  | .non, .none => true
  | .bl b, .bool c => b == c
  | .int i, .int j => i == j
  | .str s, .str t => decide (s = t)
  | _, _ => false
def tyB (T : Tab) (L : Lex) (t : Ty) : Expr → Bool
  | .Name y _ => decide (y = Str.ofString t.nm) && globB L y && T.blt.contains y && decide (t ≠ .non)
  | _ => false
def tysB (T : Tab) (L : Lex) : List Ty → List Expr → Bool
  | [], [] => true
  | t :: ts, x :: xs => tyB T L t x && tysB T L ts xs
  | _, _ => false
mutual
def chkP (L : Lex) : Pat → Expr → Bool
  | .nm i, x => match x with
    | .Name y _ => decide (L.N[i]? = some y) && (match L.sc.names.lookup y with | some .local => true | some .cell => L.fnl y | _ => false)
    | _ => false
  | .tup ps, x => match x with
    | .Tuple xs _ _ => chkPs L ps xs
    | _ => false
def chkPs (L : Lex) : List Pat → List Expr → Bool
  | [], xs => xs.isEmpty
  | p :: ps, xs => match xs with
    | [] => false
    | x :: r => plain x && chkP L p x && chkPs L ps r
end
def isTupE : Expr → Bool
  | .Tuple .. => true
  | _ => false
mutual
def chkE (T : Tab) : E → Lex → Expr → Bool
  | .v i, L, x => match x with
    | .Name y _ => decide (L.N[i]? = some y) && visB L y
    | _ => false
  | .c d, L, x => match x with
    | .Constant k _ _ => chkC d k
    | _ => false
  | .g n d, L, x => match x with
    | .Name y _ => decide (y = n) && globB L y && T.con.any fun q => decide (q = (n, d))
    | _ => false
  | .tup es, L, x => match x with
    | .Tuple xs _ _ => decide (es.len ≤ 1000) && chkEs T es L xs
    | _ => false
  | .lst es, L, x => match x with
    | .List xs _ => decide (es.len ≤ 1000) && chkEs T es L xs
    | _ => false
  | .bin op a b, L, x => match x with
    | .BinOp y o z _ => decide (o = op.py) && chkE T a L y && chkE T b L z
    | _ => false
  | .neg a, L, x => match x with
    | .UnaryOp .USub y _ => chkE T a L y
    | _ => false
  | .not a, L, x => match x with
    | .UnaryOp .Not y _ => chkE T a L y
    | _ => false
  | .and es, L, x => match x with
    | .BoolOp .And xs _ => chkEs T es L xs && decide (1 ≤ es.len)
    | _ => false
  | .or es, L, x => match x with
    | .BoolOp .Or xs _ => chkEs T es L xs && decide (1 ≤ es.len)
    | _ => false
  | .cmp op a b, L, x => match x with
    | .Compare y [o] [z] _ => decide (o = op.py) && plain z && chkE T a L y && chkE T b L z
    | _ => false
  | .cmp2 op op' a b c, L, x => match x with
    | .Compare y [o, o'] [z, w] _ => decide (o = op.py) && decide (o' = op'.py) && plain w && chkE T a L y && chkE T b L z && chkE T c L w
    | _ => false
  | .isN neg a, L, x => match x with
    | .Compare y [o] [.Constant .none _ _] _ => decide (o = if neg then .IsNot else .Is) && chkE T a L y
    | _ => false
  | .isB neg b a, L, x => match x with
    | .Compare y [o] [.Constant (.bool k) _ _] _ => decide (o = if neg then .IsNot else .Is) && decide (k = b) && chkE T a L y
    | _ => false
  | .ife c a b, L, x => match x with
    | .IfExp y z w _ => chkE T c L y && chkE T a L z && chkE T b L w
    | _ => false
  | .ix a i, L, x => match x with
    | .Subscript y z _ => plain z && chkE T a L y && chkE T i L z
    | _ => false
  | .sl a lo hi, L, x => match x with
    | .Subscript y (.Slice l h none _) _ => chkE T a L y && chkO T lo L l && chkO T hi L h
    | _ => false
  | .call f es, L, x => match x with
    | .Call (.Name y _) xs [] _ => (match T.fns[f]? with | some s => decide (s.name = y) | none => false) && globB L y && chkEs T es L xs
    | _ => false
  | .blt b es, L, x => match x with
    | .Call (.Name y _) xs [] _ => decide (y = b.nm) && globB L y && T.blt.contains y && chkEs T es L xs && decide (1 ≤ es.len)
    | _ => false
  | .isi a ts, L, x => match x with
    | .Call (.Name y _) [p, q] [] _ => decide (y = "isinstance") && globB L y && T.blt.contains y && plain p && chkE T a L p && (match q with
      | .Name .. => tysB T L ts [q]
      | .Tuple xs _ _ => tysB T L ts xs && decide (ts.length ≤ 1000)
      | _ => false)
    | _ => false
  | .mth t o es, L, x => match x with
    | .Call (.Attribute p n ap) xs [] pos => (match t with
      | .append => decide (n = "append") && notCall p && (ap.endLine == pos.line) && chkE T o L p && chkEs T es L xs && decide (es.len = 1)
      | .pop => decide (n = "pop") && notCall p && (ap.endLine == pos.line) && chkE T o L p && chkEs T es L xs && decide (es.len = 0)
      | .popAt => decide (n = "pop") && notCall p && (ap.endLine == pos.line) && chkE T o L p && chkEs T es L xs && decide (es.len = 1)
      | .extend => decide (n = "extend") && notCall p && (ap.endLine == pos.line) && chkE T o L p && chkEs T es L xs && decide (es.len = 1))
    | _ => false
  | .comp elt p k its cs own, L, x => match x with
    | .ListComp y [⟨tg, iter, ifs, 0⟩] s _ => L2.blkC L.N L.sc s (own.map fun i => (L.N.getD i "", i)) && chkP (L.blk s) p tg && (p.slots.all fun i => own.contains i) && plain iter && (match k with
        | .seq => chkEs T its L [iter]
        | .range => (match iter with
          | .Call (.Name y _) xs [] _ => decide (y = "range") && globB L y && T.blt.contains y && chkEs T its L xs && (decide (its.len = 1) || decide (its.len = 2))
          | _ => false)
        | .range3 => (match iter with
          | .Call (.Name y _) xs [] _ => decide (y = "range") && globB L y && T.blt.contains y && chkEs T its L xs && decide (its.len = 3)
          | _ => false)
        | .enum => isTupE tg && (match iter with
          | .Call (.Name y _) xs [] _ => decide (y = "enumerate") && globB L y && T.blt.contains y && chkEs T its L xs && decide (its.len = 1)
          | _ => false)
        | .zip => isTupE tg && (match iter with
          | .Call (.Name y _) xs [] _ => decide (y = "zip") && globB L y && T.blt.contains y && chkEs T its L xs && decide (its.len = 2)
          | _ => false)) && chkEs T cs (L.blk s) ifs && decide (cs.len ≤ 1) && chkE T elt (L.blk s) y
    | _ => false
def chkEs (T : Tab) : Es → Lex → List Expr → Bool
  | .nil, _, xs => xs.isEmpty
  | .cons e es, L, xs => match xs with
    | [] => false
    | x :: r => plain x && chkE T e L x && chkEs T es L r
def chkO (T : Tab) : Es → Lex → Option Expr → Bool
  | .nil, _, o => o.isNone
  | .cons e _, L, o => match o with
    | some x => chkE T e L x
    | none => false
end
/-- what stands around -/
structure GC (T : Tab) (cf : Nat → List DV → M RV) (k : Nat) (L : Lex) (X : Cx) : Prop where
  hN : X.N = L.N
  hsc : X.env.scope = L.sc
  hfn : X.fn = L.fnl
  nd : L.N.Nodup
  calm : X.calm = true
  room : Room k X.A
  gd : X.A.guards = some []
  pass : PassesOwn (model X.prog X.w) X.A X.env X.xe
  fns : ∀ f s, T.fns[f]? = some s → ∃ a fd, X.mg s.name = some (.ref a) ∧ PySem.W.keepIn X.K (.ref a) = true ∧ Binds X.K fd s.ps [] ∧ FnG X.prog X.w X.K X.mg X.base k a fd s.ps (spF X.K (cf f))
  blt : ∀ x ∈ T.blt, X.mg x = none
  con : ∀ x d, (x, d) ∈ T.con → ∃ v u, X.mg x = some u ∧ RelV v u ∧ ∀ H φ, VR X.K H φ d v
section
variable {T : Tab} {cf : Nat → List DV → M RV} {k : Nat} {L : Lex} {X : Cx}
theorem GC.blk (G : GC T cf k L X) (s : Shared) (H : Hp) (sc : Scope) (C : Addr) (cl : List (Str × Addr)) (fp : List Addr) : GC T cf k (L.blk sc) (X.blk s H sc (compEnvC sc cl C X.env) fp) where
  hN := G.hN
  hsc := by
    show L2.relS sc X.env.scope = L2.relS sc L.sc
    rw [G.hsc]
  hfn := rfl
  nd := G.nd
  calm := G.calm
  room := G.room
  gd := G.gd
  pass := PassesOwn.never
  fns := G.fns
  blt := G.blt
  con := G.con
theorem star_of {e : Expr} {es : List Expr} {env : Env} (h : plain e = true) : starEach (e :: es) env = (false, eval e env) :: starEach es env := by
  cases e <;> first | rfl | (exact absurd h (by decide)) | cases h
theorem back_of {pos : Pos} {env : Env} : ∀ {es : List Expr}, (∀ e ∈ es, plain e = true) → (backTo pos (starEach es env)).any (·.1) = false
  | [], _ => rfl
  | e :: es, h => by
    rw [star_of (h e (by simp))]
    show (false || (backTo pos (starEach es env)).any (·.1)) = false
    rw [back_of fun e he => h e (by simp [he])]
    rfl
theorem chkEs_plain : ∀ {es : Es} {L : Lex} {xs : List Expr}, chkEs T es L xs = true → (∀ x ∈ xs, plain x = true) ∧ xs.length = es.len
  | .nil, L, xs, h => by
    simp only [chkEs, List.isEmpty_iff] at h
    subst h
    exact ⟨(fun _ z => nomatch z), rfl⟩
  | .cons e es, L, xs, h => by
    cases xs with
    | nil => simp [chkEs] at h
    | cons x r =>
      simp only [chkEs, Bool.and_eq_true] at h
      obtain ⟨p, q⟩ := chkEs_plain h.2
      refine ⟨fun y hy => ?_, by rw [List.length_cons, q]; rfl⟩
      rcases List.mem_cons.mp hy with rfl | hy
      · exact h.1.1
      · exact p y hy
theorem GC.vis (G : GC T cf k L X) {y : Str} (h : visB L y = true) : L2.Vis X.env.scope y ∧ (y == ("__debug__" : Str)) = false ∧ (y == ("__classdict__" : Str)) = false := by
  unfold visB okN at h
  simp only [Bool.and_eq_true, Bool.not_eq_true'] at h
  obtain ⟨⟨⟨h1, h2⟩, h3⟩, h4⟩ := h
  refine ⟨?_, h1, h2⟩
  unfold L2.Vis
  rw [G.hsc]
  split at h4 <;> first | (rename_i e; rw [e]; simp) | cases h4
theorem GC.glob (G : GC T cf k L X) {y : Str} (h : globB L y = true) : L2.Gl X y ∧ (y == ("__debug__" : Str)) = false := by
  unfold globB okN at h
  simp only [Bool.and_eq_true, Bool.not_eq_true'] at h
  obtain ⟨⟨⟨h1, h2⟩, h3⟩, h4⟩ := h
  refine ⟨?_, h1⟩
  show X.env.scope.names.lookup y = some .globalImplicit
  rw [G.hsc]
  split at h4
  · assumption
  · cases h4
theorem GC.hu (G : GC T cf k L X) : X.A.units + 64 < cLine := G.room.units
theorem GC.ty (G : GC T cf k L X) {t : Ty} {x : Expr} (h : tyB T L t x = true) : TyN X t x := by
  unfold tyB at h
  split at h
  · simp only [Bool.and_eq_true, decide_eq_true_eq, List.contains_iff_mem] at h
    obtain ⟨⟨⟨h1, h2⟩, h3⟩, h4⟩ := h
    exact ⟨_, _, rfl, h1, (G.glob h2).1, G.blt _ h3, h4⟩
  · cases h
theorem tyB_plain {t : Ty} {x : Expr} (h : tyB T L t x = true) : plain x = true := by
  unfold tyB at h
  split at h
  · rfl
  · cases h
theorem GC.tys (G : GC T cf k L X) : ∀ {ts : List Ty} {xs : List Expr}, tysB T L ts xs = true → PySem.Paired (TyN X) ts xs ∧ ∀ x ∈ xs, plain x = true
  | [], [], _ => ⟨.nil, fun _ z => nomatch z⟩
  | [], _ :: _, h => by cases h
  | _ :: _, [], h => by cases h
  | t :: ts, x :: xs, h => by
    have h : (tyB T L t x && tysB T L ts xs) = true := h
    rw [Bool.and_eq_true] at h
    obtain ⟨p, q⟩ := G.tys h.2
    refine ⟨.cons (G.ty h.1) p, fun y hy => ?_⟩
    rcases List.mem_cons.mp hy with rfl | hy
    · exact tyB_plain h.1
    · exact q y hy
mutual
theorem GC.pat (G : GC T cf k L X) : ∀ (p : Pat) (x : Expr), chkP L p x = true → PG X x (tG X.K p)
  | .nm i, x, h => by
    simp only [chkP] at h
    split at h
    · simp only [Bool.and_eq_true, decide_eq_true_eq] at h
      obtain ⟨h1, h2⟩ := h
      have hN : X.N.Nodup := by rw [G.hN]; exact G.nd
      rw [← G.hN] at h1
      refine pg_nm hN h1 ?_ ?_
      · unfold L2.Loc
        rw [G.hsc]
        split at h2 <;> first | (rename_i e; rw [e]; simp) | cases h2
      · rw [G.hsc, G.hfn]
        split at h2
        · rename_i e; exact .inr e
        · exact .inl h2
        · cases h2
    · cases h
  | .tup ps, x, h => by
    simp only [chkP] at h
    split at h
    · obtain ⟨h1, h2, h3⟩ := GC.pats G ps _ h
      exact pg_tp G.calm h1 h2 h3
    · cases h
theorem GC.pats (G : GC T cf k L X) : ∀ (ps : List Pat) (xs : List Expr), chkPs L ps xs = true → PGs X xs (tGs X.K ps) ∧ (assignEach xs X.env).length = ps.length ∧ (assignEach xs X.env).findIdx? (·.1) = none
  | [], xs, h => by
    simp only [chkPs, List.isEmpty_iff] at h
    subst h
    exact ⟨pgs_nil, rfl, rfl⟩
  | p :: ps, xs, h => by
    cases xs with
    | nil => simp [chkPs] at h
    | cons x r =>
      simp only [chkPs, Bool.and_eq_true] at h
      obtain ⟨⟨h1, h2⟩, h3⟩ := h
      obtain ⟨i1, i2, i3⟩ := GC.pats G ps r h3
      have ea : assignEach (x :: r) X.env = (false, assign x X.env) :: assignEach r X.env := by
        cases x <;> first | rfl | (exact absurd h1 (by decide)) | cases h1
      refine ⟨pgs_cons (GC.pat G p x h2) i1 (by rw [ea]; rfl), by rw [ea, List.length_cons, i2]; rfl, ?_⟩
      rw [ea, List.findIdx?_cons]
      simp [i3]
end
end
end Mp
end SMpK
section SMpL
set_option Elab.async false
set_option linter.all false
set_option maxHeartbeats 4000000
/-! MpL: every checked expression does as the evaluator says. -/
namespace Mp
open PySem PySem.Spec
open L2 (V Hp HO St TE TT TA TI TG TGs TS TO Ends Rd SqL SqT PE PT PA PS PSs PG PGs PI PO PW PTs Cx Inv RelV Vals upd upd_same upd_ne OpR VK R2 XK Sp Room Env0 Binds It Walk CallR)
section
variable {T : Tab} {cf : Nat → List DV → M RV} {k : Nat}
theorem marks_of {op : CmpOp} {e : Expr} (h : plain e = true) : behindInMarks op e = false := by
  cases e <;> first | rfl | (exact absurd h (by decide)) | cases h
theorem plain_ix {e : Expr} (h : plain e = true) : L2.PlainIx e := by
  cases e <;> first | (intro _ _; rfl) | (exact absurd h (by decide)) | cases h
theorem fold_of {e : Expr} {env : Env} (h : plain e = true) : ∀ x, foldedSetIterable e env x = pure x := by
  cases e <;> first | (intro _; rfl) | (exact absurd h (by decide)) | cases h
theorem base_of {e : Expr} {n : Str} {env : Env} (h : notCall e = true) : attributeBase e n env (eval e env) = eval e env := by
  cases e <;> first | rfl | cases h
theorem back1 {pos : Pos} {env : Env} {e : Expr} {es : List Expr} (h : ∀ x ∈ e :: es, plain x = true) : (backTo pos (starEach es env)).any (·.1) = false := back_of fun x hx => h x (by simp [hx])
theorem tup_of {e : Expr} (h : isTupE e = true) : ∃ elts kk tpos, e = .Tuple elts kk tpos := by
  cases e <;> first | exact ⟨_, _, _, rfl⟩ | cases h
/-- what is walked, by its parts -/
theorem pi_of {X : Cx} {L : Lex} (G : GC T cf k L X) {K' : ItK} {its : Es} {tg iter : Expr} (h : (match K' with
        | .seq => chkEs T its L [iter]
        | .range => (match iter with
          | .Call (.Name y _) xs [] _ => decide (y = "range") && globB L y && T.blt.contains y && chkEs T its L xs && (decide (its.len = 1) || decide (its.len = 2))
          | _ => false)
        | .range3 => (match iter with
          | .Call (.Name y _) xs [] _ => decide (y = "range") && globB L y && T.blt.contains y && chkEs T its L xs && decide (its.len = 3)
          | _ => false)
        | .enum => isTupE tg && (match iter with
          | .Call (.Name y _) xs [] _ => decide (y = "enumerate") && globB L y && T.blt.contains y && chkEs T its L xs && decide (its.len = 1)
          | _ => false)
        | .zip => isTupE tg && (match iter with
          | .Call (.Name y _) xs [] _ => decide (y = "zip") && globB L y && T.blt.contains y && chkEs T its L xs && decide (its.len = 2)
          | _ => false)) = true) (hE : ∀ (xs : List Expr), chkEs T its L xs = true → PA X xs (tRs X.K (evrs cf its)))
    (hS : ∀ e es, its = .cons e es → ∀ x, chkE T e L x = true → PE X x (tR X.K (ev cf e))) :
    PI X tg iter (tI X.K fun env m => (evrs cf its env m).bind fun rs m1 => Res.of (itD K' m1 rs) m1) := by
  cases K' with
  | seq =>
    cases its with
    | nil => simp [chkEs] at h
    | cons e es =>
      have h : chkEs T (.cons e es) L [iter] = true := h
      simp only [chkEs, Bool.and_eq_true] at h
      obtain ⟨⟨_, h2⟩, h3⟩ := h
      cases es with
      | cons _ _ => simp [chkEs] at h3
      | nil =>
        refine PI.imp (pi_seq (hS e .nil rfl iter h2)) fun σ H R w => ?_
        obtain ⟨env, m, φ, q, m', A, e1, w⟩ := w
        obtain ⟨rs, m1, e2, e1⟩ := Res.bind_inv e1
        obtain ⟨r, m2, e3, e2⟩ := Res.bind_inv e2
        cases e2
        exact ⟨env, m, φ, q, m', A, by show (ev cf e env m).bind _ = _; rw [e3]; exact e1, w⟩
  | range =>
    simp only at h
    split at h
    · simp only [Bool.and_eq_true, Bool.or_eq_true, decide_eq_true_eq, List.contains_iff_mem] at h
      obtain ⟨⟨⟨⟨rfl, h2⟩, h3⟩, h4⟩, h5⟩ := h
      obtain ⟨pl, ln⟩ := chkEs_plain h4
      have hA := hE _ h4
      rename_i xs _
      rcases h5 with h5 | h5
      · rw [h5] at ln
        match xs, ln with
        | [a], _ => exact pi_rng1 (G.glob h2).1 (G.blt _ h3) hA (star_of (pl a (by simp))) fun env m rs m' e => by rw [evrs_len cf its _ _ _ _ e, h5]
      · rw [h5] at ln
        match xs, ln with
        | [a, b], _ => exact pi_rng2 (G.glob h2).1 (G.blt _ h3) hA (by rw [star_of (pl a (by simp)), star_of (pl b (by simp))]; rfl) (star_of (pl b (by simp))) fun env m rs m' e => by rw [evrs_len cf its _ _ _ _ e, h5]
    · cases h
  | range3 =>
    simp only at h
    split at h
    · simp only [Bool.and_eq_true, decide_eq_true_eq, List.contains_iff_mem] at h
      obtain ⟨⟨⟨⟨rfl, h2⟩, h3⟩, h4⟩, h5⟩ := h
      obtain ⟨pl, ln⟩ := chkEs_plain h4
      have hA := hE _ h4
      rename_i xs _
      rw [h5] at ln
      match xs, ln with
      | [a, b, c], _ => exact pi_rng3 (G.glob h2).1 (G.blt _ h3) hA (star_of (pl a (by simp))) (back_of fun x hx => pl x (by simp at hx ⊢; exact .inr hx)) fun env m rs m' e => by rw [evrs_len cf its _ _ _ _ e, h5]
    · cases h
  | enum =>
    simp only [Bool.and_eq_true] at h
    obtain ⟨ht, h⟩ := h
    obtain ⟨elts, kk, tpos, rfl⟩ := tup_of ht
    split at h
    · simp only [Bool.and_eq_true, decide_eq_true_eq, List.contains_iff_mem] at h
      obtain ⟨⟨⟨⟨rfl, h2⟩, h3⟩, h4⟩, h5⟩ := h
      obtain ⟨pl, ln⟩ := chkEs_plain h4
      have hA := hE _ h4
      rename_i xs _
      rw [h5] at ln
      match xs, ln with
      | [a], _ => exact pi_enm (G.glob h2).1 (G.blt _ h3) hA (star_of (pl a (by simp)))
    · cases h
  | zip =>
    simp only [Bool.and_eq_true] at h
    obtain ⟨ht, h⟩ := h
    obtain ⟨elts, kk, tpos, rfl⟩ := tup_of ht
    split at h
    · simp only [Bool.and_eq_true, decide_eq_true_eq, List.contains_iff_mem] at h
      obtain ⟨⟨⟨⟨rfl, h2⟩, h3⟩, h4⟩, h5⟩ := h
      obtain ⟨pl, ln⟩ := chkEs_plain h4
      have hA := hE _ h4
      rename_i xs _
      rw [h5] at ln
      match xs, ln with
      | [a, b], _ => exact pi_zp (G.glob h2).1 (G.blt _ h3) hA (star_of (pl a (by simp))) (back_of fun x hx => pl x (by simp at hx ⊢; exact .inr hx))
    · cases h
/-- the block -/
structure BlkP (X : Cx) (cf : Nat → List DV → M RV) (elt : E) (p : Pat) (K' : ItK) (its cs : Es) (own : List Nat) (y tg iter : Expr) (ifs : List Expr) (s : Scope) : Prop where
  pi : PI X tg iter (tI X.K fun env m => (evrs cf its env m).bind fun rs m1 => Res.of (itD K' m1 rs) m1)
  ok : L2.BlkOk X.N X.env.scope s (own.map fun i => (X.N.getD i "", i))
  pg : ∀ (s' : Shared) (H : Hp) (C : Addr) (cl : List (Str × Addr)) (fp : List Addr), PG (X.blk s' H s (compEnvC s cl C X.env) fp) tg (tG X.K p)
  pt : ∀ (s' : Shared) (H : Hp) (C : Addr) (cl : List (Str × Addr)) (fp : List Addr), PTs (X.blk s' H s (compEnvC s cl C X.env) fp) ifs (tT X.K (evTs cf cs))
  pe : ∀ (s' : Shared) (H : Hp) (C : Addr) (cl : List (Str × Addr)) (fp : List Addr), PE (X.blk s' H s (compEnvC s cl C X.env) fp) y (tV X.K fun env m => (ev cf elt env m).bind force)
  fold : ∀ x, foldedSetIterable iter X.env x = pure x
  slots : ∀ i ∈ p.slots, i ∈ own
theorem own_snd (N : List Str) (own : List Nat) : (own.map fun i => (N.getD i "", i)).map (·.2) = own := by
  rw [List.map_map]
  exact List.map_id' own
mutual
theorem sE : ∀ (e : E) (L : Lex) (X : Cx) (x : Expr), GC T cf k L X → chkE T e L x = true → PE X x (tR X.K (ev cf e))
  | .v i, L, X, x, G, h => by
    simp only [chkE] at h
    split at h
    · simp only [Bool.and_eq_true, decide_eq_true_eq] at h
      obtain ⟨v1, v2, v3⟩ := G.vis h.2
      exact pe_v cf (by rw [G.hN]; exact h.1) v1 v2 v3
    · cases h
  | .c d, L, X, x, G, h => by
    simp only [chkE] at h
    split at h
    · unfold chkC at h
      split at h
      · exact pe_k (v := .non) cf L2.pe_non fun _ _ => rfl
      · rw [beq_iff_eq] at h; subst h
        exact pe_k cf L2.pe_bl fun _ _ => rfl
      · rw [beq_iff_eq] at h; subst h
        exact pe_k cf L2.pe_int fun _ _ => rfl
      · rw [decide_eq_true_eq] at h; subst h
        exact pe_k cf L2.pe_str fun _ _ => rfl
      · cases h
    · cases h
  | .g n d, L, X, x, G, h => by
    simp only [chkE] at h
    split at h
    · simp only [Bool.and_eq_true, decide_eq_true_eq, List.any_eq_true] at h
      obtain ⟨⟨rfl, h2⟩, q, hq, h3⟩ := h
      subst h3
      obtain ⟨v, u, h4, h5, h6⟩ := G.con _ _ hq
      obtain ⟨g1, g2⟩ := G.glob h2
      exact PE.imp (L2.pe_glob g1 h4 h5 g2) fun σ H Q w => by
        obtain ⟨env, m, φ, r, m', A, e1, q⟩ := w
        cases e1
        exact q v H φ (Ext.refl _ _) A.mr (h6 H φ)
    · cases h
  | .tup es, L, X, x, G, h => by
    simp only [chkE] at h
    split at h
    · simp only [Bool.and_eq_true, decide_eq_true_eq] at h
      exact pe_tp (sVs es L X _ G h.2) fun env m ds m' e => by rw [evs_len cf es _ _ _ _ e]; exact h.1
    · cases h
  | .lst es, L, X, x, G, h => by
    simp only [chkE] at h
    split at h
    · simp only [Bool.and_eq_true, decide_eq_true_eq] at h
      exact pe_ls (sVs es L X _ G h.2) fun env m ds m' e => by rw [evs_len cf es _ _ _ _ e]; exact h.1
    · cases h
  | .bin op a b, L, X, x, G, h => by
    simp only [chkE] at h
    split at h
    · simp only [Bool.and_eq_true, decide_eq_true_eq] at h
      obtain ⟨⟨rfl, h1⟩, h2⟩ := h
      exact pe_bin op (sE a L X _ G h1) (sE b L X _ G h2)
    · cases h
  | .neg a, L, X, x, G, h => by
    simp only [chkE] at h
    split at h
    · exact pe_ng (sE a L X _ G h)
    · cases h
  | .not a, L, X, x, G, h => by
    simp only [chkE] at h
    split at h
    · exact pe_nt (sE a L X _ G h)
    · cases h
  | .and es, L, X, x, G, h => by
    simp only [chkE] at h
    split at h
    · simp only [Bool.and_eq_true, decide_eq_true_eq] at h
      exact sAnd es L X _ _ G h.1 h.2
    · cases h
  | .or es, L, X, x, G, h => by
    simp only [chkE] at h
    split at h
    · simp only [Bool.and_eq_true, decide_eq_true_eq] at h
      exact sOr es L X _ _ G h.1 h.2
    · cases h
  | .cmp op a b, L, X, x, G, h => by
    simp only [chkE] at h
    split at h
    · simp only [Bool.and_eq_true, decide_eq_true_eq] at h
      obtain ⟨⟨⟨rfl, h1⟩, h2⟩, h3⟩ := h
      exact pe_cp G.hu op (marks_of h1) (sE a L X _ G h2) (sE b L X _ G h3)
    · cases h
  | .cmp2 op op' a b c, L, X, x, G, h => by
    simp only [chkE] at h
    split at h
    · simp only [Bool.and_eq_true, decide_eq_true_eq] at h
      obtain ⟨⟨⟨⟨⟨rfl, rfl⟩, h1⟩, h2⟩, h3⟩, h4⟩ := h
      exact pe_ch G.hu op op' (marks_of h1) (sE a L X _ G h2) (sE b L X _ G h3) (sE c L X _ G h4)
    · cases h
  | .isN neg a, L, X, x, G, h => by
    simp only [chkE] at h
    split at h
    · simp only [Bool.and_eq_true, decide_eq_true_eq] at h
      obtain ⟨rfl, h2⟩ := h
      exact pe_is0 (sE a L X _ G h2)
    · cases h
  | .isB neg b a, L, X, x, G, h => by
    simp only [chkE] at h
    split at h
    · simp only [Bool.and_eq_true, decide_eq_true_eq] at h
      obtain ⟨⟨rfl, rfl⟩, h2⟩ := h
      exact pe_is1 (sE a L X _ G h2)
    · cases h
  | .ife c a b, L, X, x, G, h => by
    simp only [chkE] at h
    split at h
    · simp only [Bool.and_eq_true] at h
      refine PE.imp (pe_if (sT c L X _ G h.1.1) (sE a L X _ G h.1.2) (sE b L X _ G h.2)) fun σ H Q w => ?_
      obtain ⟨env, m, φ, r, m', A, e1, q⟩ := w
      obtain ⟨y, m1, e2, e1⟩ := Res.bind_inv e1
      refine ⟨env, m, φ, r, m', A, ?_, q⟩
      show ((ev cf c env m).bind _).bind _ = _
      rw [e2]
      show (Res.of (tru m1 y) m1).bind _ = _
      cases e3 : tru m1 y with
      | none => simp only [e3] at e1; cases e1
      | some t => cases t <;> (simp only [e3] at e1; exact e1)
    · cases h
  | .ix a i, L, X, x, G, h => by
    simp only [chkE] at h
    split at h
    · simp only [Bool.and_eq_true] at h
      exact pe_it (plain_ix h.1.1) (sE a L X _ G h.1.2) (sE i L X _ G h.2)
    · cases h
  | .sl a lo hi, L, X, x, G, h => by
    simp only [chkE] at h
    split at h
    · simp only [Bool.and_eq_true] at h
      exact pe_sl (sE a L X _ G h.1.1) (sO lo L X _ G h.1.2) (sO hi L X _ G h.2)
    · cases h
  | .call f es, L, X, x, G, h => by
    simp only [chkE] at h
    split at h
    · simp only [Bool.and_eq_true] at h
      obtain ⟨⟨h1, h2⟩, h3⟩ := h
      split at h1
      · rename_i s hs
        rw [decide_eq_true_eq] at h1
        subst h1
        obtain ⟨a, fd, f1, f2, f3, f4⟩ := G.fns f s hs
        obtain ⟨g1, g2⟩ := G.glob h2
        obtain ⟨pl, ln⟩ := chkEs_plain h3
        exact pe_cl f4 G.gd G.room g1 f1 f2 f3 g2 (sVs es L X _ G h3) (fun e es' q => by subst q; exact ⟨star_of (pl e (by simp)), back1 pl⟩) ln
      · cases h1
    · cases h
  | .blt b es, L, X, x, G, h => by
    simp only [chkE] at h
    split at h
    · simp only [Bool.and_eq_true, decide_eq_true_eq, List.contains_iff_mem] at h
      obtain ⟨⟨⟨⟨rfl, h2⟩, h3⟩, h4⟩, h5⟩ := h
      obtain ⟨pl, ln⟩ := chkEs_plain h4
      have hA := sRs es L X _ G h4
      rename_i xs _
      cases xs with
      | nil => rw [← ln] at h5; exact absurd h5 (by decide)
      | cons e r => exact pe_bl G.calm G.gd G.hu rfl (G.glob h2).1 (G.blt _ h3) hA (star_of (pl e (by simp))) (back1 pl)
    · cases h
  | .isi a ts, L, X, x, G, h => by
    simp only [chkE] at h
    split at h
    · simp only [Bool.and_eq_true, decide_eq_true_eq, List.contains_iff_mem] at h
      obtain ⟨⟨⟨⟨⟨rfl, h2⟩, h3⟩, h4⟩, h5⟩, h6⟩ := h
      have hA := sE a L X _ G h5
      split at h6
      · obtain ⟨p, q⟩ := G.tys h6
        match ts, p with
        | [t], .cons p .nil => exact pe_is (G.glob h2).1 (G.blt _ h3) hA p (star_of h4) (star_of rfl)
      · simp only [Bool.and_eq_true, decide_eq_true_eq] at h6
        obtain ⟨p, q⟩ := G.tys h6.1
        refine pe_is2 (G.glob h2).1 (G.blt _ h3) hA p h6.2 (star_of h4) fun e es z => star_of (q e ?_)
        exact z.subset (by simp)
      · cases h6
    · cases h
  | .mth t o es, L, X, x, G, h => by
    simp only [chkE] at h
    split at h
    · cases t with
      | append =>
        simp only [Bool.and_eq_true, decide_eq_true_eq] at h
        obtain ⟨⟨⟨⟨⟨rfl, h1⟩, h2⟩, h3⟩, h4⟩, h5⟩ := h
        obtain ⟨pl, ln⟩ := chkEs_plain h4
        have hA := sVs es L X _ G h4
        rw [h5] at ln
        rename_i xs _
        match xs, ln with
        | [e], _ => exact pe_app (sE o L X _ G h3) hA (base_of h1) h2 (star_of (pl e (by simp)))
      | pop =>
        simp only [Bool.and_eq_true, decide_eq_true_eq] at h
        obtain ⟨⟨⟨⟨⟨rfl, h1⟩, h2⟩, h3⟩, h4⟩, h5⟩ := h
        obtain ⟨pl, ln⟩ := chkEs_plain h4
        rw [h5] at ln
        rename_i xs _
        cases es with
        | cons _ _ => simp [Es.len] at h5
        | nil =>
          match xs, ln with
          | [], _ => exact pe_pop (sE o L X _ G h3) (base_of h1) h2
      | popAt =>
        simp only [Bool.and_eq_true, decide_eq_true_eq] at h
        obtain ⟨⟨⟨⟨⟨rfl, h1⟩, h2⟩, h3⟩, h4⟩, h5⟩ := h
        obtain ⟨pl, ln⟩ := chkEs_plain h4
        have hA := sVs es L X _ G h4
        rw [h5] at ln
        rename_i xs _
        match xs, ln with
        | [e], _ => exact pe_popAt (sE o L X _ G h3) hA (base_of h1) h2 (star_of (pl e (by simp)))
      | extend =>
        simp only [Bool.and_eq_true, decide_eq_true_eq] at h
        obtain ⟨⟨⟨⟨⟨rfl, h1⟩, h2⟩, h3⟩, h4⟩, h5⟩ := h
        obtain ⟨pl, ln⟩ := chkEs_plain h4
        have hA := sVs es L X _ G h4
        rw [h5] at ln
        rename_i xs _
        match xs, ln with
        | [e], _ => exact pe_ext (sE o L X _ G h3) hA (base_of h1) h2 (star_of (pl e (by simp)))
    · cases h
  | .comp elt p K' its cs own, L, X, x, G, h => by
    simp only [chkE] at h
    split at h
    · rename_i y tg iter ifs s pos
      simp only [Bool.and_eq_true, decide_eq_true_eq, List.all_eq_true, List.contains_iff_mem] at h
      obtain ⟨⟨⟨⟨⟨⟨⟨h1, h2⟩, h3⟩, h4⟩, h5⟩, h6⟩, h7⟩, h8⟩ := h
      have B : BlkP X cf elt p K' its cs own y tg iter ifs s := ⟨pi_of G h5 (fun xs q => sRs its L X xs G q) (fun e es q x z => by subst q; exact sE e L X x G z), L2.blkOk_by (by rw [G.hN, G.hsc]; exact h1), fun s' H C cl fp => (G.blk s' H s C cl fp).pat p tg h2,
        fun s' H C cl fp => sTs cs (L.blk s) _ ifs (G.blk s' H s C cl fp) h6 h7, fun s' H C cl fp => pe_fc (sE elt (L.blk s) _ y (G.blk s' H s C cl fp) h8), fold_of h4, h3⟩
      refine PE.imp (L2.pe_lc G.calm (by rw [G.hN]; exact G.nd) B.pi B.ok B.pg B.pt B.pe B.fold) fun σ H Q w => ?_
      have := lc_ok B.slots w
      rw [own_snd]
      exact this
    · cases h
theorem sT : ∀ (e : E) (L : Lex) (X : Cx) (x : Expr), GC T cf k L X → chkE T e L x = true → PT X x (tT X.K (tst (ev cf e)))
  | .v i, L, X, x, G, h => pt_tr (sE (.v i) L X x G h) (by simp only [chkE] at h; split at h <;> first | (intro _; rfl) | cases h)
  | .c d, L, X, x, G, h => pt_tr (sE (.c d) L X x G h) (by simp only [chkE] at h; split at h <;> first | (intro _; rfl) | cases h)
  | .g n d, L, X, x, G, h => pt_tr (sE (.g n d) L X x G h) (by simp only [chkE] at h; split at h <;> first | (intro _; rfl) | cases h)
  | .tup es, L, X, x, G, h => pt_tr (sE (.tup es) L X x G h) (by simp only [chkE] at h; split at h <;> first | (intro _; rfl) | cases h)
  | .lst es, L, X, x, G, h => pt_tr (sE (.lst es) L X x G h) (by simp only [chkE] at h; split at h <;> first | (intro _; rfl) | cases h)
  | .bin op a b, L, X, x, G, h => pt_tr (sE (.bin op a b) L X x G h) (by simp only [chkE] at h; split at h <;> first | (intro _; rfl) | cases h)
  | .neg a, L, X, x, G, h => pt_tr (sE (.neg a) L X x G h) (by simp only [chkE] at h; split at h <;> first | (intro _; rfl) | cases h)
  | .not a, L, X, x, G, h => by
    simp only [chkE] at h
    split at h
    · exact pt_nt (sT a L X _ G h)
    · cases h
  | .and es, L, X, x, G, h => by
    simp only [chkE] at h
    split at h
    · simp only [Bool.and_eq_true, decide_eq_true_eq] at h
      exact (sAndT es L X _ _ G h.1 h.2).pt
    · cases h
  | .or es, L, X, x, G, h => by
    simp only [chkE] at h
    split at h
    · simp only [Bool.and_eq_true, decide_eq_true_eq] at h
      exact (sOrT es L X _ _ G h.1 h.2).pt
    · cases h
  | .cmp op a b, L, X, x, G, h => by
    simp only [chkE] at h
    split at h
    · simp only [Bool.and_eq_true, decide_eq_true_eq] at h
      obtain ⟨⟨⟨rfl, h1⟩, h2⟩, h3⟩ := h
      exact pt_cp G.hu op (marks_of h1) (sE a L X _ G h2) (sE b L X _ G h3)
    · cases h
  | .cmp2 op op' a b c, L, X, x, G, h => by
    simp only [chkE] at h
    split at h
    · simp only [Bool.and_eq_true, decide_eq_true_eq] at h
      obtain ⟨⟨⟨⟨⟨rfl, rfl⟩, h1⟩, h2⟩, h3⟩, h4⟩ := h
      exact pt_ch G.hu op op' (marks_of h1) (sE a L X _ G h2) (sE b L X _ G h3) (sE c L X _ G h4)
    · cases h
  | .isN neg a, L, X, x, G, h => by
    simp only [chkE] at h
    split at h
    · simp only [Bool.and_eq_true, decide_eq_true_eq] at h
      obtain ⟨rfl, h2⟩ := h
      exact pt_is0 (sE a L X _ G h2)
    · cases h
  | .isB neg b a, L, X, x, G, h => by
    simp only [chkE] at h
    split at h
    · simp only [Bool.and_eq_true, decide_eq_true_eq] at h
      obtain ⟨⟨rfl, rfl⟩, h2⟩ := h
      exact pt_is1 (sE a L X _ G h2)
    · cases h
  | .ife c a b, L, X, x, G, h => by
    simp only [chkE] at h
    split at h
    · simp only [Bool.and_eq_true] at h
      refine PT.imp (pt_if (sT c L X _ G h.1.1) (sT a L X _ G h.1.2) (sT b L X _ G h.2)) fun σ H Q w => ?_
      obtain ⟨env, m, φ, r, m', A, e1, q⟩ := w
      obtain ⟨z, m2, e1, e5⟩ := Res.bind_inv e1
      obtain ⟨y, m1, e2, e1⟩ := Res.bind_inv e1
      refine ⟨env, m, φ, r, m', A, ?_, q⟩
      show (((ev cf c env m).bind _).bind _).bind _ = _
      rw [e2]
      show ((Res.of (tru m1 y) m1).bind _).bind _ = _
      cases e3 : tru m1 y with
      | none => simp only [e3] at e1; cases e1
      | some t =>
        cases t <;> (simp only [e3] at e1; show Res.bind _ _ = _)
        · show (ev cf b env m1).bind _ = _
          rw [e1]; exact e5
        · show (ev cf a env m1).bind _ = _
          rw [e1]; exact e5
    · cases h
  | .ix a i, L, X, x, G, h => pt_tr (sE (.ix a i) L X x G h) (by simp only [chkE] at h; split at h <;> first | (intro _; rfl) | cases h)
  | .sl a lo hi, L, X, x, G, h => pt_tr (sE (.sl a lo hi) L X x G h) (by simp only [chkE] at h; split at h <;> first | (intro _; rfl) | cases h)
  | .call f es, L, X, x, G, h => pt_tr (sE (.call f es) L X x G h) (by simp only [chkE] at h; split at h <;> first | (intro _; rfl) | cases h)
  | .blt b es, L, X, x, G, h => pt_tr (sE (.blt b es) L X x G h) (by simp only [chkE] at h; split at h <;> first | (intro _; rfl) | cases h)
  | .isi a ts, L, X, x, G, h => pt_tr (sE (.isi a ts) L X x G h) (by simp only [chkE] at h; split at h <;> first | (intro _; rfl) | cases h)
  | .mth t o es, L, X, x, G, h => pt_tr (sE (.mth t o es) L X x G h) (by simp only [chkE] at h; split at h <;> first | (intro _; rfl) | cases h)
  | .comp elt p K' its cs own, L, X, x, G, h => pt_tr (sE (.comp elt p K' its cs own) L X x G h) (by simp only [chkE] at h; split at h <;> first | (intro _; rfl) | cases h)
theorem sVs : ∀ (es : Es) (L : Lex) (X : Cx) (xs : List Expr), GC T cf k L X → chkEs T es L xs = true → PA X xs (tVs X.K (evs cf es))
  | .nil, L, X, xs, G, h => by
    simp only [chkEs, List.isEmpty_iff] at h
    subst h
    exact pa_nil' cf
  | .cons e es, L, X, xs, G, h => by
    simp only [chkEs] at h
    split at h
    · cases h
    · simp only [Bool.and_eq_true] at h
      exact pa_cons' (sE e L X _ G h.1.2) (sVs es L X _ G h.2) (star_of h.1.1)
theorem sRs : ∀ (es : Es) (L : Lex) (X : Cx) (xs : List Expr), GC T cf k L X → chkEs T es L xs = true → PA X xs (tRs X.K (evrs cf es))
  | .nil, L, X, xs, G, h => by
    simp only [chkEs, List.isEmpty_iff] at h
    subst h
    exact pr_nil cf
  | .cons e es, L, X, xs, G, h => by
    simp only [chkEs] at h
    split at h
    · cases h
    · simp only [Bool.and_eq_true] at h
      exact pr_cons (sE e L X _ G h.1.2) (sRs es L X _ G h.2) (star_of h.1.1)
theorem sAnd : ∀ (es : Es) (L : Lex) (X : Cx) (xs : List Expr) (pos : Pos), GC T cf k L X → chkEs T es L xs = true → 1 ≤ es.len → PE X (.BoolOp .And xs pos) (tR X.K (evAnd cf es))
  | .nil, L, X, xs, pos, G, h, hl => absurd hl (by decide)
  | .cons e es, L, X, [], pos, G, h, hl => by simp [chkEs] at h
  | .cons e es, L, X, x :: r, pos, G, h, hl => by
    · simp only [chkEs, Bool.and_eq_true] at h
      have h1 := sE e L X _ G h.1.2
      have h2 := sAnd es L X _ pos G h.2
      cases es with
      | nil =>
        have h3 := h.2
        simp only [chkEs, List.isEmpty_iff] at h3
        subst h3
        exact pe_a1 h1
      | cons e2 es2 =>
        cases r with
        | nil => exact absurd h.2 (by simp [chkEs])
        | cons b r => exact pe_a2 h1 (h2 (by show 1 ≤ es2.len + 1; omega))
theorem sOr : ∀ (es : Es) (L : Lex) (X : Cx) (xs : List Expr) (pos : Pos), GC T cf k L X → chkEs T es L xs = true → 1 ≤ es.len → PE X (.BoolOp .Or xs pos) (tR X.K (evOr cf es))
  | .nil, L, X, xs, pos, G, h, hl => absurd hl (by decide)
  | .cons e es, L, X, [], pos, G, h, hl => by simp [chkEs] at h
  | .cons e es, L, X, x :: r, pos, G, h, hl => by
    · simp only [chkEs, Bool.and_eq_true] at h
      have h1 := sE e L X _ G h.1.2
      have h2 := sOr es L X _ pos G h.2
      cases es with
      | nil =>
        have h3 := h.2
        simp only [chkEs, List.isEmpty_iff] at h3
        subst h3
        exact pe_o1 h1
      | cons e2 es2 =>
        cases r with
        | nil => exact absurd h.2 (by simp [chkEs])
        | cons b r => exact pe_o2 h1 (h2 (by show 1 ≤ es2.len + 1; omega))
theorem sAndT : ∀ (es : Es) (L : Lex) (X : Cx) (xs : List Expr) (pos : Pos), GC T cf k L X → chkEs T es L xs = true → 1 ≤ es.len → PW X (.BoolOp .And xs pos) (tT X.K (tst (evAnd cf es)))
  | .nil, L, X, xs, pos, G, h, hl => absurd hl (by decide)
  | .cons e es, L, X, [], pos, G, h, hl => by simp [chkEs] at h
  | .cons e es, L, X, x :: r, pos, G, h, hl => by
    · simp only [chkEs, Bool.and_eq_true] at h
      have h1 := sT e L X _ G h.1.2
      have h2 := sAndT es L X _ pos G h.2
      cases es with
      | nil =>
        have h3 := h.2
        simp only [chkEs, List.isEmpty_iff] at h3
        subst h3
        exact pw_a1 h1
      | cons e2 es2 =>
        cases r with
        | nil => exact absurd h.2 (by simp [chkEs])
        | cons b r => exact pw_a2 h1 (h2 (by show 1 ≤ es2.len + 1; omega))
theorem sOrT : ∀ (es : Es) (L : Lex) (X : Cx) (xs : List Expr) (pos : Pos), GC T cf k L X → chkEs T es L xs = true → 1 ≤ es.len → PW X (.BoolOp .Or xs pos) (tT X.K (tst (evOr cf es)))
  | .nil, L, X, xs, pos, G, h, hl => absurd hl (by decide)
  | .cons e es, L, X, [], pos, G, h, hl => by simp [chkEs] at h
  | .cons e es, L, X, x :: r, pos, G, h, hl => by
    · simp only [chkEs, Bool.and_eq_true] at h
      have h1 := sT e L X _ G h.1.2
      have h2 := sOrT es L X _ pos G h.2
      cases es with
      | nil =>
        have h3 := h.2
        simp only [chkEs, List.isEmpty_iff] at h3
        subst h3
        exact pw_o1 h1
      | cons e2 es2 =>
        cases r with
        | nil => exact absurd h.2 (by simp [chkEs])
        | cons b r => exact pw_o2 h1 (h2 (by show 1 ≤ es2.len + 1; omega))
theorem sO : ∀ (es : Es) (L : Lex) (X : Cx) (o : Option Expr), GC T cf k L X → chkO T es L o = true → PO X o (tP X.K (evPart cf es))
  | .nil, L, X, o, G, h => by
    simp only [chkO, Option.isNone_iff_eq_none] at h
    subst h
    exact po_nil cf
  | .cons e es, L, X, o, G, h => by
    simp only [chkO] at h
    split at h
    · exact po_one (sE e L X _ G h)
    · cases h
theorem sTs : ∀ (es : Es) (L : Lex) (X : Cx) (xs : List Expr), GC T cf k L X → chkEs T es L xs = true → es.len ≤ 1 → PTs X xs (tT X.K (evTs cf es))
  | .nil, L, X, xs, G, h, hl => by
    simp only [chkEs, List.isEmpty_iff] at h
    subst h
    exact pts_nil'
  | .cons e es, L, X, xs, G, h, hl => by
    simp only [chkEs] at h
    split at h
    · cases h
    · simp only [Bool.and_eq_true] at h
      have h1 := sT e L X _ G h.1.2
      cases es with
      | nil =>
        have h3 := h.2
        simp only [chkEs, List.isEmpty_iff] at h3
        subst h3
        exact pts_one' h1
      | cons e2 es2 => exact absurd hl (by show ¬ es2.len + 1 + 1 ≤ 1; omega)
end
end
end Mp
end SMpL
section SMpM
set_option Elab.async false
set_option linter.all false
set_option maxHeartbeats 4000000
/-! MpM: statements. -/
namespace Mp
open PySem PySem.Spec
open L2 (V Hp HO St TE TT TA TI TG TGs TS TO Ends Rd SqL SqT PE PT PA PS PSs PG PGs PI PO PW PTs Cx Inv RelV Vals upd upd_same upd_ne OpR VK R2 XK Sp Room Env0 Binds It Walk CallR)
section
variable {K : PySem.W.Frag}
/-- what is wanted behind a statement that ends so -/
def Wish (K : PySem.W.Frag) (φ : List Addr) (H : Hp) (D : Ends) (fl : Fl) (m' : Mem) : Prop := match fl with
  | .nx env' => ∀ σ' H' φ', Ext φ H φ' H' → At K σ' H' env' m' φ' → D.nx σ' H'
  | .ct env' => ∀ σ' H' φ', Ext φ H φ' H' → At K σ' H' env' m' φ' → D.ct σ' H'
  | .rt r => ∀ v H' φ', Ext φ H φ' H' → MR K H' φ' m' → RR K H φ' H' r v → D.rt v H'
def tS (K : PySem.W.Frag) (f : LE → M Fl) : TS := fun D σ H => ∃ env m φ fl m', At K σ H env m φ ∧ f env m = .ok fl m' ∧ Wish K φ H D fl m'
theorem Wish.later {φ φ1 : List Addr} {H H1 : Hp} {D : Ends} {fl : Fl} {m' : Mem} (w : Wish K φ H D fl m') (E : Ext φ H φ1 H1) : Wish K φ1 H1 D fl m' := by
  cases fl with
  | nx env' => exact fun σ' H' φ' E' A => w σ' H' φ' (E.trans E') A
  | ct env' => exact fun σ' H' φ' E' A => w σ' H' φ' (E.trans E') A
  | rt r => exact fun v H' φ' E' M R => w v H' φ' (E.trans E') M (R.base E E')
variable {X : Cx} {cf : Nat → List DV → M RV}
theorem pss_n : PSs X [] (tS X.K (evSs cf .nil)) := PSs.imp L2.pss_nil fun D σ H w => by
  obtain ⟨env, m, φ, fl, m', A, e1, q⟩ := w
  cases e1
  exact q σ H φ (Ext.refl _ _) A
theorem pss_c {st : Stmt} {rest : List Stmt} {s : S} {ss : Ss} (h1 : PS X st (tS X.K (evS cf s))) (h2 : PSs X rest (tS X.K (evSs cf ss))) : PSs X (st :: rest) (tS X.K (evSs cf (.cons s ss))) := PSs.imp (L2.pss_cons h1 h2) fun D σ H w => by
  obtain ⟨env, m, φ, fl, m', A, e1, q⟩ := w
  obtain ⟨f1, m1, e2, e1⟩ := Res.bind_inv e1
  refine ⟨env, m, φ, f1, m1, A, e2, ?_⟩
  cases f1 with
  | nx env' => exact fun σ' H' φ' E A' => ⟨env', m1, φ', fl, m', A', e1, q.later E⟩
  | ct env' => cases e1; exact q
  | rt r => cases e1; exact q
theorem asg_rd {p : Pat} {e : E} {D : Ends} {σ : St} {H : Hp} (w : tS K (evS cf (.asg p e)) D σ H) : tR K (ev cf e) σ H fun x H1 => tG K p x σ H1 D.nx := by
  obtain ⟨env, m, φ, fl, m', A, e1, q⟩ := w
  obtain ⟨x, m1, e2, e1⟩ := Res.bind_inv e1
  obtain ⟨d, m2, e3, e1⟩ := Res.bind_inv e1
  obtain ⟨e6, em⟩ := Res.of_inv e1
  subst em
  obtain ⟨env', e4, ef⟩ := Option.map_eq_some_iff.mp e6
  subst ef
  refine ⟨env, m, φ, x, m1, A, e2, fun v H1 φ1 E1 M1 R1 => ?_⟩
  obtain ⟨φ2, hp, E2, M2, g⟩ := force_ok R1 E1 M1 e3
  exact ⟨env, _, φ2, d, env', ⟨(A.er.ext A.mr E1).pre hp, M2⟩, g, e4, fun σ' A' _ _ => q σ' H1 φ2 E2 A'⟩
theorem asgl_rd {ps : List Pat} {e : E} {D : Ends} {σ : St} {H : Hp} (w : tS K (evS cf (.asgl ps e)) D σ H) : tR K (ev cf e) σ H fun x H1 => L2.gLst K ps.length (tGs K ps) x σ H1 D.nx := by
  obtain ⟨env, m, φ, fl, m', A, e1, q⟩ := w
  obtain ⟨x, m1, e2, e1⟩ := Res.bind_inv e1
  obtain ⟨d, m2, e3, e1⟩ := Res.bind_inv e1
  split at e1
  · rename_i ds ks hs
    obtain ⟨e6, em⟩ := Res.of_inv e1
    subst em
    obtain ⟨env', e4, ef⟩ := Option.map_eq_some_iff.mp e6
    subst ef
    refine ⟨env, m, φ, x, m1, A, e2, fun v H1 φ1 E1 M1 R1 => ?_⟩
    obtain ⟨φ2, hp, E2, M2, g⟩ := force_ok R1 E1 M1 e3
    obtain ⟨a, xs, rfl, g2, hl, _⟩ := seq_ok (r := .val d) (H0 := H1) g M2 hs
    exact ⟨a, xs, rfl, hl rfl, by rw [g2.length, puts_len e4], env, _, φ2, ds, env', ⟨(A.er.ext A.mr E1).pre hp, M2⟩, g2, e4, fun σ' A' _ _ => q σ' H1 φ2 E2 A'⟩
  · cases e1
theorem gnm_rd {i : Nat} {x : V} {σ : St} {H : Hp} {Q : St → Hp → Prop} (w : tG K (.nm i) x σ H Q) : L2.gName i x σ H Q := by
  obtain ⟨env, m, φ, d, env', A, g, e, q⟩ := w
  cases e
  refine q _ ⟨A.er.set i g, A.mr⟩ (by rw [List.length_set]) fun j hj => ?_
  rw [List.getElem?_set_ne]
  intro e
  subst e
  exact hj (by simp [Pat.slots])
theorem ps_asn {tg v : Expr} {p : Pat} {e : E} {pos : Pos} (he : PE X v (tR X.K (ev cf e))) (hg : PG X tg (tG X.K p)) (hs : swapsWithSole [tg] v pos.line X.env = pure false) (hw : swappedStores [tg] v X.env = pure none)
    (h1 : (assignEach [tg] X.env).map (·.2) = [assign tg X.env]) : PS X (.Assign [tg] v pos) (tS X.K (evS cf (.asg p e))) := PS.imp (L2.ps_asg he hg hs hw h1) fun _ _ _ w => asg_rd w
theorem par_rd {ps : List Pat} {es : Es} {D : Ends} {σ : St} {H : Hp} (w : tS K (evS cf (.asg (.tup ps) (.tup es))) D σ H) : tVs K (evs cf es) σ H fun vs H1 => tGs K ps vs σ H1 D.nx := by
  obtain ⟨env, m, φ, fl, m', A, e1, q⟩ := w
  obtain ⟨x, m1, e2, e1⟩ := Res.bind_inv e1
  obtain ⟨ds, m3, e5, e2⟩ := Res.bind_inv e2
  cases e2
  obtain ⟨d, m2, e3, e1⟩ := Res.bind_inv e1
  cases e3
  obtain ⟨e6, em⟩ := Res.of_inv e1
  subst em
  obtain ⟨env', e4, ef⟩ := Option.map_eq_some_iff.mp e6
  subst ef
  exact ⟨env, m, φ, ds, _, A, e5, fun vs H1 φ1 E1 M1 R1 => ⟨env, _, φ1, ds, env', A.ext E1 M1, R1, e4, fun σ' A' _ _ => q σ' H1 φ1 E1 A'⟩⟩
theorem gs2_rd {i j : Nat} {vs : List V} {σ : St} {H : Hp} {Q : St → Hp → Prop} (w : tGs K [.nm i, .nm j] vs σ H Q) : ∃ v u, vs = [v, u] ∧ Q ((σ.set i (some v)).set j (some u)) H := by
  obtain ⟨env, m, φ, ds, env', A, g, e, q⟩ := w
  have hl := puts_len e
  match ds, hl with
  | [d1, d2], _ =>
    obtain ⟨v, r, rfl, g1, g2⟩ := g
    obtain ⟨u, r2, rfl, g2, g3⟩ := g2
    rw [show r2 = [] from g3]
    cases e
    refine ⟨v, u, rfl, q _ ⟨(A.er.set i g1).set j g2, A.mr⟩ (by simp) fun l hl => ?_⟩
    simp only [Pat.slotss, Pat.slots, List.append_nil, List.mem_append, List.mem_singleton, not_or] at hl
    rw [List.getElem?_set_ne (fun z => hl.2 z.symm), List.getElem?_set_ne (fun z => hl.1 z.symm)]
theorem gs3_rd {i j l : Nat} {vs : List V} {σ : St} {H : Hp} {Q : St → Hp → Prop} (w : tGs K [.nm i, .nm j, .nm l] vs σ H Q) : ∃ v u t, vs = [v, u, t] ∧ Q (((σ.set i (some v)).set j (some u)).set l (some t)) H := by
  obtain ⟨env, m, φ, ds, env', A, g, e, q⟩ := w
  have hl := puts_len e
  match ds, hl with
  | [d1, d2, d3], _ =>
    obtain ⟨v, r, rfl, g1, g2⟩ := g
    obtain ⟨u, r2, rfl, g2, g3⟩ := g2
    obtain ⟨t, r3, rfl, g3, g4⟩ := g3
    rw [show r3 = [] from g4]
    cases e
    refine ⟨v, u, t, rfl, q _ ⟨((A.er.set i g1).set j g2).set l g3, A.mr⟩ (by simp) fun n hl => ?_⟩
    simp only [Pat.slotss, Pat.slots, List.append_nil, List.mem_append, List.mem_singleton, not_or] at hl
    rw [List.getElem?_set_ne (fun z => hl.2.2 z.symm), List.getElem?_set_ne (fun z => hl.2.1 z.symm), List.getElem?_set_ne (fun z => hl.1 z.symm)]
/-- o[i] = v -/
theorem ps_aix {o i v : Expr} {o' i' e' : E} {p2 pos : Pos} (ho : PE X o (tR X.K (ev cf o'))) (hi : PE X i (tR X.K (ev cf i'))) (he : PE X v (tR X.K (ev cf e'))) (hs : swapsWithSole [.Subscript o i p2] v pos.line X.env = pure false)
    (hw : swappedStores [.Subscript o i p2] v X.env = pure none) (ha : ∀ v, assign (.Subscript o i p2) X.env v = (do
      let ov ← holding [v] (eval o X.env)
      let iv ← holding [v, ov] (eval i X.env)
      standAt p2
      holding [v, ov, iv] (setItem ov iv v)
      release [v, ov, iv] [])) : PS X (.Assign [.Subscript o i p2] v pos) (tS X.K (evS cf (.aix o' i' e'))) :=
  PS.imp (L2.ps_asg (pe_fc he) (L2.pg_sub ho hi L2.set_list ha) hs hw rfl) fun D σ H w => by
    obtain ⟨env, m, φ, fl, m', A, e1, q⟩ := w
    obtain ⟨x, m1, e2, e1⟩ := Res.bind_inv e1
    obtain ⟨d, m2, e3, e1⟩ := Res.bind_inv e1
    obtain ⟨y, m3, e4, e1⟩ := Res.bind_inv e1
    obtain ⟨z, m4, e5, e1⟩ := Res.bind_inv e1
    refine ⟨env, m, φ, d, m2, A, by show (ev cf e' env m).bind force = _; rw [e2]; exact e3, fun v1 H1 φ1 E1 M1 g1 => ⟨env, m2, φ1, y, m3, A.ext E1 M1, e4, fun v2 H2 φ2 E2 M2 g2 => ⟨env, m3, φ2, z, m4, (A.ext E1 M1).ext E2 M2, e5, fun v3 H3 φ3 E3 M3 g3 => ?_⟩⟩⟩
    have shape : ∃ n k zs j, y = .val (.ref n) ∧ z = .val (.int k) ∧ m4[n]? = some (.lst zs) ∧ L2.ixN zs.length k = some j ∧ fl = .nx env ∧ m' = m4.set n (.lst (zs.set j d)) := by
      split at e1
      · rename_i n k _
        split at e1
        · rename_i zs hz
          split at e1
          · rename_i j hj
            cases e1
            exact ⟨n, k, zs, j, rfl, rfl, hz, hj, rfl, rfl⟩
          · cases e1
        · cases e1
      · cases e1
    obtain ⟨n, k, zs, j, rfl, rfl, hz, hj, rfl, rfl⟩ := shape
    obtain ⟨l, rfl, hn⟩ := g2
    have hn3 := E3.pre n l hn
    obtain ⟨ys, hy, g4⟩ := M3.ob n l _ hn3 hz
    have g1' : VR X.K H3 φ3 d v1 := (g1.ext M1 E2).ext M2 E3
    refine ⟨l, ys, k, j, rfl, g3, hy, by rw [g4.length]; exact hj, ?_⟩
    have E4 : Ext φ H φ3 (upd H3 l (.lst (ys.set j v1))) := ((E1.trans E2).trans E3).write (List.mem_of_getElem? hn3)
    exact q σ _ φ3 E4 ⟨A.er.ext A.mr E4, M3.write hn3 hz (g4.set g1' j)⟩
theorem ps_ex {e : Expr} {e' : E} {pos : Pos} (he : PE X e (tR X.K (ev cf e'))) (hs : swapsWith e none pos.line X.env = pure false) : PS X (.Expr e pos) (tS X.K (evS cf (.ex e'))) := PS.imp (L2.ps_expr he hs) fun D σ H w => by
  obtain ⟨env, m, φ, fl, m', A, e1, q⟩ := w
  obtain ⟨x, m1, e2, e1⟩ := Res.bind_inv e1
  cases e1
  exact ⟨env, m, φ, x, _, A, e2, fun v H1 φ1 E1 M1 R1 => q σ H1 φ1 E1 (A.ext E1 M1)⟩
theorem ps_rt {e : Expr} {e' : E} {pos : Pos} (he : PE X e (tR X.K (ev cf e'))) : PS X (.Return (some e) pos) (tS X.K (evS cf (.ret e'))) := PS.imp (L2.ps_ret he) fun D σ H w => by
  obtain ⟨env, m, φ, fl, m', A, e1, q⟩ := w
  obtain ⟨x, m1, e2, e1⟩ := Res.bind_inv e1
  cases e1
  exact ⟨env, m, φ, x, _, A, e2, q⟩
theorem ps_rn {pos : Pos} : PS X (.Return none pos) (tS X.K (evS cf .retn)) := PS.imp L2.ps_retN fun D σ H w => by
  obtain ⟨env, m, φ, fl, m', A, e1, q⟩ := w
  cases e1
  exact q .non H φ (Ext.refl _ _) A.mr rfl
theorem ps_i {c : Expr} {a b : List Stmt} {c' : E} {a' b' : Ss} {pos : Pos} (hc : PT X c (tT X.K (tst (ev cf c')))) (ha : PSs X a (tS X.K (evSs cf a'))) (hb : PSs X b (tS X.K (evSs cf b'))) : PS X (.If c a b pos) (tS X.K (evS cf (.ife c' a' b'))) := PS.imp (L2.ps_if hc ha hb) fun D σ H w => by
  obtain ⟨env, m, φ, fl, m', A, e1, q⟩ := w
  obtain ⟨t, m1, e2, e1⟩ := Res.bind_inv e1
  refine ⟨env, m, φ, t, m1, A, e2, fun H1 φ1 E1 M1 => ?_⟩
  cases t with
  | true => rw [if_pos rfl] at e1 ⊢; exact ⟨env, m1, φ1, fl, m', A.ext E1 M1, e1, q.later E1⟩
  | false => rw [if_neg (by decide)] at e1 ⊢; exact ⟨env, m1, φ1, fl, m', A.ext E1 M1, e1, q.later E1⟩
theorem evS_wh (cf : Nat → List DV → M RV) (c : E) (b : Ss) (env : LE) (m : Mem) : evS cf (.wh c b) env m = whl (evT cf c) (evSs cf b) fuel env m := by rw [evS]
theorem whl_rd {c : LE → M Bool} {b : LE → M Fl} {n : Nat} {D : Ends} {σ : St} {H : Hp} (w : tS K (whl c b n) D σ H) : L2.tWhile (tT K c) (tS K b) D σ H := by
  obtain ⟨env, m, φ, fl, m', A, e1, q⟩ := w
  refine ⟨fun j σc Hc => ∃ env1 m1 φ1, At K σc Hc env1 m1 φ1 ∧ Ext φ H φ1 Hc ∧ whl c b j env1 m1 = .ok fl m', ⟨n, env, m, φ, A, Ext.refl _ _, e1⟩, ?_⟩
  rintro j σc Hc ⟨env1, m1, φ1, A1, E1, e2⟩
  cases j with
  | zero => cases e2
  | succ j =>
    obtain ⟨t, m2, e3, e2⟩ := Res.bind_inv e2
    refine ⟨env1, m1, φ1, t, m2, A1, e3, fun H2 φ2 E2 M2 => ?_⟩
    cases t with
    | false =>
      rw [if_neg (by decide)] at e2
      cases e2
      rw [if_neg (by decide)]
      exact q σc H2 φ2 (E1.trans E2) (A1.ext E2 M2)
    | true =>
      rw [if_pos rfl] at e2
      rw [if_pos rfl]
      obtain ⟨f2, m3, e4, e2⟩ := Res.bind_inv e2
      refine ⟨fun σ' H' => ∃ env1 m1 φ1, At K σ' H' env1 m1 φ1 ∧ Ext φ H φ1 H' ∧ whl c b j env1 m1 = .ok fl m', fun σ' H' P => ⟨j, Nat.lt_succ_self j, P⟩, env1, m2, φ2, f2, m3, A1.ext E2 M2, e4, ?_⟩
      cases f2 with
      | nx env' => exact fun σ' H' φ' E' A' => ⟨env', m3, φ', A', (E1.trans E2).trans E', e2⟩
      | ct env' => exact fun σ' H' φ' E' A' => ⟨env', m3, φ', A', (E1.trans E2).trans E', e2⟩
      | rt r =>
        cases e2
        exact q.later (E1.trans E2)
theorem ps_w {c : Expr} {b : List Stmt} {c' : E} {b' : Ss} {pos : Pos} (hp : PassesOwn (model X.prog X.w) X.A X.env X.xe) (hc : PT X c (tT X.K (tst (ev cf c')))) (hb : PSs X b (tS X.K (evSs cf b'))) : PS X (.While c b [] pos) (tS X.K (evS cf (.wh c' b'))) :=
  PS.imp (L2.ps_while hp (show PT X c (tT X.K (evT cf c')) from hc) hb) fun D σ H w => by
    obtain ⟨env, m, φ, fl, m', A, e1, q⟩ := w
    have e2 : whl (evT cf c') (evSs cf b') fuel env m = .ok fl m' := by rw [← e1]; exact (evS_wh cf c' b' env m).symm
    exact whl_rd ⟨env, m, φ, fl, m', A, e2, q⟩
theorem for_rd {p : Pat} {k : ItK} {its : Es} {b : Ss} {D : Ends} {σ : St} {H : Hp} (w : tS K (evS cf (.for p k its b)) D σ H) :
    L2.tFor (tI K fun env m => (evrs cf its env m).bind fun rs m1 => Res.of (itD k m1 rs) m1) (tG K p) (tS K (evSs cf b)) D σ H := by
  obtain ⟨env, m, φ, fl, m', A, e1, q⟩ := w
  obtain ⟨rs, m1, e2, e1⟩ := Res.bind_inv e1
  cases e3 : itD k m1 rs with
  | none => simp only [e3] at e1; cases e1
  | some z =>
    obtain ⟨ds, ks⟩ := z
    simp only [e3] at e1
    refine ⟨env, m, φ, (ds, ks), m1, A, by show (evrs cf its env m).bind _ = _; rw [e2]; show Res.of (itD k m1 rs) m1 = _; rw [e3]; rfl, fun J H1 φ1 E1 M1 F => ?_⟩
    obtain ⟨G, Y, wk, stay, give⟩ := F
    refine L2.for_it wk (fun i σc Hc => ∃ env1 mi φi, At K σc Hc env1 mi φi ∧ Ext φ1 H1 φi Hc ∧ forL p (evSs cf b) (same ks m1) (ds.drop i) env1 mi = .ok fl m' ∧ same ks m1 mi = true)
      ⟨env, m1, φ1, A.ext E1 M1, Ext.refl _ _, e1, by unfold same; simp⟩ (fun i σc Hc hi P => ?_) (fun i v σc Hc H' hi P y => ?_) fun σc Hc P => ?_
    · obtain ⟨env1, mi, φi, Ai, Ei, el, sm⟩ := P
      exact stay φi Hc mi Ei Ai.mr sm
    · obtain ⟨env1, mi, φi, Ai, Ei, el, sm⟩ := P
      obtain ⟨d, hd, Eg, Mg, gd⟩ := give i φi Hc mi v H' hi Ei Ai.mr sm y
      have hdr : ds.drop i = d :: ds.drop (i + 1) := by
        have hlt : i < ds.length := hi
        rw [List.drop_eq_getElem_cons hlt]
        rw [List.getElem?_eq_getElem hlt] at hd
        cases hd
        rfl
      rw [hdr] at el
      have el : (match p.put d env1 with
        | some env1 => (evSs cf b env1 mi).bind fun fl m1' => match fl with
          | .nx env' => if same ks m1 m1' = true then forL p (evSs cf b) (same ks m1) (ds.drop (i + 1)) env' m1' else .fail
          | .ct env' => if same ks m1 m1' = true then forL p (evSs cf b) (same ks m1) (ds.drop (i + 1)) env' m1' else .fail
          | .rt r => .ok (.rt r) m1'
        | none => .fail) = Res.ok fl m' := el
      cases e7 : p.put d env1 with
      | none => simp only [e7] at el; cases el
      | some env2 =>
        simp only [e7] at el
        obtain ⟨f2, m3, e8, el⟩ := Res.bind_inv el
        refine ⟨env1, mi, φi, d, env2, Ai.ext Eg Mg, gd, e7, fun σ2 A2 _ _ => ⟨env2, mi, φi, f2, m3, A2, e8, ?_⟩⟩
        have EE := Ei.trans Eg
        cases f2 with
        | nx env' =>
          by_cases hf : same ks m1 m3 = true
          · simp only [if_pos hf] at el
            exact fun σ' H2 φ' E' A' => ⟨env', m3, φ', A', EE.trans E', el, hf⟩
          · simp only [if_neg hf] at el; cases el
        | ct env' =>
          by_cases hf : same ks m1 m3 = true
          · simp only [if_pos hf] at el
            exact fun σ' H2 φ' E' A' => ⟨env', m3, φ', A', EE.trans E', el, hf⟩
          · simp only [if_neg hf] at el; cases el
        | rt r =>
          cases el
          exact (q.later E1).later EE
    · obtain ⟨env1, mi, φi, Ai, Ei, el, sm⟩ := P
      rw [List.drop_length] at el
      cases el
      exact q σc Hc φi (E1.trans Ei) Ai
end
end Mp
end SMpM
section SMpN
set_option Elab.async false
set_option linter.all false
set_option maxHeartbeats 4000000
/-! MpN: checked statements; defs; the law's call. -/
namespace Mp
open PySem PySem.Spec
open L2 (V Hp HO St TE TT TA TI TG TGs TS TO Ends Rd SqL SqT PE PT PA PS PSs PG PGs PI PO PW PTs Cx Inv RelV Vals upd upd_same upd_ne OpR VK R2 XK Sp Room Env0 Binds It Walk CallR FnScope)
def notComp : Expr → Bool
  | .ListComp .. => false
  | .SetComp .. => false
  | .DictComp .. => false
  | _ => true
/-- whether the store is swapped into the comprehension -/
def swS (sc : Scope) (tg v : Expr) : Option Bool := match v with
  | .ListComp _ _ s vp => match tg with
    | .Name t p => some (sc.names.lookup t == some .local && p.line == vp.line && !(s.names.any fun (n, k) => n == t && (k == .local || k == .cell)))
    | _ => none
  | .SetComp .. => none
  | .DictComp .. => none
  | _ => some false
def lcl (sc : Scope) (line : Nat) : Expr → Option Str
  | .Name id pos => if sc.names.lookup id == some .local && pos.line == line then some id else none
  | _ => none
def starB : Expr → Bool
  | .Starred .. => true
  | _ => false
def swT (sc : Scope) (ts vs : List Expr) : Option (Option (List Str)) :=
  if (!(ts.length == 2 || ts.length == 3) || vs.length != ts.length) = true then some none
  else if vs.any starB = true then some none
  else
    let names := ts.filterMap (lcl sc ((ts.head?.map (·.pos.line)).getD 0))
    if (names.length != ts.length || names.eraseDups.length != names.length) = true then some none
    else if vs.all (foldedForSure 8) = true then some none
    else if vs.all (constantsAlone 8) = true then none
    else some (some names)
def parB (p : Pat) (e : E) (ts vs : List Expr) (ns : List Str) : Bool := match p, e, ts, vs with
  | .tup [.nm i, .nm j], .tup _, [.Name x _, .Name y _], [_, _] => decide (i ≠ j) && decide (ns = [x, y])
  | .tup [.nm i, .nm j, .nm l], .tup _, [.Name x _, .Name y _, .Name z _], [_, _, _] => decide (i ≠ j) && decide (i ≠ l) && decide (j ≠ l) && decide (ns = [x, y, z])
  | _, _, _, _ => false
def itB (T : Tab) (k : ItK) (its : Es) (L : Lex) (tg iter : Expr) : Bool := match k with
        | .seq => chkEs T its L [iter]
        | .range => (match iter with
          | .Call (.Name y _) xs [] _ => decide (y = "range") && globB L y && T.blt.contains y && chkEs T its L xs && (decide (its.len = 1) || decide (its.len = 2))
          | _ => false)
        | .range3 => (match iter with
          | .Call (.Name y _) xs [] _ => decide (y = "range") && globB L y && T.blt.contains y && chkEs T its L xs && decide (its.len = 3)
          | _ => false)
        | .enum => isTupE tg && (match iter with
          | .Call (.Name y _) xs [] _ => decide (y = "enumerate") && globB L y && T.blt.contains y && chkEs T its L xs && decide (its.len = 1)
          | _ => false)
        | .zip => isTupE tg && (match iter with
          | .Call (.Name y _) xs [] _ => decide (y = "zip") && globB L y && T.blt.contains y && chkEs T its L xs && decide (its.len = 2)
          | _ => false)
def notTup : Expr → Bool
  | .Tuple .. => false
  | _ => true
mutual
def chkS (T : Tab) (L : Lex) : S → Stmt → Bool
  | .asg p e, st => match st with
    | .Assign [.Name t tp] v _ => chkP L p (.Name t tp) && chkE T e L v && (swS L.sc (.Name t tp) v).isSome
    | .Assign [.Tuple ts tk tp] v _ => chkP L p (.Tuple ts tk tp) && chkE T e L v && true && (match v with
      | .Tuple vs _ _ => (match swT L.sc ts vs with
        | some none => true
        | some (some ns) => parB p e ts vs ns && ns.all fun y => decide (L.sc.names.lookup y = some .local)
        | none => false)
      | _ => true)
    | _ => false
  | .asgl ps e, st => match st with
    | .Assign [.Tuple ts _ _] v _ => chkPs L ps ts && chkE T e L v && notTup v
    | _ => false
  | .aix o i e, st => match st with
    | .Assign [.Subscript y z _] v _ => plain z && chkE T o L y && chkE T i L z && chkE T e L v && true
    | _ => false
  | .ex e, st => match st with
    | .Expr v _ => chkE T e L v && notComp v
    | _ => false
  | .ret e, st => match st with
    | .Return (some v) _ => chkE T e L v
    | _ => false
  | .retn, st => match st with
    | .Return none _ => true
    | _ => false
  | .ife c a b, st => match st with
    | .If y xs zs _ => chkE T c L y && chkSs T L a xs && chkSs T L b zs
    | _ => false
  | .wh c b, st => match st with
    | .While y xs [] _ => chkE T c L y && chkSs T L b xs
    | _ => false
  | .for p k its b, st => match st with
    | .For tg iter xs [] _ => chkP L p tg && plain iter && itB T k its L tg iter && chkSs T L b xs
    | _ => false
  | .pass, st => match st with
    | .Pass _ => true
    | _ => false
  | .cont, st => match st with
    | .Continue _ => true
    | _ => false
  | .never, _ => true
def chkSs (T : Tab) (L : Lex) : Ss → List Stmt → Bool
  | .nil, xs => xs.isEmpty
  | .cons s ss, xs => match xs with
    | [] => false
    | x :: r => chkS T L s x && chkSs T L ss r
end
section
variable {T : Tab} {cf : Nat → List DV → M RV} {k : Nat} {L : Lex} {X : Cx}
theorem swS_ok {tg v : Expr} {b : Bool} {line : Nat} {env : Env} (hk : env.scope.kind = .function) (h : swS env.scope tg v = some b) : swapsWith v (some tg) line env = pure b := by
  have hb : env.blockKind = .function := by unfold Env.blockKind; rw [hk]; rfl
  unfold swS at h
  split at h
  · split at h
    · cases h
      unfold swapsWith
      simp only [hb, Expr.pos, Env.kindOf]
      rfl
    · cases h
  · cases h
  · cases h
  · cases h
    rename_i h1 h2 h3
    cases v <;> first | rfl | (exact absurd rfl (h1 _ _ _ _)) | (exact absurd rfl (h2 _ _ _ _)) | (exact absurd rfl (h3 _ _ _ _ _))
theorem notComp_sw {v : Expr} {o : Option Expr} {line : Nat} {env : Env} (h : notComp v = true) : swapsWith v o line env = pure false := by
  cases v <;> first | rfl | cases h
def notName : Expr → Bool
  | .Name .. => false
  | _ => true
theorem compTup_sw {v tg : Expr} {line : Nat} {env : Env} (h : notName tg = true) : swapsWith v (some tg) line env = pure false := by
  cases v <;> first | rfl | (cases tg <;> first | rfl | cases h)
theorem swT_ok {ts vs : List Expr} {k1 k2 : Nat} {p1 p2 : Pos} {r : Option (List Str)} {env : Env} (hk : env.scope.kind = .function) (h : swT env.scope ts vs = some r) : swappedStores [.Tuple ts k1 p1] (.Tuple vs k2 p2) env = pure r := by
  have hb : env.blockKind = .function := by unfold Env.blockKind; rw [hk]; rfl
  have e1 : (env.blockKind != ScopeKind.function) = false := by rw [hb]; rfl
  unfold swT at h
  unfold swappedStores
  simp only [e1, Bool.or_false]
  by_cases c1 : (!(ts.length == 2 || ts.length == 3) || vs.length != ts.length) = true
  · rw [if_pos c1] at h; cases h
    rw [if_pos c1]
  · rw [if_neg c1] at h
    rw [if_neg c1]
    by_cases c2 : vs.any starB = true
    · rw [if_pos c2] at h; cases h
      exact if_pos c2
    · rw [if_neg c2] at h
      refine (if_neg c2).trans ?_
      simp only at h
      by_cases c3 : ((ts.filterMap (lcl env.scope ((ts.head?.map (·.pos.line)).getD 0))).length != ts.length || (ts.filterMap (lcl env.scope ((ts.head?.map (·.pos.line)).getD 0))).eraseDups.length != (ts.filterMap (lcl env.scope ((ts.head?.map (·.pos.line)).getD 0))).length) = true
      · rw [if_pos c3] at h; cases h
        exact if_pos c3
      · rw [if_neg c3] at h
        refine (if_neg c3).trans ?_
        by_cases c4 : vs.all (foldedForSure 8) = true
        · rw [if_pos c4] at h; cases h
          rw [if_pos c4]
        · rw [if_neg c4] at h
          rw [if_neg c4]
          by_cases c5 : vs.all (constantsAlone 8) = true
          · rw [if_pos c5] at h; cases h
          · rw [if_neg c5] at h; cases h
            rw [if_neg c5]
            rfl
theorem blk_of (G : GC T cf k L X) {elt : E} {p : Pat} {K' : ItK} {its cs : Es} {own : List Nat} {y : Expr} {gs : List Comprehension} {s : Scope} {pos : Pos} (h : chkE T (.comp elt p K' its cs own) L (.ListComp y gs s pos) = true) :
    ∃ tg iter ifs, gs = [⟨tg, iter, ifs, 0⟩] ∧ BlkP X cf elt p K' its cs own y tg iter ifs s := by
  simp only [chkE] at h
  split at h
  · rename_i y' tg iter ifs s' pos' he
    cases he
    simp only [Bool.and_eq_true, decide_eq_true_eq, List.all_eq_true, List.contains_iff_mem] at h
    obtain ⟨⟨⟨⟨⟨⟨⟨h1, h2⟩, h3⟩, h4⟩, h5⟩, h6⟩, h7⟩, h8⟩ := h
    exact ⟨tg, iter, ifs, rfl, pi_of G h5 (fun xs q => sRs its L X xs G q) (fun e es q x z => by subst q; exact sE e L X x G z), L2.blkOk_by (by rw [G.hN, G.hsc]; exact h1), fun s' H C cl fp => (G.blk s' H s C cl fp).pat p tg h2,
      fun s' H C cl fp => sTs cs (L.blk s) _ ifs (G.blk s' H s C cl fp) h6 h7, fun s' H C cl fp => pe_fc (sE elt (L.blk s) _ y (G.blk s' H s C cl fp) h8), fold_of h4, h3⟩
  · cases h
theorem comp_of {e : E} {y : Expr} {gs : List Comprehension} {s : Scope} {pos : Pos} (h : chkE T e L (.ListComp y gs s pos) = true) : ∃ elt p K' its cs own, e = .comp elt p K' its cs own := by
  cases e <;> first | exact ⟨_, _, _, _, _, _, rfl⟩ | (simp [chkE] at h)
mutual
theorem sS (G : GC T cf k L X) (hk : L.sc.kind = .function) (hf : ∀ x, L.fnl x = true) : ∀ (s : S) (st : Stmt), chkS T L s st = true → PS X st (tS X.K (evS cf s))
  | .asg p e, st, h => by
    have hN : X.N.Nodup := by rw [G.hN]; exact G.nd
    have hk' : X.env.scope.kind = .function := by rw [G.hsc]; exact hk
    simp only [chkS] at h
    split at h
    · rename_i t tp v pos
      simp only [Bool.and_eq_true] at h
      obtain ⟨⟨h1, h2⟩, h3⟩ := h
      obtain ⟨b, hb⟩ := Option.isSome_iff_exists.mp h3
      rw [← G.hsc] at hb
      have sw := swS_ok (line := pos.line) hk' hb
      cases b with
      | false => exact ps_asn (sE e L X v G h2) (G.pat p _ h1) sw (by cases v <;> rfl) rfl
      | true =>
        -- a comprehension stored where it is made
        cases v with
        | ListComp y gs s vp =>
          obtain ⟨elt, q, K', its, cs, own, rfl⟩ := comp_of h2
          obtain ⟨tg, iter, ifs, rfl, B⟩ := blk_of G h2
          cases p with
          | tup _ => simp [chkP] at h1
          | nm i =>
            simp only [chkP, Bool.and_eq_true, decide_eq_true_eq] at h1
            obtain ⟨h4, _⟩ := h1
            rw [← G.hN] at h4
            have hl : X.env.scope.names.lookup t = some .local := by
              have := Option.some.inj hb
              simp only [Bool.and_eq_true] at this
              simpa using this.1.1
            refine PS.imp (L2.ps_setLc G.calm hN h4 hl sw B.pi B.ok B.pg B.pt B.pe B.fold) fun D σ H w => ?_
            obtain ⟨env, m, φ, r, m', A, e1, q⟩ := asg_rd w
            have := lc_ok B.slots (Q := fun x H1 => L2.gName i x σ H1 D.nx) ⟨env, m, φ, r, m', A, e1, fun v H' φ' E M R => gnm_rd (q v H' φ' E M R)⟩
            rw [own_snd]
            exact this
        | _ => cases hb
    · rename_i ts tk tp v pos
      simp only [Bool.and_eq_true] at h
      obtain ⟨⟨⟨h1, h2⟩, h3⟩, h4⟩ := h
      have hE := sE e L X v G h2
      have hP := G.pat p _ h1
      have sw : swapsWithSole [.Tuple ts tk tp] v pos.line X.env = pure false := by
        show swapsWith v (some (.Tuple ts tk tp)) pos.line X.env = _
        exact compTup_sw (by rfl)
      cases v with
      | Tuple vs vk vp =>
        simp only at h4
        cases e1 : swT L.sc ts vs with
        | none => rw [e1] at h4; cases h4
        | some r =>
          have e2 := e1
          rw [← G.hsc] at e2
          have st := swT_ok (k1 := tk) (k2 := vk) (p1 := tp) (p2 := vp) hk' e2
          cases r with
          | none => exact ps_asn hE hP sw st rfl
          | some ns =>
            rw [e1] at h4
            simp only [Bool.and_eq_true, List.all_eq_true, decide_eq_true_eq] at h4
            obtain ⟨h5, h6⟩ := h4
            unfold parB at h5
            split at h5
            · rename_i i j es x px y py a b
              simp only [Bool.and_eq_true, decide_eq_true_eq] at h5
              obtain ⟨hij, rfl⟩ := h5
              simp only [chkP, chkPs, Bool.and_eq_true, decide_eq_true_eq] at h1
              simp only [chkE, Bool.and_eq_true, decide_eq_true_eq] at h2
              have hx := h6 x (by simp)
              have hy := h6 y (by simp)
              rw [← G.hsc] at hx hy
              exact PS.imp (L2.ps_par G.calm hN (by rw [G.hN]; exact h1.1.2.1) (by rw [G.hN]; exact h1.2.1.2.1) hij hx hy (sVs es L X _ G h2.2) st sw) fun D σ H w => by
                obtain ⟨env, m, φ, ds, m', A, e3, q⟩ := par_rd w
                exact ⟨env, m, φ, ds, m', A, e3, fun vs H' φ' E M R => gs2_rd (q vs H' φ' E M R)⟩
            · rename_i i j l es x px y py z pz a b c
              simp only [Bool.and_eq_true, decide_eq_true_eq] at h5
              obtain ⟨⟨⟨hij, hil⟩, hjl⟩, rfl⟩ := h5
              simp only [chkP, chkPs, Bool.and_eq_true, decide_eq_true_eq] at h1
              simp only [chkE, Bool.and_eq_true, decide_eq_true_eq] at h2
              have hx := h6 x (by simp)
              have hy := h6 y (by simp)
              have hz := h6 z (by simp)
              rw [← G.hsc] at hx hy hz
              exact PS.imp (L2.ps_par3 G.calm hN (by rw [G.hN]; exact h1.1.2.1) (by rw [G.hN]; exact h1.2.1.2.1) (by rw [G.hN]; exact h1.2.2.1.2.1) hij hil hjl hx hy hz (sVs es L X _ G h2.2) st sw) fun D σ H w => by
                obtain ⟨env, m, φ, ds, m', A, e3, q⟩ := par_rd w
                exact ⟨env, m, φ, ds, m', A, e3, fun vs H' φ' E M R => gs3_rd (q vs H' φ' E M R)⟩
            · cases h5
      | _ => exact ps_asn hE hP sw rfl rfl
    · cases h
  | .asgl ps e, st, h => by
    simp only [chkS] at h
    split at h
    · rename_i ts tk tp v pos
      simp only [Bool.and_eq_true] at h
      obtain ⟨⟨h1, h2⟩, h3⟩ := h
      obtain ⟨p1, p2, p3⟩ := G.pats ps ts h1
      have sw : swapsWithSole [.Tuple ts tk tp] v pos.line X.env = pure false := by
        show swapsWith v (some (.Tuple ts tk tp)) pos.line X.env = _
        exact compTup_sw (by rfl)
      exact PS.imp (L2.ps_asg (sE e L X v G h2) (L2.pg_lst G.calm p1 p2 p3) sw (by cases v <;> first | rfl | cases h3) rfl) fun _ _ _ w => asgl_rd w
    · cases h
  | .aix o i e, st, h => by
    simp only [chkS] at h
    split at h
    · rename_i y z zp v pos
      simp only [Bool.and_eq_true] at h
      obtain ⟨⟨⟨⟨h1, h2⟩, h3⟩, h4⟩, h5⟩ := h
      refine ps_aix (sE o L X _ G h2) (sE i L X _ G h3) (sE e L X _ G h4) ?_ ?_ ?_
      · show swapsWith v (some (.Subscript y z zp)) pos.line X.env = _
        exact compTup_sw (by rfl)
      · cases v <;> rfl
      · intro u
        cases z <;> first | rfl | cases h1
    · cases h
  | .ex e, st, h => by
    simp only [chkS] at h
    split at h
    · simp only [Bool.and_eq_true] at h
      exact ps_ex (sE e L X _ G h.1) (notComp_sw h.2)
    · cases h
  | .ret e, st, h => by
    simp only [chkS] at h
    split at h
    · exact ps_rt (sE e L X _ G h)
    · cases h
  | .retn, st, h => by
    simp only [chkS] at h
    split at h
    · exact ps_rn
    · cases h
  | .ife c a b, st, h => by
    simp only [chkS] at h
    split at h
    · simp only [Bool.and_eq_true] at h
      exact ps_i (sT c L X _ G h.1.1) (sSs G hk hf a _ h.1.2) (sSs G hk hf b _ h.2)
    · cases h
  | .wh c b, st, h => by
    simp only [chkS] at h
    split at h
    · simp only [Bool.and_eq_true] at h
      exact ps_w G.pass (sT c L X _ G h.1) (sSs G hk hf b _ h.2)
    · cases h
  | .for p K' its b, st, h => by
    simp only [chkS] at h
    split at h
    · simp only [Bool.and_eq_true] at h
      obtain ⟨⟨⟨h1, h2⟩, h3⟩, h4⟩ := h
      exact PS.imp (L2.ps_for G.pass G.calm (pi_of G h3 (fun xs q => sRs its L X xs G q) (fun e es q x z => by subst q; exact sE e L X x G z)) (G.pat p _ h1) (sSs G hk hf b _ h4) (fold_of h2)) fun D σ H w => for_rd w
    · cases h
  | .pass, st, h => by
    simp only [chkS] at h
    split at h
    · exact PS.imp L2.ps_pass fun D σ H w => by
        obtain ⟨env, m, φ, fl, m', A, e1, q⟩ := w
        cases e1
        exact q σ H φ (Ext.refl _ _) A
    · cases h
  | .cont, st, h => by
    simp only [chkS] at h
    split at h
    · exact PS.imp L2.ps_continue fun D σ H w => by
        obtain ⟨env, m, φ, fl, m', A, e1, q⟩ := w
        cases e1
        exact q σ H φ (Ext.refl _ _) A
    · cases h
  | .never, st, h => PS.imp L2.ps_never fun D σ H w => by
      obtain ⟨env, m, φ, fl, m', A, e1, q⟩ := w
      cases e1
theorem sSs (G : GC T cf k L X) (hk : L.sc.kind = .function) (hf : ∀ x, L.fnl x = true) : ∀ (ss : Ss) (xs : List Stmt), chkSs T L ss xs = true → PSs X xs (tS X.K (evSs cf ss))
  | .nil, xs, h => by
    simp only [chkSs, List.isEmpty_iff] at h
    subst h
    exact pss_n
  | .cons s ss, xs, h => by
    simp only [chkSs] at h
    split at h
    · cases h
    · simp only [Bool.and_eq_true] at h
      exact pss_c (sS G hk hf s _ h.1) (sSs G hk hf ss _ h.2)
end
end
end Mp
end SMpN
section SMpO
set_option Elab.async false
set_option linter.all false
set_option maxHeartbeats 4000000
/-! MpO: defs keep what the evaluator says; the law's call. -/
namespace Mp
open PySem PySem.Spec
open L2 (V Hp HO St Ends Rd SqL SqT PSs Cx Inv RelV Vals upd upd_same upd_ne VK XK Sp Room Env0 Binds FnScope Mod HOk)
section
variable {K : PySem.W.Frag}
mutual
theorem VR.lim {H : Hp} {φ : List Addr} : ∀ (d : DV) (v : V), VR K H φ d v → d.lim φ.length = true
  | .non, _, _ => rfl
  | .bl _, _, _ => rfl
  | .int _, _, _ => rfl
  | .str _, _, _ => rfl
  | .ref n, v, h => by
    obtain ⟨a, _, q⟩ := h
    have := (List.getElem?_eq_some_iff.mp q).1
    simpa [DV.lim] using this
  | .tup ds, v, h => by
    obtain ⟨a, xs, _, _, r⟩ := h
    simpa [DV.lim] using VRs.lim ds xs r
  | .rl ds, v, h => by
    obtain ⟨a, xs, _, _, r⟩ := h
    simpa [DV.lim] using VRs.lim ds xs r
theorem VRs.lim {H : Hp} {φ : List Addr} : ∀ (ds : List DV) (vs : List V), VRs K H φ ds vs → DV.lims φ.length ds = true
  | [], _, _ => by simp [DV.lims]
  | d :: ds, vs, h => by
    obtain ⟨v, r, _, q, t⟩ := h
    simp [DV.lims, VR.lim d v q, VRs.lim ds r t]
end
mutual
theorem VR.less {H : Hp} {φ φ1 : List Addr} (hp : ∀ n, n < φ.length → φ1[n]? = φ[n]?) : ∀ (d : DV) (v : V), VR K H φ1 d v → d.lim φ.length = true → VR K H φ d v
  | .non, _, h, _ => h
  | .bl _, _, h, _ => h
  | .int _, _, h, _ => h
  | .str _, _, h, _ => h
  | .ref n, v, h, l => by
    obtain ⟨a, e, q⟩ := h
    exact ⟨a, e, by rw [← hp n (by simpa [DV.lim] using l)]; exact q⟩
  | .tup ds, v, h, l => by
    obtain ⟨a, xs, e, q, r⟩ := h
    exact ⟨a, xs, e, q, VRs.less hp ds xs r (by simpa [DV.lim] using l)⟩
  | .rl ds, v, h, l => by
    obtain ⟨a, xs, e, q, r⟩ := h
    exact ⟨a, xs, e, q, VRs.less hp ds xs r (by simpa [DV.lim] using l)⟩
theorem VRs.less {H : Hp} {φ φ1 : List Addr} (hp : ∀ n, n < φ.length → φ1[n]? = φ[n]?) : ∀ (ds : List DV) (vs : List V), VRs K H φ1 ds vs → DV.lims φ.length ds = true → VRs K H φ ds vs
  | [], _, h, _ => h
  | d :: ds, vs, h, l => by
    obtain ⟨v, r, e, q, t⟩ := h
    simp only [DV.lims, Bool.and_eq_true] at l
    exact ⟨v, r, e, VR.less hp d v q l.1, VRs.less hp ds r t l.2⟩
end
theorem gc_ok {H H' : Hp} {φ φ1 : List Addr} {m m1 m' : Mem} {r rv : RV} {v : V} (M0 : MR K H φ m) (e : gc m r m1 = .ok rv m') (M : MR K H' φ1 m1) (E : Ext φ H φ1 H') (R : RR K H φ1 H' r v) :
    ∃ φ', Ext φ H φ' H' ∧ MR K H' φ' m' ∧ RR K H φ' H' rv v := by
  have stay : r = rv → m1 = m' → ∃ φ', Ext φ H φ' H' ∧ MR K H' φ' m' ∧ RR K H φ' H' rv v := fun h1 h2 => by
    subst h1 h2
    exact ⟨φ1, E, M, R⟩
  have hp : ∀ n, n < φ.length → φ1[n]? = φ[n]? := fun n hn => by rw [List.getElem?_eq_getElem hn, E.pre n φ[n] (List.getElem?_eq_getElem hn)]
  have hl : φ.length = m.length := M0.len
  by_cases hc : m1.take m.length = m ∨ Mem.lim m.length (m1.take m.length) = true
  · unfold gc at e
    rw [if_pos hc] at e
    have E0 : Ext φ H φ H' := ⟨fun _ _ z => z, fun _ z => .inl z, E.keep⟩
    have len1 : m.length ≤ m1.length := by
      have h3 := M.len
      rw [← hl, ← h3]
      apply Nat.le_of_not_lt
      intro hlt
      have h4 := hp (φ1.length) hlt
      rw [List.getElem?_eq_none (Nat.le_refl _), List.getElem?_eq_getElem hlt] at h4
      cases h4
    have M2 : MR K H' φ (m1.take m.length) := by
      refine ⟨by rw [List.length_take, hl]; omega, M0.nd, fun n a o h1 h2 => ?_⟩
      have hn : n < m.length := by rw [← hl]; exact (List.getElem?_eq_some_iff.mp h1).1
      have h3 : m1[n]? = some o := by rw [List.getElem?_take_of_lt hn] at h2; exact h2
      have q := M.ob n a o (E.pre n a h1) h3
      cases o with
      | lst ds =>
        obtain ⟨xs, hx, g⟩ := q
        refine ⟨xs, hx, VRs.less hp ds xs g ?_⟩
        rw [hl]
        rcases hc with hc | hc
        · rw [hc] at h2
          obtain ⟨ys, _, g2⟩ := M0.ob n a _ h1 h2
          have := VRs.lim ds ys g2
          rwa [hl] at this
        · unfold Mem.lim at hc
          rw [List.all_eq_true] at hc
          exact hc _ (List.mem_of_getElem? h2)
    cases r with
    | val d =>
      simp only at e
      by_cases hd : d.lim m.length = true
      · rw [if_pos hd] at e
        cases e
        exact ⟨φ, E0, M2, VR.less hp d v R (by rw [hl]; exact hd)⟩
      · rw [if_neg hd] at e
        cases d with
        | ref n =>
          simp only at e
          cases h3 : m1[n]? with
          | none => rw [h3] at e; cases e; exact stay rfl rfl
          | some o =>
            cases o with
            | lst ds =>
              rw [h3] at e
              simp only at e
              by_cases hs : DV.lims m.length ds = true
              · rw [if_pos hs] at e
                cases e
                obtain ⟨a, ev, hn⟩ := R
                obtain ⟨xs, hx, g⟩ := M.ob n a _ hn h3
                have na : a ∉ φ := fun z => by
                  obtain ⟨j, hj, ej⟩ := List.getElem_of_mem z
                  have h5 := E.pre j a (by rw [List.getElem?_eq_getElem hj, ej])
                  have h6 := idx_eq M.nd h5 hn
                  subst h6
                  exact hd (by simpa [DV.lim, ← hl] using hj)
                refine ⟨φ, E0, M2, a, ev, ?_, na, ds, xs, rfl, hx, VRs.less hp ds xs g (by rw [hl]; exact hs)⟩
                rcases E.new a (List.mem_of_getElem? hn) with q | q
                · exact absurd q na
                · exact q
              · rw [if_neg hs] at e
                cases e
                exact stay rfl rfl
        | non => cases e; exact stay rfl rfl
        | bl _ => cases e; exact stay rfl rfl
        | int _ => cases e; exact stay rfl rfl
        | str _ => cases e; exact stay rfl rfl
        | tup _ => cases e; exact stay rfl rfl
        | rl _ => cases e; exact stay rfl rfl
    | new o =>
      cases o with
      | lst ds =>
        simp only at e
        by_cases hs : DV.lims m.length ds = true
        · rw [if_pos hs] at e
          cases e
          obtain ⟨a, ev, hn, na, ds', xs, eo, hx, g⟩ := R
          cases eo
          exact ⟨φ, E0, M2, a, ev, hn, fun z => na (E.sub z), ds, xs, rfl, hx, VRs.less hp ds xs g (by rw [hl]; exact hs)⟩
        · rw [if_neg hs] at e
          cases e
          exact stay rfl rfl
  · unfold gc at e
    rw [if_neg hc] at e
    cases e
    exact stay rfl rfl
end
/-! ### defs -/
structure DefT where
  nm : Str
  ps : List Str
  N : List Str
  at_ : Nat
  body : Ss
def DefT.sig (d : DefT) : Sig := ⟨d.nm, d.ps⟩
def DefT.dfn (d : DefT) : Def := ⟨d.ps.length, d.N.length, d.body⟩
def scB (N ps : List Str) (sc : Scope) : Bool :=
  decide (sc.kind = .function) && !sc.isCoroutine && !sc.isGenerator && decide N.Nodup && decide (N.take ps.length = ps) && (ps.all fun x => decide (sc.names.lookup x = some .local ∨ sc.names.lookup x = some .cell)) && (sc.names.all fun y => decide (y.2 ≠ .free))
def chkD (T : Tab) (d : DefT) (st : Stmt) : Bool := scB d.N d.ps (L2.defScope st) && chkSs T ⟨d.N, L2.defScope st, fun _ => true⟩ d.body (L2.defBody st)
theorem scB_ok {N ps : List Str} {sc : Scope} (h : scB N ps sc = true) : FnScope N ps sc := by
  unfold scB at h
  simp only [Bool.and_eq_true, decide_eq_true_eq, Bool.not_eq_true', List.all_eq_true] at h
  obtain ⟨⟨⟨⟨⟨⟨h1, h2⟩, h3⟩, h4⟩, h5⟩, h6⟩, h7⟩ := h
  exact ⟨h1, h2, h3, h4, h5, h6, h7⟩
section
variable {P : Program} {w : World} {K : PySem.W.Frag} {mg : Str → Option Value} {base : Heap} {T : Tab} {Ds : List Def}
/-- what is known of the defs that may be called, at level k -/
def Known (P : Program) (w : World) (K : PySem.W.Frag) (mg : Str → Option Value) (base : Heap) (T : Tab) (Ds : List Def) (k : Nat) : Prop :=
  ∀ f s, T.fns[f]? = some s → ∃ a fd, mg s.name = some (.ref a) ∧ PySem.W.keepIn K (.ref a) = true ∧ Binds K fd s.ps [] ∧ FnG P w K mg base k a fd s.ps (spF K (callF Ds k f))
/-- what the rest of the top must be -/
structure Rest (K : PySem.W.Frag) (mg : Str → Option Value) (T : Tab) : Prop where
  blt : ∀ x ∈ T.blt, mg x = none
  con : ∀ x d, (x, d) ∈ T.con → ∃ v u, mg x = some u ∧ RelV v u ∧ ∀ H φ, VR K H φ d v
theorem spF_len {g : List DV → M RV} {n : Nat} (h : ∀ ds m r m', g ds m = .ok r m' → ds.length = n) : ∀ vs H Q E, spF K g vs H Q E → vs.length = n := fun vs H Q E q => by
  obtain ⟨ds, m, φ, r, m', g1, _, e, _⟩ := q
  rw [g1.length]
  exact h _ _ _ _ e
theorem fn_zero {f : Addr} {fd : FuncData} {ps : List Str} {i : Nat} : FnG P w K mg base 0 f fd ps (spF K (callF Ds 0 i)) := by
  refine ⟨fun vs H Q E q => ?_, fun A outer s H args us vs Q _ _ _ _ _ q => ?_⟩
  · obtain ⟨ds, m, φ, r, m', _, _, e, _⟩ := q
    cases e
  · obtain ⟨ds, m, φ, r, m', _, _, e, _⟩ := q
    cases e
theorem fn_next {k : Nat} {f : Addr} {fd : FuncData} {d : DefT} {st : Stmt} {i : Nat} (F : L2.Fun K d.nm d.nm st f fd) (hc : chkD T d st = true) (hD : Ds[i]? = some d.dfn) (kn : Known P w K mg base T Ds k) (rs : Rest K mg T) :
    FnG P w K mg base (k + 1) f fd d.ps (spF K (callF Ds (k + 1) i)) := by
  unfold chkD at hc
  rw [Bool.and_eq_true] at hc
  have sc := scB_ok hc.1
  obtain ⟨oc, od, kV, doc, pm, an, cdv, ct, osl, rfl, lk, hcd⟩ := F.ex
  have step : ∀ ds m, callF Ds (k + 1) i ds m = runD (callF Ds k) d.dfn ds m := fun ds m => by
    show (match Ds[i]? with | some d => runD (callF Ds k) d ds m | none => .fail) = _
    rw [hD]
  have arity : ∀ ds m r m', callF Ds (k + 1) i ds m = .ok r m' → ds.length = d.ps.length := fun ds m r m' e => by
    rw [step] at e
    unfold runD at e
    by_cases h : ds.length = d.dfn.np
    · exact h
    · rw [if_neg h] at e; cases e
  refine ⟨spF_len arity, fun A outer s H args us vs Q hg hr e0 hb r hsp => ?_⟩
  have hl := spF_len arity _ _ _ _ hsp
  obtain ⟨ds, m, φ, rv, m', gv, M0, ec, q⟩ := hsp
  have hds := arity _ _ _ _ ec
  rw [step] at ec
  unfold runD at ec
  rw [if_pos (show ds.length = d.dfn.np from hds)] at ec
  obtain ⟨fl, m1, e1, ec⟩ := Res.bind_inv ec
  have inK : K.In s.heap := e0.mod.kin.keeps fun b o z => (e0.bs b o z).1
  have noLim : s.heap.NoLimit := e0.mod.nolimit.keeps fun b o z => (e0.bs b o z).1
  have kinds : ∀ y ∈ d.ps.zip us, (L2.defScope st).names.lookup y.1 = some .local ∨
      ((L2.defScope st).names.lookup y.1 = some .cell ∧ ((PySem.cellsFrom (s.heap.objs.size + 1) (L2.defScope st).names []).lookup y.1).isSome = true) := by
    rintro ⟨n, u⟩ hy
    rcases sc.par n (List.of_mem_zip hy).1 with z | z
    · exact .inl z
    · exact .inr ⟨z, PySem.W.cellsFrom_some _ _ _ (.inl z)⟩
  refine codeAny_call_function hr.depth (inK _ _ lk) rfl sc.co sc.gen rfl (PySem.W.codeRec_of inK hcd) (hb _ _ _ _ ?_)
  refine wpAny_newFunctionEnv_cells sc.kind kinds fun env he s1 x => ?_
  subst he
  refine ⟨noLim.keeps x.toInCall.keep, codeAny_func ?_⟩
  have I := (L2.inv_start (CX := L2.CX0) (E := L2.E0) sc hr.hd e0 hl r x).wish fun _ _ => False
  have G : GC T (callF Ds k) k ⟨d.N, L2.defScope st, fun _ => true⟩ (L2.cxOf L2.CX0 P w K mg base d.N d.nm (L2.defScope st) f cdv A outer s H L2.E0).nox :=
    ⟨rfl, rfl, rfl, sc.nd, rfl, hr.deeper _, hg, PassesOwn.never, kn, rs.blt, rs.con⟩
  have body := sSs G sc.kind (fun _ => rfl) d.body (L2.defBody st) hc.2
  have at0 : At K (L2.start d.N vs) H (ds.map some ++ List.replicate (d.N.length - d.ps.length) none) m φ := by
    refine ⟨⟨?_, fun j e hj => ?_⟩, M0⟩
    · unfold L2.start
      rw [List.length_append, List.length_append, List.length_map, List.length_map, List.length_replicate, List.length_replicate, hl, hds]
    · unfold L2.start
      by_cases hlt : j < ds.length
      · rw [List.getElem?_append_left (by rw [List.length_map]; exact hlt), List.getElem?_map] at hj
        cases e2 : ds[j]? with
        | none => rw [e2] at hj; cases hj
        | some dj =>
          rw [e2] at hj
          cases hj
          obtain ⟨v, h1, h2⟩ := gv.get e2
          exact ⟨v, by rw [List.getElem?_append_left (by rw [List.length_map, hl, ← hds]; exact hlt), List.getElem?_map, h1]; rfl, h2⟩
      · rw [List.getElem?_append_right (by rw [List.length_map]; omega), List.getElem?_replicate] at hj
        split at hj <;> cases hj
  have ends : ∀ {H' : Hp} {φ1 : List Addr} {z : RV} {v : V}, Ext φ H φ1 H' → MR K H' φ1 m1 → RR K H φ1 H' z v → gc m z m1 = .ok rv m' → Q v H' := fun {H' φ1 z v} E1 M1 R1 g1 => by
    obtain ⟨φ2, E2, M2, R2⟩ := gc_ok M0 g1 M1 E1 R1
    exact q v H' φ2 E2 M2 R2
  have wish : Wish K φ H { nx := fun _ H' => Q .non H', rt := Q } fl m1 := by
    cases fl with
    | nx env' => exact fun σ' H' φ' E1 A1 => ends E1 A1.mr (z := .val .non) rfl ec
    | rt z => exact fun v H' φ' E1 M1 R1 => ends E1 M1 R1 ec
    | ct env' => cases ec
  refine wpAny_mono (body.run [] s1 _ H { nx := fun _ H' => Q .non H', rt := Q } I ⟨_, m, φ, fl, m1, at0, e1, wish⟩) (fun fl' s' hs => ?_) fun _ _ z => False.elim z
  have done : ∀ {σ' : St} {H' : Hp} {v : V} {u : Value}, Inv (L2.cxOf L2.CX0 P w K mg base d.N d.nm (L2.defScope st) f cdv A outer s H L2.E0).nox [] σ' H' s' → RelV v u → Q v H' → L2.CE outer P w H s Q u s' :=
    fun {σ' H' v u} J rv' q' => ⟨v, H', J.os, J.bare, J.base, J.hok, rv', q'⟩
  cases fl' with
  | ret u =>
    obtain ⟨v, σ', H', J, rv', q'⟩ := hs
    exact done J rv' q'
  | next =>
    obtain ⟨σ', H', J, q'⟩ := hs
    exact done (u := Value.none) J (v := .non) rfl q'
  | brk => obtain ⟨_, _, _, z⟩ := hs; exact False.elim z
  | cont => obtain ⟨_, _, _, z⟩ := hs; exact False.elim z
/-- where a def of the text stands behind the top -/
def FunAt (K : PySem.W.Frag) (nm : Str) (st : Stmt) : Prop :=
  ∃ (f : Addr) (oc : Value) (od an : Option Addr) (osl : Array (Option Value)) (kV doc pm cdv ct : Value), PySem.W.nsIn K mainGlobals nm = some (some (.ref f)) ∧
    K.lookup f = some ⟨oc, od, .func (PySem.W.fnOf nm nm (L2.defArgs st) (L2.defBody st) (L2.defScope st) .none kV doc pm an cdv ct), osl⟩ ∧ PySem.W.codeIn K cdv nm = true ∧ PySem.W.keepIn K (.ref f) = true
theorem funAt_mk {K : PySem.W.Frag} {nm : Str} {st : Stmt} {f : Addr} {oc : Value} {od an : Option Addr} {osl : Array (Option Value)} {kV doc pm cdv ct : Value} (a1 : PySem.W.nsIn K mainGlobals nm = some (some (.ref f)))
    (l1 : K.lookup f = some ⟨oc, od, .func (PySem.W.fnOf nm nm (L2.defArgs st) (L2.defBody st) (L2.defScope st) .none kV doc pm an cdv ct), osl⟩) (c1 : PySem.W.codeIn K cdv nm = true) (k1 : PySem.W.keepIn K (.ref f) = true) : FunAt K nm st :=
  ⟨f, oc, od, an, osl, kV, doc, pm, cdv, ct, a1, l1, c1, k1⟩
/-- how its arguments bind -/
def BindAt (d : DefT) (st : Stmt) : Prop := ∀ (kV doc pm : Value) (an : Option Addr) (cdv ct : Value) (us : List Value), us.length = d.ps.length →
  bindArgs (PySem.W.fnOf d.nm d.nm (L2.defArgs st) (L2.defBody st) (L2.defScope st) .none kV doc pm an cdv ct) ⟨us, []⟩ = pure (d.ps.zip us)
theorem all_known {top : Nat → Stmt} {Dts : List DefT} {X : K.In base} {h0 : Heap} (X0 : K.In h0) (N0 : h0.Ns mainGlobals mg) (hT : T.fns = Dts.map DefT.sig) (hD : Ds = Dts.map DefT.dfn) (hF : ∀ d ∈ Dts, FunAt K d.nm (top d.at_)) (hB : ∀ d ∈ Dts, BindAt d (top d.at_))
    (hc : (Dts.all fun d => chkD T d (top d.at_)) = true) (rs : Rest K mg T) : ∀ k, Known P w K mg base T Ds k
  | 0, f, s, hs => by
    rw [hT, List.getElem?_map] at hs
    obtain ⟨d, hd, rfl⟩ := Option.map_eq_some_iff.mp hs
    have hm := List.mem_of_getElem? hd
    obtain ⟨a, oc, od, an, osl, kV, doc, pm, cdv, ct, a1, l1, c1, k1⟩ := hF d hm
    have F := L2.fun_mk l1 c1 k1
    exact ⟨a, _, PySem.W.mg_of X0 N0 a1, k1, F.binds (hB d hm), fn_zero⟩
  | k + 1, f, s, hs => by
    have ih := all_known (X := X) X0 N0 hT hD hF hB hc rs k
    rw [hT, List.getElem?_map] at hs
    obtain ⟨d, hd, rfl⟩ := Option.map_eq_some_iff.mp hs
    have hm := List.mem_of_getElem? hd
    obtain ⟨a, oc, od, an, osl, kV, doc, pm, cdv, ct, a1, l1, c1, k1⟩ := hF d hm
    have F := L2.fun_mk l1 c1 k1
    exact ⟨a, _, PySem.W.mg_of X0 N0 a1, k1, F.binds (hB d hm), fn_next F (List.all_eq_true.mp hc d hm) (by rw [hD, List.getElem?_map, hd]; rfl) ih rs⟩
end
end Mp
end SMpO
section SMpP
set_option Elab.async false
set_option linter.all false
set_option maxHeartbeats 4000000
/-! MpP: the law's call, from the evaluator's answer. -/
namespace Mp
open PySem PySem.Spec PyProof.Rows
open L2 (V Hp HO Rd SqL SqT Vals upd upd_same upd_ne VK Sp Room Env0 Binds Mod HOk hidT)
/-- the call at the outermost place: nothing is numbered, the script is only read -/
theorem law_at {P : Program} {w : World} {K : PySem.W.Frag} {mg mb : Str → Option Value} {k : Nat} {fa a : Addr} {fd : FuncData} {x : Str} {g : List DV → M RV} {s₁ : Shared} {vs : List Value} {ns : List Int}
    (KX : K.In s₁.heap) (hns : s₁.heap.Ns mainGlobals mg) (hb : s₁.heap.Ns builtinsNs mb) (hbb : ∀ x : Str, x ≠ "__name__" → mb x = bootBuiltins x) (hlim : s₁.heap.NoLimit) (hgen : s₁.gens = #[])
    (ha : s₁.heap.get? a = some { cls := .type "list", data := .seq vs.toArray }) (hi : IntsAre vs ns) (hl : ns.length ≤ sizeLine) (hr : Room k callerA)
    (F : ∀ base : Heap, K.In base → base.Ns mainGlobals mg → FnG P w K mg base k fa fd [x] (spF K g)) (bind : ∀ (s : Shared) (u : Value), BindsTo s fd ⟨[u], []⟩ [(x, u)])
    (ev : ∃ m', g [.rl (ns.map DV.int)] [] = .ok (.val (.bl true)) m') :
    codeAny (model P w) callerA (.call (.ref fa) ⟨[.ref a], []⟩) (fun r s' => r = .ok (.ret (.bool true)) ∧ OldK s₁.heap s'.heap ∧ s'.os = s₁.os ∧ AllBare s'.gens) s₁ := by
  have rv := L2.vals_ints hi
  have lv : vs.length = ns.length := hi.length
  obtain ⟨mEnd, ev⟩ := ev
  have vints : ∀ (H : Hp) (l : List Int), VRs K H [] (l.map DV.int) (l.map V.int) := fun H l => by
    induction l with
    | nil => exact rfl
    | cons i l ih => exact ⟨.int i, l.map V.int, rfl, rfl, ih⟩
  -- H: what is known of the heap; it tells of the script alone
  have go : ∀ H : Hp, SqF K H a (ns.map V.int) → HOk P w H s₁.heap → (∀ b u, H b = some u → b = a ∧ K.lookup a = none ∧ ∃ o xs, u = .frz o (.lst xs)) →
      codeAny (model P w) callerA (.call (.ref fa) ⟨[.ref a], []⟩) (fun r s' => r = .ok (.ret (.bool true)) ∧ OldK s₁.heap s'.heap ∧ s'.os = s₁.os ∧ AllBare s'.gens) s₁ := by
    intro H hS hok hA
    have free : ∀ {b : Addr} {o : Obj}, s₁.heap.get? b = some o → o.data ≠ .seq vs.toArray → H b = none := fun {b o} e d => by
      cases q : H b with
      | none => rfl
      | some u =>
        obtain ⟨rfl, _⟩ := hA b u q
        rw [ha] at e
        cases e
        exact absurd rfl d
    have nsIn : ∀ {b : Addr} {m : Str → Option Value}, s₁.heap.Ns b m → (hidT s₁.heap H).Ns b m := fun {b m} ⟨o, es, ep, e, d, r⟩ =>
      ⟨o, es, ep, L2.hidT_get e (free e (by rw [d]; exact fun z => nomatch z)), d, r⟩
    have kIn : K.In (hidT s₁.heap H) := fun b o e => L2.hidT_get (KX b o e) (by
      cases q : H b with
      | none => rfl
      | some u =>
        obtain ⟨rfl, z, _⟩ := hA b u q
        rw [z] at e
        cases e)
    have hM : Mod K mg (hidT s₁.heap H) := ⟨kIn, nsIn hns, ⟨mb, nsIn hb, hbb⟩, let ⟨mc, h1, h2⟩ := hlim; ⟨mc, nsIn h1, h2⟩⟩
    have e0 : Env0 P w K mg (hidT s₁.heap H) callerA [] s₁ H :=
      ⟨rfl, hM, fun b o e => L2.of_hidT e, Nat.le_of_eq (L2.hidT_size _ _), trivial, fun b z => absurd (show b ∈ ([] : List Addr) from z) (by simp), hok, .of_eq hgen⟩
    have sp : spF K g [.ref a] H (fun v _ => v = .bl true) L2.E0 :=
      ⟨[.rl (ns.map DV.int)], [], [], .val (.bl true), mEnd, ⟨.ref a, [], rfl, ⟨a, ns.map V.int, rfl, hS, vints H ns⟩, rfl⟩, ⟨rfl, List.nodup_nil, fun n b o z => by simp at z⟩, ev, fun v H' φ' _ _ R => R⟩
    refine codeAny_mono ((F _ kIn (nsIn hns)).run callerA [] s₁ H ⟨[.ref a], []⟩ [.ref a] [.ref a] _ rfl hr e0 (bind s₁ (.ref a)) (.cons rfl .nil) sp) fun r s' h => ?_
    cases r with
    | error e => exact False.elim h
    | ok fl =>
      cases fl with
      | next => exact False.elim h
      | brk => exact False.elim h
      | cont => exact False.elim h
      | ret u =>
        obtain ⟨v, H', os, bare, un, hok', r', q⟩ := h
        have q : v = .bl true := q
        subst q
        have r' : u = Value.bool true := r'
        subst r'
        refine ⟨rfl, OldK.of_keep fun b o e => ?_, os, bare⟩
        cases q : H b with
        | none => exact un.keep b o e q (fun z => absurd (show b ∈ ([] : List Addr) from z) (by simp)) (by simp)
        | some u =>
          obtain ⟨_, _, ob, xs, rfl⟩ := hA b u q
          obtain ⟨e1, _⟩ := hok b _ q
          obtain ⟨e2, _⟩ := hok' b _ (un.frzs b ob _ q)
          rw [e] at e1
          cases e1
          exact e2
  cases hk : K.lookup a with
  | some o =>
    have e := KX a o hk
    rw [ha] at e
    cases e
    refine go (fun _ => none) (.inr (.inr ⟨_, vs.toArray, _, hk, rfl, rfl, rfl, ?_, by simpa using rv⟩)) (fun b u z => nomatch z) fun b u z => nomatch z
    rw [List.size_toArray, lv]
    exact hl
  | none =>
    refine go (fun b => if b = a then some (.frz { cls := .type "list", data := .seq vs.toArray } (.lst (ns.map V.int))) else none) (.inl ⟨_, if_pos rfl⟩) (fun b u z => ?_) fun b u z => ?_
    · by_cases q : b = a
      · subst q
        have z2 := (if_pos rfl).symm.trans z
        cases z2
        exact ⟨ha, by rw [List.length_map]; exact hl, vs, _, rv, ha⟩
      · have z2 := (if_neg q).symm.trans z
        cases z2
    · by_cases q : b = a
      · have z2 := (if_pos q).symm.trans z
        cases z2
        exact ⟨q, hk, _, _, rfl⟩
      · have z2 := (if_neg q).symm.trans z
        cases z2
/-- the row, from the evaluator's answer at every script -/
theorem walk_mp {l : PySem.W.OpenLaw} {n k i : Nat} {q : Program} {loose : List Str} {XP : (Str → Option Value) → Heap → Prop} {YP : World → Heap → Prop} {d : DefRec} {K : Params → PySem.W.Frag} {x : Str} {top : Nat → Stmt} {Dts : List DefT} {T : Tab} {dl : DefT}
    (hn : l.most = some n) (hn2 : n ≤ sizeLine) (hdf : d.params.defaults = []) (hr : Room (k + 1) callerA) (hY : ∀ (w : World) (h : Heap), YP w h → (K w.params).In h)
    (hT : T.fns = Dts.map DefT.sig) (hF : ∀ (w : World), ∀ d ∈ Dts, FunAt (K w.params) d.nm (top d.at_)) (hB : ∀ d ∈ Dts, BindAt d (top d.at_)) (hc : (Dts.all fun d => chkD T d (top d.at_)) = true)
    (hR : ∀ (w : World) (mg : Str → Option Value) (h : Heap), (K w.params).In h → h.Ns mainGlobals mg → Rest (K w.params) mg T)
    (hi : Dts[i]? = some dl) (hnm : dl.nm = d.name) (hps : dl.ps = [x])
    (ev : ∀ ns : List Int, ns.length ≤ n → ∃ m', callF (Dts.map DefT.dfn) (k + 1) i [.rl (ns.map DV.int)] [] = .ok (.val (.bl true)) m') :
    PySem.W.WalkO q loose XP YP l.row.toRowW d [] (fun f vs => PySem.call f vs) := by
  refine Att.attach_call hn hdf fun w s₀ s₁ mg mb fa o pm cd doc a vs ns G Y ho hd hcd hmg hobj hints hlen hg => ?_
  have KX := hY w _ Y
  have hm : dl ∈ Dts := List.mem_of_getElem? hi
  obtain ⟨f, oc, od, an, osl, kV, doc', pm', cdv, ct, a1, l1, c1, k1⟩ := hF w dl hm
  have e := PySem.W.mg_of KX G.T.g a1
  rw [hnm, hmg] at e
  cases e
  have rs := hR w mg _ KX G.T.g
  refine law_at (x := x) (g := callF (Dts.map DefT.dfn) (k + 1) i) KX G.T.g G.T.b G.T.builtins G.T.nolimit hg hobj hints (Nat.le_trans hlen hn2) hr (fd := PySem.W.fnOf dl.nm dl.nm (L2.defArgs (top dl.at_)) (L2.defBody (top dl.at_)) (L2.defScope (top dl.at_)) .none kV doc' pm' an cdv ct) (fun base hb1 hb2 => ?_) (fun s u => ?_) (ev ns hlen)
  · have kn := all_known (P := l.prog) (w := w) (base := base) (X := hb1) KX G.T.g hT rfl (hF w) hB hc rs k
    rw [← hps]
    exact fn_next (L2.fun_mk l1 c1 k1) (List.all_eq_true.mp hc dl hm) (by rw [List.getElem?_map, hi]; rfl) kn rs
  · have := hB dl hm kV doc' pm' an cdv ct [u] (by rw [hps]; rfl)
    rw [hps] at this
    exact .of_eq this
/-- a whole number that stands in the module -/
theorem con_int {K : PySem.W.Frag} {h : Heap} {mg : Str → Option Value} {x : Str} {i : Int} {t : Tok} (X : K.In h) (G : h.Ns mainGlobals mg) (z : PySem.W.nsIn K mainGlobals x = some (some (.int i t))) : ∃ (v : V) (u : Value), mg x = some u ∧ L2.RelV v u ∧ ∀ H φ, VR K H φ (.int i) v :=
  ⟨V.int i, _, PySem.W.mg_of X G z, ⟨t, rfl⟩, fun _ _ => rfl⟩
/-- a text that stands in the module -/
theorem con_str {K : PySem.W.Frag} {h : Heap} {mg : Str → Option Value} {x : Str} {i : Str} {t : Tok} (X : K.In h) (G : h.Ns mainGlobals mg) (z : PySem.W.nsIn K mainGlobals x = some (some (.str i t))) : ∃ (v : V) (u : Value), mg x = some u ∧ L2.RelV v u ∧ ∀ H φ, VR K H φ (.str i) v :=
  ⟨V.str i, _, PySem.W.mg_of X G z, ⟨t, rfl⟩, fun _ _ => rfl⟩
end Mp
end SMpP
section SMpQ
set_option Elab.async false
set_option linter.all false
/-! MpQ: the evaluator, row by row, for simp. -/
namespace Mp
open PySem
section
variable (cf : Nat → List DV → M RV) (env : LE) (m : Mem)
@[simp] theorem ev_v (i : Nat) : ev cf (.v i) env m = match env[i]? with | some (some d) => .ok (.val d) m | _ => .fail := rfl
@[simp] theorem ev_c (d : DV) : ev cf (.c d) env m = .ok (.val d) m := rfl
@[simp] theorem ev_g (x : Str) (d : DV) : ev cf (.g x d) env m = .ok (.val d) m := rfl
@[simp] theorem ev_tup (es : Es) : ev cf (.tup es) env m = (evs cf es env m).bind fun ds m1 => .ok (.val (.tup ds)) m1 := rfl
@[simp] theorem ev_lst (es : Es) : ev cf (.lst es) env m = (evs cf es env m).bind fun ds m1 => .ok (.new (.lst ds)) m1 := rfl
@[simp] theorem ev_bin (op : Bop) (a b : E) : ev cf (.bin op a b) env m = (ev cf a env m).bind fun x m1 => (ev cf b env m1).bind fun y m2 => Res.of (bin op m2 x y) m2 := rfl
@[simp] theorem ev_neg (a : E) : ev cf (.neg a) env m = (ev cf a env m).bind fun x m1 => match x with | .val (.int i) => .ok (.val (.int (-i))) m1 | _ => .fail := rfl
@[simp] theorem ev_not (a : E) : ev cf (.not a) env m = (ev cf a env m).bind fun x m1 => Res.of ((tru m1 x).map fun b => .val (.bl (!b))) m1 := rfl
@[simp] theorem ev_and (es : Es) : ev cf (.and es) env m = evAnd cf es env m := rfl
@[simp] theorem ev_or (es : Es) : ev cf (.or es) env m = evOr cf es env m := rfl
@[simp] theorem ev_cmp (op : Cop) (a b : E) : ev cf (.cmp op a b) env m = (ev cf a env m).bind fun x m1 => (ev cf b env m1).bind fun y m2 => Res.of ((cmpD op m2 x y).map fun b => .val (.bl b)) m2 := rfl
@[simp] theorem ev_cmp2 (op op' : Cop) (a b c : E) : ev cf (.cmp2 op op' a b c) env m = (ev cf a env m).bind fun x m1 => (ev cf b env m1).bind fun y m2 => match cmpD op m2 x y with
    | some true => (ev cf c env m2).bind fun z m3 => Res.of ((cmpD op' m3 y z).map fun b => .val (.bl b)) m3
    | some false => .ok (.val (.bl false)) m2
    | none => .fail := rfl
@[simp] theorem ev_isN (neg : Bool) (a : E) : ev cf (.isN neg a) env m = (ev cf a env m).bind fun x m1 => match x with
    | .val d => .ok (.val (.bl (if neg then !decide (d = .non) else decide (d = .non)))) m1
    | .new _ => .ok (.val (.bl neg)) m1 := rfl
@[simp] theorem ev_isB (neg b : Bool) (a : E) : ev cf (.isB neg b a) env m = (ev cf a env m).bind fun x m1 => match x with
    | .val (.bl k) => .ok (.val (.bl (if neg then !decide (k = b) else decide (k = b)))) m1
    | _ => .fail := rfl
@[simp] theorem ev_ife (c a b : E) : ev cf (.ife c a b) env m = (ev cf c env m).bind fun x m1 => match tru m1 x with
    | some true => ev cf a env m1
    | some false => ev cf b env m1
    | none => .fail := rfl
@[simp] theorem ev_ix (a i : E) : ev cf (.ix a i) env m = (ev cf a env m).bind fun x m1 => (ev cf i env m1).bind fun y m2 => Res.of (item m2 x y) m2 := rfl
@[simp] theorem ev_sl (a : E) (lo hi : Es) : ev cf (.sl a lo hi) env m = (ev cf a env m).bind fun x m1 => (evPart cf lo env m1).bind fun l m2 => (evPart cf hi env m2).bind fun h m3 => Res.of (slice m3 x l h) m3 := rfl
@[simp] theorem ev_call (f : Nat) (es : Es) : ev cf (.call f es) env m = (evs cf es env m).bind fun ds m1 => cf f ds m1 := rfl
@[simp] theorem ev_blt (b : Blt) (es : Es) : ev cf (.blt b es) env m = (evrs cf es env m).bind fun rs m1 => Res.of (bltD b m1 rs) m1 := rfl
@[simp] theorem ev_isi (a : E) (ts : List Ty) : ev cf (.isi a ts) env m = (ev cf a env m).bind fun x m1 => Res.of ((isiD m1 x ts).map fun b => .val (.bl b)) m1 := rfl
@[simp] theorem ev_mth (t : Mth) (o : E) (es : Es) : ev cf (.mth t o es) env m = (ev cf o env m).bind fun x m1 => (evs cf es env m1).bind fun ds m2 => match mthD t m2 x ds with
    | some (r, m3) => .ok r m3
    | none => .fail := rfl
@[simp] theorem evs_nil : evs cf .nil env m = .ok [] m := rfl
@[simp] theorem evs_cons (e : E) (es : Es) : evs cf (.cons e es) env m = (ev cf e env m).bind fun x m1 => (force x m1).bind fun d m2 => (evs cf es env m2).bind fun ds m3 => .ok (d :: ds) m3 := rfl
@[simp] theorem evrs_nil : evrs cf .nil env m = .ok [] m := rfl
@[simp] theorem evrs_cons (e : E) (es : Es) : evrs cf (.cons e es) env m = (ev cf e env m).bind fun x m1 => (evrs cf es env m1).bind fun ds m3 => .ok (x :: ds) m3 := rfl
@[simp] theorem evAnd_one (e : E) : evAnd cf (.cons e .nil) env m = ev cf e env m := rfl
@[simp] theorem evAnd_cons (e e' : E) (es : Es) : evAnd cf (.cons e (.cons e' es)) env m = (ev cf e env m).bind fun x m1 => match tru m1 x with
      | some true => evAnd cf (.cons e' es) env m1
      | some false => .ok x m1
      | none => .fail := rfl
@[simp] theorem evOr_one (e : E) : evOr cf (.cons e .nil) env m = ev cf e env m := rfl
@[simp] theorem evOr_cons (e e' : E) (es : Es) : evOr cf (.cons e (.cons e' es)) env m = (ev cf e env m).bind fun x m1 => match tru m1 x with
      | some true => .ok x m1
      | some false => evOr cf (.cons e' es) env m1
      | none => .fail := rfl
@[simp] theorem evPart_nil : evPart cf .nil env m = .ok none m := rfl
@[simp] theorem evPart_cons (e : E) (es : Es) : evPart cf (.cons e es) env m = (ev cf e env m).bind fun x m1 => match x with
    | .val (.int i) => .ok (some i) m1
    | _ => .fail := rfl
@[simp] theorem evTs_nil : evTs cf .nil env m = .ok true m := rfl
@[simp] theorem evTs_cons (e : E) (es : Es) : evTs cf (.cons e es) env m = (ev cf e env m).bind fun x m1 => match tru m1 x with
    | some true => evTs cf es env m1
    | some false => .ok false m1
    | none => .fail := rfl
@[simp] theorem evSs_nil : evSs cf .nil env m = .ok (.nx env) m := rfl
@[simp] theorem evSs_cons (s : S) (ss : Ss) : evSs cf (.cons s ss) env m = (evS cf s env m).bind fun fl m1 => match fl with
    | .nx env' => evSs cf ss env' m1
    | .ct env' => .ok (.ct env') m1
    | .rt r => .ok (.rt r) m1 := rfl
@[simp] theorem evS_asg (p : Pat) (e : E) : evS cf (.asg p e) env m = (ev cf e env m).bind fun x m1 => (force x m1).bind fun d m2 => Res.of ((p.put d env).map .nx) m2 := rfl
@[simp] theorem evS_ex (e : E) : evS cf (.ex e) env m = (ev cf e env m).bind fun _ m1 => .ok (.nx env) m1 := rfl
@[simp] theorem evS_ret (e : E) : evS cf (.ret e) env m = (ev cf e env m).bind fun x m1 => .ok (.rt x) m1 := rfl
@[simp] theorem evS_retn : evS cf .retn env m = .ok (.rt (.val .non)) m := rfl
@[simp] theorem evS_ife (c : E) (a b : Ss) : evS cf (.ife c a b) env m = (ev cf c env m).bind fun x m1 => match tru m1 x with
    | some true => evSs cf a env m1
    | some false => evSs cf b env m1
    | none => .fail := by
  show ((ev cf c env m).bind fun x m1 => Res.of (tru m1 x) m1).bind _ = _
  cases ev cf c env m with
  | fail => rfl
  | ok x m1 =>
    show (Res.of (tru m1 x) m1).bind _ = _
    cases e : tru m1 x with
    | none => simp [e]
    | some b => cases b <;> simp [e]
@[simp] theorem evS_pass : evS cf .pass env m = .ok (.nx env) m := rfl
@[simp] theorem evS_cont : evS cf .cont env m = .ok (.ct env) m := rfl
theorem evS_for (p : Pat) (k : ItK) (its : Es) (b : Ss) : evS cf (.for p k its b) env m = (evrs cf its env m).bind fun rs m1 => match itD k m1 rs with
    | some (ds, ks) => forL p (evSs cf b) (same ks m1) ds env m1
    | none => .fail := rfl
theorem evS_asgl (ps : List Pat) (e : E) : evS cf (.asgl ps e) env m = (ev cf e env m).bind fun x m1 => (force x m1).bind fun d m2 => match seqOf m2 (.val d) with
    | some (true, ds, _) => Res.of ((Pat.puts ps ds env).map .nx) m2
    | _ => .fail := rfl
theorem evS_aix (o i e : E) : evS cf (.aix o i e) env m = (ev cf e env m).bind fun x m1 => (force x m1).bind fun d m2 => (ev cf o env m2).bind fun y m3 => (ev cf i env m3).bind fun z m4 => match y, z with
    | .val (.ref n), .val (.int k) => match m4[n]? with
      | some (.lst ds) => match L2.ixN ds.length k with
        | some j => .ok (.nx env) (m4.set n (.lst (ds.set j d)))
        | none => .fail
      | _ => .fail
    | _, _ => .fail := rfl
theorem ev_comp (elt : E) (p : Pat) (k : ItK) (its cs : Es) (own : List Nat) : ev cf (.comp elt p k its cs own) env m = (evrs cf its env m).bind fun rs m1 => match itD k m1 rs with
    | some (ds, ks) => (loopC (fun d m2 => match p.put d (wipe env own) with
        | some env' => (evTs cf cs env' m2).bind fun t m3 => if t = true then (ev cf elt env' m3).bind fun x m4 => (force x m4).bind fun y m5 => .ok (some y) m5 else .ok none m3
        | none => .fail) (same ks m1) ds m1).bind fun xs m2 => if xs.length < sizeLine then .ok (.new (.lst xs)) m2 else .fail
    | none => .fail := rfl
end
/-! small things -/
@[simp] theorem put_nm (i : Nat) (d : DV) (env : LE) : Pat.put (.nm i) d env = some (env.set i (some d)) := by simp [Pat.put]
@[simp] theorem put_tup (ps : List Pat) (ds : List DV) (env : LE) : Pat.put (.tup ps) (.tup ds) env = Pat.puts ps ds env := by simp [Pat.put]
@[simp] theorem puts_nil (env : LE) : Pat.puts [] [] env = some env := by simp [Pat.puts]
@[simp] theorem puts_cons (p : Pat) (ps : List Pat) (d : DV) (ds : List DV) (env : LE) : Pat.puts (p :: ps) (d :: ds) env = (Pat.put p d env).bind fun e => Pat.puts ps ds e := by
  simp only [Pat.puts]
  cases Pat.put p d env <;> rfl
@[simp] theorem tru_bl (m : Mem) (b : Bool) : tru m (.val (.bl b)) = some b := rfl
@[simp] theorem tru_int (m : Mem) (i : Int) : tru m (.val (.int i)) = some (i != 0) := rfl
@[simp] theorem tru_non (m : Mem) : tru m (.val .non) = some false := rfl
@[simp] theorem tru_tup (m : Mem) (ds : List DV) : tru m (.val (.tup ds)) = some (!ds.isEmpty) := rfl
@[simp] theorem tru_new (m : Mem) (ds : List DV) : tru m (.new (.lst ds)) = some (!ds.isEmpty) := rfl
@[simp] theorem seq_tup (m : Mem) (ds : List DV) : seqOf m (.val (.tup ds)) = some (false, ds, []) := rfl
@[simp] theorem seq_rl (m : Mem) (ds : List DV) : seqOf m (.val (.rl ds)) = some (true, ds, []) := rfl
@[simp] theorem seq_new (m : Mem) (ds : List DV) : seqOf m (.new (.lst ds)) = some (true, ds, []) := rfl
@[simp] theorem seq_int (m : Mem) (i : Int) : seqOf m (.val (.int i)) = none := rfl
@[simp] theorem seq_str (m : Mem) (i : Str) : seqOf m (.val (.str i)) = none := rfl
@[simp] theorem seq_bl (m : Mem) (i : Bool) : seqOf m (.val (.bl i)) = none := rfl
@[simp] theorem seq_non (m : Mem) : seqOf m (.val .non) = none := rfl
theorem seq_ref (m : Mem) (n : Nat) : seqOf m (.val (.ref n)) = match m[n]? with | some o => some (true, o.items, [n]) | none => none := rfl
@[simp] theorem lim_non (n : Nat) : DV.lim n .non = true := rfl
@[simp] theorem lim_bl (n : Nat) (b : Bool) : DV.lim n (.bl b) = true := rfl
@[simp] theorem lim_int (n : Nat) (b : Int) : DV.lim n (.int b) = true := rfl
@[simp] theorem lim_str (n : Nat) (b : Str) : DV.lim n (.str b) = true := rfl
@[simp] theorem lim_tup (n : Nat) (ds : List DV) : DV.lim n (.tup ds) = DV.lims n ds := by simp [DV.lim]
@[simp] theorem lim_rl (n : Nat) (ds : List DV) : DV.lim n (.rl ds) = DV.lims n ds := by simp [DV.lim]
@[simp] theorem lim_ref (n k : Nat) : DV.lim n (.ref k) = decide (k < n) := by simp [DV.lim]
@[simp] theorem lims_nil (n : Nat) : DV.lims n [] = true := by simp [DV.lims]
@[simp] theorem lims_cons (n : Nat) (d : DV) (ds : List DV) : DV.lims n (d :: ds) = (DV.lim n d && DV.lims n ds) := by simp [DV.lims]
/-- a call that left the memory as it was, with a value without numbers -/
theorem gc_val {m : Mem} {d : DV} (h : d.lim m.length = true) : gc m (.val d) m = .ok (.val d) m := by simp [gc, h]
theorem gc_more {m j : Mem} {d : DV} (h : d.lim m.length = true) : gc m (.val d) (m ++ j) = .ok (.val d) m := by simp [gc, h]
theorem gc_new {m j : Mem} {ds : List DV} (h : DV.lims m.length ds = true) : gc m (.new (.lst ds)) (m ++ j) = .ok (.new (.lst ds)) m := by simp [gc, h]
theorem gc_new0 {m : Mem} {ds : List DV} (h : DV.lims m.length ds = true) : gc m (.new (.lst ds)) m = .ok (.new (.lst ds)) m := by simp [gc, h]
@[simp] theorem gc_int (m : Mem) (i : Int) : gc m (.val (.int i)) m = .ok (.val (.int i)) m := gc_val rfl
@[simp] theorem gc_bl (m : Mem) (i : Bool) : gc m (.val (.bl i)) m = .ok (.val (.bl i)) m := gc_val rfl
@[simp] theorem gc_non (m : Mem) : gc m (.val .non) m = .ok (.val .non) m := gc_val rfl
@[simp] theorem gc_str (m : Mem) (i : Str) : gc m (.val (.str i)) m = .ok (.val (.str i)) m := gc_val rfl
@[simp] theorem gc_int' (m j : Mem) (i : Int) : gc m (.val (.int i)) (m ++ j) = .ok (.val (.int i)) m := gc_more rfl
@[simp] theorem gc_bl' (m j : Mem) (i : Bool) : gc m (.val (.bl i)) (m ++ j) = .ok (.val (.bl i)) m := gc_more rfl
@[simp] theorem gc_non' (m j : Mem) : gc m (.val .non) (m ++ j) = .ok (.val .non) m := gc_more rfl
/-- a call, by its body -/
theorem call_of {fns : List Def} {k i : Nat} {d : Def} (h : fns[i]? = some d) (ds : List DV) (m : Mem) : callF fns (k + 1) i ds m = runD (callF fns k) d ds m := by
  show (match fns[i]? with | some d => runD (callF fns k) d ds m | none => .fail) = _
  rw [h]
/-- the end of a body -/
def fin (m : Mem) (r : Res Fl) : Res RV := r.bind fun fl m1 => match fl with
    | .rt r => gc m r m1
    | .nx _ => gc m (.val .non) m1
    | .ct _ => .fail
@[simp] theorem fin_rt (m m1 : Mem) (r : RV) : fin m (.ok (.rt r) m1) = gc m r m1 := rfl
@[simp] theorem fin_nx (m m1 : Mem) (env : LE) : fin m (.ok (.nx env) m1) = gc m (.val .non) m1 := rfl
theorem runD_eq {cf : Nat → List DV → M RV} {d : Def} {ds : List DV} {m : Mem} (h : ds.length = d.np) : runD cf d ds m = fin m (evSs cf d.body (ds.map some ++ List.replicate (d.n - d.np) none) m) := by
  unfold runD
  rw [if_pos h]
  rfl
/-- whiles -/
theorem whl_zero (c : LE → M Bool) (b : LE → M Fl) (env : LE) : whl c b 0 env = fun _ => .fail := rfl
theorem whl_succ (c : LE → M Bool) (b : LE → M Fl) (n : Nat) (env : LE) (m : Mem) : whl c b (n + 1) env m = (c env m).bind fun t m1 => if t = true then (b env m1).bind fun fl m2 => match fl with
      | .nx env' => whl c b n env' m2
      | .ct env' => whl c b n env' m2
      | .rt r => .ok (.rt r) m2
    else .ok (.nx env) m1 := rfl
theorem evT_eq (cf : Nat → List DV → M RV) (e : E) (env : LE) (m : Mem) : evT cf e env m = (ev cf e env m).bind fun x m1 => Res.of (tru m1 x) m1 := rfl
/-- fors -/
theorem forL_nil (p : Pat) (b : LE → M Fl) (fix : Mem → Bool) (env : LE) (m : Mem) : forL p b fix [] env m = .ok (.nx env) m := rfl
theorem forL_cons (p : Pat) (b : LE → M Fl) (fix : Mem → Bool) (d : DV) (ds : List DV) (env : LE) (m : Mem) : forL p b fix (d :: ds) env m = match p.put d env with
    | some env1 => (b env1 m).bind fun fl m1 => match fl with
      | .nx env' => if fix m1 = true then forL p b fix ds env' m1 else .fail
      | .ct env' => if fix m1 = true then forL p b fix ds env' m1 else .fail
      | .rt r => .ok (.rt r) m1
    | none => .fail := rfl
theorem loopC_nil (body : DV → Mem → Res (Option DV)) (fix : Mem → Bool) (m : Mem) : loopC body fix [] m = .ok [] m := rfl
theorem loopC_cons (body : DV → Mem → Res (Option DV)) (fix : Mem → Bool) (d : DV) (ds : List DV) (m : Mem) : loopC body fix (d :: ds) m = (body d m).bind fun x m1 => if fix m1 = true then (loopC body fix ds m1).bind fun xs m2 => .ok (match x with | some y => y :: xs | none => xs) m2 else .fail := rfl
@[simp] theorem same_nil (m m' : Mem) : same [] m m' = true := rfl
@[simp] theorem same_self (ks : List Nat) (m : Mem) : same ks m m = true := by simp [same]
/-- a comprehension whose turns leave all as it was -/
theorem loopC_pure {body : DV → Mem → Res (Option DV)} {fix : Mem → Bool} {m : Mem} (f : DV → Option DV) (hf : fix m = true) : ∀ ds : List DV, (∀ d ∈ ds, body d m = .ok (f d) m) → loopC body fix ds m = .ok (ds.filterMap f) m
  | [], _ => rfl
  | d :: ds, h => by
    rw [loopC_cons, h d (by simp), Res.bind_ok, if_pos hf, loopC_pure f hf ds fun e he => h e (by simp [he]), Res.bind_ok]
    cases e : f d <;> simp [e]
end Mp
end SMpQ
section SFx
set_option Elab.async false
set_option linter.all false
set_option maxHeartbeats 1000000
/-! Fx: fractions as pairs. -/
namespace Mp
open PySem
@[simp] theorem snapR_val (m : Mem) (d : DV) : snapR m (.val d) = snap 40 m d := rfl
@[simp] theorem snap_non (n : Nat) (m : Mem) : snap (n + 1) m .non = some .none := rfl
@[simp] theorem snap_bl (n : Nat) (m : Mem) (b : Bool) : snap (n + 1) m (.bl b) = some (.bool b) := rfl
@[simp] theorem snap_int (n : Nat) (m : Mem) (i : Int) : snap (n + 1) m (.int i) = some (.int i) := rfl
@[simp] theorem snap_str (n : Nat) (m : Mem) (s : Str) : snap (n + 1) m (.str s) = if PyData.strOk s = true then some (.str s) else none := rfl
@[simp] theorem snap_tup (n : Nat) (m : Mem) (ds : List DV) : snap (n + 1) m (.tup ds) = (ds.mapM fun d => snap n m d).map PyData.tuple := rfl
@[simp] theorem snap_rl (n : Nat) (m : Mem) (ds : List DV) : snap (n + 1) m (.rl ds) = (ds.mapM fun d => snap n m d).map PyData.list := rfl
theorem snap_ref (n : Nat) (m : Mem) (k : Nat) : snap (n + 1) m (.ref k) = match m[k]? with | some o => (o.items.mapM fun d => snap n m d).map PyData.list | none => none := rfl
@[simp] theorem mapM_n {α β : Type} (f : α → Option β) : ([] : List α).mapM f = some [] := by simp
@[simp] theorem mapM_c {α β : Type} (f : α → Option β) (x : α) (xs : List α) : (x :: xs).mapM f = (f x).bind fun y => (xs.mapM f).bind fun ys => some (y :: ys) := by
  rw [List.mapM_cons]
  rfl
@[simp] theorem cmp_eq (m : Mem) (a b : RV) : cmpD .eq m a b = match snapR m a, snapR m b with | some x, some y => some (PyData.eqv x y) | _, _ => none := rfl
@[simp] theorem cmp_ne (m : Mem) (a b : RV) : cmpD .ne m a b = match snapR m a, snapR m b with | some x, some y => some (!PyData.eqv x y) | _, _ => none := rfl
@[simp] theorem cmp_lt (m : Mem) (i j : Int) : cmpD .lt m (.val (.int i)) (.val (.int j)) = some (decide (i < j)) := rfl
@[simp] theorem cmp_le (m : Mem) (i j : Int) : cmpD .le m (.val (.int i)) (.val (.int j)) = some (decide (i ≤ j)) := rfl
@[simp] theorem cmp_gt (m : Mem) (i j : Int) : cmpD .gt m (.val (.int i)) (.val (.int j)) = some (decide (j < i)) := rfl
@[simp] theorem cmp_ge (m : Mem) (i j : Int) : cmpD .ge m (.val (.int i)) (.val (.int j)) = some (decide (j ≤ i)) := rfl
@[simp] theorem eqv_int (i j : Int) : PyData.eqv (.int i) (.int j) = (i == j) := by simp [PyData.eqv]
@[simp] theorem eqv_str (i j : Str) : PyData.eqv (.str i) (.str j) = (i == j) := by simp [PyData.eqv]
@[simp] theorem eqv_bl (i j : Bool) : PyData.eqv (.bool i) (.bool j) = (i == j) := by simp [PyData.eqv]
@[simp] theorem eqv_tup (a b : List PyData) : PyData.eqv (.tuple a) (.tuple b) = PyData.eqvAll a b := by simp [PyData.eqv]
@[simp] theorem eqvAll_nil : PyData.eqvAll [] [] = true := by simp [PyData.eqvAll]
@[simp] theorem eqvAll_nc (x : PyData) (xs : List PyData) : PyData.eqvAll [] (x :: xs) = false := by simp [PyData.eqvAll]
@[simp] theorem eqvAll_cn (x : PyData) (xs : List PyData) : PyData.eqvAll (x :: xs) [] = false := by simp [PyData.eqvAll]
@[simp] theorem eqvAll_c (x y : PyData) (xs ys : List PyData) : PyData.eqvAll (x :: xs) (y :: ys) = (PyData.eqv x y && PyData.eqvAll xs ys) := by simp [PyData.eqvAll]
@[simp] theorem bin_int' (op : Bop) (m : Mem) (i j : Int) : bin op m (.val (.int i)) (.val (.int j)) = (binI op i j).map fun k => .val (.int k) := rfl
@[simp] theorem binI_add (i j : Int) : binI .add i j = some (i + j) := rfl
@[simp] theorem binI_sub (i j : Int) : binI .sub i j = some (i - j) := rfl
@[simp] theorem item_tup (m : Mem) (ds : List DV) (i : Int) : item m (.val (.tup ds)) (.val (.int i)) = (L2.atI ds i).map .val := rfl
@[simp] theorem at_0 {α : Type} (x : α) (xs : List α) : L2.atI (x :: xs) 0 = some x := by simp [L2.atI, L2.ixN]
@[simp] theorem at_1 {α : Type} (x y : α) (xs : List α) : L2.atI (x :: y :: xs) 1 = some y := by
  have : (1 : Int) < (xs.length : Int) + 1 + 1 := by omega
  simp [L2.atI, L2.ixN, this]
theorem mulOk_of {i j : Int} {a b : Nat} (hi : i.natAbs < 2 ^ a) (hj : j.natAbs < 2 ^ b) (h : a + b ≤ 900000) : mulOk i j = true := by
  have l : ∀ {x : Nat} {n : Nat}, x < 2 ^ n → x.log2 ≤ n := fun {x n} h => by
    by_cases h0 : x = 0
    · subst h0; simp
    · exact Nat.le_of_lt ((Nat.log2_lt h0).mpr h)
  have h1 := l hi
  have h2 := l hj
  unfold mulOk
  rw [Bool.or_eq_true, Bool.or_eq_true]
  exact .inr (decide_eq_true (by omega))
/-- a fraction as a pair -/
def frq (q : Rat) : DV := .tup [.int q.num, .int q.den]
theorem frq_eq (q : Rat) : frq q = .tup [.int q.num, .int q.den] := rfl
def Sz (n : Nat) (q : Rat) : Prop := q.num.natAbs < 2 ^ n ∧ q.den < 2 ^ n
theorem Sz.mono {a b : Nat} {q : Rat} (h : Sz a q) (l : a ≤ b) : Sz b q := ⟨Nat.lt_of_lt_of_le h.1 (Nat.pow_le_pow_right (by decide) l), Nat.lt_of_lt_of_le h.2 (Nat.pow_le_pow_right (by decide) l)⟩
theorem Sz.mkRat {a : Int} {d n : Nat} (h1 : a.natAbs < 2 ^ n) (h2 : d < 2 ^ n) (hd : d ≠ 0) : Sz n (mkRat a d) := by
  refine ⟨?_, ?_⟩
  · rw [Rat.num_mkRat, if_neg hd]
    refine Nat.lt_of_le_of_lt ?_ h1
    rw [Int.natAbs_ediv_of_dvd]
    · exact Nat.div_le_self _ _
    · exact Int.ofNat_dvd_left.mpr (Nat.gcd_dvd_right _ _)
  · rw [Rat.den_mkRat, if_neg hd]
    exact Nat.lt_of_le_of_lt (Nat.div_le_self _ _) h2
theorem natAbs_mul_lt {i j : Int} {a b : Nat} (hi : i.natAbs < 2 ^ a) (hj : j.natAbs < 2 ^ b) : (i * j).natAbs < 2 ^ (a + b) := by
  rw [Int.natAbs_mul, Nat.pow_add]
  exact Nat.mul_lt_mul'' hi hj
theorem Sz.mul {a b : Nat} {x y : Rat} (hx : Sz a x) (hy : Sz b y) : Sz (a + b) (x * y) := by
  rw [Rat.mul_def']
  exact Sz.mkRat (natAbs_mul_lt hx.1 hy.1) (by rw [Nat.pow_add]; exact Nat.mul_lt_mul'' hx.2 hy.2) (Nat.mul_ne_zero x.den_nz y.den_nz)
theorem Sz.add {a b : Nat} {x y : Rat} (hx : Sz a x) (hy : Sz b y) : Sz (a + b + 1) (x + y) := by
  rw [Rat.add_def']
  refine Sz.mkRat ?_ ?_ (Nat.mul_ne_zero x.den_nz y.den_nz)
  · have h1 : (x.num * y.den).natAbs < 2 ^ (a + b) := natAbs_mul_lt hx.1 hy.2
    have h2 : (y.num * x.den).natAbs < 2 ^ (b + a) := natAbs_mul_lt hy.1 hx.2
    rw [Nat.add_comm b a] at h2
    have h3 := Int.natAbs_add_le (x.num * y.den) (y.num * x.den)
    have : 2 ^ (a + b + 1) = 2 ^ (a + b) + 2 ^ (a + b) := by rw [Nat.pow_succ]; omega
    omega
  · have : x.den * y.den < 2 ^ (a + b) := by rw [Nat.pow_add]; exact Nat.mul_lt_mul'' hx.2 hy.2
    have h4 : 2 ^ (a + b + 1) = 2 ^ (a + b) + 2 ^ (a + b) := by rw [Nat.pow_succ]; omega
    omega
theorem Sz.neg {a : Nat} {x : Rat} (hx : Sz a x) : Sz a (-x) := ⟨by rw [Rat.neg_num, Int.natAbs_neg]; exact hx.1, hx.2⟩
theorem Sz.sub {a b : Nat} {x y : Rat} (hx : Sz a x) (hy : Sz b y) : Sz (a + b + 1) (x - y) := by
  rw [Rat.sub_eq_add_neg]
  exact hx.add hy.neg
/-! ### the text of fractions.py -/
def fDiv : Ss := (.cons (.asg (.tup [.nm 0, .nm 1]) (.tup (.cons (.blt .abs (.cons (.v 0) .nil)) (.cons (.blt .abs (.cons (.v 1) .nil)) .nil))))
 (.cons (.wh (.cmp .ne (.v 1) (.c (.int 0)))
  (.cons (.asg (.tup [.nm 0, .nm 1]) (.tup (.cons (.v 1) (.cons (.bin .mod (.v 0) (.v 1)) .nil))))
  .nil))
 (.cons (.ret (.v 0))
 .nil)))
def fRed (iDiv : Nat) : Ss := (.cons (.asg (.nm 2) (.call iDiv (.cons (.v 0) (.cons (.v 1) .nil))))
 (.cons (.asg (.nm 3) (.ife (.cmp .gt (.v 1) (.c (.int 0))) (.c (.int 1)) (.neg (.c (.int 1)))))
 (.cons (.ret (.tup (.cons (.bin .fdiv (.bin .mul (.v 3) (.v 0)) (.v 2)) (.cons (.bin .fdiv (.bin .mul (.v 3) (.v 1)) (.v 2)) .nil))))
 .nil)))
def fAdd (iRed : Nat) : Ss := (.cons (.ret (.call iRed (.cons (.bin .add (.bin .mul (.ix (.v 0) (.c (.int 0))) (.ix (.v 1) (.c (.int 1)))) (.bin .mul (.ix (.v 1) (.c (.int 0))) (.ix (.v 0) (.c (.int 1))))) (.cons (.bin .mul (.ix (.v 0) (.c (.int 1))) (.ix (.v 1) (.c (.int 1)))) .nil))))
 .nil)
def fTimes (iRed : Nat) : Ss := (.cons (.ret (.call iRed (.cons (.bin .mul (.ix (.v 0) (.c (.int 0))) (.ix (.v 1) (.c (.int 0)))) (.cons (.bin .mul (.ix (.v 0) (.c (.int 1))) (.ix (.v 1) (.c (.int 1)))) .nil))))
 .nil)
def fLess (iAdd : Nat) : Ss := (.cons (.ret (.call iAdd (.cons (.v 0) (.cons (.tup (.cons (.neg (.ix (.v 1) (.c (.int 0)))) (.cons (.ix (.v 1) (.c (.int 1))) .nil))) .nil))))
 .nil)
def fIsLess : Ss := (.cons (.ret (.cmp .lt (.bin .mul (.ix (.v 0) (.c (.int 0))) (.ix (.v 1) (.c (.int 1)))) (.bin .mul (.ix (.v 1) (.c (.int 0))) (.ix (.v 0) (.c (.int 1))))))
 .nil)
section
variable {fns : List Def}
theorem gcd_loop (cf : Nat → List DV → M RV) (m : Mem) : ∀ (y n : Nat) (x : Nat), y < n → whl (evT cf (.cmp .ne (.v 1) (.c (.int 0)))) (evSs cf (.cons (.asg (.tup [.nm 0, .nm 1]) (.tup (.cons (.v 1) (.cons (.bin .mod (.v 0) (.v 1)) .nil)))) .nil)) n [some (.int (x : Int)), some (.int (y : Int))] m
    = .ok (.nx [some (.int (Nat.gcd x y : Nat)), some (.int 0)]) m := by
  intro y
  induction y using Nat.strongRecOn with
  | _ y ih =>
    intro n x hn
    obtain ⟨n, rfl⟩ : ∃ k, n = k + 1 := ⟨n - 1, by omega⟩
    rw [whl_succ]
    by_cases hy : y = 0
    · subst hy
      simp [evT_eq]
    · have hp : (0 : Int) < (y : Int) := by omega
      have h2 := ih (x % y) (Nat.mod_lt _ (by omega)) n y (by have := Nat.mod_lt x (show y > 0 by omega); omega)
      have hne : ¬ ((y : Int) = 0) := by omega
      have e : (x : Int) % (y : Int) = ((x % y : Nat) : Int) := by simp
      simp only [evT_eq, ev_cmp, ev_v, ev_c, List.getElem?_cons_succ, List.getElem?_cons_zero, Res.bind_ok, cmp_ne, snapR_val, snap_int, eqv_int, Option.map_some, Res.of_some, tru_bl]
      rw [if_pos (by simpa using hne)]
      simp only [evSs_cons, evSs_nil, evS_asg, ev_tup, evs_cons, evs_nil, ev_v, ev_bin, List.getElem?_cons_succ, List.getElem?_cons_zero, Res.bind_ok, force_val, bin_int', binI, if_pos hp, Option.map_some, Res.of_some, put_tup, puts_cons, puts_nil, put_nm, Option.bind_some, List.set_cons_zero, List.set_cons_succ, e]
      rw [h2, Nat.gcd_comm y, ← Nat.gcd_rec, Nat.gcd_comm]
theorem divisor_ok {k i : Nat} (h : fns[i]? = some ⟨2, 2, fDiv⟩) (a b : Int) (m : Mem) (hb : b.natAbs < fuel) : callF fns (k + 1) i [.int a, .int b] m = .ok (.val (.int (Nat.gcd a.natAbs b.natAbs : Nat))) m := by
  rw [call_of h, runD_eq rfl]
  have e : ∀ i : Int, (if i < 0 then -i else i) = (i.natAbs : Int) := fun i => by split <;> omega
  have l := gcd_loop (callF fns k) m b.natAbs fuel a.natAbs hb
  simp only [fDiv, evSs_cons, evS_asg, ev_tup, evs_cons, evs_nil, ev_blt, evrs_cons, evrs_nil, ev_v, List.map_cons, List.map_nil, List.getElem?_cons_succ, List.getElem?_cons_zero, Res.bind_ok, bltD, Res.of_some, force_val, put_tup, puts_cons, puts_nil, put_nm, Option.bind_some, Option.map_some,
    List.set_cons_zero, List.set_cons_succ, e, evS_wh, l, evS_ret, fin_rt, gc_int, List.cons_append, List.nil_append, List.append_nil, Nat.sub_self, List.replicate_zero]
end
end Mp
end SFx
section SFy
set_option Elab.async false
set_option linter.all false
set_option maxHeartbeats 1000000
/-! Fy: the functions on fractions. -/
namespace Mp
open PySem
@[simp] theorem binI_mul {i j : Int} (h : mulOk i j = true) : binI .mul i j = some (i * j) := if_pos h
theorem mulOk_l {i j : Int} (h : -(2 ^ 64) < i ∧ i < 2 ^ 64) : mulOk i j = true := by
  unfold mulOk
  rw [Bool.or_eq_true, Bool.or_eq_true]
  exact .inl (.inl (by simp only [Bool.and_eq_true, decide_eq_true_eq]; exact h))
theorem mulOk_r {i j : Int} (h : -(2 ^ 64) < j ∧ j < 2 ^ 64) : mulOk i j = true := by
  unfold mulOk
  rw [Bool.or_eq_true, Bool.or_eq_true]
  exact .inl (.inr (by simp only [Bool.and_eq_true, decide_eq_true_eq]; exact h))
@[simp] theorem mulOk_1 (j : Int) : mulOk 1 j = true := mulOk_l (by decide)
theorem log2_le {x n : Nat} (h : x < 2 ^ n) : x.log2 ≤ n := by
  by_cases h0 : x = 0
  · subst h0; simp
  · exact Nat.le_of_lt ((Nat.log2_lt h0).mpr h)
set_option exponentiation.threshold 30000 in
def Sm (d : Nat) : Prop := d < 2 ^ 8999
set_option exponentiation.threshold 30000 in
theorem Sm.of {d n : Nat} (h : d < 2 ^ n) (l : n ≤ 8999) : Sm d := Nat.lt_of_lt_of_le h (Nat.pow_le_pow_right (Nat.le_succ 1) l)
theorem Sm.le {d e : Nat} (h : Sm d) (l : e ≤ d) : Sm e := Nat.lt_of_le_of_lt l h
theorem Sm.log {d : Nat} (h : Sm d) : d.log2 ≤ 8999 := log2_le h
set_option exponentiation.threshold 30000 in
theorem Sm.fuel {d : Nat} (h : Sm d) : d < fuel := Nat.lt_trans h (Nat.pow_lt_pow_right (Nat.le_refl 2) (by decide))
theorem binI_fdiv {i j : Int} (h : 0 < j) (l : Sm j.natAbs) : binI .fdiv i j = some (i / j) := by
  have := l.log
  exact if_pos ⟨h, by omega⟩
theorem binI_mod {i j : Int} (h : 0 < j) : binI .mod i j = some (i % j) := if_pos h
section
variable {fns : List Def}
theorem red_ok {id ir : Nat} (hd : fns[id]? = some ⟨2, 2, fDiv⟩) (h : fns[ir]? = some ⟨2, 4, fRed id⟩) (k : Nat) (a : Int) {d : Nat} (hz : d ≠ 0) (hs : Sm d) (m : Mem) :
    callF fns (k + 2) ir [.int a, .int d] m = .ok (.val (frq (mkRat a d))) m := by
  have hg : Sm (Nat.gcd a.natAbs d) := hs.le (Nat.le_of_dvd (by omega) (Nat.gcd_dvd_right _ _))
  have hp : 0 < Nat.gcd a.natAbs d := Nat.gcd_pos_of_pos_right _ (by omega)
  have hf : (d : Int).natAbs < fuel := hs.fuel
  have d0 : (0 : Int) < (d : Int) := by omega
  rw [call_of h, runD_eq rfl, frq_eq, Rat.num_mkRat, Rat.den_mkRat, if_neg hz, if_neg hz, Nat.gcd_comm]
  have e1 := @binI_fdiv a (Nat.gcd a.natAbs d : Nat) (by omega) hg
  have e2 := @binI_fdiv d (Nat.gcd a.natAbs d : Nat) (by omega) hg
  have e3 : mulOk 1 a = true := mulOk_1 a
  have e4 : mulOk 1 d = true := mulOk_1 d
  have d1 : 0 < d := by omega
  simp -implicitDefEqProofs [fRed, divisor_ok hd a d m hf, d1, e1, e2, gc_val, hz]
theorem added_ok {id ir i : Nat} (hd : fns[id]? = some ⟨2, 2, fDiv⟩) (hr : fns[ir]? = some ⟨2, 4, fRed id⟩) (h : fns[i]? = some ⟨2, 2, fAdd ir⟩) (k : Nat) {a b : Nat} {x y : Rat} (hx : Sz a x) (hy : Sz b y) (hs : a + b ≤ 8000) (m : Mem) :
    callF fns (k + 3) i [frq x, frq y] m = .ok (.val (frq (x + y))) m := by
  have s1 : mulOk x.num y.den = true := mulOk_of hx.1 (by simpa using hy.2) (by omega)
  have s2 : mulOk y.num x.den = true := mulOk_of hy.1 (by simpa using hx.2) (by omega)
  have s3 : mulOk x.den y.den = true := mulOk_of (by simpa using hx.2) (by simpa using hy.2) (by omega)
  have e := red_ok hd hr k (x.num * y.den + y.num * x.den) (d := x.den * y.den) (Nat.mul_ne_zero x.den_nz y.den_nz)
    (Sm.of (show x.den * y.den < 2 ^ (a + b) by rw [Nat.pow_add]; exact Nat.mul_lt_mul'' hx.2 hy.2) (by omega)) m
  rw [Int.natCast_mul, ← Rat.add_def'] at e
  rw [call_of h, runD_eq rfl, frq_eq x, frq_eq y]
  simp -implicitDefEqProofs [fAdd, s1, s2, s3, e, gc_val, frq_eq]
theorem times_ok {id ir i : Nat} (hd : fns[id]? = some ⟨2, 2, fDiv⟩) (hr : fns[ir]? = some ⟨2, 4, fRed id⟩) (h : fns[i]? = some ⟨2, 2, fTimes ir⟩) (k : Nat) {a b : Nat} {x y : Rat} (hx : Sz a x) (hy : Sz b y) (hs : a + b ≤ 8000) (m : Mem) :
    callF fns (k + 3) i [frq x, frq y] m = .ok (.val (frq (x * y))) m := by
  have s1 : mulOk x.num y.num = true := mulOk_of hx.1 hy.1 (by omega)
  have s3 : mulOk x.den y.den = true := mulOk_of (by simpa using hx.2) (by simpa using hy.2) (by omega)
  have e := red_ok hd hr k (x.num * y.num) (d := x.den * y.den) (Nat.mul_ne_zero x.den_nz y.den_nz)
    (Sm.of (show x.den * y.den < 2 ^ (a + b) by rw [Nat.pow_add]; exact Nat.mul_lt_mul'' hx.2 hy.2) (by omega)) m
  rw [Int.natCast_mul, ← Rat.mul_def'] at e
  rw [call_of h, runD_eq rfl, frq_eq x, frq_eq y]
  simp -implicitDefEqProofs [fTimes, s1, s3, e, gc_val, frq_eq]
theorem less_ok {id ir ia i : Nat} (hd : fns[id]? = some ⟨2, 2, fDiv⟩) (hr : fns[ir]? = some ⟨2, 4, fRed id⟩) (ha : fns[ia]? = some ⟨2, 2, fAdd ir⟩) (h : fns[i]? = some ⟨2, 2, fLess ia⟩) (k : Nat) {a b : Nat} {x y : Rat} (hx : Sz a x) (hy : Sz b y) (hs : a + b ≤ 8000) (m : Mem) :
    callF fns (k + 4) i [frq x, frq y] m = .ok (.val (frq (x - y))) m := by
  have e := added_ok hd hr ha k hx hy.neg hs m
  rw [← Rat.sub_eq_add_neg, frq_eq (-y), Rat.neg_num, Rat.neg_den] at e
  rw [call_of h, runD_eq rfl, frq_eq y]
  simp -implicitDefEqProofs [fLess, e, gc_val, frq_eq (x - y)]
theorem is_less_ok {i : Nat} (h : fns[i]? = some ⟨2, 2, fIsLess⟩) (k : Nat) {a b : Nat} {x y : Rat} (hx : Sz a x) (hy : Sz b y) (hs : a + b ≤ 8000) (m : Mem) :
    callF fns (k + 1) i [frq x, frq y] m = .ok (.val (.bl (decide (x < y)))) m := by
  have s1 : mulOk x.num y.den = true := mulOk_of hx.1 (by simpa using hy.2) (by omega)
  have s2 : mulOk y.num x.den = true := mulOk_of hy.1 (by simpa using hx.2) (by omega)
  rw [call_of h, runD_eq rfl, frq_eq x, frq_eq y]
  simp -implicitDefEqProofs [fIsLess, s1, s2, Rat.lt_iff]
end
end Mp
end SFy
section SFz
set_option Elab.async false
set_option linter.all false
set_option maxHeartbeats 1000000
/-! Fz: more functions on fractions; the law's own. -/
namespace Mp
open PySem
def fIsInt : Ss := (.cons (.ret (.and (.cons (.isi (.v 0) [.int]) (.cons (.not (.isi (.v 0) [.bool])) .nil))))
 .nil)
def fWithin (iInt : Nat) : Ss := (.cons (.ret (.and (.cons (.call iInt (.cons (.v 0) .nil)) (.cons (.cmp2 .le .le (.v 1) (.v 0) (.v 2)) .nil))))
 .nil)
def fNumber (iInt : Nat) : Ss := (.cons (.ret (.and (.cons (.call iInt (.cons (.v 0) .nil)) (.cons (.cmp .ge (.v 0) (.c (.int 0))) .nil))))
 .nil)
def fTuple : Ss := (.cons (.ret (.and (.cons (.isi (.v 0) [.tuple]) (.cons (.cmp2 .le .le (.v 1) (.blt .len (.cons (.v 0) .nil)) (.v 2)) .nil))))
 .nil)
def fIsFrac (iTup iRed : Nat) : Ss := (.cons (.ife (.or (.cons (.not (.call iTup (.cons (.v 0) (.cons (.c (.int 2)) (.cons (.c (.int 2)) .nil))))) (.cons (.not (.blt .all (.cons (.comp (.and (.cons (.isi (.v 1) [.int]) (.cons (.not (.isi (.v 1) [.bool])) .nil))) (.nm 1) .seq (.cons (.v 0) .nil) .nil [1]) .nil))) .nil)))
  (.cons (.ret (.c (.bl false)))
  .nil)
  .nil)
 (.cons (.ret (.and (.cons (.cmp .gt (.ix (.v 0) (.c (.int 1))) (.c (.int 0))) (.cons (.cmp .eq (.call iRed (.cons (.ix (.v 0) (.c (.int 0))) (.cons (.ix (.v 0) (.c (.int 1))) .nil))) (.v 0)) .nil))))
 .nil))
def lIs : Ss := (.cons (.ret (.cmp .eq (.blt .repr (.cons (.v 0) .nil)) (.blt .repr (.cons (.v 1) .nil))))
 .nil)
def lLow : Ss := (.cons (.asg (.tup [.nm 2, .nm 3]) (.tup (.cons (.blt .abs (.cons (.v 0) .nil)) (.cons (.blt .abs (.cons (.v 1) .nil)) .nil))))
 (.cons (.wh (.cmp .gt (.v 3) (.c (.int 0)))
  (.cons (.asg (.tup [.nm 2, .nm 3]) (.tup (.cons (.v 3) (.cons (.bin .mod (.blt .int (.cons (.v 2) .nil)) (.v 3)) .nil))))
  .nil))
 (.cons (.asg (.nm 2) (.ife (.cmp .gt (.v 1) (.c (.int 0))) (.v 2) (.bin .sub (.c (.int 0)) (.v 2))))
 (.cons (.ret (.tup (.cons (.bin .fdiv (.v 0) (.v 2)) (.cons (.bin .fdiv (.v 1) (.v 2)) .nil))))
 .nil))))
def lPower (iLow : Nat) : Ss := (.cons (.asg (.tup [.nm 2, .nm 3]) (.tup (.cons (.c (.int 1)) (.cons (.c (.int 1)) .nil))))
 (.cons (.for (.nm 4) .range (.cons (.v 1) .nil)
  (.cons (.asg (.tup [.nm 2, .nm 3]) (.tup (.cons (.bin .mul (.v 2) (.ix (.v 0) (.c (.int 0)))) (.cons (.bin .mul (.v 3) (.ix (.v 0) (.c (.int 1)))) .nil))))
  .nil))
 (.cons (.ret (.call iLow (.cons (.v 2) (.cons (.v 3) .nil))))
 .nil)))
def lBy (iLow : Nat) : Ss := (.cons (.ret (.call iLow (.cons (.bin .mul (.ix (.v 0) (.c (.int 0))) (.ix (.v 1) (.c (.int 0)))) (.cons (.bin .mul (.ix (.v 0) (.c (.int 1))) (.ix (.v 1) (.c (.int 1)))) .nil))))
 .nil)
def lRest : Ss := (.cons (.ret (.tup (.cons (.bin .sub (.ix (.v 0) (.c (.int 1))) (.ix (.v 0) (.c (.int 0)))) (.cons (.ix (.v 0) (.c (.int 1))) .nil))))
 .nil)
def lBetween (iLow : Nat) : Ss := (.cons (.ret (.call iLow (.cons (.bin .add (.ix (.v 0) (.c (.int 0))) (.ix (.v 1) (.c (.int 0)))) (.cons (.bin .add (.ix (.v 0) (.c (.int 1))) (.ix (.v 1) (.c (.int 1)))) .nil))))
 .nil)
/-! ### small facts -/
@[simp] theorem isi_int (m : Mem) (i : Int) (ts : List Ty) : isiD m (.val (.int i)) ts = some (ts.any fun u => Ty.sub .int u) := rfl
@[simp] theorem isi_bl (m : Mem) (i : Bool) (ts : List Ty) : isiD m (.val (.bl i)) ts = some (ts.any fun u => Ty.sub .bool u) := rfl
@[simp] theorem isi_str (m : Mem) (i : Str) (ts : List Ty) : isiD m (.val (.str i)) ts = some (ts.any fun u => Ty.sub .str u) := rfl
@[simp] theorem isi_non (m : Mem) (ts : List Ty) : isiD m (.val .non) ts = some (ts.any fun u => Ty.sub .non u) := rfl
@[simp] theorem isi_tup (m : Mem) (ds : List DV) (ts : List Ty) : isiD m (.val (.tup ds)) ts = some (ts.any fun u => Ty.sub .tuple u) := rfl
@[simp] theorem isi_rl (m : Mem) (ds : List DV) (ts : List Ty) : isiD m (.val (.rl ds)) ts = some (ts.any fun u => Ty.sub .list u) := rfl
theorem isi_ref (m : Mem) (n : Nat) (ts : List Ty) : isiD m (.val (.ref n)) ts = (tyOf m (.val (.ref n))).map fun t => ts.any fun u => t.sub u := rfl
@[simp] theorem sub_ii : Ty.sub .int .int = true := rfl
@[simp] theorem sub_ib : Ty.sub .int .bool = false := rfl
@[simp] theorem sub_it : Ty.sub .int .tuple = false := rfl
@[simp] theorem sub_is : Ty.sub .int .str = false := rfl
@[simp] theorem sub_il : Ty.sub .int .list = false := rfl
@[simp] theorem sub_tt : Ty.sub .tuple .tuple = true := rfl
@[simp] theorem sub_ti : Ty.sub .tuple .int = false := rfl
@[simp] theorem sub_tb : Ty.sub .tuple .bool = false := rfl
@[simp] theorem sub_ts : Ty.sub .tuple .str = false := rfl
@[simp] theorem sub_tl : Ty.sub .tuple .list = false := rfl
@[simp] theorem sub_ss : Ty.sub .str .str = true := rfl
@[simp] theorem sub_st : Ty.sub .str .tuple = false := rfl
@[simp] theorem sub_si : Ty.sub .str .int = false := rfl
@[simp] theorem sub_sb : Ty.sub .str .bool = false := rfl
@[simp] theorem sub_sl : Ty.sub .str .list = false := rfl
@[simp] theorem sub_bb : Ty.sub .bool .bool = true := rfl
@[simp] theorem sub_bi : Ty.sub .bool .int = true := rfl
@[simp] theorem sub_bt : Ty.sub .bool .tuple = false := rfl
@[simp] theorem sub_bs : Ty.sub .bool .str = false := rfl
@[simp] theorem sub_bL : Ty.sub .bool .list = false := rfl
@[simp] theorem sub_lt : Ty.sub .list .tuple = false := rfl
@[simp] theorem sub_ll : Ty.sub .list .list = true := rfl
@[simp] theorem sub_ls : Ty.sub .list .str = false := rfl
@[simp] theorem sub_li : Ty.sub .list .int = false := rfl
@[simp] theorem sub_lb : Ty.sub .list .bool = false := rfl
@[simp] theorem sub_nt : Ty.sub .non .tuple = false := rfl
@[simp] theorem sub_ni : Ty.sub .non .int = false := rfl
@[simp] theorem sub_nb : Ty.sub .non .bool = false := rfl
@[simp] theorem sub_ns : Ty.sub .non .str = false := rfl
@[simp] theorem sub_nl : Ty.sub .non .list = false := rfl
@[simp] theorem len_tup (m : Mem) (ds : List DV) : bltD .len m [.val (.tup ds)] = some (.val (.int ds.length)) := rfl
@[simp] theorem len_rl (m : Mem) (ds : List DV) : bltD .len m [.val (.rl ds)] = some (.val (.int ds.length)) := rfl
@[simp] theorem len_new (m : Mem) (ds : List DV) : bltD .len m [.new (.lst ds)] = some (.val (.int ds.length)) := rfl
theorem len_ref (m : Mem) (n : Nat) : bltD .len m [.val (.ref n)] = match m[n]? with | some o => some (.val (.int o.items.length)) | none => none := by
  show (match seqOf m (.val (.ref n)) with | some (_, ds, _) => _ | none => none) = _
  rw [seq_ref]
  cases m[n]? <;> rfl
@[simp] theorem int_int (m : Mem) (i : Int) : bltD .int m [.val (.int i)] = some (.val (.int i)) := rfl
@[simp] theorem int_bl (m : Mem) (b : Bool) : bltD .int m [.val (.bl b)] = some (.val (.int (if b then 1 else 0))) := rfl
@[simp] theorem abs_int (m : Mem) (i : Int) : bltD .abs m [.val (.int i)] = some (.val (.int i.natAbs)) := by
  show some (RV.val (DV.int (if i < 0 then -i else i))) = _
  congr 3
  split <;> omega
@[simp] theorem all_new (m : Mem) (ds : List DV) : bltD .all m [.new (.lst ds)] = (boolsOf ds).map fun bs => .val (.bl (bs.all id)) := rfl
@[simp] theorem any_new (m : Mem) (ds : List DV) : bltD .any m [.new (.lst ds)] = (boolsOf ds).map fun bs => .val (.bl (bs.any id)) := rfl
@[simp] theorem bools_nil : boolsOf [] = some [] := by simp [boolsOf]
@[simp] theorem bools_cons (b : Bool) (ds : List DV) : boolsOf (.bl b :: ds) = (boolsOf ds).map (b :: ·) := by
  unfold boolsOf
  rw [mapM_c, Option.bind_some]
  cases ds.mapM (fun d => match d with | DV.bl i => some i | _ => none) <;> rfl
@[simp] theorem it_seq_tup (m : Mem) (ds : List DV) : itD .seq m [.val (.tup ds)] = some (ds, []) := rfl
@[simp] theorem it_seq_rl (m : Mem) (ds : List DV) : itD .seq m [.val (.rl ds)] = some (ds, []) := rfl
@[simp] theorem it_seq_new (m : Mem) (ds : List DV) : itD .seq m [.new (.lst ds)] = some (ds, []) := rfl
theorem it_seq_ref (m : Mem) (n : Nat) : itD .seq m [.val (.ref n)] = (m[n]?).map fun o => (o.items, [n]) := by
  show (seqOf m (.val (.ref n))).map _ = _
  rw [seq_ref]
  cases m[n]? <;> rfl
@[simp] theorem wipe_nil (env : LE) : wipe env [] = env := rfl
@[simp] theorem wipe_cons (env : LE) (i : Nat) (is : List Nat) : wipe env (i :: is) = (wipe env is).set i none := rfl
/-! ### repr's texts are sound -/
mutual
def lo : PyData → Bool
  | .none => true
  | .bool _ => true
  | .int _ => true
  | .str s => PyData.strOk (PyData.shown (.str s))
  | .list xs => los xs
  | .tuple xs => los xs
  | .dict _ => false
def los : List PyData → Bool
  | [] => true
  | x :: xs => lo x && los xs
end
@[simp] theorem lo_int (i : Int) : lo (.int i) = true := by simp [lo]
@[simp] theorem lo_bool (i : Bool) : lo (.bool i) = true := by simp [lo]
@[simp] theorem lo_none : lo .none = true := by simp [lo]
@[simp] theorem lo_list (xs : List PyData) : lo (.list xs) = los xs := by simp [lo]
@[simp] theorem lo_tuple (xs : List PyData) : lo (.tuple xs) = los xs := by simp [lo]
@[simp] theorem los_nil : los [] = true := by simp [los]
@[simp] theorem los_cons (x : PyData) (xs : List PyData) : los (x :: xs) = (lo x && los xs) := by simp [los]
theorem strOk_iff (s : Str) : PyData.strOk s = true ↔ ∀ k, k ∈ s.cps.toList → k < 0x110000 := by
  unfold PyData.strOk
  rw [← Array.all_toList, List.all_eq_true]
  simp
theorem strOk_app {a b : Str} (ha : PyData.strOk a = true) (hb : PyData.strOk b = true) : PyData.strOk (a ++ b) = true := by
  rw [strOk_iff] at *
  intro k hk
  rw [PyProof.Rows.mem_cps_append] at hk
  exact hk.elim (ha k) (hb k)
theorem strOk_join {a : Str} {ts : List Str} (ha : PyData.strOk a = true) (ht : ∀ t ∈ ts, PyData.strOk t = true) : PyData.strOk (Str.join a ts) = true := by
  rw [strOk_iff]
  intro k hk
  rw [PyProof.Rows.mem_join] at hk
  rcases hk with ⟨t, h1, h2⟩ | ⟨_, h⟩
  · exact (strOk_iff t).mp (ht t h1) k h2
  · exact (strOk_iff a).mp ha k h
mutual
theorem lo_shown : ∀ d : PyData, lo d = true → PyData.strOk d.shown = true
  | .none, _ => by decide +kernel
  | .bool b, _ => by cases b <;> decide +kernel
  | .int i, _ => by
    rw [strOk_iff]
    intro k hk
    by_cases h : 57 < k
    · exact absurd hk (PyProof.Rows.shown_int_free' ⟨by omega, .inr h⟩ i)
    · omega
  | .str s, h => by rw [lo] at h; exact h
  | .list xs, h => by
    rw [lo] at h
    show PyData.strOk (PyData.shown (.list xs)) = true
    rw [PyData.shown]
    rw [listText_eq_join]
    exact strOk_app (strOk_app (by decide +kernel) (strOk_join (by decide +kernel) (los_shown xs h))) (by decide +kernel)
  | .tuple xs, h => by
    rw [lo] at h
    show PyData.strOk (PyData.shown (.tuple xs)) = true
    rw [PyData.shown]
    unfold tupleText
    refine strOk_app (strOk_app (by decide +kernel) (strOk_join (by decide +kernel) (los_shown xs h))) ?_
    split <;> decide +kernel
  | .dict _, h => by rw [lo] at h; cases h
theorem los_shown : ∀ ds : List PyData, los ds = true → ∀ t ∈ PyData.shownAll ds, PyData.strOk t = true
  | [], _, t, h => by rw [PyData.shownAll] at h; cases h
  | x :: xs, h, t, ht => by
    rw [los, Bool.and_eq_true] at h
    rw [PyData.shownAll, List.mem_cons] at ht
    rcases ht with rfl | ht
    · exact lo_shown x h.1
    · exact los_shown xs h.2 t ht
end
/-- may be shown and compared -/
def Sh (d : PyData) : Prop := d.showable = true ∧ wt d ≤ 8000 ∧ lo d = true
section
variable {fns : List Def}
theorem is_ok {i : Nat} (h : fns[i]? = some ⟨2, 2, lIs⟩) (k : Nat) {m : Mem} {a b : DV} {x y : PyData} (ea : snap 40 m a = some x) (eb : snap 40 m b = some y) (hx : Sh x) (hy : Sh y) :
    callF fns (k + 1) i [a, b] m = .ok (.val (.bl (x.shown == y.shown))) m := by
  have e1 : bltD .repr m [.val a] = some (.val (.str x.shown)) := by
    show (match snapR m (.val a) with | some d => _ | none => none) = _
    rw [snapR_val, ea]
    exact if_pos ⟨hx.1, hx.2.1⟩
  have e2 : bltD .repr m [.val b] = some (.val (.str y.shown)) := by
    show (match snapR m (.val b) with | some d => _ | none => none) = _
    rw [snapR_val, eb]
    exact if_pos ⟨hy.1, hy.2.1⟩
  have o1 := lo_shown x hx.2.2
  have o2 := lo_shown y hy.2.2
  rw [call_of h, runD_eq rfl]
  simp -implicitDefEqProofs [lIs, e1, e2, o1, o2]
theorem is_same {i : Nat} (h : fns[i]? = some ⟨2, 2, lIs⟩) (k : Nat) {m : Mem} {a b : DV} {x : PyData} (ea : snap 40 m a = some x) (eb : snap 40 m b = some x) (hx : Sh x) :
    callF fns (k + 1) i [a, b] m = .ok (.val (.bl true)) m := by
  rw [is_ok h k ea eb hx hx]
  simp
end
end Mp
end SFz
section SFw
set_option Elab.async false
set_option linter.all false
set_option maxHeartbeats 1000000
/-! Fw: more functions on fractions. -/
namespace Mp
open PySem
@[simp] theorem it_range (m : Mem) (j : Nat) (h : j < 2 ^ 62) : itD .range m [.val (.int j)] = some ((List.range j).map fun i => .int (i : Nat), []) := by
  have : -(2 ^ 62) ≤ (j : Int) ∧ (j : Int) < 2 ^ 62 := by omega
  simp only [itD]
  rw [if_pos this, Int.toNat_natCast]
theorem low_loop (cf : Nat → List DV → M RV) (m : Mem) (p q : Option DV) : ∀ (y n : Nat) (x : Nat), y < n → whl (evT cf (.cmp .gt (.v 3) (.c (.int 0)))) (evSs cf (.cons (.asg (.tup [.nm 2, .nm 3]) (.tup (.cons (.v 3) (.cons (.bin .mod (.blt .int (.cons (.v 2) .nil)) (.v 3)) .nil)))) .nil)) n [p, q, some (.int (x : Int)), some (.int (y : Int))] m
    = .ok (.nx [p, q, some (.int (Nat.gcd x y : Nat)), some (.int 0)]) m := by
  intro y
  induction y using Nat.strongRecOn with
  | _ y ih =>
    intro n x hn
    obtain ⟨n, rfl⟩ : ∃ k, n = k + 1 := ⟨n - 1, by omega⟩
    rw [whl_succ]
    by_cases hy : y = 0
    · subst hy
      simp -implicitDefEqProofs [evT_eq]
    · have hp : (0 : Int) < (y : Int) := by omega
      have h2 := ih (x % y) (Nat.mod_lt _ (by omega)) n y (by have := Nat.mod_lt x (show y > 0 by omega); omega)
      have e : (x : Int) % (y : Int) = ((x % y : Nat) : Int) := by simp
      simp -implicitDefEqProofs only [evT_eq, ev_cmp, ev_v, ev_c, List.getElem?_cons_succ, List.getElem?_cons_zero, Res.bind_ok, cmp_gt, Option.map_some, Res.of_some, tru_bl]
      rw [if_pos (by simpa using hp)]
      simp -implicitDefEqProofs only [evSs_cons, evSs_nil, evS_asg, ev_tup, evs_cons, evs_nil, ev_v, ev_bin, ev_blt, evrs_cons, evrs_nil, int_int, List.getElem?_cons_succ, List.getElem?_cons_zero, Res.bind_ok, force_val, bin_int', binI_mod hp, Option.map_some, Res.of_some, put_tup, puts_cons, puts_nil, put_nm, Option.bind_some, List.set_cons_zero, List.set_cons_succ, e]
      rw [h2, Nat.gcd_comm y, ← Nat.gcd_rec, Nat.gcd_comm]
@[simp] theorem lim_frq (n : Nat) (q : Rat) : DV.lim n (frq q) = true := by simp [frq_eq]
/-- a for loop, by what stands at each turn -/
theorem forL_gen {p : Pat} {b : LE → M Fl} {fix : Mem → Bool} (Inv : Nat → LE → Mem → Prop) (R : RV → Mem → Prop) : ∀ (ds : List DV) (k : Nat) (env : LE) (m : Mem), Inv k env m →
    (∀ i (hi : i < ds.length) env m, Inv (k + i) env m → ∃ e1, p.put ds[i] env = some e1 ∧ ((∃ e2 m2, (b e1 m = .ok (.nx e2) m2 ∨ b e1 m = .ok (.ct e2) m2) ∧ fix m2 = true ∧ Inv (k + i + 1) e2 m2) ∨ ∃ r m2, b e1 m = .ok (.rt r) m2 ∧ R r m2)) →
    (∃ e' m', forL p b fix ds env m = .ok (.nx e') m' ∧ Inv (k + ds.length) e' m') ∨ ∃ r m', forL p b fix ds env m = .ok (.rt r) m' ∧ R r m'
  | [], k, env, m, h, _ => .inl ⟨env, m, rfl, h⟩
  | d :: ds, k, env, m, h, hs => by
    obtain ⟨e1, h1, h2⟩ := hs 0 (by simp) env m h
    rw [forL_cons, show p.put d env = some e1 from h1]
    rcases h2 with ⟨e2, m2, h3, h4, h5⟩ | ⟨r, m2, h3, h4⟩
    · have ih := forL_gen Inv R ds (k + 1) e2 m2 h5 fun i hi env m hv => by
        have := hs (i + 1) (by simpa using hi) env m (by rw [show k + (i + 1) = k + 1 + i by omega]; exact hv)
        rw [show k + (i + 1) + 1 = k + 1 + i + 1 by omega] at this
        exact this
      rw [show k + 1 + ds.length = k + (d :: ds).length by simp; omega] at ih
      rcases h3 with h3 | h3
      · show (∃ e' m', (b e1 m).bind _ = _ ∧ _) ∨ ∃ r m', (b e1 m).bind _ = _ ∧ _
        rw [h3, Res.bind_ok]
        dsimp only
        rw [if_pos h4]
        exact ih
      · show (∃ e' m', (b e1 m).bind _ = _ ∧ _) ∨ ∃ r m', (b e1 m).bind _ = _ ∧ _
        rw [h3, Res.bind_ok]
        dsimp only
        rw [if_pos h4]
        exact ih
    · refine .inr ⟨r, m2, ?_, h4⟩
      show (b e1 m).bind _ = _
      rw [h3]
      rfl
/-- a for loop that ends -/
theorem forL_inv {p : Pat} {b : LE → M Fl} {fix : Mem → Bool} (Inv : Nat → LE → Mem → Prop) (ds : List DV) (env : LE) (m : Mem) (h : Inv 0 env m)
    (hs : ∀ i (hi : i < ds.length) env m, Inv i env m → ∃ e1, p.put ds[i] env = some e1 ∧ ∃ e2 m2, (b e1 m = .ok (.nx e2) m2 ∨ b e1 m = .ok (.ct e2) m2) ∧ fix m2 = true ∧ Inv (i + 1) e2 m2) :
    ∃ e' m', forL p b fix ds env m = .ok (.nx e') m' ∧ Inv ds.length e' m' := by
  rcases forL_gen (p := p) (b := b) (fix := fix) Inv (fun _ _ => False) ds 0 env m h fun i hi env m hv => by
    rw [Nat.zero_add] at hv ⊢
    obtain ⟨e1, h1, h2⟩ := hs i hi env m hv
    exact ⟨e1, h1, .inl h2⟩ with h | ⟨_, _, _, h⟩
  · rw [Nat.zero_add] at h
    exact h
  · exact h.elim
section
variable {fns : List Def}
theorem low_ok {i : Nat} (h : fns[i]? = some ⟨2, 4, lLow⟩) (k : Nat) (a : Int) {d : Nat} (hz : d ≠ 0) (hs : Sm d) (m : Mem) :
    callF fns (k + 1) i [.int a, .int d] m = .ok (.val (frq (mkRat a d))) m := by
  have hg : Sm (Nat.gcd a.natAbs d) := hs.le (Nat.le_of_dvd (by omega) (Nat.gcd_dvd_right _ _))
  have hp : 0 < Nat.gcd a.natAbs d := Nat.gcd_pos_of_pos_right _ (by omega)
  have d1 : 0 < d := by omega
  rw [call_of h, runD_eq rfl, frq_eq, Rat.num_mkRat, Rat.den_mkRat, if_neg hz, if_neg hz, Nat.gcd_comm]
  have e1 := @binI_fdiv a (Nat.gcd a.natAbs d : Nat) (by omega) hg
  have e2 := @binI_fdiv d (Nat.gcd a.natAbs d : Nat) (by omega) hg
  have l := low_loop (callF fns k) m (some (.int a)) (some (.int d)) d fuel a.natAbs hs.fuel
  simp -implicitDefEqProofs [lLow, evS_wh, l, d1, e1, e2, gc_val]
theorem by_ok {ir i : Nat} (hr : fns[ir]? = some ⟨2, 4, lLow⟩) (h : fns[i]? = some ⟨2, 2, lBy ir⟩) (k : Nat) {a b : Nat} {x y : Rat} (hx : Sz a x) (hy : Sz b y) (hs : a + b ≤ 8000) (m : Mem) :
    callF fns (k + 2) i [frq x, frq y] m = .ok (.val (frq (x * y))) m := by
  have s1 : mulOk x.num y.num = true := mulOk_of hx.1 hy.1 (by omega)
  have s3 : mulOk x.den y.den = true := mulOk_of (by simpa using hx.2) (by simpa using hy.2) (by omega)
  have e := low_ok hr k (x.num * y.num) (d := x.den * y.den) (Nat.mul_ne_zero x.den_nz y.den_nz)
    (Sm.of (show x.den * y.den < 2 ^ (a + b) by rw [Nat.pow_add]; exact Nat.mul_lt_mul'' hx.2 hy.2) (by omega)) m
  rw [Int.natCast_mul, ← Rat.mul_def'] at e
  rw [call_of h, runD_eq rfl, frq_eq x, frq_eq y]
  simp -implicitDefEqProofs [lBy, s1, s3, e, gc_val, frq_eq]
theorem between_ok {ir i : Nat} (hr : fns[ir]? = some ⟨2, 4, lLow⟩) (h : fns[i]? = some ⟨2, 2, lBetween ir⟩) (k : Nat) {a b : Nat} {x y : Rat} (hx : Sz a x) (hy : Sz b y) (ha : a ≤ 8000) (hb : b ≤ 8000) (m : Mem) :
    callF fns (k + 2) i [frq x, frq y] m = .ok (.val (frq (mkRat (x.num + y.num) (x.den + y.den)))) m := by
  have hd : x.den + y.den ≠ 0 := by have := x.den_nz; omega
  have e := low_ok hr k (x.num + y.num) (d := x.den + y.den) hd
    (Sm.of (n := 8001) (by
      have h1 := Nat.lt_of_lt_of_le hx.2 (Nat.pow_le_pow_right (show 2 > 0 by decide) ha)
      have h2 := Nat.lt_of_lt_of_le hy.2 (Nat.pow_le_pow_right (show 2 > 0 by decide) hb)
      have h3 : ∀ n, x.den < 2 ^ n → y.den < 2 ^ n → x.den + y.den < 2 ^ (n + 1) := fun n h1 h2 => by rw [Nat.pow_succ]; omega
      exact h3 _ h1 h2) (by omega)) m
  rw [Int.natCast_add] at e
  rw [call_of h, runD_eq rfl, frq_eq x, frq_eq y]
  simp -implicitDefEqProofs [lBetween, e, gc_val, frq_eq]
theorem rest_num (s : Rat) : (1 - s).num = s.den - s.num ∧ (1 - s).den = s.den := by
  have hc : Nat.Coprime ((s.den : Int) - s.num).natAbs s.den := by
    have := s.reduced
    rw [Nat.Coprime] at *
    rw [← this]
    apply Nat.dvd_antisymm
    · apply Nat.dvd_gcd
      · have h1 : ((Nat.gcd ((s.den : Int) - s.num).natAbs s.den : Nat) : Int) ∣ (s.den : Int) - s.num := Int.ofNat_dvd_left.mpr (Nat.gcd_dvd_left _ _)
        have h2 : ((Nat.gcd ((s.den : Int) - s.num).natAbs s.den : Nat) : Int) ∣ (s.den : Int) := Int.ofNat_dvd_left.mpr (Nat.gcd_dvd_right _ _)
        have h3 := Int.dvd_sub h2 h1
        rw [show (s.den : Int) - (s.den - s.num) = s.num by omega] at h3
        exact Int.ofNat_dvd_left.mp h3
      · exact Nat.gcd_dvd_right _ _
    · apply Nat.dvd_gcd
      · have h1 : ((Nat.gcd s.num.natAbs s.den : Nat) : Int) ∣ s.num := Int.ofNat_dvd_left.mpr (Nat.gcd_dvd_left _ _)
        have h2 : ((Nat.gcd s.num.natAbs s.den : Nat) : Int) ∣ (s.den : Int) := Int.ofNat_dvd_left.mpr (Nat.gcd_dvd_right _ _)
        exact Int.ofNat_dvd_left.mp (Int.dvd_sub h2 h1)
      · exact Nat.gcd_dvd_right _ _
  have e : 1 - s = ⟨(s.den : Int) - s.num, s.den, s.den_nz, hc⟩ := by
    rw [Rat.sub_eq_add_neg, Rat.add_def', Rat.neg_num, Rat.neg_den]
    show mkRat (1 * (s.den : Int) + -s.num * ((1 : Nat) : Int)) (1 * s.den) = _
    rw [Nat.one_mul, show (1 : Int) * (s.den : Int) + -s.num * ((1 : Nat) : Int) = s.den - s.num by omega]
    exact Rat.mkRat_self ⟨(s.den : Int) - s.num, s.den, s.den_nz, hc⟩
  rw [e]
  exact ⟨rfl, rfl⟩
theorem rest_ok {i : Nat} (h : fns[i]? = some ⟨1, 1, lRest⟩) (k : Nat) (s : Rat) (m : Mem) :
    callF fns (k + 1) i [frq s] m = .ok (.val (frq (1 - s))) m := by
  rw [call_of h, runD_eq rfl, frq_eq s, frq_eq (1 - s), (rest_num s).1, (rest_num s).2]
  simp -implicitDefEqProofs [lRest, gc_val]
theorem Sz.pow {a : Nat} {x : Rat} (hx : Sz a x) : ∀ n : Nat, 0 < a → Sz (a * n + 1) (x ^ n)
  | 0, _ => by
    rw [Rat.pow_zero]
    exact ⟨by show 1 < 2 ^ (a * 0 + 1); simp, by show 1 < 2 ^ (a * 0 + 1); simp⟩
  | n + 1, h => by
    rw [Rat.pow_succ]
    have := (hx.pow n h).mul hx
    exact this.mono (by rw [Nat.mul_succ]; omega)
theorem pow_num (q : Rat) (n : Nat) : mkRat (q.num ^ n) (q.den ^ n) = q ^ n := by
  rw [← Rat.num_pow, ← Rat.den_pow, Rat.mkRat_self]
theorem natAbs_pow_lt {i : Int} {a : Nat} (h : i.natAbs < 2 ^ a) (ha : 0 < a) : ∀ n : Nat, (i ^ n).natAbs < 2 ^ (a * n + 1)
  | 0 => by simp
  | n + 1 => by
    rw [Int.pow_succ]
    have := natAbs_mul_lt (natAbs_pow_lt h ha n) h
    rw [Nat.mul_succ, show a * n + a + 1 = a * n + 1 + a by omega]
    exact this
theorem power_ok {ir i : Nat} (hr : fns[ir]? = some ⟨2, 4, lLow⟩) (h : fns[i]? = some ⟨2, 5, lPower ir⟩) (k : Nat) {a n : Nat} {q : Rat} (hq : Sz a q) (ha : 0 < a) (hb : a * n + a + 1 ≤ 8000) (m : Mem) :
    callF fns (k + 2) i [frq q, .int n] m = .ok (.val (frq (q ^ n))) m := by
  have hn : n < 2 ^ 62 := by
    have : 1 * n ≤ a * n := Nat.mul_le_mul_right n ha
    omega
  have e := low_ok hr k (q.num ^ n) (d := q.den ^ n) (Nat.ne_of_gt (Nat.pow_pos q.den_pos)) (Sm.of (n := a * n + 1) (by
    have := (hq.pow n ha).2
    rwa [Rat.den_pow] at this) (by omega)) m
  rw [pow_num, Int.natCast_pow] at e
  rw [call_of h, runD_eq rfl]
  obtain ⟨e', m', h1, h2, t, h3⟩ := forL_inv (p := .nm 4) (b := evSs (callF fns (k + 1)) (.cons (.asg (.tup [.nm 2, .nm 3]) (.tup (.cons (.bin .mul (.v 2) (.ix (.v 0) (.c (.int 0)))) (.cons (.bin .mul (.v 3) (.ix (.v 0) (.c (.int 1)))) .nil)))) .nil)) (fix := same [] m)
    (fun i env m' => m' = m ∧ ∃ t, env = [some (frq q), some (.int n), some (.int (q.num ^ i)), some (.int ((q.den ^ i : Nat) : Int)), t]) ((List.range n).map fun i => .int (i : Nat))
    [some (frq q), some (.int n), some (.int 1), some (.int 1), none] m ⟨rfl, none, by simp⟩ fun i hi env m' ⟨h1, t, h2⟩ => by
      subst h1
      subst h2
      have hi' : i < n := by simpa using hi
      have hm : a * i + a ≤ a * n := by
        have : a * (i + 1) ≤ a * n := Nat.mul_le_mul_left a hi'
        rwa [Nat.mul_succ] at this
      have s1 : mulOk (q.num ^ i) q.num = true := mulOk_of (natAbs_pow_lt hq.1 ha i) hq.1 (by omega)
      have s2 : mulOk ((q.den : Int) ^ i) q.den = true := mulOk_of (natAbs_pow_lt (i := q.den) (by simpa using hq.2) ha i) (by simpa using hq.2) (by omega)
      refine ⟨_, put_nm .., ?_⟩
      refine ⟨[some (frq q), some (.int n), some (.int (q.num ^ (i + 1))), some (.int ((q.den ^ (i + 1) : Nat) : Int)), some (.int (i : Nat))], m', .inl ?_, rfl, rfl, _, rfl⟩
      rw [frq_eq]
      simp -implicitDefEqProofs [s1, s2, Int.pow_succ]
  rw [List.length_map, List.length_range] at h3
  simp -implicitDefEqProofs [lPower, evS_for, it_range m n hn, h1, h3, h2, e, gc_val]
theorem tuple_ok {i : Nat} (h : fns[i]? = some ⟨3, 3, fTuple⟩) (k : Nat) (ds : List DV) (lo hi : Int) (m : Mem) :
    callF fns (k + 1) i [.tup ds, .int lo, .int hi] m = .ok (.val (.bl (decide (lo ≤ ds.length) && decide (ds.length ≤ hi)))) m := by
  rw [call_of h, runD_eq rfl]
  by_cases h1 : lo ≤ ds.length <;> simp -implicitDefEqProofs [fTuple, h1]
theorem frq_snap (n : Nat) (m : Mem) (q : Rat) : snap (n + 2) m (frq q) = some (.tuple [.int q.num, .int q.den]) := by simp [frq_eq]
theorem frq_beq (x y : Rat) : ((x.num == y.num) && (((x.den : Int) == (y.den : Int)) && true)) = decide (x = y) := by
  by_cases h : x = y
  · subst h; simp
  · rw [decide_eq_false h, Bool.and_true, Bool.and_eq_false_iff]
    by_cases h1 : x.num = y.num
    · right
      simp only [beq_eq_false_iff_ne, ne_eq]
      intro h2
      exact h (Rat.ext h1 (by omega))
    · left
      simpa using h1
theorem frac_ok {it id ir i : Nat} (ht : fns[it]? = some ⟨3, 3, fTuple⟩) (hd : fns[id]? = some ⟨2, 2, fDiv⟩) (hr : fns[ir]? = some ⟨2, 4, fRed id⟩) (h : fns[i]? = some ⟨1, 2, fIsFrac it ir⟩) (k : Nat) {q : Rat} {a : Nat} (hq : Sz a q) (ha : a ≤ 8000) (m : Mem) :
    callF fns (k + 3) i [frq q] m = .ok (.val (.bl true)) m := by
  have e := red_ok hd hr k q.num (d := q.den) q.den_nz (Sm.of hq.2 (by omega)) m
  rw [Rat.mkRat_self] at e
  have e1 : callF fns (k + 2) it [.tup [.int q.num, .int q.den], .int 2, .int 2] m = .ok (.val (.bl true)) m := tuple_ok ht (k + 1) [.int q.num, .int q.den] 2 2 m
  have hp : 0 < q.den := q.den_pos
  rw [call_of h, runD_eq rfl]
  rw [frq_eq] at e ⊢
  simp -implicitDefEqProofs [fIsFrac, e1, ev_comp, loopC_cons, loopC_nil, e, hp, sizeLine]
end
end Mp
end SFw
section SFh
set_option Elab.async false
set_option linter.all false
set_option maxHeartbeats 1000000
/-! Fh: the law's hand and its draws. -/
namespace Mp
open PySem
def lHand (a b : Int) : Ss := (.cons (.asg (.nm 1) (.comp (.bin .mod (.blt .int (.cons (.blt .abs (.cons (.blt .int (.cons (.v 2) .nil)) .nil)) .nil)) (.bin .pow (.c (.int 10)) (.c (.int 40)))) (.nm 2) .seq (.cons (.sl (.v 0) .nil (.cons (.c (.int 60)) .nil)) .nil) .nil [2]))
 (.cons (.ret (.lst (.cons (.v 1) (.cons (.c (.int 0)) (.cons (.c (.int 0)) (.cons (.bin .add (.c (.int a)) (.bin .mul (.c (.int b)) (.blt .len (.cons (.v 1) .nil)))) (.cons (.c (.int 0)) .nil)))))))
 .nil))
def lDraw : Ss := (.cons (.ife (.and (.cons (.cmp .eq (.ix (.v 0) (.c (.int 2))) (.c (.int 0))) (.cons (.cmp .lt (.ix (.v 0) (.c (.int 1))) (.blt .len (.cons (.ix (.v 0) (.c (.int 0))) .nil))) .nil)))
  (.cons (.asg (.nm 3) (.ix (.ix (.v 0) (.c (.int 0))) (.ix (.v 0) (.c (.int 1)))))
  (.cons (.aix (.v 0) (.c (.int 1)) (.bin .add (.ix (.v 0) (.c (.int 1))) (.c (.int 1))))
  (.cons (.aix (.v 0) (.c (.int 3)) (.bin .mod (.blt .int (.cons (.bin .add (.bin .add (.bin .mul (.ix (.v 0) (.c (.int 3))) (.c (.int 48271))) (.v 3)) (.c (.int 97))) .nil)) (.c (.int 2147483647))))
  (.cons (.ife (.cmp .ge (.v 3) (.bin .pow (.c (.int 10)) (.c (.int 18))))
   (.cons (.aix (.v 0) (.c (.int 2)) (.v 3))
   .nil)
   .nil)
  .nil))))
  .nil)
 (.cons (.ife (.cmp .gt (.ix (.v 0) (.c (.int 2))) (.c (.int 0)))
  (.cons (.asg (.nm 4) (.bin .mod (.blt .int (.cons (.ix (.v 0) (.c (.int 2))) .nil)) (.v 1)))
  (.cons (.aix (.v 0) (.c (.int 2)) (.bin .fdiv (.ix (.v 0) (.c (.int 2))) (.v 1)))
  (.cons (.ret (.v 4))
  .nil)))
  .nil)
 (.cons (.aix (.v 0) (.c (.int 4)) (.bin .add (.ix (.v 0) (.c (.int 4))) (.c (.int 1))))
 (.cons (.asg (.nm 2) (.bin .mod (.blt .int (.cons (.bin .mul (.blt .int (.cons (.bin .add (.ix (.v 0) (.c (.int 3))) (.bin .mul (.c (.int 6581)) (.ix (.v 0) (.c (.int 4))))) .nil)) (.c (.int 69621))) .nil)) (.c (.int 2147483629))))
 (.cons (.asg (.nm 2) (.bin .mod (.blt .int (.cons (.bin .mul (.v 2) (.bin .add (.bin .fdiv (.v 2) (.c (.int 1013))) (.c (.int 48271)))) .nil)) (.c (.int 2147483647))))
 (.cons (.asg (.nm 2) (.bin .mod (.blt .int (.cons (.bin .mul (.v 2) (.bin .add (.bin .fdiv (.v 2) (.c (.int 2011))) (.c (.int 16807)))) .nil)) (.c (.int 2147483587))))
 (.cons (.ret (.bin .mod (.blt .int (.cons (.bin .fdiv (.v 2) (.c (.int 16))) .nil)) (.v 1)))
 .nil)))))))
def lAny (iDraw : Nat) : Ss := (.cons (.ret (.ix (.v 1) (.call iDraw (.cons (.v 0) (.cons (.blt .len (.cons (.v 1) .nil)) .nil)))))
 .nil)
/-- a comprehension's turn -/
def turnC (cf : Nat → List DV → M RV) (elt : E) (p : Pat) (cs : Es) (env : LE) : DV → Mem → Res (Option DV) := fun d m2 => match p.put d env with
        | some env' => (evTs cf cs env' m2).bind fun t m3 => if t = true then (ev cf elt env' m3).bind fun x m4 => (force x m4).bind fun y m5 => .ok (some y) m5 else .ok none m3
        | none => .fail
theorem ev_comp' (cf : Nat → List DV → M RV) (env : LE) (m : Mem) (elt : E) (p : Pat) (k : ItK) (its cs : Es) (own : List Nat) : ev cf (.comp elt p k its cs own) env m = (evrs cf its env m).bind fun rs m1 => match itD k m1 rs with
    | some (ds, ks) => (loopC (turnC cf elt p cs (wipe env own)) (same ks m1) ds m1).bind fun xs m2 => if xs.length < sizeLine then .ok (.new (.lst xs)) m2 else .fail
    | none => .fail := rfl
theorem turnC_eq {cf : Nat → List DV → M RV} {elt : E} {p : Pat} {cs : Es} {env env' : LE} {d : DV} {m : Mem} (h : p.put d env = some env') : turnC cf elt p cs env d m = (evTs cf cs env' m).bind fun t m3 => if t = true then (ev cf elt env' m3).bind fun x m4 => (force x m4).bind fun y m5 => .ok (some y) m5 else .ok none m3 := by
  unfold turnC
  rw [h]
/-- a hand stands at n -/
def Hand (m : Mem) (n : Nat) : Prop := ∃ (c : Nat) (cs : List Int) (at_ left mix count : Int), c < n ∧ m[n]? = some (.lst [.ref c, .int at_, .int left, .int mix, .int count]) ∧ m[c]? = some (.lst (cs.map .int)) ∧ 0 ≤ at_ ∧ 0 ≤ left
/-- all but the hand is as it was -/
def Gr (n : Nat) (m m' : Mem) : Prop := m.length ≤ m'.length ∧ (∀ j, j < m.length → j ≠ n → m'[j]? = m[j]?) ∧ Hand m' n
theorem Hand.lt {m : Mem} {n : Nat} (h : Hand m n) : n < m.length := by
  obtain ⟨c, cs, a, l, x, t, _, h, _⟩ := h
  exact (List.getElem?_eq_some_iff.mp h).1
theorem Gr.refl {n : Nat} {m : Mem} (h : Hand m n) : Gr n m m := ⟨Nat.le_refl _, fun _ _ _ => rfl, h⟩
theorem Gr.trans {n : Nat} {a b c : Mem} (h : Gr n a b) (h' : Gr n b c) : Gr n a c :=
  ⟨Nat.le_trans h.1 h'.1, fun j hj hn => (h'.2.1 j (Nat.lt_of_lt_of_le hj h.1) hn).trans (h.2.1 j hj hn), h'.2.2⟩
theorem Gr.hand {n : Nat} {m m' : Mem} (h : Gr n m m') : Hand m' n := h.2.2
theorem Hand.push {m : Mem} {n : Nat} (h : Hand m n) (j : Mem) : Hand (m ++ j) n := by
  obtain ⟨c, cs, a, l, x, t, h1, h2, h3, h4⟩ := h
  refine ⟨c, cs, a, l, x, t, h1, ?_, ?_, h4⟩
  · rw [List.getElem?_append_left (List.getElem?_eq_some_iff.mp h2).1, h2]
  · rw [List.getElem?_append_left (List.getElem?_eq_some_iff.mp h3).1, h3]
theorem Gr.push {n : Nat} {m m' : Mem} (h : Gr n m m') (j : Mem) : Gr n m (m' ++ j) :=
  ⟨by rw [List.length_append]; have := h.1; omega, fun k hk hn => by rw [List.getElem?_append_left (Nat.lt_of_lt_of_le hk h.1), h.2.1 k hk hn], h.2.2.push j⟩
theorem Gr.at {n : Nat} {m m' : Mem} (h : Gr n m m') {k : Nat} {o : MO} (e : m[k]? = some o) (hk : k ≠ n) : m'[k]? = some o :=
  (h.2.1 k (List.getElem?_eq_some_iff.mp e).1 hk).trans e
/-- no numbers within -/
def Nr (d : DV) : Prop := ∀ n, d.lim n = true
theorem gc_gr {n : Nat} {m m1 : Mem} (h : Hand m n) (g : Gr n m m1) {d : DV} (hd : Nr d) : ∃ m', gc m (.val d) m1 = .ok (.val d) m' ∧ Gr n m m' := by
  unfold gc
  split
  · refine ⟨m1.take m.length, by simp [hd m.length], ?_, ?_, ?_⟩
    · rw [List.length_take]; have := g.1; omega
    · intro j hj hn
      rw [List.getElem?_take_of_lt hj, g.2.1 j hj hn]
    · obtain ⟨c, cs, a, l, x, t, h1, h2, h3, h4⟩ := g.2.2
      have := h.lt
      exact ⟨c, cs, a, l, x, t, h1, by rw [List.getElem?_take_of_lt this, h2], by rw [List.getElem?_take_of_lt (by omega), h3], h4⟩
  · exact ⟨m1, rfl, g⟩
theorem gc_len {m m1 : Mem} (h : m1.length = m.length) {d : DV} (hd : Nr d) : gc m (.val d) m1 = .ok (.val d) m1 := by
  unfold gc
  split
  · rw [← h, List.take_length]
    simp [hd m1.length]
  · rfl
@[simp] theorem nr_int (i : Int) : Nr (.int i) := fun _ => rfl
@[simp] theorem nr_bl (i : Bool) : Nr (.bl i) := fun _ => rfl
@[simp] theorem nr_str (i : Str) : Nr (.str i) := fun _ => rfl
@[simp] theorem nr_non : Nr .non := fun _ => rfl
@[simp] theorem nr_frq (q : Rat) : Nr (frq q) := fun n => lim_frq n q
theorem nr_tup {ds : List DV} (h : ∀ d ∈ ds, Nr d) : Nr (.tup ds) := fun n => by
  rw [lim_tup]
  induction ds with
  | nil => simp
  | cons d ds ih => rw [lims_cons, h d (by simp) n, ih fun e he => h e (by simp [he])]; rfl
theorem aix_row (cf : Nat → List DV → M RV) (o i e : E) (env : LE) (m m2 m3 m4 : Mem) {x : RV} {d : DV} {n : Nat} {k : Int} {ds : List DV} {j : Nat} {m1 : Mem} (h1 : ev cf e env m = .ok x m1) (h2 : force x m1 = .ok d m2) (h3 : ev cf o env m2 = .ok (.val (.ref n)) m3) (h4 : ev cf i env m3 = .ok (.val (.int k)) m4) (h5 : m4[n]? = some (.lst ds)) (h6 : L2.ixN ds.length k = some j) :
    evS cf (.aix o i e) env m = .ok (.nx env) (m4.set n (.lst (ds.set j d))) := by
  rw [evS_aix, h1, Res.bind_ok, h2, Res.bind_ok, h3, Res.bind_ok, h4, Res.bind_ok]
  simp only [h5, h6]
@[simp] theorem binI_p18 : binI .pow 10 18 = some (10 ^ 18) := rfl
@[simp] theorem binI_p40 : binI .pow 10 40 = some (10 ^ 40) := rfl
@[simp] theorem binI_p30 : binI .pow 10 30 = some (10 ^ 30) := rfl
@[simp] theorem at_2 {α : Type} (x y z : α) (xs : List α) : L2.atI (x :: y :: z :: xs) 2 = some z := by
  have : (2 : Int) < (xs.length : Int) + 1 + 1 + 1 := by omega
  simp [L2.atI, L2.ixN, this]
@[simp] theorem at_3 {α : Type} (x y z w : α) (xs : List α) : L2.atI (x :: y :: z :: w :: xs) 3 = some w := by
  have : (3 : Int) < (xs.length : Int) + 1 + 1 + 1 + 1 := by omega
  simp [L2.atI, L2.ixN, this]
@[simp] theorem at_4 {α : Type} (x y z w v : α) (xs : List α) : L2.atI (x :: y :: z :: w :: v :: xs) 4 = some v := by
  have : (4 : Int) < (xs.length : Int) + 1 + 1 + 1 + 1 + 1 := by omega
  simp [L2.atI, L2.ixN, this]
@[simp] theorem ixN_0 (n : Nat) : L2.ixN (n + 1) 0 = some 0 := by simp [L2.ixN]
@[simp] theorem ixN_5_1 : L2.ixN 5 1 = some 1 := rfl
@[simp] theorem ixN_5_2 : L2.ixN 5 2 = some 2 := rfl
@[simp] theorem ixN_5_3 : L2.ixN 5 3 = some 3 := rfl
@[simp] theorem ixN_5_4 : L2.ixN 5 4 = some 4 := rfl
theorem item_ref {m : Mem} {n : Nat} {ds : List DV} (h : m[n]? = some (.lst ds)) (i : Int) : item m (.val (.ref n)) (.val (.int i)) = (L2.atI ds i).map .val := by
  show (match seqOf m (.val (.ref n)) with | some (_, ds, _) => _ | none => none) = _
  rw [seq_ref, h]
  rfl
theorem lenR {m : Mem} {n : Nat} {ds : List DV} (h : m[n]? = some (.lst ds)) : bltD .len m [.val (.ref n)] = some (.val (.int ds.length)) := by
  rw [len_ref, h]
  rfl
theorem atI_nat {α : Type} (xs : List α) (i : Nat) : L2.atI xs (i : Int) = xs[i]? := by
  have h1 : ¬ ((i : Int) < 0) := by omega
  by_cases h : i < xs.length
  · have : (i : Int) < xs.length := by omega
    simp [L2.atI, L2.ixN, this]
  · have : ¬ (i : Int) < xs.length := by omega
    simp [L2.atI, L2.ixN, this]
    omega
section
variable {fns : List Def}
/-- the draw's second half: what is left, or the mix -/
def lDraw2 : Ss := match lDraw with | .cons _ ss => ss | .nil => .nil
theorem draw2 (cf : Nat → List DV → M RV) {n c : Nat} {many at_ left mix count : Int} (hp : 0 < many) (hm : Sm many.natAbs) (hl : 0 ≤ left) {m : Mem} (hn : m[n]? = some (.lst [.ref c, .int at_, .int left, .int mix, .int count])) (z a b : Option DV) :
    ∃ r left' count', 0 ≤ r ∧ r < many ∧ 0 ≤ left' ∧ evSs cf lDraw2 [some (.ref n), some (.int many), z, a, b] m = .ok (.rt (.val (.int r))) (m.set n (.lst [.ref c, .int at_, .int left', .int mix, .int count'])) := by
  have e1 := @binI_mod left many hp
  have e2 := @binI_fdiv left many hp hm
  have i1 := fun i => item_ref (i := i) hn
  have hl' : n < m.length := (List.getElem?_eq_some_iff.mp hn).1
  by_cases h : 0 < left
  · refine ⟨left % many, left / many, count, Int.emod_nonneg _ (by omega), Int.emod_lt_of_pos _ hp, Int.ediv_nonneg hl (by omega), ?_⟩
    simp -implicitDefEqProofs [lDraw2, lDraw, evS_aix, i1, h, e1, e2, hn]
  · obtain rfl : left = 0 := by omega
    have o1 : mulOk 6581 (count + 1) = true := mulOk_l (by decide)
    have hn2 : (m.set n (.lst [.ref c, .int at_, .int 0, .int mix, .int (count + 1)]))[n]? = some (.lst [.ref c, .int at_, .int 0, .int mix, .int (count + 1)]) := by simp [hl']
    have i2 := fun i => item_ref (i := i) hn2
    have o2 : mulOk (mix + 6581 * (count + 1)) 69621 = true := mulOk_r (by decide)
    generalize hA : (mix + 6581 * (count + 1)) * 69621 % 2147483629 = A
    have a0 : 0 ≤ A := by rw [← hA]; exact Int.emod_nonneg _ (by decide)
    have a1 : A < 2147483629 := by rw [← hA]; exact Int.emod_lt_of_pos _ (by decide)
    have o3 : mulOk A (A / 1013 + 48271) = true := mulOk_l (by omega)
    generalize hB : A * (A / 1013 + 48271) % 2147483647 = B
    have b0 : 0 ≤ B := by rw [← hB]; exact Int.emod_nonneg _ (by decide)
    have b1 : B < 2147483647 := by rw [← hB]; exact Int.emod_lt_of_pos _ (by decide)
    have o4 : mulOk B (B / 2011 + 16807) = true := mulOk_l (by omega)
    generalize hC : B * (B / 2011 + 16807) % 2147483587 = C
    have m1 : ∀ i : Int, binI .mod i 2147483629 = some (i % 2147483629) := fun i => binI_mod (by decide)
    have m2 : ∀ i : Int, binI .mod i 2147483647 = some (i % 2147483647) := fun i => binI_mod (by decide)
    have m3 : ∀ i : Int, binI .mod i 2147483587 = some (i % 2147483587) := fun i => binI_mod (by decide)
    have d1 : ∀ i : Int, binI .fdiv i 1013 = some (i / 1013) := fun i => binI_fdiv (by decide) (Sm.of (n := 10) (by decide) (by decide))
    have d2 : ∀ i : Int, binI .fdiv i 2011 = some (i / 2011) := fun i => binI_fdiv (by decide) (Sm.of (n := 11) (by decide) (by decide))
    have d3 : ∀ i : Int, binI .fdiv i 16 = some (i / 16) := fun i => binI_fdiv (by decide) (Sm.of (n := 5) (by decide) (by decide))
    have e3 := @binI_mod (C / 16) many hp
    refine ⟨C / 16 % many, 0, count + 1, Int.emod_nonneg _ (by omega), Int.emod_lt_of_pos _ hp, by decide, ?_⟩
    simp -implicitDefEqProofs [lDraw2, lDraw, evS_aix, i1, i2, hn, o1, o2, o3, o4, m1, m2, m3, d1, d2, d3, hA, hB, hC, e3]
theorem lDraw_eq : lDraw = .cons (match lDraw with | .cons s _ => s | .nil => .pass) lDraw2 := rfl
theorem draw_ok {i : Nat} (h : fns[i]? = some ⟨2, 5, lDraw⟩) (k : Nat) {n : Nat} {many : Int} (hp : 0 < many) (hm : Sm many.natAbs) {m : Mem} (H : Hand m n) :
    ∃ r m', callF fns (k + 1) i [.ref n, .int many] m = .ok (.val (.int r)) m' ∧ 0 ≤ r ∧ r < many ∧ Gr n m m' := by
  obtain ⟨c, cs, at_, left, mix, count, hc, hn, hcs, ha, hl⟩ := H
  have hl' : n < m.length := (List.getElem?_eq_some_iff.mp hn).1
  have ne : n ≠ c := by omega
  have key : ∀ (m2 : Mem) (at2 left2 mix2 : Int) (z a b : Option DV), 0 ≤ at2 → 0 ≤ left2 → m2 = m.set n (.lst [.ref c, .int at2, .int left2, .int mix2, .int count]) →
      ∃ r m', fin m (evSs (callF fns k) lDraw2 [some (.ref n), some (.int many), z, a, b] m2) = .ok (.val (.int r)) m' ∧ 0 ≤ r ∧ r < many ∧ Gr n m m' := by
    intro m2 at2 left2 mix2 z a b h1 h2 h3
    obtain ⟨r, left', count', r0, r1, l0, e⟩ := draw2 (callF fns k) (c := c) (at_ := at2) (mix := mix2) (count := count) hp hm h2 (m := m2) (by rw [h3]; exact List.getElem?_set_self hl') z a b
    rw [h3, List.set_set] at e
    refine ⟨r, m.set n (.lst [.ref c, .int at2, .int left', .int mix2, .int count']), ?_, r0, r1, ?_⟩
    · rw [h3, e, fin_rt, gc_len (by simp) (nr_int r)]
    · refine ⟨by simp, ?_, c, cs, at2, left', mix2, count', hc, by simp [hl'], ?_, h1, l0⟩
      · intro j _ hj
        rw [List.getElem?_set_ne (Ne.symm hj)]
      · rw [List.getElem?_set_ne ne, hcs]
  have i1 := fun i => item_ref (i := i) hn
  have i2 := fun i => item_ref (i := i) hcs
  have lc := lenR hcs
  have o1 : mulOk mix 48271 = true := mulOk_r (by decide)
  have m1 : ∀ i : Int, binI .mod i 2147483647 = some (i % 2147483647) := fun i => binI_mod (by decide)
  have i3 : ∀ ds i, item (m.set n (.lst ds)) (.val (.ref n)) (.val (.int i)) = (L2.atI ds i).map .val := fun ds i => item_ref (List.getElem?_set_self hl') i
  have i4 : ∀ x : MO, (m.set n x)[n]? = some x := fun x => List.getElem?_set_self hl'
  have same_ : m = m.set n (.lst [.ref c, .int at_, .int left, .int mix, .int count]) := by
    apply List.ext_getElem?
    intro j
    by_cases hj : j = n
    · subst hj; rw [hn]; simp [hl']
    · rw [List.getElem?_set_ne (Ne.symm hj)]
  rw [call_of h, runD_eq rfl]
  by_cases h1 : left = 0 ∧ at_ < cs.length
  · obtain ⟨rfl, h1⟩ := h1
    obtain ⟨p, rfl⟩ : ∃ p : Nat, at_ = (p : Nat) := ⟨at_.toNat, by omega⟩
    have hp' : p < cs.length := by omega
    have hx : L2.atI (cs.map DV.int) (p : Int) = some (.int cs[p]) := by
      rw [atI_nat]; simp [hp']
    generalize cs[p] = x at hx
    by_cases hx2 : 10 ^ 18 ≤ x
    · obtain ⟨r, m', e, q⟩ := key _ ((p : Int) + 1) x ((mix * 48271 + x + 97) % 2147483647) none (some (.int x)) none (by omega) (by omega) rfl
      refine ⟨r, m', ?_, q⟩
      rw [lDraw_eq, evSs_cons]
      refine Eq.trans ?_ e
      congr 1
      simp only [show (10:Int) ^ 18 = 1000000000000000000 by decide] at hx2
      simp -implicitDefEqProofs [lDraw, evS_aix, i1, i2, i3, i4, lc, h1, hx, o1, m1, hn, hcs, hx2, List.getElem?_set_ne ne]
    · obtain ⟨r, m', e, q⟩ := key _ ((p : Int) + 1) 0 ((mix * 48271 + x + 97) % 2147483647) none (some (.int x)) none (by omega) (by omega) rfl
      refine ⟨r, m', ?_, q⟩
      rw [lDraw_eq, evSs_cons]
      refine Eq.trans ?_ e
      congr 1
      simp only [show (10:Int) ^ 18 = 1000000000000000000 by decide] at hx2
      simp -implicitDefEqProofs [lDraw, evS_aix, i1, i2, i3, i4, lc, h1, hx, o1, m1, hn, hcs, hx2, List.getElem?_set_ne ne]
  · obtain ⟨r, m', e, q⟩ := key m at_ left mix none none none ha hl same_
    refine ⟨r, m', ?_, q⟩
    rw [lDraw_eq, evSs_cons]
    refine Eq.trans ?_ e
    congr 1
    by_cases h2 : left = 0
    · have h3 : ¬ at_ < cs.length := fun h => h1 ⟨h2, h⟩
      subst h2
      simp -implicitDefEqProofs [lDraw, i1, lc, h3]
    · have h3 : (left == 0) = false := by simpa using h2
      simp -implicitDefEqProofs [lDraw, i1, h3]
/-- one of a list's things -/
theorem any_ok {ir i : Nat} (hr : fns[ir]? = some ⟨2, 5, lDraw⟩) (h : fns[i]? = some ⟨2, 2, lAny ir⟩) (k : Nat) {n s : Nat} {ds : List DV} {m : Mem} (H : Hand m n) (hs : m[s]? = some (.lst ds)) (hsn : s ≠ n) (h0 : 0 < ds.length) (h1 : ds.length < 2 ^ 62) (hd : ∀ d ∈ ds, Nr d) :
    ∃ d m', callF fns (k + 2) i [.ref n, .ref s] m = .ok (.val d) m' ∧ d ∈ ds ∧ Gr n m m' := by
  obtain ⟨r, m1, e, r0, r1, g⟩ := draw_ok hr k (n := n) (many := (ds.length : Int)) (by omega) (Sm.of (n := 62) (by simpa using h1) (by omega)) H
  obtain ⟨p, rfl⟩ : ∃ p : Nat, r = (p : Nat) := ⟨r.toNat, by omega⟩
  have hp : p < ds.length := by omega
  obtain ⟨m', e', g'⟩ := gc_gr H g (hd ds[p] (by simp))
  refine ⟨ds[p], m', ?_, by simp, g'⟩
  have l := lenR hs
  have i2 := item_ref (g.at hs hsn) (p : Int)
  rw [atI_nat, List.getElem?_eq_getElem hp] at i2
  rw [call_of h, runD_eq rfl]
  simp -implicitDefEqProofs [lAny, l, e, i2, e']
theorem any_tup {ir i : Nat} (hr : fns[ir]? = some ⟨2, 5, lDraw⟩) (h : fns[i]? = some ⟨2, 2, lAny ir⟩) (k : Nat) {n : Nat} {ds : List DV} {m : Mem} (H : Hand m n) (h0 : 0 < ds.length) (h1 : ds.length < 2 ^ 62) (hd : ∀ d ∈ ds, Nr d) :
    ∃ d m', callF fns (k + 2) i [.ref n, .tup ds] m = .ok (.val d) m' ∧ d ∈ ds ∧ Gr n m m' := by
  obtain ⟨r, m1, e, r0, r1, g⟩ := draw_ok hr k (n := n) (many := (ds.length : Int)) (by omega) (Sm.of (n := 62) (by simpa using h1) (by omega)) H
  obtain ⟨p, rfl⟩ : ∃ p : Nat, r = (p : Nat) := ⟨r.toNat, by omega⟩
  have hp : p < ds.length := by omega
  obtain ⟨m', e', g'⟩ := gc_gr H g (hd ds[p] (by simp))
  refine ⟨ds[p], m', ?_, by simp, g'⟩
  have i2 : item m1 (.val (.tup ds)) (.val (.int (p : Int))) = some (.val ds[p]) := by
    rw [item_tup, atI_nat, List.getElem?_eq_getElem hp]
    rfl
  rw [call_of h, runD_eq rfl]
  simp -implicitDefEqProofs [lAny, -item_tup, e, i2, e']
/-- the hand of a script -/
theorem hand_ok {i : Nat} {a b : Int} (h : fns[i]? = some ⟨1, 3, lHand a b⟩) (k : Nat) (hb : 0 ≤ b ∧ b < 1000) (ns : List Int) :
    ∃ ds m, callF fns (k + 1) i [.rl (ns.map .int)] [] = .ok (.new (.lst ds)) m ∧ m.length = 1 ∧ Hand (m ++ [.lst ds]) 1 := by
  have hs : slice [] (.val (.rl (ns.map .int))) none (some 60) = some (.new (.lst ((ns.take 60).map .int))) := by
    show some (RV.new (.lst (cut (ns.map DV.int) none (some 60)))) = _
    have : cut (ns.map DV.int) none (some 60) = (ns.take 60).map .int := by
      unfold cut
      rw [HT.sIx_none, List.drop_zero, Nat.sub_zero, show (60 : Int) = ((60 : Nat) : Int) from rfl, HT.sIx_nat, ← List.map_take, List.length_map]
      by_cases h : 60 ≤ ns.length
      · rw [Nat.min_eq_left h]
      · rw [Nat.min_eq_right (by omega), List.take_of_length_le (Nat.le_refl _), List.take_of_length_le (by omega)]
    rw [this]
  generalize hxs : ns.take 60 = xs at hs
  have hl : xs.length ≤ 60 := by rw [← hxs, List.length_take]; omega
  have m1 : ∀ i : Int, binI .mod i (10 ^ 40) = some (i % (10 ^ 40)) := fun i => binI_mod (by decide)
  have lp := loopC_pure (m := ([] : Mem)) (fix := same [] []) (body := turnC (callF fns k) (.bin .mod (.blt .int (.cons (.blt .abs (.cons (.blt .int (.cons (.v 2) .nil)) .nil)) .nil)) (.bin .pow (.c (.int 10)) (.c (.int 40)))) (.nm 2) .nil [some (.rl (ns.map .int)), none, none]) (fun d => match d with | .int i => some (.int ((i.natAbs : Int) % (10 ^ 40))) | _ => none) rfl (xs.map .int) (by
      intro d hd
      obtain ⟨i, _, rfl⟩ := List.mem_map.mp hd
      rw [turnC_eq (put_nm _ _ _)]
      simp -implicitDefEqProofs only [List.set_cons_zero, List.set_cons_succ, evTs_nil, Res.bind_ok, if_true, ev_bin, ev_blt, evrs_cons, evrs_nil, ev_v, ev_c, List.getElem?_cons_succ, List.getElem?_cons_zero, int_int, abs_int, Res.of_some, bin_int', binI_p40, Option.map_some, m1, force_val])
  have fm : (xs.map DV.int).filterMap (fun d => match d with | .int i => some (DV.int ((i.natAbs : Int) % (10 ^ 40))) | _ => none) = (xs.map fun i => (i.natAbs : Int) % (10 ^ 40)).map DV.int := by
    rw [List.filterMap_map, List.map_map, ← List.filterMap_eq_map]
    rfl
  rw [fm] at lp
  clear fm
  have hy : (xs.map fun i => (i.natAbs : Int) % (10 ^ 40)).length = xs.length := List.length_map ..
  generalize (xs.map fun i => (i.natAbs : Int) % (10 ^ 40)) = ys at lp hy ⊢
  have o1 : mulOk b xs.length = true := mulOk_l (by omega)
  refine ⟨[.ref 0, .int 0, .int 0, .int (a + b * xs.length), .int 0], [.lst (ys.map DV.int)], ?_, rfl, ?_⟩
  · rw [call_of h, runD_eq rfl]
    have l2 : xs.length < sizeLine := by unfold sizeLine; omega
    have l3 := lenR (m := [.lst (ys.map DV.int)]) (n := 0) rfl
    simp -implicitDefEqProofs only [lHand, evSs_cons, evS_asg, ev_comp', wipe_cons, wipe_nil, List.set_cons_zero, List.set_cons_succ, evrs_cons, evrs_nil, ev_sl, ev_v, evPart_nil, evPart_cons, ev_c, Res.bind_ok, List.map_cons, List.map_nil, Nat.reduceSub, List.replicate_succ, List.replicate_zero, List.cons_append, List.nil_append, List.getElem?_cons_zero, List.getElem?_cons_succ, hs, Res.of_some, it_seq_new]
    rw [lp]
    simp -implicitDefEqProofs [l2, l3, o1, hy, gc]
  · exact ⟨0, _, 0, 0, _, 0, by decide, rfl, rfl, by decide, by decide⟩
end
end Mp
end SFh
section SFu
set_option Elab.async false
set_option linter.all false
set_option maxHeartbeats 1000000
/-! Fu: memories that only grew. -/
namespace Mp
open PySem
def Up (m M : Mem) : Prop := ∃ j, M = m ++ j
theorem Up.refl (m : Mem) : Up m m := ⟨[], by simp⟩
theorem Up.trans {a b c : Mem} (h : Up a b) (h' : Up b c) : Up a c := by
  obtain ⟨j, rfl⟩ := h
  obtain ⟨j', rfl⟩ := h'
  exact ⟨j ++ j', by simp⟩
theorem Up.push {m M : Mem} (h : Up m M) (j : Mem) : Up m (M ++ j) := h.trans ⟨j, rfl⟩
theorem Up.set {m M : Mem} (h : Up m M) {a : Nat} (ha : m.length ≤ a) (o : MO) : Up m (M.set a o) := by
  obtain ⟨j, rfl⟩ := h
  exact ⟨j.set (a - m.length) o, by rw [List.set_append]; rw [if_neg (by omega)]⟩
theorem Up.len {m M : Mem} (h : Up m M) : m.length ≤ M.length := by
  obtain ⟨j, rfl⟩ := h
  simp
theorem Up.at {m M : Mem} (h : Up m M) {k : Nat} {o : MO} (e : m[k]? = some o) : M[k]? = some o := by
  obtain ⟨j, rfl⟩ := h
  rw [List.getElem?_append_left (List.getElem?_eq_some_iff.mp e).1, e]
theorem gc_up {m M : Mem} (h : Up m M) {d : DV} (hd : Nr d) : gc m (.val d) M = .ok (.val d) m := by
  obtain ⟨j, rfl⟩ := h
  exact gc_more (hd _)
theorem at_end (M : Mem) (o : MO) : (M ++ [o])[M.length]? = some o := by simp
theorem bin_add_ref {M : Mem} {a : Nat} {xs ys : List DV} (h : M[a]? = some (.lst xs)) (hl : xs.length + ys.length ≤ sizeLine) : bin .add M (.val (.ref a)) (.new (.lst ys)) = some (.new (.lst (xs ++ ys))) := by
  have e : lstOf M (.val (.ref a)) = some xs := by
    show (M[a]?).map MO.items = _
    rw [h]; rfl
  show (match lstOf M (.val (.ref a)), lstOf M (.new (.lst ys)) with | some xs, some ys => _ | _, _ => none) = _
  rw [e]
  exact if_pos ⟨rfl, hl⟩
theorem app_ref {M : Mem} {a : Nat} {xs : List DV} (h : M[a]? = some (.lst xs)) (hl : xs.length < sizeLine) (d : DV) : mthD .append M (.val (.ref a)) [d] = some (.val .non, M.set a (.lst (xs ++ [d]))) := by
  show (match M[a]? with | some (.lst ds) => _ | _ => none) = _
  rw [h]
  exact if_pos hl
theorem it_ref {M : Mem} {a : Nat} {xs : List DV} (h : M[a]? = some (.lst xs)) : itD .seq M [.val (.ref a)] = some (xs, [a]) := by
  rw [it_seq_ref, h]
  rfl
end Mp
end SFu
section SK28T
set_option Elab.async false
set_option linter.all false
set_option maxRecDepth 100000
set_option maxHeartbeats 4000000
namespace K28
open PySem Mp
def top (i : Nat) : Stmt := PySem.Challenge.pw_fewclues_k28_whole_readings_shares_and_r.main.body.getD i (.Pass ⟨0, 0, 0, 0⟩)
/-- 0 -/
def b_is_integer : Ss := (.cons (.ret (.and (.cons (.isi (.v 0) [.int]) (.cons (.not (.isi (.v 0) [.bool])) .nil))))
 .nil)
/-- 1 -/
def b_is_within : Ss := (.cons (.ret (.and (.cons (.call 0 (.cons (.v 0) .nil)) (.cons (.cmp2 .le .le (.v 1) (.v 0) (.v 2)) .nil))))
 .nil)
/-- 2 -/
def b_is_tuple : Ss := (.cons (.ret (.and (.cons (.isi (.v 0) [.tuple]) (.cons (.cmp2 .le .le (.v 1) (.blt .len (.cons (.v 0) .nil)) (.v 2)) .nil))))
 .nil)
/-- 3 -/
def b_divisor : Ss := (.cons (.asg (.tup [.nm 0, .nm 1]) (.tup (.cons (.blt .abs (.cons (.v 0) .nil)) (.cons (.blt .abs (.cons (.v 1) .nil)) .nil))))
 (.cons (.wh (.cmp .ne (.v 1) (.c (.int 0)))
  (.cons (.asg (.tup [.nm 0, .nm 1]) (.tup (.cons (.v 1) (.cons (.bin .mod (.v 0) (.v 1)) .nil))))
  .nil))
 (.cons (.ret (.v 0))
 .nil)))
/-- 4 -/
def b_reduced : Ss := (.cons (.asg (.nm 2) (.call 3 (.cons (.v 0) (.cons (.v 1) .nil))))
 (.cons (.asg (.nm 3) (.ife (.cmp .gt (.v 1) (.c (.int 0))) (.c (.int 1)) (.neg (.c (.int 1)))))
 (.cons (.ret (.tup (.cons (.bin .fdiv (.bin .mul (.v 3) (.v 0)) (.v 2)) (.cons (.bin .fdiv (.bin .mul (.v 3) (.v 1)) (.v 2)) .nil))))
 .nil)))
/-- 5 -/
def b_added : Ss := (.cons (.ret (.call 4 (.cons (.bin .add (.bin .mul (.ix (.v 0) (.c (.int 0))) (.ix (.v 1) (.c (.int 1)))) (.bin .mul (.ix (.v 1) (.c (.int 0))) (.ix (.v 0) (.c (.int 1))))) (.cons (.bin .mul (.ix (.v 0) (.c (.int 1))) (.ix (.v 1) (.c (.int 1)))) .nil))))
 .nil)
/-- 6 -/
def b_times : Ss := (.cons (.ret (.call 4 (.cons (.bin .mul (.ix (.v 0) (.c (.int 0))) (.ix (.v 1) (.c (.int 0)))) (.cons (.bin .mul (.ix (.v 0) (.c (.int 1))) (.ix (.v 1) (.c (.int 1)))) .nil))))
 .nil)
/-- 7 -/
def b_parted : Ss := (.cons (.ret (.call 4 (.cons (.bin .mul (.ix (.v 0) (.c (.int 0))) (.ix (.v 1) (.c (.int 1)))) (.cons (.bin .mul (.ix (.v 0) (.c (.int 1))) (.ix (.v 1) (.c (.int 0)))) .nil))))
 .nil)
/-- 8 -/
def b_less : Ss := (.cons (.ret (.call 5 (.cons (.v 0) (.cons (.tup (.cons (.neg (.ix (.v 1) (.c (.int 0)))) (.cons (.ix (.v 1) (.c (.int 1))) .nil))) .nil))))
 .nil)
/-- 9 -/
def b_is_less : Ss := (.cons (.ret (.cmp .lt (.bin .mul (.ix (.v 0) (.c (.int 0))) (.ix (.v 1) (.c (.int 1)))) (.bin .mul (.ix (.v 1) (.c (.int 0))) (.ix (.v 0) (.c (.int 1))))))
 .nil)
/-- 10 -/
def b_is_fraction : Ss := (.cons (.ife (.or (.cons (.not (.call 2 (.cons (.v 0) (.cons (.c (.int 2)) (.cons (.c (.int 2)) .nil))))) (.cons (.not (.blt .all (.cons (.comp (.and (.cons (.isi (.v 1) [.int]) (.cons (.not (.isi (.v 1) [.bool])) .nil))) (.nm 1) .seq (.cons (.v 0) .nil) .nil [1]) .nil))) .nil)))
  (.cons (.ret (.c (.bl false)))
  .nil)
  .nil)
 (.cons (.ret (.and (.cons (.cmp .gt (.ix (.v 0) (.c (.int 1))) (.c (.int 0))) (.cons (.cmp .eq (.call 4 (.cons (.ix (.v 0) (.c (.int 0))) (.cons (.ix (.v 0) (.c (.int 1))) .nil))) (.v 0)) .nil))))
 .nil))
/-- 11 -/
def b_check_heats : Ss := (.cons (.for (.nm 1) .seq (.cons (.v 0) .nil)
  (.cons (.ife (.or (.cons (.not (.call 10 (.cons (.v 1) .nil))) (.cons (.cmp .lt (.ix (.v 1) (.c (.int 0))) (.c (.int 1))) .nil)))
   (.cons (.never)
   .nil)
   .nil)
  .nil))
 .nil)
/-- 12 -/
def b_check_share : Ss := (.cons (.ife (.or (.cons (.not (.call 10 (.cons (.v 0) .nil))) (.cons (.not (.cmp2 .lt .lt (.c (.int 0)) (.ix (.v 0) (.c (.int 0))) (.ix (.v 0) (.c (.int 1))))) .nil)))
  (.cons (.never)
  .nil)
  .nil)
 .nil)
/-- 13 -/
def b_an_hour_later : Ss := (.cons (.ret (.call 8 (.cons (.v 0) (.cons (.call 6 (.cons (.v 0) (.cons (.v 1) .nil))) .nil))))
 .nil)
/-- 14 -/
def b_heat_after : Ss := (.cons (.ex (.call 11 (.cons (.lst (.cons (.v 0) .nil)) .nil)))
 (.cons (.ex (.call 12 (.cons (.v 1) .nil)))
 (.cons (.ife (.not (.call 1 (.cons (.v 2) (.cons (.c (.int 0)) (.cons (.g "MOST_HOURS" (.int 40)) .nil)))))
  (.cons (.never)
  .nil)
  .nil)
 (.cons (.asg (.nm 3) (.v 0))
 (.cons (.for (.nm 4) .range (.cons (.v 2) .nil)
  (.cons (.asg (.nm 3) (.call 13 (.cons (.v 3) (.cons (.v 1) .nil))))
  .nil))
 (.cons (.ret (.v 3))
 .nil))))))
/-- 15 -/
def b_told : Ss := (.cons (.ife (.call 9 (.cons (.v 0) (.cons (.v 2) .nil)))
  (.cons (.ret (.tup (.cons (.c (.str "hotter")) .nil)))
  .nil)
  .nil)
 (.cons (.asg (.nm 3) (.v 0))
 (.cons (.for (.nm 4) .range (.cons (.bin .add (.g "LONGEST" (.int 60)) (.c (.int 1))) .nil)
  (.cons (.ife (.cmp .eq (.v 3) (.v 2))
   (.cons (.ret (.tup (.cons (.c (.str "hours")) (.cons (.v 4) .nil))))
   .nil)
   .nil)
  (.cons (.asg (.nm 5) (.call 13 (.cons (.v 3) (.cons (.v 1) .nil))))
  (.cons (.ife (.call 9 (.cons (.v 5) (.cons (.v 2) .nil)))
   (.cons (.ret (.tup (.cons (.c (.str "between")) (.cons (.v 4) .nil))))
   .nil)
   .nil)
  (.cons (.asg (.nm 3) (.v 5))
  .nil)))))
 (.cons (.ret (.c (.non)))
 .nil))))
/-- 16 -/
def b_check_asked : Ss := (.cons (.ex (.call 11 (.cons (.lst (.cons (.v 0) (.cons (.v 2) .nil))) .nil)))
 (.cons (.ex (.call 12 (.cons (.v 1) .nil)))
 .nil))
/-- 17 -/
def b_share_between : Ss := (.cons (.ret (.call 8 (.cons (.tup (.cons (.c (.int 1)) (.cons (.c (.int 1)) .nil))) (.cons (.call 7 (.cons (.v 1) (.cons (.v 0) .nil))) .nil))))
 .nil)
/-- 18 -/
def b_share_by : Ss := (.cons (.ex (.call 11 (.cons (.lst (.cons (.v 0) (.cons (.v 1) .nil))) .nil)))
 (.cons (.asg (.nm 2) (.call 17 (.cons (.v 0) (.cons (.v 1) .nil))))
 (.cons (.ret (.ife (.cmp2 .lt .lt (.c (.int 0)) (.ix (.v 2) (.c (.int 0))) (.ix (.v 2) (.c (.int 1)))) (.v 2) (.c (.non))))
 .nil)))
/-- 19 -/
def b_two_readings : Ss := (.cons (.ex (.call 11 (.cons (.lst (.cons (.v 0) (.cons (.v 1) (.cons (.v 2) .nil)))) .nil)))
 (.cons (.asg (.tup [.nm 3, .nm 4]) (.tup (.cons (.call 17 (.cons (.v 0) (.cons (.v 1) .nil))) (.cons (.call 17 (.cons (.v 1) (.cons (.v 2) .nil))) .nil))))
 (.cons (.ret (.ife (.cmp .eq (.v 3) (.v 4)) (.tup (.cons (.c (.str "share")) (.cons (.v 3) .nil))) (.tup (.cons (.c (.str "unlike")) (.cons (.v 3) (.cons (.v 4) .nil))))))
 .nil)))
/-- 20 -/
def b_room_told : Ss := (.cons (.for (.nm 3) .seq (.cons (.tup (.cons (.v 0) (.cons (.v 1) (.cons (.v 2) .nil)))) .nil)
  (.cons (.ife (.not (.call 10 (.cons (.v 3) .nil)))
   (.cons (.never)
   .nil)
   .nil)
  .nil))
 (.cons (.ife (.or (.cons (.not (.call 9 (.cons (.v 1) (.cons (.v 0) .nil)))) (.cons (.not (.call 9 (.cons (.v 2) (.cons (.v 1) .nil)))) .nil)))
  (.cons (.ret (.c (.non)))
  .nil)
  .nil)
 (.cons (.asg (.nm 4) (.call 8 (.cons (.call 5 (.cons (.v 0) (.cons (.v 2) .nil))) (.cons (.call 5 (.cons (.v 1) (.cons (.v 1) .nil))) .nil))))
 (.cons (.ife (.cmp .le (.ix (.v 4) (.c (.int 0))) (.c (.int 0)))
  (.cons (.ret (.c (.non)))
  .nil)
  .nil)
 (.cons (.ret (.call 7 (.cons (.call 8 (.cons (.call 6 (.cons (.v 0) (.cons (.v 2) .nil))) (.cons (.call 6 (.cons (.v 1) (.cons (.v 1) .nil))) .nil))) (.cons (.v 4) .nil))))
 .nil)))))
/-- 21 -/
def b_began_at : Ss := (.cons (.ex (.call 16 (.cons (.v 0) (.cons (.v 1) (.cons (.v 2) .nil)))))
 (.cons (.ife (.not (.call 1 (.cons (.v 3) (.cons (.c (.int 0)) (.cons (.bin .sub (.g "HOURS" (.int 24)) (.c (.int 1))) .nil)))))
  (.cons (.never)
  .nil)
  .nil)
 (.cons (.asg (.nm 4) (.call 15 (.cons (.v 0) (.cons (.v 1) (.cons (.v 2) .nil)))))
 (.cons (.ife (.or (.cons (.isN false (.v 4)) (.cons (.cmp .ne (.ix (.v 4) (.c (.int 0))) (.c (.str "hours"))) .nil)))
  (.cons (.ret (.c (.non)))
  .nil)
  .nil)
 (.cons (.ret (.bin .mod (.bin .sub (.v 3) (.ix (.v 4) (.c (.int 1)))) (.g "HOURS" (.int 24))))
 .nil)))))
/-- 22 -/
def b_mixed_heat : Ss := (.cons (.ex (.call 11 (.cons (.lst (.cons (.v 0) (.cons (.v 1) .nil))) .nil)))
 (.cons (.ife (.or (.cons (.not (.call 2 (.cons (.v 2) (.cons (.c (.int 2)) (.cons (.c (.int 2)) .nil))))) (.cons (.not (.blt .all (.cons (.comp (.call 1 (.cons (.v 4) (.cons (.c (.int 1)) (.cons (.g "MOST_PARTS" (.int 20)) .nil)))) (.nm 4) .seq (.cons (.v 2) .nil) .nil [4]) .nil))) .nil)))
  (.cons (.never)
  .nil)
  .nil)
 (.cons (.asg (.nm 3) (.call 5 (.cons (.call 6 (.cons (.v 0) (.cons (.tup (.cons (.ix (.v 2) (.c (.int 0))) (.cons (.c (.int 1)) .nil))) .nil))) (.cons (.call 6 (.cons (.v 1) (.cons (.tup (.cons (.ix (.v 2) (.c (.int 1))) (.cons (.c (.int 1)) .nil))) .nil))) .nil))))
 (.cons (.ret (.call 6 (.cons (.v 3) (.cons (.call 4 (.cons (.c (.int 1)) (.cons (.blt .sum (.cons (.v 2) .nil)) .nil))) .nil))))
 .nil))))
/-- 23 -/
def b_cooled_by : Ss := (.cons (.ife (.not (.call 2 (.cons (.v 0) (.cons (.c (.int 1)) (.cons (.g "MOST_HEATS" (.int 6)) .nil)))))
  (.cons (.never)
  .nil)
  .nil)
 (.cons (.ex (.call 11 (.cons (.v 0) .nil)))
 (.cons (.ex (.call 12 (.cons (.v 1) .nil)))
 (.cons (.ret (.blt .tuple (.cons (.comp (.call 13 (.cons (.v 2) (.cons (.v 1) .nil))) (.nm 2) .seq (.cons (.v 0) .nil) .nil [2]) .nil)))
 .nil))))
/-- 24 -/
def b__law_hand : Ss := (.cons (.asg (.nm 1) (.comp (.bin .mod (.blt .int (.cons (.blt .abs (.cons (.blt .int (.cons (.v 2) .nil)) .nil)) .nil)) (.bin .pow (.c (.int 10)) (.c (.int 40)))) (.nm 2) .seq (.cons (.sl (.v 0) .nil (.cons (.c (.int 60)) .nil)) .nil) .nil [2]))
 (.cons (.ret (.lst (.cons (.v 1) (.cons (.c (.int 0)) (.cons (.c (.int 0)) (.cons (.bin .add (.c (.int 614879)) (.bin .mul (.c (.int 13)) (.blt .len (.cons (.v 1) .nil)))) (.cons (.c (.int 0)) .nil)))))))
 .nil))
/-- 25 -/
def b__law_draw : Ss := (.cons (.ife (.and (.cons (.cmp .eq (.ix (.v 0) (.c (.int 2))) (.c (.int 0))) (.cons (.cmp .lt (.ix (.v 0) (.c (.int 1))) (.blt .len (.cons (.ix (.v 0) (.c (.int 0))) .nil))) .nil)))
  (.cons (.asg (.nm 3) (.ix (.ix (.v 0) (.c (.int 0))) (.ix (.v 0) (.c (.int 1)))))
  (.cons (.aix (.v 0) (.c (.int 1)) (.bin .add (.ix (.v 0) (.c (.int 1))) (.c (.int 1))))
  (.cons (.aix (.v 0) (.c (.int 3)) (.bin .mod (.blt .int (.cons (.bin .add (.bin .add (.bin .mul (.ix (.v 0) (.c (.int 3))) (.c (.int 48271))) (.v 3)) (.c (.int 97))) .nil)) (.c (.int 2147483647))))
  (.cons (.ife (.cmp .ge (.v 3) (.bin .pow (.c (.int 10)) (.c (.int 18))))
   (.cons (.aix (.v 0) (.c (.int 2)) (.v 3))
   .nil)
   .nil)
  .nil))))
  .nil)
 (.cons (.ife (.cmp .gt (.ix (.v 0) (.c (.int 2))) (.c (.int 0)))
  (.cons (.asg (.nm 4) (.bin .mod (.blt .int (.cons (.ix (.v 0) (.c (.int 2))) .nil)) (.v 1)))
  (.cons (.aix (.v 0) (.c (.int 2)) (.bin .fdiv (.ix (.v 0) (.c (.int 2))) (.v 1)))
  (.cons (.ret (.v 4))
  .nil)))
  .nil)
 (.cons (.aix (.v 0) (.c (.int 4)) (.bin .add (.ix (.v 0) (.c (.int 4))) (.c (.int 1))))
 (.cons (.asg (.nm 2) (.bin .mod (.blt .int (.cons (.bin .mul (.blt .int (.cons (.bin .add (.ix (.v 0) (.c (.int 3))) (.bin .mul (.c (.int 6581)) (.ix (.v 0) (.c (.int 4))))) .nil)) (.c (.int 69621))) .nil)) (.c (.int 2147483629))))
 (.cons (.asg (.nm 2) (.bin .mod (.blt .int (.cons (.bin .mul (.v 2) (.bin .add (.bin .fdiv (.v 2) (.c (.int 1013))) (.c (.int 48271)))) .nil)) (.c (.int 2147483647))))
 (.cons (.asg (.nm 2) (.bin .mod (.blt .int (.cons (.bin .mul (.v 2) (.bin .add (.bin .fdiv (.v 2) (.c (.int 2011))) (.c (.int 16807)))) .nil)) (.c (.int 2147483587))))
 (.cons (.ret (.bin .mod (.blt .int (.cons (.bin .fdiv (.v 2) (.c (.int 16))) .nil)) (.v 1)))
 .nil)))))))
/-- 26 -/
def b__law_any : Ss := (.cons (.ret (.ix (.v 1) (.call 25 (.cons (.v 0) (.cons (.blt .len (.cons (.v 1) .nil)) .nil)))))
 .nil)
/-- 27 -/
def b__law_is : Ss := (.cons (.ret (.cmp .eq (.blt .repr (.cons (.v 0) .nil)) (.blt .repr (.cons (.v 1) .nil))))
 .nil)
/-- 28 -/
def b__law_low : Ss := (.cons (.asg (.tup [.nm 2, .nm 3]) (.tup (.cons (.blt .abs (.cons (.v 0) .nil)) (.cons (.blt .abs (.cons (.v 1) .nil)) .nil))))
 (.cons (.wh (.cmp .gt (.v 3) (.c (.int 0)))
  (.cons (.asg (.tup [.nm 2, .nm 3]) (.tup (.cons (.v 3) (.cons (.bin .mod (.blt .int (.cons (.v 2) .nil)) (.v 3)) .nil))))
  .nil))
 (.cons (.asg (.nm 2) (.ife (.cmp .gt (.v 1) (.c (.int 0))) (.v 2) (.bin .sub (.c (.int 0)) (.v 2))))
 (.cons (.ret (.tup (.cons (.bin .fdiv (.v 0) (.v 2)) (.cons (.bin .fdiv (.v 1) (.v 2)) .nil))))
 .nil))))
/-- 29 -/
def b__law_power : Ss := (.cons (.asg (.tup [.nm 2, .nm 3]) (.tup (.cons (.c (.int 1)) (.cons (.c (.int 1)) .nil))))
 (.cons (.for (.nm 4) .range (.cons (.v 1) .nil)
  (.cons (.asg (.tup [.nm 2, .nm 3]) (.tup (.cons (.bin .mul (.v 2) (.ix (.v 0) (.c (.int 0)))) (.cons (.bin .mul (.v 3) (.ix (.v 0) (.c (.int 1)))) .nil))))
  .nil))
 (.cons (.ret (.call 28 (.cons (.v 2) (.cons (.v 3) .nil))))
 .nil)))
/-- 30 -/
def b__law_by : Ss := (.cons (.ret (.call 28 (.cons (.bin .mul (.ix (.v 0) (.c (.int 0))) (.ix (.v 1) (.c (.int 0)))) (.cons (.bin .mul (.ix (.v 0) (.c (.int 1))) (.ix (.v 1) (.c (.int 1)))) .nil))))
 .nil)
/-- 31 -/
def b__law_rest : Ss := (.cons (.ret (.tup (.cons (.bin .sub (.ix (.v 0) (.c (.int 1))) (.ix (.v 0) (.c (.int 0)))) (.cons (.ix (.v 0) (.c (.int 1))) .nil))))
 .nil)
/-- 32 -/
def b__law_share : Ss := (.cons (.asg (.nm 2) (.call 26 (.cons (.v 0) (.cons (.lst (.cons (.c (.int 2)) (.cons (.c (.int 3)) (.cons (.c (.int 10)) (.cons (.bin .add (.c (.int 2)) (.call 25 (.cons (.v 0) (.cons (.bin .sub (.v 1) (.c (.int 1))) .nil)))) .nil))))) .nil))))
 (.cons (.ret (.call 28 (.cons (.bin .add (.c (.int 1)) (.call 25 (.cons (.v 0) (.cons (.bin .sub (.v 2) (.c (.int 1))) .nil)))) (.cons (.v 2) .nil))))
 .nil))
/-- 33 -/
def b__law_heat : Ss := (.cons (.ret (.call 28 (.cons (.bin .add (.c (.int 1)) (.call 25 (.cons (.v 0) (.cons (.v 1) .nil)))) (.cons (.bin .add (.c (.int 1)) (.call 25 (.cons (.v 0) (.cons (.v 1) .nil)))) .nil))))
 .nil)
/-- 34 -/
def b__law_great : Ss := (.cons (.ret (.call 28 (.cons (.bin .add (.c (.int 1)) (.call 25 (.cons (.v 0) (.cons (.bin .pow (.c (.int 10)) (.c (.int 40))) .nil)))) (.cons (.bin .add (.c (.int 1)) (.call 25 (.cons (.v 0) (.cons (.bin .pow (.c (.int 10)) (.c (.int 40))) .nil)))) .nil))))
 .nil)
/-- 35 -/
def b__law_sum : Ss := (.cons (.ret (.call 28 (.cons (.bin .add (.bin .mul (.ix (.v 0) (.c (.int 0))) (.ix (.v 1) (.c (.int 1)))) (.bin .mul (.ix (.v 1) (.c (.int 0))) (.ix (.v 0) (.c (.int 1))))) (.cons (.bin .mul (.ix (.v 0) (.c (.int 1))) (.ix (.v 1) (.c (.int 1)))) .nil))))
 .nil)
/-- 36 -/
def b__law_less : Ss := (.cons (.ret (.call 35 (.cons (.v 0) (.cons (.tup (.cons (.bin .sub (.c (.int 0)) (.ix (.v 1) (.c (.int 0)))) (.cons (.ix (.v 1) (.c (.int 1))) .nil))) .nil))))
 .nil)
/-- 37 -/
def b__law_change : Ss := (.cons (.asg (.nm 2) (.call 28 (.cons (.bin .mul (.ix (.v 1) (.c (.int 0))) (.ix (.v 0) (.c (.int 1)))) (.cons (.bin .mul (.ix (.v 1) (.c (.int 1))) (.ix (.v 0) (.c (.int 0)))) .nil))))
 (.cons (.ret (.call 31 (.cons (.v 2) .nil)))
 .nil))
/-- 38 -/
def b__law_are_readings_right : Ss := (.cons (.asg (.tup [.nm 1, .nm 2, .nm 3]) (.tup (.cons (.call 34 (.cons (.v 0) .nil)) (.cons (.call 32 (.cons (.v 0) (.cons (.bin .pow (.c (.int 10)) (.c (.int 20))) .nil))) (.cons (.call 32 (.cons (.v 0) (.cons (.bin .pow (.c (.int 10)) (.c (.int 20))) .nil))) .nil)))))
 (.cons (.asg (.nm 4) (.call 30 (.cons (.v 1) (.cons (.call 31 (.cons (.v 2) .nil)) .nil))))
 (.cons (.asg (.tup [.nm 5, .nm 6]) (.tup (.cons (.call 30 (.cons (.v 4) (.cons (.call 31 (.cons (.v 2) .nil)) .nil))) (.cons (.call 30 (.cons (.v 4) (.cons (.call 31 (.cons (.v 3) .nil)) .nil))) .nil))))
 (.cons (.asg (.nm 7) (.lst (.cons (.call 18 (.cons (.v 1) (.cons (.v 4) .nil))) (.cons (.call 19 (.cons (.v 1) (.cons (.v 4) (.cons (.v 5) .nil)))) (.cons (.call 19 (.cons (.v 1) (.cons (.v 4) (.cons (.v 6) .nil)))) (.cons (.call 18 (.cons (.v 4) (.cons (.v 1) .nil))) (.cons (.call 18 (.cons (.v 1) (.cons (.v 1) .nil))) .nil)))))))
 (.cons (.asg (.nm 8) (.lst (.cons (.v 2) (.cons (.tup (.cons (.c (.str "share")) (.cons (.v 2) .nil))) (.cons (.ife (.cmp .eq (.v 3) (.v 2)) (.tup (.cons (.c (.str "share")) (.cons (.v 2) .nil))) (.tup (.cons (.c (.str "unlike")) (.cons (.v 2) (.cons (.v 3) .nil))))) (.cons (.c (.non)) (.cons (.c (.non)) .nil)))))))
 (.cons (.ife (.or (.cons (.not (.call 27 (.cons (.v 7) (.cons (.v 8) .nil)))) (.cons (.not (.call 27 (.cons (.call 18 (.cons (.v 4) (.cons (.v 6) .nil))) (.cons (.call 37 (.cons (.v 4) (.cons (.v 6) .nil))) .nil)))) .nil)))
  (.cons (.ret (.c (.bl false)))
  .nil)
  .nil)
 (.cons (.asg (.nm 9) (.call 26 (.cons (.v 0) (.cons (.lst (.cons (.call 34 (.cons (.v 0) .nil)) (.cons (.tup (.cons (.c (.int 0)) (.cons (.c (.int 1)) .nil))) (.cons (.tup (.cons (.bin .sub (.bin .sub (.c (.int 0)) (.c (.int 1))) (.call 25 (.cons (.v 0) (.cons (.bin .pow (.c (.int 10)) (.c (.int 20))) .nil)))) (.cons (.bin .add (.c (.int 1)) (.call 25 (.cons (.v 0) (.cons (.bin .pow (.c (.int 10)) (.c (.int 6))) .nil)))) .nil))) .nil)))) .nil))))
 (.cons (.asg (.nm 9) (.call 28 (.cons (.ix (.v 9) (.c (.int 0))) (.cons (.ix (.v 9) (.c (.int 1))) .nil))))
 (.cons (.asg (.tup [.nm 10, .nm 11]) (.tup (.cons (.call 33 (.cons (.v 0) (.cons (.bin .pow (.c (.int 10)) (.c (.int 12))) .nil))) (.cons (.call 32 (.cons (.v 0) (.cons (.bin .pow (.c (.int 10)) (.c (.int 9))) .nil))) .nil))))
 (.cons (.asg (.nm 12) (.comp (.call 30 (.cons (.v 10) (.cons (.call 29 (.cons (.call 31 (.cons (.v 11) .nil)) (.cons (.v 19) .nil))) .nil))) (.nm 19) .range (.cons (.c (.int 3)) .nil) .nil [19]))
 (.cons (.asgl [.nm 13, .nm 14, .nm 15] (.comp (.call 35 (.cons (.v 9) (.cons (.v 20) .nil))) (.nm 20) .seq (.cons (.v 12) .nil) .nil [20]))
 (.cons (.ife (.not (.call 27 (.cons (.call 20 (.cons (.v 13) (.cons (.v 14) (.cons (.v 15) .nil)))) (.cons (.v 9) .nil))))
  (.cons (.ret (.c (.bl false)))
  .nil)
  .nil)
 (.cons (.asg (.nm 16) (.call 33 (.cons (.v 0) (.cons (.bin .pow (.c (.int 10)) (.c (.int 9))) .nil))))
 (.cons (.asg (.tup [.nm 17, .nm 18]) (.tup (.cons (.call 36 (.cons (.v 13) (.cons (.v 16) .nil))) (.cons (.call 36 (.cons (.call 36 (.cons (.v 13) (.cons (.v 16) .nil))) (.cons (.call 35 (.cons (.v 16) (.cons (.call 33 (.cons (.v 0) (.cons (.bin .pow (.c (.int 10)) (.c (.int 6))) .nil))) .nil))) .nil))) .nil))))
 (.cons (.ret (.call 27 (.cons (.lst (.cons (.call 20 (.cons (.v 13) (.cons (.v 17) (.cons (.call 36 (.cons (.v 17) (.cons (.v 16) .nil))) .nil)))) (.cons (.call 20 (.cons (.v 13) (.cons (.v 17) (.cons (.v 18) .nil)))) .nil))) (.cons (.lst (.cons (.c (.non)) (.cons (.c (.non)) .nil))) .nil))))
 .nil)))))))))))))))
/-- 39 -/
def b__law_are_clocks_right : Ss := (.cons (.asg (.tup [.nm 1, .nm 2, .nm 3]) (.tup (.cons (.call 33 (.cons (.v 0) (.cons (.bin .pow (.c (.int 10)) (.c (.int 9))) .nil))) (.cons (.call 32 (.cons (.v 0) (.cons (.c (.int 30)) .nil))) (.cons (.call 25 (.cons (.v 0) (.cons (.c (.int 24)) .nil))) .nil)))))
 (.cons (.for (.nm 4) .seq (.cons (.tup (.cons (.call 25 (.cons (.v 0) (.cons (.c (.int 41)) .nil))) (.cons (.call 26 (.cons (.v 0) (.cons (.lst (.cons (.c (.int 0)) (.cons (.c (.int 23)) (.cons (.c (.int 24)) (.cons (.c (.int 25)) (.cons (.c (.int 40)) .nil)))))) .nil))) .nil))) .nil)
  (.cons (.asg (.nm 5) (.call 14 (.cons (.v 1) (.cons (.v 2) (.cons (.v 4) .nil)))))
  (.cons (.ife (.not (.call 27 (.cons (.call 21 (.cons (.v 1) (.cons (.v 2) (.cons (.v 5) (.cons (.v 3) .nil))))) (.cons (.bin .mod (.blt .int (.cons (.bin .sub (.v 3) (.v 4)) .nil)) (.c (.int 24))) .nil))))
   (.cons (.ret (.c (.bl false)))
   .nil)
   .nil)
  (.cons (.asg (.nm 6) (.call 30 (.cons (.v 5) (.cons (.call 31 (.cons (.v 2) .nil)) .nil))))
  (.cons (.asg (.tup [.nm 7, .nm 8]) (.tup (.cons (.call 28 (.cons (.bin .add (.ix (.v 5) (.c (.int 0))) (.ix (.v 6) (.c (.int 0)))) (.cons (.bin .add (.ix (.v 5) (.c (.int 1))) (.ix (.v 6) (.c (.int 1)))) .nil))) (.cons (.call 28 (.cons (.bin .add (.ix (.v 1) (.c (.int 0))) (.c (.int 1))) (.cons (.ix (.v 1) (.c (.int 1))) .nil))) .nil))))
  (.cons (.ife (.not (.call 27 (.cons (.lst (.cons (.call 21 (.cons (.v 1) (.cons (.v 2) (.cons (.v 7) (.cons (.v 3) .nil))))) (.cons (.call 21 (.cons (.v 1) (.cons (.v 2) (.cons (.v 8) (.cons (.v 3) .nil))))) .nil))) (.cons (.lst (.cons (.c (.non)) (.cons (.c (.non)) .nil))) .nil))))
   (.cons (.ret (.c (.bl false)))
   .nil)
   .nil)
  .nil))))))
 (.cons (.ret (.c (.bl true)))
 .nil)))
/-- 40 -/
def b__law_are_mixes_right : Ss := (.cons (.asg (.tup [.nm 1, .nm 2]) (.tup (.cons (.call 34 (.cons (.v 0) .nil)) (.cons (.call 34 (.cons (.v 0) .nil)) .nil))))
 (.cons (.asg (.tup [.nm 3, .nm 4]) (.tup (.cons (.bin .add (.c (.int 1)) (.call 25 (.cons (.v 0) (.cons (.c (.int 20)) .nil)))) (.cons (.bin .add (.c (.int 1)) (.call 25 (.cons (.v 0) (.cons (.c (.int 20)) .nil)))) .nil))))
 (.cons (.asg (.nm 5) (.call 30 (.cons (.call 35 (.cons (.call 30 (.cons (.v 1) (.cons (.tup (.cons (.v 3) (.cons (.c (.int 1)) .nil))) .nil))) (.cons (.call 30 (.cons (.v 2) (.cons (.tup (.cons (.v 4) (.cons (.c (.int 1)) .nil))) .nil))) .nil))) (.cons (.tup (.cons (.c (.int 1)) (.cons (.bin .add (.v 3) (.v 4)) .nil))) .nil))))
 (.cons (.asg (.nm 6) (.lst (.cons (.call 22 (.cons (.v 1) (.cons (.v 2) (.cons (.tup (.cons (.v 3) (.cons (.v 4) .nil))) .nil)))) (.cons (.call 22 (.cons (.v 2) (.cons (.v 1) (.cons (.tup (.cons (.v 4) (.cons (.v 3) .nil))) .nil)))) (.cons (.call 22 (.cons (.v 1) (.cons (.v 1) (.cons (.tup (.cons (.v 3) (.cons (.v 4) .nil))) .nil)))) (.cons (.call 22 (.cons (.v 1) (.cons (.v 2) (.cons (.tup (.cons (.c (.int 1)) (.cons (.c (.int 1)) .nil))) .nil)))) .nil))))))
 (.cons (.asg (.nm 7) (.call 30 (.cons (.call 35 (.cons (.v 1) (.cons (.v 2) .nil))) (.cons (.tup (.cons (.c (.int 1)) (.cons (.c (.int 2)) .nil))) .nil))))
 (.cons (.ife (.not (.call 27 (.cons (.v 6) (.cons (.lst (.cons (.v 5) (.cons (.v 5) (.cons (.v 1) (.cons (.v 7) .nil))))) .nil))))
  (.cons (.ret (.c (.bl false)))
  .nil)
  .nil)
 (.cons (.asg (.nm 8) (.call 32 (.cons (.v 0) (.cons (.bin .pow (.c (.int 10)) (.c (.int 20))) .nil))))
 (.cons (.asg (.nm 9) (.blt .tuple (.cons (.comp (.call 34 (.cons (.v 0) .nil)) (.nm 12) .range (.cons (.bin .add (.c (.int 1)) (.call 25 (.cons (.v 0) (.cons (.c (.int 6)) .nil)))) .nil) .nil [12]) .nil)))
 (.cons (.ife (.not (.call 27 (.cons (.call 23 (.cons (.v 9) (.cons (.v 8) .nil))) (.cons (.blt .tuple (.cons (.comp (.call 30 (.cons (.v 13) (.cons (.call 31 (.cons (.v 8) .nil)) .nil))) (.nm 13) .seq (.cons (.v 9) .nil) .nil [13]) .nil)) .nil))))
  (.cons (.ret (.c (.bl false)))
  .nil)
  .nil)
 (.cons (.asg (.tup [.nm 10, .nm 11]) (.call 23 (.cons (.tup (.cons (.v 1) (.cons (.v 2) .nil))) (.cons (.v 8) .nil))))
 (.cons (.ret (.cmp .eq (.call 22 (.cons (.v 10) (.cons (.v 11) (.cons (.tup (.cons (.v 3) (.cons (.v 4) .nil))) .nil)))) (.ix (.call 23 (.cons (.tup (.cons (.v 5) .nil)) (.cons (.v 8) .nil))) (.c (.int 0)))))
 .nil)))))))))))
/-- 41 -/
def b_law : Ss := (.cons (.asg (.nm 1) (.call 24 (.cons (.v 0) .nil)))
 (.cons (.asg (.nm 2) (.lst (.cons (.call 18 (.cons (.tup (.cons (.c (.int 4)) (.cons (.c (.int 1)) .nil))) (.cons (.tup (.cons (.c (.int 3)) (.cons (.c (.int 1)) .nil))) .nil))) (.cons (.call 19 (.cons (.tup (.cons (.c (.int 8)) (.cons (.c (.int 1)) .nil))) (.cons (.tup (.cons (.c (.int 4)) (.cons (.c (.int 1)) .nil))) (.cons (.tup (.cons (.c (.int 2)) (.cons (.c (.int 1)) .nil))) .nil)))) (.cons (.call 19 (.cons (.tup (.cons (.c (.int 8)) (.cons (.c (.int 1)) .nil))) (.cons (.tup (.cons (.c (.int 4)) (.cons (.c (.int 1)) .nil))) (.cons (.tup (.cons (.c (.int 1)) (.cons (.c (.int 1)) .nil))) .nil)))) (.cons (.call 20 (.cons (.tup (.cons (.c (.int 30)) (.cons (.c (.int 1)) .nil))) (.cons (.tup (.cons (.c (.int 25)) (.cons (.c (.int 1)) .nil))) (.cons (.tup (.cons (.c (.int 45)) (.cons (.c (.int 2)) .nil))) .nil)))) .nil))))))
 (.cons (.asg (.nm 2) (.bin .add (.v 2) (.lst (.cons (.call 20 (.cons (.tup (.cons (.c (.int 5)) (.cons (.c (.int 1)) .nil))) (.cons (.tup (.cons (.c (.int 4)) (.cons (.c (.int 1)) .nil))) (.cons (.tup (.cons (.c (.int 3)) (.cons (.c (.int 1)) .nil))) .nil)))) (.cons (.call 20 (.cons (.tup (.cons (.c (.int 10)) (.cons (.c (.int 1)) .nil))) (.cons (.tup (.cons (.c (.int 9)) (.cons (.c (.int 1)) .nil))) (.cons (.tup (.cons (.c (.int 7)) (.cons (.c (.int 1)) .nil))) .nil)))) (.cons (.call 21 (.cons (.tup (.cons (.c (.int 8)) (.cons (.c (.int 1)) .nil))) (.cons (.tup (.cons (.c (.int 1)) (.cons (.c (.int 2)) .nil))) (.cons (.tup (.cons (.c (.int 1)) (.cons (.c (.int 1)) .nil))) (.cons (.c (.int 1)) .nil))))) (.cons (.call 22 (.cons (.tup (.cons (.c (.int 1)) (.cons (.c (.int 1)) .nil))) (.cons (.tup (.cons (.c (.int 2)) (.cons (.c (.int 1)) .nil))) (.cons (.tup (.cons (.c (.int 1)) (.cons (.c (.int 3)) .nil))) .nil)))) .nil)))))))
 (.cons (.asg (.nm 3) (.lst (.cons (.tup (.cons (.c (.int 1)) (.cons (.c (.int 4)) .nil))) (.cons (.tup (.cons (.c (.str "share")) (.cons (.tup (.cons (.c (.int 1)) (.cons (.c (.int 2)) .nil))) .nil))) (.cons (.tup (.cons (.c (.str "unlike")) (.cons (.tup (.cons (.c (.int 1)) (.cons (.c (.int 2)) .nil))) (.cons (.tup (.cons (.c (.int 3)) (.cons (.c (.int 4)) .nil))) .nil)))) (.cons (.tup (.cons (.c (.int 20)) (.cons (.c (.int 1)) .nil))) (.cons (.c (.non)) (.cons (.c (.non)) (.cons (.c (.int 22)) (.cons (.tup (.cons (.c (.int 7)) (.cons (.c (.int 4)) .nil))) .nil))))))))))
 (.cons (.ife (.not (.call 27 (.cons (.v 2) (.cons (.v 3) .nil))))
  (.cons (.ret (.c (.bl false)))
  .nil)
  .nil)
 (.cons (.ret (.blt .all (.cons (.comp (.and (.cons (.call 38 (.cons (.v 1) .nil)) (.cons (.call 39 (.cons (.v 1) .nil)) (.cons (.call 40 (.cons (.v 1) .nil)) .nil)))) (.nm 4) .range (.cons (.c (.int 4)) .nil) .nil [4]) .nil)))
 .nil))))))
def d_is_integer : DefT := ⟨"is_integer", ["thing"], ["thing"], 1, b_is_integer⟩
def d_is_within : DefT := ⟨"is_within", ["thing", "low", "high"], ["thing", "low", "high"], 2, b_is_within⟩
def d_is_tuple : DefT := ⟨"is_tuple", ["thing", "least", "most"], ["thing", "least", "most"], 3, b_is_tuple⟩
def d_divisor : DefT := ⟨"divisor", ["one", "other"], ["one", "other"], 12, b_divisor⟩
def d_reduced : DefT := ⟨"reduced", ["top", "bottom"], ["top", "bottom", "low", "sign"], 13, b_reduced⟩
def d_added : DefT := ⟨"added", ["one", "other"], ["one", "other"], 14, b_added⟩
def d_times : DefT := ⟨"times", ["one", "other"], ["one", "other"], 15, b_times⟩
def d_parted : DefT := ⟨"parted", ["one", "other"], ["one", "other"], 16, b_parted⟩
def d_less : DefT := ⟨"less", ["one", "other"], ["one", "other"], 17, b_less⟩
def d_is_less : DefT := ⟨"is_less", ["one", "other"], ["one", "other"], 18, b_is_less⟩
def d_is_fraction : DefT := ⟨"is_fraction", ["thing"], ["thing", "one"], 19, b_is_fraction⟩
def d_check_heats : DefT := ⟨"check_heats", ["some"], ["some", "heat"], 26, b_check_heats⟩
def d_check_share : DefT := ⟨"check_share", ["share"], ["share"], 27, b_check_share⟩
def d_an_hour_later : DefT := ⟨"an_hour_later", ["heat", "share"], ["heat", "share"], 28, b_an_hour_later⟩
def d_heat_after : DefT := ⟨"heat_after", ["heat", "share", "hours"], ["heat", "share", "hours", "here", "turn"], 29, b_heat_after⟩
def d_told : DefT := ⟨"told", ["heat", "share", "now"], ["heat", "share", "now", "here", "hours", "later"], 30, b_told⟩
def d_check_asked : DefT := ⟨"check_asked", ["heat", "share", "now"], ["heat", "share", "now"], 31, b_check_asked⟩
def d_share_between : DefT := ⟨"share_between", ["heat", "now"], ["heat", "now"], 32, b_share_between⟩
def d_share_by : DefT := ⟨"share_by", ["heat", "now"], ["heat", "now", "share"], 33, b_share_by⟩
def d_two_readings : DefT := ⟨"two_readings", ["first", "second", "third"], ["first", "second", "third", "one", "other"], 34, b_two_readings⟩
def d_room_told : DefT := ⟨"room_told", ["a", "b", "c"], ["a", "b", "c", "reading", "bottom"], 35, b_room_told⟩
def d_began_at : DefT := ⟨"began_at", ["heat", "share", "now", "clock"], ["heat", "share", "now", "clock", "due"], 36, b_began_at⟩
def d_mixed_heat : DefT := ⟨"mixed_heat", ["one", "other", "parts"], ["one", "other", "parts", "whole", "part"], 37, b_mixed_heat⟩
def d_cooled_by : DefT := ⟨"cooled_by", ["heats", "share"], ["heats", "share", "heat"], 38, b_cooled_by⟩
def d__law_hand : DefT := ⟨"_law_hand", ["script"], ["script", "cells", "cell"], 40, b__law_hand⟩
def d__law_draw : DefT := ⟨"_law_draw", ["hand", "many"], ["hand", "many", "number", "cell", "digit"], 41, b__law_draw⟩
def d__law_any : DefT := ⟨"_law_any", ["hand", "some"], ["hand", "some"], 42, b__law_any⟩
def d__law_is : DefT := ⟨"_law_is", ["told_v", "due"], ["told_v", "due"], 43, b__law_is⟩
def d__law_low : DefT := ⟨"_law_low", ["top", "bottom"], ["top", "bottom", "one", "other"], 44, b__law_low⟩
def d__law_power : DefT := ⟨"_law_power", ["one", "many"], ["one", "many", "top", "bottom", "turn"], 45, b__law_power⟩
def d__law_by : DefT := ⟨"_law_by", ["one", "other"], ["one", "other"], 46, b__law_by⟩
def d__law_rest : DefT := ⟨"_law_rest", ["share"], ["share"], 47, b__law_rest⟩
def d__law_share : DefT := ⟨"_law_share", ["hand", "high"], ["hand", "high", "bottom"], 48, b__law_share⟩
def d__law_heat : DefT := ⟨"_law_heat", ["hand", "high"], ["hand", "high"], 49, b__law_heat⟩
def d__law_great : DefT := ⟨"_law_great", ["hand"], ["hand"], 50, b__law_great⟩
def d__law_sum : DefT := ⟨"_law_sum", ["one", "other"], ["one", "other"], 51, b__law_sum⟩
def d__law_less : DefT := ⟨"_law_less", ["one", "other"], ["one", "other"], 52, b__law_less⟩
def d__law_change : DefT := ⟨"_law_change", ["heat", "now"], ["heat", "now", "whole"], 53, b__law_change⟩
def d__law_are_readings_right : DefT := ⟨"_law_are_readings_right", ["hand"], ["hand", "heat", "share", "other", "second", "third", "strange", "told_v", "due", "room", "few", "small", "warm", "a", "b", "c", "step", "even", "wide", "hours", "one"], 54, b__law_are_readings_right⟩
def d__law_are_clocks_right : DefT := ⟨"_law_are_clocks_right", ["hand"], ["hand", "heat", "share", "clock", "hours", "now", "later", "between", "above"], 55, b__law_are_clocks_right⟩
def d__law_are_mixes_right : DefT := ⟨"_law_are_mixes_right", ["hand"], ["hand", "one", "other", "p", "q", "due", "told_v", "half", "share", "heats", "here", "there", "turn", "heat"], 56, b__law_are_mixes_right⟩
def d_law : DefT := ⟨"law", ["script"], ["script", "hand", "told_v", "due", "turn"], 57, b_law⟩
def dts : List DefT := [d_is_integer, d_is_within, d_is_tuple, d_divisor, d_reduced, d_added, d_times, d_parted, d_less, d_is_less, d_is_fraction, d_check_heats, d_check_share, d_an_hour_later, d_heat_after, d_told, d_check_asked, d_share_between, d_share_by, d_two_readings, d_room_told, d_began_at, d_mixed_heat, d_cooled_by, d__law_hand, d__law_draw, d__law_any, d__law_is, d__law_low, d__law_power, d__law_by, d__law_rest, d__law_share, d__law_heat, d__law_great, d__law_sum, d__law_less, d__law_change, d__law_are_readings_right, d__law_are_clocks_right, d__law_are_mixes_right, d_law]
def tab : Tab := ⟨dts.map DefT.sig, [("MOST_HOURS", .int 40), ("LONGEST", .int 60), ("HOURS", .int 24), ("MOST_PARTS", .int 20), ("MOST_HEATS", .int 6)], ["isinstance", "bool", "int", "len", "tuple", "abs", "all", "range", "sum", "repr"]⟩
def fns : List Def := dts.map DefT.dfn
abbrev i_is_integer : Nat := 0
abbrev i_is_within : Nat := 1
abbrev i_is_tuple : Nat := 2
abbrev i_divisor : Nat := 3
abbrev i_reduced : Nat := 4
abbrev i_added : Nat := 5
abbrev i_times : Nat := 6
abbrev i_parted : Nat := 7
abbrev i_less : Nat := 8
abbrev i_is_less : Nat := 9
abbrev i_is_fraction : Nat := 10
abbrev i_check_heats : Nat := 11
abbrev i_check_share : Nat := 12
abbrev i_an_hour_later : Nat := 13
abbrev i_heat_after : Nat := 14
abbrev i_told : Nat := 15
abbrev i_check_asked : Nat := 16
abbrev i_share_between : Nat := 17
abbrev i_share_by : Nat := 18
abbrev i_two_readings : Nat := 19
abbrev i_room_told : Nat := 20
abbrev i_began_at : Nat := 21
abbrev i_mixed_heat : Nat := 22
abbrev i_cooled_by : Nat := 23
abbrev i__law_hand : Nat := 24
abbrev i__law_draw : Nat := 25
abbrev i__law_any : Nat := 26
abbrev i__law_is : Nat := 27
abbrev i__law_low : Nat := 28
abbrev i__law_power : Nat := 29
abbrev i__law_by : Nat := 30
abbrev i__law_rest : Nat := 31
abbrev i__law_share : Nat := 32
abbrev i__law_heat : Nat := 33
abbrev i__law_great : Nat := 34
abbrev i__law_sum : Nat := 35
abbrev i__law_less : Nat := 36
abbrev i__law_change : Nat := 37
abbrev i__law_are_readings_right : Nat := 38
abbrev i__law_are_clocks_right : Nat := 39
abbrev i__law_are_mixes_right : Nat := 40
abbrev i_law : Nat := 41
end K28
namespace K28
open PySem Mp
theorem chk : (dts.all fun d => chkD tab d (top d.at_)) = true := by decide +kernel
theorem bd_is_integer : BindAt d_is_integer (top d_is_integer.at_) := fun _ _ _ _ _ _ us hl => match us, hl with | [_], _ => rfl
theorem bd_is_within : BindAt d_is_within (top d_is_within.at_) := fun _ _ _ _ _ _ us hl => match us, hl with | [_, _, _], _ => rfl
theorem bd_is_tuple : BindAt d_is_tuple (top d_is_tuple.at_) := fun _ _ _ _ _ _ us hl => match us, hl with | [_, _, _], _ => rfl
theorem bd_divisor : BindAt d_divisor (top d_divisor.at_) := fun _ _ _ _ _ _ us hl => match us, hl with | [_, _], _ => rfl
theorem bd_reduced : BindAt d_reduced (top d_reduced.at_) := fun _ _ _ _ _ _ us hl => match us, hl with | [_, _], _ => rfl
theorem bd_added : BindAt d_added (top d_added.at_) := fun _ _ _ _ _ _ us hl => match us, hl with | [_, _], _ => rfl
theorem bd_times : BindAt d_times (top d_times.at_) := fun _ _ _ _ _ _ us hl => match us, hl with | [_, _], _ => rfl
theorem bd_parted : BindAt d_parted (top d_parted.at_) := fun _ _ _ _ _ _ us hl => match us, hl with | [_, _], _ => rfl
theorem bd_less : BindAt d_less (top d_less.at_) := fun _ _ _ _ _ _ us hl => match us, hl with | [_, _], _ => rfl
theorem bd_is_less : BindAt d_is_less (top d_is_less.at_) := fun _ _ _ _ _ _ us hl => match us, hl with | [_, _], _ => rfl
theorem bd_is_fraction : BindAt d_is_fraction (top d_is_fraction.at_) := fun _ _ _ _ _ _ us hl => match us, hl with | [_], _ => rfl
theorem bd_check_heats : BindAt d_check_heats (top d_check_heats.at_) := fun _ _ _ _ _ _ us hl => match us, hl with | [_], _ => rfl
theorem bd_check_share : BindAt d_check_share (top d_check_share.at_) := fun _ _ _ _ _ _ us hl => match us, hl with | [_], _ => rfl
theorem bd_an_hour_later : BindAt d_an_hour_later (top d_an_hour_later.at_) := fun _ _ _ _ _ _ us hl => match us, hl with | [_, _], _ => rfl
theorem bd_heat_after : BindAt d_heat_after (top d_heat_after.at_) := fun _ _ _ _ _ _ us hl => match us, hl with | [_, _, _], _ => rfl
theorem bd_told : BindAt d_told (top d_told.at_) := fun _ _ _ _ _ _ us hl => match us, hl with | [_, _, _], _ => rfl
theorem bd_check_asked : BindAt d_check_asked (top d_check_asked.at_) := fun _ _ _ _ _ _ us hl => match us, hl with | [_, _, _], _ => rfl
theorem bd_share_between : BindAt d_share_between (top d_share_between.at_) := fun _ _ _ _ _ _ us hl => match us, hl with | [_, _], _ => rfl
theorem bd_share_by : BindAt d_share_by (top d_share_by.at_) := fun _ _ _ _ _ _ us hl => match us, hl with | [_, _], _ => rfl
theorem bd_two_readings : BindAt d_two_readings (top d_two_readings.at_) := fun _ _ _ _ _ _ us hl => match us, hl with | [_, _, _], _ => rfl
theorem bd_room_told : BindAt d_room_told (top d_room_told.at_) := fun _ _ _ _ _ _ us hl => match us, hl with | [_, _, _], _ => rfl
theorem bd_began_at : BindAt d_began_at (top d_began_at.at_) := fun _ _ _ _ _ _ us hl => match us, hl with | [_, _, _, _], _ => rfl
theorem bd_mixed_heat : BindAt d_mixed_heat (top d_mixed_heat.at_) := fun _ _ _ _ _ _ us hl => match us, hl with | [_, _, _], _ => rfl
theorem bd_cooled_by : BindAt d_cooled_by (top d_cooled_by.at_) := fun _ _ _ _ _ _ us hl => match us, hl with | [_, _], _ => rfl
theorem bd__law_hand : BindAt d__law_hand (top d__law_hand.at_) := fun _ _ _ _ _ _ us hl => match us, hl with | [_], _ => rfl
theorem bd__law_draw : BindAt d__law_draw (top d__law_draw.at_) := fun _ _ _ _ _ _ us hl => match us, hl with | [_, _], _ => rfl
theorem bd__law_any : BindAt d__law_any (top d__law_any.at_) := fun _ _ _ _ _ _ us hl => match us, hl with | [_, _], _ => rfl
theorem bd__law_is : BindAt d__law_is (top d__law_is.at_) := fun _ _ _ _ _ _ us hl => match us, hl with | [_, _], _ => rfl
theorem bd__law_low : BindAt d__law_low (top d__law_low.at_) := fun _ _ _ _ _ _ us hl => match us, hl with | [_, _], _ => rfl
theorem bd__law_power : BindAt d__law_power (top d__law_power.at_) := fun _ _ _ _ _ _ us hl => match us, hl with | [_, _], _ => rfl
theorem bd__law_by : BindAt d__law_by (top d__law_by.at_) := fun _ _ _ _ _ _ us hl => match us, hl with | [_, _], _ => rfl
theorem bd__law_rest : BindAt d__law_rest (top d__law_rest.at_) := fun _ _ _ _ _ _ us hl => match us, hl with | [_], _ => rfl
theorem bd__law_share : BindAt d__law_share (top d__law_share.at_) := fun _ _ _ _ _ _ us hl => match us, hl with | [_, _], _ => rfl
theorem bd__law_heat : BindAt d__law_heat (top d__law_heat.at_) := fun _ _ _ _ _ _ us hl => match us, hl with | [_, _], _ => rfl
theorem bd__law_great : BindAt d__law_great (top d__law_great.at_) := fun _ _ _ _ _ _ us hl => match us, hl with | [_], _ => rfl
theorem bd__law_sum : BindAt d__law_sum (top d__law_sum.at_) := fun _ _ _ _ _ _ us hl => match us, hl with | [_, _], _ => rfl
theorem bd__law_less : BindAt d__law_less (top d__law_less.at_) := fun _ _ _ _ _ _ us hl => match us, hl with | [_, _], _ => rfl
theorem bd__law_change : BindAt d__law_change (top d__law_change.at_) := fun _ _ _ _ _ _ us hl => match us, hl with | [_, _], _ => rfl
theorem bd__law_are_readings_right : BindAt d__law_are_readings_right (top d__law_are_readings_right.at_) := fun _ _ _ _ _ _ us hl => match us, hl with | [_], _ => rfl
theorem bd__law_are_clocks_right : BindAt d__law_are_clocks_right (top d__law_are_clocks_right.at_) := fun _ _ _ _ _ _ us hl => match us, hl with | [_], _ => rfl
theorem bd__law_are_mixes_right : BindAt d__law_are_mixes_right (top d__law_are_mixes_right.at_) := fun _ _ _ _ _ _ us hl => match us, hl with | [_], _ => rfl
theorem bd_law : BindAt d_law (top d_law.at_) := fun _ _ _ _ _ _ us hl => match us, hl with | [_], _ => rfl
theorem bds : ∀ d ∈ dts, BindAt d (top d.at_) := by
  intro d hd
  simp only [dts, List.mem_cons, List.not_mem_nil, or_false] at hd
  rcases hd with rfl | rfl | rfl | rfl | rfl | rfl | rfl | rfl | rfl | rfl | rfl | rfl | rfl | rfl | rfl | rfl | rfl | rfl | rfl | rfl | rfl | rfl | rfl | rfl | rfl | rfl | rfl | rfl | rfl | rfl | rfl | rfl | rfl | rfl | rfl | rfl | rfl | rfl | rfl | rfl | rfl | rfl
  · exact bd_is_integer
  · exact bd_is_within
  · exact bd_is_tuple
  · exact bd_divisor
  · exact bd_reduced
  · exact bd_added
  · exact bd_times
  · exact bd_parted
  · exact bd_less
  · exact bd_is_less
  · exact bd_is_fraction
  · exact bd_check_heats
  · exact bd_check_share
  · exact bd_an_hour_later
  · exact bd_heat_after
  · exact bd_told
  · exact bd_check_asked
  · exact bd_share_between
  · exact bd_share_by
  · exact bd_two_readings
  · exact bd_room_told
  · exact bd_began_at
  · exact bd_mixed_heat
  · exact bd_cooled_by
  · exact bd__law_hand
  · exact bd__law_draw
  · exact bd__law_any
  · exact bd__law_is
  · exact bd__law_low
  · exact bd__law_power
  · exact bd__law_by
  · exact bd__law_rest
  · exact bd__law_share
  · exact bd__law_heat
  · exact bd__law_great
  · exact bd__law_sum
  · exact bd__law_less
  · exact bd__law_change
  · exact bd__law_are_readings_right
  · exact bd__law_are_clocks_right
  · exact bd__law_are_mixes_right
  · exact bd_law
end K28
end SK28T
section SK28P
set_option Elab.async false
set_option linter.all false
set_option maxHeartbeats 1000000
/-! K28P: what the functions of k27 compute. -/
namespace K28
open PySem Mp
theorem f_is_integer : fns[i_is_integer]? = some ⟨1, 1, fIsInt⟩ := rfl
theorem f_is_within : fns[i_is_within]? = some ⟨3, 3, fWithin i_is_integer⟩ := rfl
theorem f_is_tuple : fns[i_is_tuple]? = some ⟨3, 3, fTuple⟩ := rfl
theorem f_divisor : fns[i_divisor]? = some ⟨2, 2, fDiv⟩ := rfl
theorem f_reduced : fns[i_reduced]? = some ⟨2, 4, fRed i_divisor⟩ := rfl
theorem f_added : fns[i_added]? = some ⟨2, 2, fAdd i_reduced⟩ := rfl
theorem f_times : fns[i_times]? = some ⟨2, 2, fTimes i_reduced⟩ := rfl
theorem f_less : fns[i_less]? = some ⟨2, 2, fLess i_added⟩ := rfl
theorem f_is_less : fns[i_is_less]? = some ⟨2, 2, fIsLess⟩ := rfl
theorem f_is_fraction : fns[i_is_fraction]? = some ⟨1, 2, fIsFrac i_is_tuple i_reduced⟩ := rfl
theorem f_check_heats : fns[i_check_heats]? = some ⟨1, 2, b_check_heats⟩ := rfl
theorem f_check_share : fns[i_check_share]? = some ⟨1, 1, b_check_share⟩ := rfl
theorem f_an_hour_later : fns[i_an_hour_later]? = some ⟨2, 2, b_an_hour_later⟩ := rfl
theorem f_heat_after : fns[i_heat_after]? = some ⟨3, 5, b_heat_after⟩ := rfl
theorem f_draw : fns[i__law_draw]? = some ⟨2, 5, lDraw⟩ := rfl
theorem f_any : fns[i__law_any]? = some ⟨2, 2, lAny i__law_draw⟩ := rfl
theorem f_is : fns[i__law_is]? = some ⟨2, 2, lIs⟩ := rfl
theorem f_low : fns[i__law_low]? = some ⟨2, 4, lLow⟩ := rfl
theorem f_power : fns[i__law_power]? = some ⟨2, 5, lPower i__law_low⟩ := rfl
theorem f_by : fns[i__law_by]? = some ⟨2, 2, lBy i__law_low⟩ := rfl
theorem f_rest : fns[i__law_rest]? = some ⟨1, 1, lRest⟩ := rfl
/-! ### sizes and signs -/
theorem num_pos_of {q : Rat} (h : 0 < q) : 0 < q.num := by
  have := (Rat.lt_iff 0 q).mp h
  simpa using this
theorem rest_sz {a : Nat} {s : Rat} (h0 : 0 < s) (h1 : s < 1) (hs : Sz a s) : Sz a (1 - s) := by
  have e := rest_num s
  have p0 : 0 < s.num := num_pos_of h0
  have p1 : s.num < s.den := by
    have := (Rat.lt_iff s 1).mp h1
    simpa using this
  have := hs.2
  exact ⟨by rw [e.1]; omega, by rw [e.2]; exact hs.2⟩
theorem later_eq (x s : Rat) : x - x * s = x * (1 - s) := by grind
/-- an hour later -/
theorem later_ok (k : Nat) {a b : Nat} {x s : Rat} (hx : Sz a x) (hs : Sz b s) (h0 : 0 < s) (h1 : s < 1) (ha : 2 * a + b ≤ 7900) (m : Mem) :
    callF fns (k + 5) i_an_hour_later [frq x, frq s] m = .ok (.val (frq (x * (1 - s)))) m := by
  have e1 : callF fns (k + 4) i_times [frq x, frq s] m = .ok (.val (frq (x * s))) m := times_ok f_divisor f_reduced f_times (k + 1) hx hs (by omega) m
  have e2 : callF fns (k + 4) i_less [frq x, frq (x * s)] m = .ok (.val (frq (x - x * s))) m := less_ok f_divisor f_reduced f_added f_less k hx (hx.mul hs) (by omega) m
  rw [later_eq] at e2
  rw [call_of f_an_hour_later, runD_eq rfl]
  simp -implicitDefEqProofs [b_an_hour_later, e1, e2, gc_val]
def heatBody : Ss := (.cons (.ife (.or (.cons (.not (.call 10 (.cons (.v 1) .nil))) (.cons (.cmp .lt (.ix (.v 1) (.c (.int 0))) (.c (.int 1))) .nil)))
   (.cons (.never) .nil) .nil) .nil)
/-- heats are checked -/
theorem heats_loop (k : Nat) (m : Mem) (d : DV) (ks : List Nat) {qs : List Rat} (hq : ∀ q ∈ qs, 0 < q ∧ Sz 3900 q) : ∃ e', forL (.nm 1) (evSs (callF fns (k + 3)) heatBody) (same ks m) (qs.map frq) [some d, none] m = .ok (.nx e') m := by
  obtain ⟨e', m', h1, rfl, t, h3⟩ := forL_inv (p := .nm 1) (b := evSs (callF fns (k + 3)) heatBody) (fix := same ks m)
    (fun i env m' => m' = m ∧ ∃ t, env = [some d, t]) (qs.map frq)
    [some d, none] m ⟨rfl, none, rfl⟩ fun i hi env m' ⟨h1, t, h2⟩ => by
      subst h1
      subst h2
      have hi' : i < qs.length := by simpa using hi
      obtain ⟨p0, z⟩ := hq qs[i] (by simp)
      rw [List.getElem_map]
      generalize qs[i] = q at p0 z
      have f := frac_ok f_is_tuple f_divisor f_reduced f_is_fraction k z (by omega) m'
      refine ⟨_, put_nm .., [some d, some (frq q)], m', .inl ?_, by simp, rfl, _, rfl⟩
      have p1 : 0 < q.num := num_pos_of p0
      have p2 : ¬ q.num < 1 := by omega
      rw [frq_eq] at f ⊢
      simp -implicitDefEqProofs [heatBody, f, p2]
  exact ⟨e', h1⟩
theorem check_heats_ok (k : Nat) {m : Mem} {s : Nat} {qs : List Rat} (hs : m[s]? = some (.lst (qs.map frq))) (hq : ∀ q ∈ qs, 0 < q ∧ Sz 3900 q) :
    callF fns (k + 4) i_check_heats [.ref s] m = .ok (.val .non) m := by
  have it := it_ref hs
  obtain ⟨e', h1⟩ := heats_loop k m (.ref s) [s] hq
  rw [call_of f_check_heats, runD_eq rfl]
  unfold heatBody at h1
  simp -implicitDefEqProofs [b_check_heats, evS_for, it, h1]
theorem check_heats_tup (k : Nat) {m : Mem} {qs : List Rat} (hq : ∀ q ∈ qs, 0 < q ∧ Sz 3900 q) :
    callF fns (k + 4) i_check_heats [.tup (qs.map frq)] m = .ok (.val .non) m := by
  obtain ⟨e', h1⟩ := heats_loop k m (.tup (qs.map frq)) [] hq
  rw [call_of f_check_heats, runD_eq rfl]
  unfold heatBody at h1
  simp -implicitDefEqProofs [b_check_heats, evS_for, h1]
theorem check_share_ok (k : Nat) {m : Mem} {s : Rat} (hs : Sz 3900 s) (h0 : 0 < s) (h1 : s < 1) :
    callF fns (k + 4) i_check_share [frq s] m = .ok (.val .non) m := by
  have f : callF fns (k + 3) i_is_fraction [frq s] m = .ok (.val (.bl true)) m := frac_ok f_is_tuple f_divisor f_reduced f_is_fraction k hs (by omega) m
  have p0 : 0 < s.num := num_pos_of h0
  have p1 : s.num < s.den := by
    have := (Rat.lt_iff s 1).mp h1
    simpa using this
  rw [call_of f_check_share, runD_eq rfl]
  rw [frq_eq] at f ⊢
  simp -implicitDefEqProofs [b_check_share, f, p0, p1]
theorem within_ok (k : Nat) (i lo hi : Int) (m : Mem) : callF fns (k + 2) i_is_within [.int i, .int lo, .int hi] m = .ok (.val (.bl (decide (lo ≤ i) && decide (i ≤ hi)))) m := by
  have e : callF fns (k + 1) i_is_integer [.int i] m = .ok (.val (.bl true)) m := by
    rw [call_of f_is_integer, runD_eq rfl]
    simp -implicitDefEqProofs [fIsInt]
  rw [call_of f_is_within, runD_eq rfl]
  by_cases h : lo ≤ i <;> simp -implicitDefEqProofs [fWithin, e, h]
/-- a heat so many hours later -/
theorem heat_after_ok (k : Nat) {a b n : Nat} {x s : Rat} (hx : Sz a x) (hx0 : 0 < x) (hb : 0 < b) (hs : Sz b s) (h0 : 0 < s) (h1 : s < 1) (ha : a + b * 40 ≤ 3000) (hn : n ≤ 40) (m : Mem) :
    callF fns (k + 6) i_heat_after [frq x, frq s, .int n] m = .ok (.val (frq (x * (1 - s) ^ n))) m := by
  have c1 : callF fns (k + 5) i_check_heats [.ref m.length] (m ++ [.lst [frq x]]) = .ok (.val .non) (m ++ [.lst [frq x]]) := check_heats_ok (k + 1) (qs := [x]) (by simp) (by
    intro q hq
    rw [List.mem_singleton] at hq
    subst hq
    exact ⟨hx0, hx.mono (by omega)⟩)
  generalize hM : m ++ [MO.lst [frq x]] = M at c1
  have c2 : callF fns (k + 5) i_check_share [frq s] M = .ok (.val .non) M := check_share_ok (k + 1) (hs.mono (by omega)) h0 h1
  have c3 : callF fns (k + 5) i_is_within [.int n, .int 0, .int 40] M = .ok (.val (.bl true)) M := by
    have := within_ok (k + 3) n 0 40 M
    have l1 : (0 : Int) ≤ n := by omega
    have l2 : (n : Int) ≤ 40 := by omega
    rw [decide_eq_true l1, decide_eq_true l2] at this
    exact this
  obtain ⟨e', m', h1, h2, t, h3⟩ := forL_inv (p := .nm 4) (b := evSs (callF fns (k + 5)) (.cons (.asg (.nm 3) (.call 13 (.cons (.v 3) (.cons (.v 1) .nil)))) .nil)) (fix := same [] M)
    (fun i env m' => m' = M ∧ ∃ t, env = [some (frq x), some (frq s), some (.int n), some (frq (x * (1 - s) ^ i)), t]) ((List.range n).map fun i => .int (i : Nat))
    [some (frq x), some (frq s), some (.int n), some (frq x), none] M ⟨rfl, none, by simp [Rat.pow_zero]⟩ fun i hi env m' ⟨q1, t, q2⟩ => by
      subst q1
      subst q2
      have hi' : i < n := by simpa using hi
      have hbi : b * i ≤ b * 40 := Nat.mul_le_mul_left b (by omega)
      have z := (rest_sz h0 h1 hs).pow i hb
      have z2 := (hx.mul z).mono (show a + (b * i + 1) ≤ 3100 by omega)
      have e := later_ok k z2 hs h0 h1 (by omega) m'
      rw [Rat.mul_assoc, ← Rat.pow_succ] at e
      refine ⟨_, put_nm .., [some (frq x), some (frq s), some (.int n), some (frq (x * (1 - s) ^ (i + 1))), some (.int (i : Nat))], m', .inl ?_, rfl, rfl, _, rfl⟩
      simp -implicitDefEqProofs [e]
  rw [List.length_map, List.length_range] at h3
  rw [call_of f_heat_after, runD_eq rfl]
  have g : gc m (.val (frq (x * (1 - s) ^ n))) M = .ok (.val (frq (x * (1 - s) ^ n))) m := by rw [← hM]; exact gc_more (lim_frq _ _)
  simp -implicitDefEqProofs [b_heat_after, hM, c1, c2, c3, evS_for, it_range M n (by omega), h1, h2, h3, g]
end K28
end SK28P
section SK28Q
set_option Elab.async false
set_option linter.all false
set_option maxHeartbeats 1000000
/-! K28Q: told, and the numbers. -/
namespace K28
open PySem Mp
def hotter : DV := .tup [.str "hotter"]
def hoursT (i : Int) : DV := .tup [.str "hours", .int i]
def betweenT (i : Int) : DV := .tup [.str "between", .int i]
/-- what the loop tells from hour i on, c turns left -/
def tq (x r y : Rat) : Nat → Nat → DV
  | 0, _ => .non
  | c + 1, i => if x * r ^ i = y then hoursT i else if x * r ^ (i + 1) < y then betweenT i else tq x r y c (i + 1)
def toldQ (x r y : Rat) : DV := if x < y then hotter else tq x r y 61 0
theorem tq_nr (x r y : Rat) : ∀ c i, Nr (tq x r y c i)
  | 0, _ => nr_non
  | c + 1, i => by
    unfold tq
    split
    · exact nr_tup (by simp [hoursT])
    · split
      · exact nr_tup (by simp [betweenT])
      · exact tq_nr x r y c (i + 1)
theorem told_nr (x r y : Rat) : Nr (toldQ x r y) := by
  unfold toldQ
  split
  · exact nr_tup (by simp [hotter])
  · exact tq_nr x r y 61 0
theorem frq_inj {x y : Rat} : frq x = frq y ↔ x = y := by
  constructor
  · intro h
    simp only [frq_eq, DV.tup.injEq, List.cons.injEq, DV.int.injEq, and_true] at h
    exact Rat.ext h.1 (by omega)
  · rintro rfl; rfl
theorem cmp_frq (m : Mem) (x y : Rat) : cmpD .eq m (.val (frq x)) (.val (frq y)) = some (decide (x = y)) := by
  have e := frq_beq x y
  rw [Bool.and_true] at e
  simp -implicitDefEqProofs only [frq_eq, cmp_eq, snapR_val, snap_tup, snap_int, mapM_c, mapM_n, Option.bind_some, Option.map_some, eqv_tup, eqvAll_c, eqvAll_nil, eqv_int, Bool.and_true, e]
/-- sizes along the way -/
structure Ok (x s y : Rat) : Prop where
  x0 : 0 < x
  y0 : 0 < y
  s0 : 0 < s
  s1 : s < 1
  xs : Sz 110 x
  ss : Sz 7 s
  ys : Sz 700 y
theorem Ok.sz {x s y : Rat} (O : Ok x s y) (i : Nat) (hi : i ≤ 62) : Sz 600 (x * (1 - s) ^ i) :=
  (O.xs.mul ((rest_sz O.s0 O.s1 O.ss).pow i (by omega))).mono (by omega)
theorem told_ok (k : Nat) {x s y : Rat} (O : Ok x s y) (m : Mem) :
    callF fns (k + 6) i_told [frq x, frq s, frq y] m = .ok (.val (toldQ x (1 - s) y)) m := by
  have l0 : callF fns (k + 5) i_is_less [frq x, frq y] m = .ok (.val (.bl (decide (x < y)))) m := is_less_ok f_is_less (k + 4) O.xs O.ys (by omega) m
  have loop : ∀ (c i : Nat) (t l : Option DV), i + c ≤ 61 → ∃ e', forL (.nm 4) (evSs (callF fns (k + 5)) (.cons (.ife (.cmp .eq (.v 3) (.v 2))
   (.cons (.ret (.tup (.cons (.c (.str "hours")) (.cons (.v 4) .nil)))) .nil) .nil)
  (.cons (.asg (.nm 5) (.call 13 (.cons (.v 3) (.cons (.v 1) .nil))))
  (.cons (.ife (.call 9 (.cons (.v 5) (.cons (.v 2) .nil)))
   (.cons (.ret (.tup (.cons (.c (.str "between")) (.cons (.v 4) .nil)))) .nil) .nil)
  (.cons (.asg (.nm 3) (.v 5)) .nil))))) (same [] m) ((List.range' i c).map fun i => .int (i : Nat)) [some (frq x), some (frq s), some (frq y), some (frq (x * (1 - s) ^ i)), t, l] m
     = .ok (if tq x (1 - s) y c i = .non then .nx e' else .rt (.val (tq x (1 - s) y c i))) m := by
    intro c
    induction c with
    | zero => intro i t l _; exact ⟨_, rfl⟩
    | succ c ih =>
      intro i t l hi
      have z := O.sz i (by omega)
      have e1 : callF fns (k + 5) i_an_hour_later [frq (x * (1 - s) ^ i), frq s] m = .ok (.val (frq (x * (1 - s) ^ (i + 1)))) m := by
        have e := later_ok k z O.ss O.s0 O.s1 (by omega) m
        rwa [Rat.mul_assoc, ← Rat.pow_succ] at e
      have e2 : callF fns (k + 5) i_is_less [frq (x * (1 - s) ^ (i + 1)), frq y] m = .ok (.val (.bl (decide (x * (1 - s) ^ (i + 1) < y)))) m := is_less_ok f_is_less (k + 4) (O.sz (i + 1) (by omega)) O.ys (by omega) m
      have e3 := cmp_frq m (x * (1 - s) ^ i) y
      rw [List.range'_succ, List.map_cons, forL_cons, put_nm]
      unfold tq
      by_cases q1 : x * (1 - s) ^ i = y
      · refine ⟨[], ?_⟩
        rw [if_pos q1]
        rw [decide_eq_true q1] at e3
        simp -implicitDefEqProofs [-cmp_eq, e3, hoursT]
      · rw [if_neg q1]
        rw [decide_eq_false q1] at e3
        by_cases q2 : x * (1 - s) ^ (i + 1) < y
        · refine ⟨[], ?_⟩
          rw [if_pos q2]
          rw [decide_eq_true q2] at e2
          simp -implicitDefEqProofs [-cmp_eq, e3, e1, e2, betweenT]
        · rw [if_neg q2]
          rw [decide_eq_false q2] at e2
          obtain ⟨e', h⟩ := ih (i + 1) (some (.int (i : Nat))) (some (frq (x * (1 - s) ^ (i + 1)))) (by omega)
          refine ⟨e', ?_⟩
          rw [← h]
          simp -implicitDefEqProofs [-cmp_eq, e3, e1, e2]
  obtain ⟨e', h⟩ := loop 61 0 none none (by omega)
  rw [Rat.pow_zero, Rat.mul_one, ← List.range_eq_range'] at h
  have it := it_range m 61 (by omega)
  rw [call_of (show fns[i_told]? = some ⟨3, 6, b_told⟩ from rfl), runD_eq rfl]
  unfold toldQ
  by_cases q : x < y
  · rw [if_pos q]
    rw [decide_eq_true q] at l0
    have g : gc m (.val hotter) m = .ok (.val hotter) m := gc_val rfl
    unfold hotter at *
    simp -implicitDefEqProofs [b_told, l0, g]
  · rw [if_neg q]
    rw [decide_eq_false q] at l0
    have g : gc m (.val (tq x (1 - s) y 61 0)) m = .ok (.val (tq x (1 - s) y 61 0)) m := gc_val (tq_nr _ _ _ _ _ _)
    have it2 : itD .range m [.val (.int 61)] = some ((List.range 61).map fun i => .int (i : Nat), []) := it
    generalize (List.range 61).map (fun i => DV.int (i : Nat)) = L at h it2
    generalize tq x (1 - s) y 61 0 = T at h g
    by_cases q2 : T = .non
    · rw [if_pos q2] at h
      subst q2
      simp -implicitDefEqProofs [b_told, l0, evS_for, it2, h]
    · rw [if_neg q2] at h
      simp -implicitDefEqProofs [b_told, l0, evS_for, it2, h, g]
/-- what is asked is checked -/
theorem check_asked_ok (k : Nat) {x s y : Rat} (O : Ok x s y) (m : Mem) :
    callF fns (k + 5) i_check_asked [frq x, frq s, frq y] m = .ok (.val .non) m := by
  have c1 : callF fns (k + 4) i_check_heats [.ref m.length] (m ++ [.lst [frq x, frq y]]) = .ok (.val .non) (m ++ [.lst [frq x, frq y]]) := check_heats_ok k (qs := [x, y]) (by simp) (by
    intro q hq
    simp only [List.mem_cons, List.not_mem_nil, or_false] at hq
    rcases hq with rfl | rfl
    · exact ⟨O.x0, O.xs.mono (by omega)⟩
    · exact ⟨O.y0, O.ys.mono (by omega)⟩)
  have c2 := check_share_ok k (m := m ++ [.lst [frq x, frq y]]) (O.ss.mono (by omega)) O.s0 O.s1
  rw [call_of (show fns[i_check_asked]? = some ⟨3, 3, b_check_asked⟩ from rfl), runD_eq rfl]
  simp -implicitDefEqProofs [b_check_asked, c1, c2]
def cD : Option (Bool × Int) → DV
  | none => hotter
  | some (true, i) => hoursT i
  | some (false, i) => betweenT i
theorem ok_hotter : PyData.strOk ("hotter" : Str) = true := by decide +kernel
theorem ok_hours : PyData.strOk ("hours" : Str) = true := by decide +kernel
theorem ok_between : PyData.strOk ("between" : Str) = true := by decide +kernel
/-- what is told: nothing, or a small code -/
theorem tq_shape (x r y : Rat) : ∀ c i, i + c ≤ 61 → tq x r y c i = .non ∨ ∃ b n, n < 61 ∧ tq x r y c i = cD (some (b, (n : Nat)))
  | 0, _, _ => .inl rfl
  | c + 1, i, h => by
    unfold tq
    split
    · exact .inr ⟨true, i, by omega, rfl⟩
    · split
      · exact .inr ⟨false, i, by omega, rfl⟩
      · exact tq_shape x r y c (i + 1) (by omega)
theorem told_shape (x r y : Rat) : toldQ x r y = .non ∨ toldQ x r y = cD none ∨ ∃ b n, n < 61 ∧ toldQ x r y = cD (some (b, (n : Nat))) := by
  unfold toldQ
  split
  · exact .inr (.inl rfl)
  · exact (tq_shape x r y 61 0 (by omega)).imp id .inr
/-! ### the hours, in numbers -/
theorem r_pos {s : Rat} (h : s < 1) : 0 < 1 - s := (Rat.lt_iff_sub_pos s 1).mp h
theorem step_lt {x s : Rat} (hx : 0 < x) (h0 : 0 < s) (h1 : s < 1) (i : Nat) : x * (1 - s) ^ (i + 1) < x * (1 - s) ^ i := by
  have hp : 0 < x * (1 - s) ^ i := Rat.mul_pos hx (Rat.pow_pos (r_pos h1))
  rw [Rat.pow_succ, ← Rat.mul_assoc]
  generalize x * (1 - s) ^ i = z at hp
  have : 0 < z * s := Rat.mul_pos hp h0
  grind
theorem le_first {x s : Rat} (hx : 0 < x) (h0 : 0 < s) (h1 : s < 1) : ∀ i : Nat, x * (1 - s) ^ i ≤ x
  | 0 => by rw [Rat.pow_zero, Rat.mul_one]; exact Rat.le_refl
  | i + 1 => by
    have a := le_first hx h0 h1 i
    have b := step_lt hx h0 h1 i
    grind
theorem dec {x s : Rat} (hx : 0 < x) (h0 : 0 < s) (h1 : s < 1) (i : Nat) : ∀ j : Nat, x * (1 - s) ^ (i + j) ≤ x * (1 - s) ^ i
  | 0 => Rat.le_refl
  | j + 1 => by
    have a := dec hx h0 h1 i j
    have b := step_lt hx h0 h1 (i + j)
    have : i + (j + 1) = i + j + 1 := by omega
    rw [this]
    grind
theorem tq_hours {x s : Rat} (hx : 0 < x) (h0 : 0 < s) (h1 : s < 1) (n : Nat) : ∀ c i, i ≤ n → n < i + c → tq x (1 - s) (x * (1 - s) ^ n) c i = hoursT n
  | 0, i, a, b => by omega
  | c + 1, i, a, b => by
    unfold tq
    by_cases e : i = n
    · subst e; rw [if_pos rfl]
    · have d1 := step_lt hx h0 h1 i
      have d2 := dec hx h0 h1 (i + 1) (n - (i + 1))
      rw [show i + 1 + (n - (i + 1)) = n by omega] at d2
      rw [if_neg (by grind), if_neg (by grind)]
      exact tq_hours hx h0 h1 n c (i + 1) (by omega) (by omega)
theorem tq_between {x s y : Rat} (hx : 0 < x) (h0 : 0 < s) (h1 : s < 1) (n : Nat) (hy1 : x * (1 - s) ^ (n + 1) < y) (hy2 : y < x * (1 - s) ^ n) : ∀ c i, i ≤ n → n < i + c → tq x (1 - s) y c i = betweenT n
  | 0, i, a, b => by omega
  | c + 1, i, a, b => by
    unfold tq
    by_cases e : i = n
    · subst e; rw [if_neg (by grind), if_pos hy1]
    · have d1 := step_lt hx h0 h1 i
      have d2 := dec hx h0 h1 (i + 1) (n - (i + 1))
      rw [show i + 1 + (n - (i + 1)) = n by omega] at d2
      rw [if_neg (by grind), if_neg (by grind)]
      exact tq_between hx h0 h1 n hy1 hy2 c (i + 1) (by omega) (by omega)
theorem tq_non {x s y : Rat} (hx : 0 < x) (h0 : 0 < s) (h1 : s < 1) (n : Nat) (hy : y ≤ x * (1 - s) ^ n) : ∀ c i, i + c = n → tq x (1 - s) y c i = .non
  | 0, i, a => rfl
  | c + 1, i, a => by
    unfold tq
    have d1 := step_lt hx h0 h1 i
    have d2 := dec hx h0 h1 (i + 1) (n - (i + 1))
    rw [show i + 1 + (n - (i + 1)) = n by omega] at d2
    rw [if_neg (by grind), if_neg (by grind)]
    exact tq_non hx h0 h1 n hy c (i + 1) (by omega)
theorem told_hours {x s : Rat} (hx : 0 < x) (h0 : 0 < s) (h1 : s < 1) {n : Nat} (hn : n ≤ 60) : toldQ x (1 - s) (x * (1 - s) ^ n) = hoursT n := by
  have := le_first hx h0 h1 n
  unfold toldQ
  rw [if_neg (by grind), tq_hours hx h0 h1 n 61 0 (by omega) (by omega)]
theorem told_between {x s y : Rat} (hx : 0 < x) (h0 : 0 < s) (h1 : s < 1) {n : Nat} (hn : n ≤ 60) (hy1 : x * (1 - s) ^ (n + 1) < y) (hy2 : y < x * (1 - s) ^ n) : toldQ x (1 - s) y = betweenT n := by
  have := le_first hx h0 h1 n
  unfold toldQ
  rw [if_neg (by grind), tq_between hx h0 h1 n hy1 hy2 61 0 (by omega) (by omega)]
theorem told_non {x s y : Rat} (hx : 0 < x) (h0 : 0 < s) (h1 : s < 1) (hy : y ≤ x * (1 - s) ^ 61) : toldQ x (1 - s) y = .non := by
  have := le_first hx h0 h1 61
  unfold toldQ
  rw [if_neg (by grind), tq_non hx h0 h1 61 hy 61 0 rfl]
theorem told_hotter {x r y : Rat} (hy : x < y) : toldQ x r y = hotter := by
  unfold toldQ
  rw [if_pos hy]
/-- the mediant lies between -/
theorem med_lt {a b : Rat} (h : b < a) : b < mkRat (a.num + b.num) (a.den + b.den) ∧ mkRat (a.num + b.num) (a.den + b.den) < a := by
  have hz : a.den + b.den ≠ 0 := by have := a.den_nz; omega
  have e : mkRat (a.num + b.num) (a.den + b.den) = ((a.num : Rat) + (b.num : Rat)) / ((a.den : Rat) + (b.den : Rat)) := by
    rw [Rat.mkRat_eq_div, Rat.intCast_add, Rat.natCast_add]
  have qa : (0 : Rat) < (a.den : Rat) := Rat.natCast_pos.mpr a.den_pos
  have qb : (0 : Rat) < (b.den : Rat) := Rat.natCast_pos.mpr b.den_pos
  have ha : a * (a.den : Rat) = (a.num : Rat) := by
    have : a = (a.num : Rat) / (a.den : Rat) := by conv => lhs; rw [← Rat.mkRat_self a, Rat.mkRat_eq_div]
    conv => lhs; arg 1; rw [this]
    exact Rat.div_mul_cancel (by grind)
  have hb : b * (b.den : Rat) = (b.num : Rat) := by
    have : b = (b.num : Rat) / (b.den : Rat) := by conv => lhs; rw [← Rat.mkRat_self b, Rat.mkRat_eq_div]
    conv => lhs; arg 1; rw [this]
    exact Rat.div_mul_cancel (by grind)
  rw [e]
  have h1 : b * (a.den : Rat) < a * (a.den : Rat) := Rat.mul_lt_mul_of_pos_right h qa
  have h2 : b * (b.den : Rat) < a * (b.den : Rat) := Rat.mul_lt_mul_of_pos_right h qb
  have q : 0 < (a.den : Rat) + (b.den : Rat) := by grind
  rw [Rat.lt_div_iff q, Rat.div_lt_iff q]
  rw [← ha, ← hb]
  constructor
  · rw [Rat.mul_add]; grind
  · rw [Rat.mul_add]; grind
theorem rpow_add (q : Rat) (a : Nat) : ∀ b, q ^ (a + b) = q ^ a * q ^ b
  | 0 => by rw [Nat.add_zero, Rat.pow_zero, Rat.mul_one]
  | b + 1 => by rw [← Nat.add_assoc, Rat.pow_succ, Rat.pow_succ, rpow_add q a b, Rat.mul_assoc]
theorem half_eq : DV.tup [.int 1, .int 2] = frq (1 / 2) := by decide +kernel
theorem half_sz : Sz 2 (1 / 2) := ⟨by decide +kernel, by decide +kernel⟩
theorem cmp_ne_frq (m : Mem) (x y : Rat) : cmpD .ne m (.val (frq x)) (.val (frq y)) = some (!decide (x = y)) := by
  have e := frq_beq x y
  rw [Bool.and_true] at e
  simp -implicitDefEqProofs only [frq_eq, cmp_ne, snapR_val, snap_tup, snap_int, mapM_c, mapM_n, Option.bind_some, Option.map_some, eqv_tup, eqvAll_c, eqvAll_nil, eqv_int, Bool.and_true, e]
theorem sh_frq {q : Rat} {a : Nat} (h : Sz a q) (ha : a ≤ 1900) : (q.num.natAbs.log2 < 1920) ∧ ((q.den : Int).natAbs.log2 < 1920) := by
  have := log2_le h.1
  have := log2_le h.2
  exact ⟨by omega, by simp; omega⟩
theorem mul_lt_one {a b : Rat} (ha0 : 0 < a) (ha : a < 1) (hb0 : 0 < b) (hb : b < 1) : a * b < 1 := by
  have h1 : a * b < 1 * b := Rat.mul_lt_mul_of_pos_right ha hb0
  grind
theorem succ_gt {x : Rat} : x < mkRat (x.num + 1) x.den := by
  have qd : (0 : Rat) < (x.den : Rat) := Rat.natCast_pos.mpr x.den_pos
  have hx : x * (x.den : Rat) = (x.num : Rat) := by
    have : x = (x.num : Rat) / (x.den : Rat) := by conv => lhs; rw [← Rat.mkRat_self x, Rat.mkRat_eq_div]
    conv => lhs; arg 1; rw [this]
    exact Rat.div_mul_cancel (by grind)
  rw [Rat.mkRat_eq_div, Rat.lt_div_iff qd, hx]
  exact Rat.intCast_lt_intCast.mpr (by omega)
theorem small_any {l : List Int} {d : DV} {N : Nat} (hd : d ∈ l.map DV.int) (hl : ∀ i ∈ l, 0 ≤ i ∧ i ≤ N) : ∃ n : Nat, d = .int n ∧ n ≤ N := by
  obtain ⟨i, hi, rfl⟩ := List.mem_map.mp hd
  have := hl i hi
  exact ⟨i.toNat, by congr 1; omega, by omega⟩
end K28
namespace K28
open PySem Mp
/-! ### division -/
theorem div_mk (x y : Rat) (hy : 0 < y) : mkRat (x.num * y.den) (x.den * y.num.toNat) = x / y := by
  have py := num_pos_of hy
  have e1 : ((y.num.toNat : Nat) : Int) = y.num := by omega
  have ty : 0 < y.num.toNat := by omega
  have hx : x * (x.den : Rat) = (x.num : Rat) := by
    have : x = (x.num : Rat) / (x.den : Rat) := by conv => lhs; rw [← Rat.mkRat_self x, Rat.mkRat_eq_div]
    have q : (0 : Rat) < (x.den : Rat) := Rat.natCast_pos.mpr x.den_pos
    conv => lhs; arg 1; rw [this]
    exact Rat.div_mul_cancel (by grind)
  have hy' : y * (y.den : Rat) = (y.num : Rat) := by
    have : y = (y.num : Rat) / (y.den : Rat) := by conv => lhs; rw [← Rat.mkRat_self y, Rat.mkRat_eq_div]
    have q : (0 : Rat) < (y.den : Rat) := Rat.natCast_pos.mpr y.den_pos
    conv => lhs; arg 1; rw [this]
    exact Rat.div_mul_cancel (by grind)
  have qx : (0 : Rat) < (x.den : Rat) := Rat.natCast_pos.mpr x.den_pos
  have qy : (0 : Rat) < (y.den : Rat) := Rat.natCast_pos.mpr y.den_pos
  have e2 : ((y.num.toNat : Nat) : Rat) = (y.num : Rat) := by
    rw [← Rat.intCast_natCast, e1]
  rw [Rat.mkRat_eq_div, Rat.intCast_mul, Rat.natCast_mul, Rat.intCast_natCast, e2, ← hx, ← hy']
  generalize (x.den : Rat) = B at *
  generalize (y.den : Rat) = D at *
  have h1 : B ≠ 0 := by grind
  have h2 : D ≠ 0 := by grind
  have h3 : y ≠ 0 := by grind
  grind
theorem sz_div {a b : Nat} {x y : Rat} (hx : Sz a x) (hy : Sz b y) (h : 0 < y) : Sz (a + b) (x / y) := by
  have py := num_pos_of h
  rw [← div_mk x y h]
  refine Sz.mkRat (natAbs_mul_lt hx.1 (by simpa using hy.2)) ?_ (Nat.mul_ne_zero x.den_nz (by omega))
  have h1 : y.num.toNat < 2 ^ b := by have := hy.1; omega
  rw [Nat.pow_add]
  exact Nat.mul_lt_mul'' hx.2 h1
theorem f_parted : fns[i_parted]? = some ⟨2, 2, b_parted⟩ := rfl
theorem parted_ok (k : Nat) {a b : Nat} {x y : Rat} (hx : Sz a x) (hy : Sz b y) (h : 0 < y) (hs : a + b ≤ 8000) (m : Mem) :
    callF fns (k + 3) i_parted [frq x, frq y] m = .ok (.val (frq (x / y))) m := by
  have py := num_pos_of h
  have e1 : ((y.num.toNat : Nat) : Int) = y.num := by omega
  have s1 : mulOk x.num y.den = true := mulOk_of hx.1 (by simpa using hy.2) (by omega)
  have s3 : mulOk x.den y.num = true := mulOk_of (by simpa using hx.2) hy.1 (by omega)
  have h1 : y.num.toNat < 2 ^ b := by have := hy.1; omega
  have e := red_ok f_divisor f_reduced k (x.num * y.den) (d := x.den * y.num.toNat) (Nat.mul_ne_zero x.den_nz (by omega))
    (Sm.of (show x.den * y.num.toNat < 2 ^ (a + b) by rw [Nat.pow_add]; exact Nat.mul_lt_mul'' hx.2 h1) (by omega)) m
  rw [Int.natCast_mul, e1, div_mk x y h] at e
  rw [call_of f_parted, runD_eq rfl, frq_eq x, frq_eq y]
  simp -implicitDefEqProofs [b_parted, s1, s3, e, gc_val]
end K28
end SK28Q
section SK28R
set_option Elab.async false
set_option linter.all false
set_option maxHeartbeats 1000000
/-! K28R: what the functions of k28 compute. -/
namespace K28
open PySem Mp
theorem f_share_between : fns[i_share_between]? = some ⟨2, 2, b_share_between⟩ := rfl
theorem f_share_by : fns[i_share_by]? = some ⟨2, 3, b_share_by⟩ := rfl
theorem f_two : fns[i_two_readings]? = some ⟨3, 5, b_two_readings⟩ := rfl
theorem f_room : fns[i_room_told]? = some ⟨3, 5, b_room_told⟩ := rfl
theorem f_began : fns[i_began_at]? = some ⟨4, 5, b_began_at⟩ := rfl
theorem f_mixed : fns[i_mixed_heat]? = some ⟨3, 5, b_mixed_heat⟩ := rfl
theorem f_cooled : fns[i_cooled_by]? = some ⟨2, 3, b_cooled_by⟩ := rfl
theorem f_great : fns[i__law_great]? = some ⟨1, 1, b__law_great⟩ := rfl
theorem f_sum : fns[i__law_sum]? = some ⟨2, 2, b__law_sum⟩ := rfl
theorem f_lless : fns[i__law_less]? = some ⟨2, 2, b__law_less⟩ := rfl
theorem f_change : fns[i__law_change]? = some ⟨2, 3, b__law_change⟩ := rfl
theorem f_share : fns[i__law_share]? = some ⟨2, 3, b__law_share⟩ := rfl
theorem f_heat : fns[i__law_heat]? = some ⟨2, 2, b__law_heat⟩ := rfl
theorem i0 (M : Mem) (q : Rat) : item M (.val (frq q)) (.val (.int 0)) = some (.val (.int q.num)) := by rw [frq_eq]; simp
theorem i1 (M : Mem) (q : Rat) : item M (.val (frq q)) (.val (.int 1)) = some (.val (.int q.den)) := by rw [frq_eq]; simp
theorem one_eq : DV.tup [.int 1, .int 1] = frq 1 := by decide +kernel
theorem one_sz : Sz 1 1 := ⟨by decide +kernel, by decide +kernel⟩
theorem int_frq (i : Int) : DV.tup [.int i, .int 1] = frq (i : Rat) := by
  rw [frq_eq, Rat.num_intCast, Rat.den_intCast]
  rfl
theorem int_sz {i : Int} {a : Nat} (h : i.natAbs < 2 ^ a) (ha : 0 < a) : Sz a (i : Rat) := by
  refine ⟨by rw [Rat.num_intCast]; exact h, ?_⟩
  rw [Rat.den_intCast]
  exact Nat.one_lt_two_pow (by omega)
theorem div_pos' {x y : Rat} (hx : 0 < x) (hy : 0 < y) : 0 < y / x := by
  rw [Rat.lt_div_iff hx]
  grind
theorem between_ok' (k : Nat) {a b : Nat} {x y : Rat} (hx : Sz a x) (hy : Sz b y) (h : 0 < x) (hs : a + b ≤ 7990) (m : Mem) :
    callF fns (k + 5) i_share_between [frq x, frq y] m = .ok (.val (frq (1 - y / x))) m := by
  have e1 : callF fns (k + 4) i_parted [frq y, frq x] m = .ok (.val (frq (y / x))) m := parted_ok (k + 1) hy hx h (by omega) m
  have e2 : callF fns (k + 4) i_less [.tup [.int 1, .int 1], frq (y / x)] m = .ok (.val (frq (1 - y / x))) m := by
    rw [one_eq]
    exact less_ok f_divisor f_reduced f_added f_less k one_sz (sz_div hy hx h) (by omega) m
  rw [call_of f_share_between, runD_eq rfl]
  simp -implicitDefEqProofs [b_share_between, e1, e2, gc_val]
theorem sz_share {a b : Nat} {x y : Rat} (hx : Sz a x) (hy : Sz b y) (h : 0 < x) : Sz (a + b + 2) (1 - y / x) := (one_sz.sub (sz_div hy hx h)).mono (by omega)
theorem heats_new (k : Nat) (m : Mem) (qs : List Rat) (hq : ∀ q ∈ qs, 0 < q ∧ Sz 3900 q) : callF fns (k + 4) i_check_heats [.ref m.length] (m ++ [.lst (qs.map frq)]) = .ok (.val .non) (m ++ [.lst (qs.map frq)]) :=
  check_heats_ok k (by simp) hq
/-- share_by: the share, or nothing -/
def shareD (x y : Rat) : DV := if y < x then frq (1 - y / x) else .non
theorem shareD_nr (x y : Rat) : Nr (shareD x y) := by
  unfold shareD
  split
  · exact nr_frq _
  · exact nr_non
theorem div_lt_one {x y : Rat} (hx : 0 < x) : y / x < 1 ↔ y < x := by
  rw [Rat.div_lt_iff hx, Rat.one_mul]
theorem share_by_ok (k : Nat) {a b : Nat} {x y : Rat} (hx : Sz a x) (hy : Sz b y) (px : 0 < x) (py : 0 < y) (ha : a ≤ 3900) (hb : b ≤ 3900) (m : Mem) :
    callF fns (k + 6) i_share_by [frq x, frq y] m = .ok (.val (shareD x y)) m := by
  have c1 := heats_new (k + 1) m [x, y] (by
    intro q hq
    simp only [List.mem_cons, List.not_mem_nil, or_false] at hq
    rcases hq with rfl | rfl
    · exact ⟨px, hx.mono (by omega)⟩
    · exact ⟨py, hy.mono (by omega)⟩)
  have c1' : callF fns (k + 5) i_check_heats [.ref m.length] (m ++ [.lst [frq x, frq y]]) = .ok (.val .non) (m ++ [.lst [frq x, frq y]]) := c1
  generalize hM : m ++ [MO.lst [frq x, frq y]] = M at c1'
  have c2 : callF fns (k + 5) i_share_between [frq x, frq y] M = .ok (.val (frq (1 - y / x))) M := between_ok' k hx hy px (by omega) M
  have g : gc m (.val (shareD x y)) M = .ok (.val (shareD x y)) m := gc_up ⟨_, hM.symm⟩ (shareD_nr x y)
  have pd := div_pos' px py
  have l1 := @div_lt_one x y px
  unfold shareD at g ⊢
  rw [call_of f_share_by, runD_eq rfl]
  generalize y / x = d at *
  have q2 : (1 - d).num < (1 - d).den := by
    have := (Rat.lt_iff (1 - d) 1).mp (by grind)
    simpa using this
  by_cases h : y < x
  · rw [if_pos h] at g ⊢
    have q1 : 0 < (1 - d).num := num_pos_of (by have := l1.mpr h; grind)
    simp -implicitDefEqProofs [b_share_by, hM, c1', c2, i0, i1, q1, q2, g]
  · rw [if_neg h] at g ⊢
    have q1 : ¬ 0 < (1 - d).num := fun q => h (l1.mp (by
      have : 0 < 1 - d := by
        rw [Rat.lt_iff]
        simpa using q
      grind))
    simp -implicitDefEqProofs [b_share_by, hM, c1', c2, i0, i1, q1, g]
def twoD (s t : Rat) : DV := if s = t then .tup [.str "share", frq s] else .tup [.str "unlike", frq s, frq t]
theorem twoD_nr (s t : Rat) : Nr (twoD s t) := by
  unfold twoD
  split <;> exact nr_tup (by simp)
theorem two_ok (k : Nat) {a b c : Nat} {x y z : Rat} (hx : Sz a x) (hy : Sz b y) (hz : Sz c z) (px : 0 < x) (py : 0 < y) (pz : 0 < z) (ha : a ≤ 3900) (hb : b ≤ 3900) (hc : c ≤ 3900) (m : Mem) :
    callF fns (k + 6) i_two_readings [frq x, frq y, frq z] m = .ok (.val (twoD (1 - y / x) (1 - z / y))) m := by
  have c1 := heats_new (k + 1) m [x, y, z] (by
    intro q hq
    simp only [List.mem_cons, List.not_mem_nil, or_false] at hq
    rcases hq with rfl | rfl | rfl
    · exact ⟨px, hx.mono (by omega)⟩
    · exact ⟨py, hy.mono (by omega)⟩
    · exact ⟨pz, hz.mono (by omega)⟩)
  have c1' : callF fns (k + 5) i_check_heats [.ref m.length] (m ++ [.lst [frq x, frq y, frq z]]) = .ok (.val .non) (m ++ [.lst [frq x, frq y, frq z]]) := c1
  generalize hM : m ++ [MO.lst [frq x, frq y, frq z]] = M at c1'
  have c2 : callF fns (k + 5) i_share_between [frq x, frq y] M = .ok (.val (frq (1 - y / x))) M := between_ok' k hx hy px (by omega) M
  have c3 : callF fns (k + 5) i_share_between [frq y, frq z] M = .ok (.val (frq (1 - z / y))) M := between_ok' k hy hz py (by omega) M
  have g : gc m (.val (twoD (1 - y / x) (1 - z / y))) M = .ok (.val (twoD (1 - y / x) (1 - z / y))) m := gc_up ⟨_, hM.symm⟩ (twoD_nr _ _)
  rw [call_of f_two, runD_eq rfl]
  generalize 1 - y / x = s at *
  generalize 1 - z / y = t at *
  have e := cmp_frq M s t
  unfold twoD at g ⊢
  by_cases h : s = t
  · rw [if_pos h] at g ⊢
    rw [decide_eq_true h] at e
    simp -implicitDefEqProofs [-cmp_eq, b_two_readings, hM, c1', c2, c3, e, g]
  · rw [if_neg h] at g ⊢
    rw [decide_eq_false h] at e
    simp -implicitDefEqProofs [-cmp_eq, b_two_readings, hM, c1', c2, c3, e, g]
/-- room_told -/
def roomD (a b c : Rat) : DV := if ¬ b < a ∨ ¬ c < b then .non else if a + c - (b + b) ≤ 0 then .non else frq ((a * c - b * b) / (a + c - (b + b)))
theorem room_ok (k : Nat) {n : Nat} {a b c : Rat} (ha : Sz n a) (hb : Sz n b) (hc : Sz n c) (hn : n ≤ 900) (m : Mem) :
    callF fns (k + 6) i_room_told [frq a, frq b, frq c] m = .ok (.val (roomD a b c)) m := by
  have fr : ∀ {q : Rat}, Sz n q → callF fns (k + 5) i_is_fraction [frq q] m = .ok (.val (.bl true)) m := fun h => frac_ok f_is_tuple f_divisor f_reduced f_is_fraction (k + 2) h (by omega) m
  have fa := fr ha
  have fb := fr hb
  have fc := fr hc
  have l1 : callF fns (k + 5) i_is_less [frq b, frq a] m = .ok (.val (.bl (decide (b < a)))) m := is_less_ok f_is_less (k + 4) hb ha (by omega) m
  have l2 : callF fns (k + 5) i_is_less [frq c, frq b] m = .ok (.val (.bl (decide (c < b)))) m := is_less_ok f_is_less (k + 4) hc hb (by omega) m
  have a1 : callF fns (k + 5) i_added [frq a, frq c] m = .ok (.val (frq (a + c))) m := added_ok f_divisor f_reduced f_added (k + 2) ha hc (by omega) m
  have a2 : callF fns (k + 5) i_added [frq b, frq b] m = .ok (.val (frq (b + b))) m := added_ok f_divisor f_reduced f_added (k + 2) hb hb (by omega) m
  have z1 := ha.add hc
  have z2 := hb.add hb
  have a3 : callF fns (k + 5) i_less [frq (a + c), frq (b + b)] m = .ok (.val (frq (a + c - (b + b)))) m := less_ok f_divisor f_reduced f_added f_less (k + 1) z1 z2 (by omega) m
  have z3 := z1.sub z2
  have a4 : callF fns (k + 5) i_times [frq a, frq c] m = .ok (.val (frq (a * c))) m := times_ok f_divisor f_reduced f_times (k + 2) ha hc (by omega) m
  have a5 : callF fns (k + 5) i_times [frq b, frq b] m = .ok (.val (frq (b * b))) m := times_ok f_divisor f_reduced f_times (k + 2) hb hb (by omega) m
  have z4 := ha.mul hc
  have z5 := hb.mul hb
  have a6 : callF fns (k + 5) i_less [frq (a * c), frq (b * b)] m = .ok (.val (frq (a * c - b * b))) m := less_ok f_divisor f_reduced f_added f_less (k + 1) z4 z5 (by omega) m
  have z6 := z4.sub z5
  rw [call_of f_room, runD_eq rfl]
  unfold roomD
  by_cases h1 : b < a
  · rw [decide_eq_true h1] at l1
    by_cases h2 : c < b
    · rw [decide_eq_true h2] at l2
      rw [if_neg (by simp [h1, h2])]
      generalize hB : a + c - (b + b) = B at *
      generalize a * c - b * b = A at *
      by_cases h3 : B ≤ 0
      · have q : B.num ≤ 0 := by
          have := Rat.not_lt.mpr h3
          rw [Rat.lt_iff] at this
          simpa using this
        rw [if_pos h3]
        simp -implicitDefEqProofs [b_room_told, evS_for, forL_cons, forL_nil, fa, fb, fc, l1, l2, a1, a2, a3, i0, q]
      · have p : 0 < B := Rat.not_le.mp h3
        have q : ¬ B.num ≤ 0 := by have := num_pos_of p; omega
        have a7 : callF fns (k + 5) i_parted [frq A, frq B] m = .ok (.val (frq (A / B))) m := parted_ok (k + 2) z6 z3 p (by omega) m
        have g : gc m (.val (frq (A / B))) m = .ok (.val (frq (A / B))) m := gc_val (lim_frq _ _)
        rw [if_neg h3]
        simp -implicitDefEqProofs [b_room_told, evS_for, forL_cons, forL_nil, fa, fb, fc, l1, l2, a1, a2, a3, a4, a5, a6, a7, i0, q, g]
    · rw [decide_eq_false h2] at l2
      rw [if_pos (.inr h2)]
      simp -implicitDefEqProofs [b_room_told, evS_for, forL_cons, forL_nil, fa, fb, fc, l1, l2]
  · rw [decide_eq_false h1] at l1
    rw [if_pos (.inl h1)]
    simp -implicitDefEqProofs [b_room_told, evS_for, forL_cons, forL_nil, fa, fb, fc, l1]
/-- began_at -/
def beganD (d : DV) (c : Int) : DV := match d with
  | .tup [.str w, .int n] => if w = "hours" then .int ((c - n) % 24) else .non
  | _ => .non
theorem began_ok (k : Nat) {x s y : Rat} (O : Ok x s y) {c : Int} (h0 : 0 ≤ c) (h1 : c ≤ 23) (m : Mem) :
    callF fns (k + 7) i_began_at [frq x, frq s, frq y, .int c] m = .ok (.val (beganD (toldQ x (1 - s) y) c)) m := by
  have c1 : callF fns (k + 6) i_check_asked [frq x, frq s, frq y] m = .ok (.val .non) m := check_asked_ok (k + 1) O m
  have c2 : callF fns (k + 6) i_is_within [.int c, .int 0, .int 23] m = .ok (.val (.bl true)) m := by
    have := within_ok (k + 4) c 0 23 m
    rwa [decide_eq_true h0, decide_eq_true h1] at this
  have c3 : callF fns (k + 6) i_told [frq x, frq s, frq y] m = .ok (.val (toldQ x (1 - s) y)) m := told_ok k O m
  have w1 : (("hotter" : Str) == ("hours" : Str)) = false := by decide +kernel
  have w2 : (("between" : Str) == ("hours" : Str)) = false := by decide +kernel
  have w3 : ("hotter" : Str) ≠ ("hours" : Str) := by decide +kernel
  have w4 : ("between" : Str) ≠ ("hours" : Str) := by decide +kernel
  have m1 : ∀ i : Int, binI .mod i 24 = some (i % 24) := fun i => binI_mod (by decide)
  rw [call_of f_began, runD_eq rfl]
  rcases told_shape x (1 - s) y with h | h | ⟨b', n, _, h⟩
  · rw [h] at c3 ⊢
    simp -implicitDefEqProofs [b_began_at, c1, c2, c3, beganD]
  · rw [h] at c3 ⊢
    unfold cD hotter at c3 ⊢
    simp -implicitDefEqProofs [b_began_at, c1, c2, c3, beganD, ok_hotter, ok_hours, w1]
  · rw [h] at c3 ⊢
    cases b'
    · unfold cD betweenT at c3 ⊢
      simp -implicitDefEqProofs [b_began_at, c1, c2, c3, beganD, ok_between, ok_hours, w2, w4]
    · unfold cD hoursT at c3 ⊢
      simp -implicitDefEqProofs [b_began_at, c1, c2, c3, beganD, ok_hours, m1]
end K28
end SK28R
section SK28S
set_option Elab.async false
set_option linter.all false
set_option maxHeartbeats 1000000
/-! K28S: mixes, cooled ones, the law's own sums. -/
namespace K28
open PySem Mp
theorem sum_tup2 (m : Mem) (i j : Int) : bltD .sum m [.val (.tup [.int i, .int j])] = some (.val (.int (i + j))) := by
  show (intsOf [.int i, .int j]).map (fun ns => RV.val (.int ns.sum)) = _
  simp [intsOf]
/-- the mean of two heats by parts -/
theorem mixed_ok (k : Nat) {a b : Nat} {x y : Rat} (hx : Sz a x) (hy : Sz b y) (px : 0 < x) (py : 0 < y) (ha : a ≤ 1500) (hb : b ≤ 1500) {p q : Nat} (p1 : 1 ≤ p) (p2 : p ≤ 20) (q1 : 1 ≤ q) (q2 : q ≤ 20) (m : Mem) :
    callF fns (k + 6) i_mixed_heat [frq x, frq y, .tup [.int p, .int q]] m = .ok (.val (frq ((x * (p : Int) + y * (q : Int)) * mkRat 1 (p + q)))) m := by
  have c1 := heats_new (k + 1) m [x, y] (by
    intro q hq
    simp only [List.mem_cons, List.not_mem_nil, or_false] at hq
    rcases hq with rfl | rfl
    · exact ⟨px, hx.mono (by omega)⟩
    · exact ⟨py, hy.mono (by omega)⟩)
  have c1' : callF fns (k + 5) i_check_heats [.ref m.length] (m ++ [.lst [frq x, frq y]]) = .ok (.val .non) (m ++ [.lst [frq x, frq y]]) := c1
  generalize hM : m ++ [MO.lst [frq x, frq y]] = M at c1'
  have c2 : callF fns (k + 5) i_is_tuple [.tup [.int p, .int q], .int 2, .int 2] M = .ok (.val (.bl true)) M := tuple_ok f_is_tuple (k + 4) [.int p, .int q] 2 2 M
  have c3 : ∀ n : Nat, 1 ≤ n → n ≤ 20 → callF fns (k + 5) i_is_within [.int n, .int 1, .int 20] M = .ok (.val (.bl true)) M := fun n h1 h2 => by
    have := within_ok (k + 3) n 1 20 M
    rwa [decide_eq_true (show (1 : Int) ≤ n by omega), decide_eq_true (show (n : Int) ≤ 20 by omega)] at this
  have c4 := c3 p p1 p2
  have c5 := c3 q q1 q2
  have zp : Sz 5 ((p : Int) : Rat) := int_sz (by omega) (by decide)
  have zq : Sz 5 ((q : Int) : Rat) := int_sz (by omega) (by decide)
  have c6 : callF fns (k + 5) i_times [frq x, .tup [.int p, .int 1]] M = .ok (.val (frq (x * (p : Int)))) M := by
    rw [int_frq]
    exact times_ok f_divisor f_reduced f_times (k + 2) hx zp (by omega) M
  have c7 : callF fns (k + 5) i_times [frq y, .tup [.int q, .int 1]] M = .ok (.val (frq (y * (q : Int)))) M := by
    rw [int_frq]
    exact times_ok f_divisor f_reduced f_times (k + 2) hy zq (by omega) M
  have z1 := hx.mul zp
  have z2 := hy.mul zq
  have c8 : callF fns (k + 5) i_added [frq (x * (p : Int)), frq (y * (q : Int))] M = .ok (.val (frq (x * (p : Int) + y * (q : Int)))) M := added_ok f_divisor f_reduced f_added (k + 2) z1 z2 (by omega) M
  have z3 := z1.add z2
  have c9 : callF fns (k + 5) i_reduced [.int 1, .int (p + q)] M = .ok (.val (frq (mkRat 1 (p + q)))) M := red_ok f_divisor f_reduced (k + 3) 1 (d := p + q) (by omega) (Sm.of (n := 6) (by omega) (by decide)) M
  have z4 : Sz 6 (mkRat 1 (p + q)) := Sz.mkRat (by decide) (by omega) (by omega)
  have c10 : callF fns (k + 5) i_times [frq (x * (p : Int) + y * (q : Int)), frq (mkRat 1 (p + q))] M = .ok (.val (frq ((x * (p : Int) + y * (q : Int)) * mkRat 1 (p + q)))) M := times_ok f_divisor f_reduced f_times (k + 2) z3 z4 (by omega) M
  have g : gc m (.val (frq ((x * (p : Int) + y * (q : Int)) * mkRat 1 (p + q)))) M = .ok (.val (frq ((x * (p : Int) + y * (q : Int)) * mkRat 1 (p + q)))) m := gc_up ⟨_, hM.symm⟩ (nr_frq _)
  have s2 := sum_tup2 M p q
  generalize (x * (p : Int) + y * (q : Int)) * mkRat 1 (p + q) = R at *
  generalize x * (p : Int) + y * (q : Int) = R1 at *
  generalize x * ((p : Int) : Rat) = R2 at *
  generalize y * ((q : Int) : Rat) = R3 at *
  generalize mkRat 1 (p + q) = R4 at *
  rw [call_of f_mixed, runD_eq rfl]
  simp -implicitDefEqProofs [b_mixed_heat, hM, c1', c2, c4, c5, ev_comp, loopC_cons, loopC_nil, sizeLine, c6, c7, c8, s2, c9, c10, g]
/-- heats an hour later -/
theorem cooled_ok (k : Nat) {a b : Nat} {qs : List Rat} {s : Rat} (hq : ∀ q ∈ qs, 0 < q ∧ Sz a q) (hs : Sz b s) (h0 : 0 < s) (h1 : s < 1) (ha : 2 * a + b ≤ 3900) (l1 : 1 ≤ qs.length) (l2 : qs.length ≤ 6) (m : Mem) :
    callF fns (k + 6) i_cooled_by [.tup (qs.map frq), frq s] m = .ok (.val (.tup (qs.map fun q => frq (q * (1 - s))))) m := by
  have c1 : callF fns (k + 5) i_is_tuple [.tup (qs.map frq), .int 1, .int 6] m = .ok (.val (.bl true)) m := by
    have := tuple_ok f_is_tuple (k + 4) (qs.map frq) 1 6 m
    rwa [List.length_map, decide_eq_true (show (1 : Int) ≤ qs.length by omega), decide_eq_true (show (qs.length : Int) ≤ 6 by omega)] at this
  have c2 : callF fns (k + 5) i_check_heats [.tup (qs.map frq)] m = .ok (.val .non) m := check_heats_tup (k + 1) fun q hq' => ⟨(hq q hq').1, (hq q hq').2.mono (by omega)⟩
  have c3 : callF fns (k + 5) i_check_share [frq s] m = .ok (.val .non) m := check_share_ok (k + 1) (hs.mono (by omega)) h0 h1
  have lp : loopC (turnC (callF fns (k + 5)) (.call 13 (.cons (.v 2) (.cons (.v 1) .nil))) (.nm 2) .nil [some (.tup (qs.map frq)), some (frq s), none]) (same [] m) (qs.map frq) m = .ok (qs.map fun q => frq (q * (1 - s))) m := by
    clear c1 c2 l1 l2
    generalize some (DV.tup (qs.map frq)) = D
    induction qs with
    | nil => rfl
    | cons q qs ih =>
      have e := later_ok k (hq q (by simp)).2 hs h0 h1 (by omega) m
      rw [List.map_cons, loopC_cons, turnC_eq (put_nm _ _ _)]
      rw [List.map_cons]
      have ih' := ih fun q' h' => hq q' (by simp [h'])
      simp -implicitDefEqProofs [e, ih']
  have g : gc m (.val (.tup (qs.map fun q => frq (q * (1 - s))))) m = .ok (.val (.tup (qs.map fun q => frq (q * (1 - s))))) m := gc_val ((nr_tup (by
    intro d hd
    obtain ⟨q, _, rfl⟩ := List.mem_map.mp hd
    exact nr_frq _)) _)
  have l3 : (qs.map fun q => frq (q * (1 - s))).length < sizeLine := by rw [List.length_map]; unfold sizeLine; omega
  have tb : bltD .tuple m [.new (.lst (qs.map fun q => frq (q * (1 - s))))] = some (.val (.tup (qs.map fun q => frq (q * (1 - s))))) := rfl
  generalize qs.map (fun q => frq (q * (1 - s))) = R at *
  generalize qs.map frq = Q at *
  rw [call_of f_cooled, runD_eq rfl]
  simp -implicitDefEqProofs [b_cooled_by, c1, c2, c3, ev_comp', lp, l3, tb, g]
/-! ### the law's own -/
theorem great_ok (k : Nat) {n : Nat} {m : Mem} (H : Hand m n) : ∃ x m', callF fns (k + 4) i__law_great [.ref n] m = .ok (.val (frq x)) m' ∧ (0 < x ∧ Sz 134 x) ∧ Gr n m m' := by
  have hs : Sm (10000000000000000000000000000000000000000 : Int).natAbs := Sm.of (n := 134) (by decide) (by decide)
  obtain ⟨r, m1, e1, r0, r1, g1⟩ := draw_ok f_draw (k + 2) (n := n) (many := 10000000000000000000000000000000000000000) (by decide) hs H
  obtain ⟨q, m2, e2, q0, q1, g2⟩ := draw_ok f_draw (k + 2) (n := n) (many := 10000000000000000000000000000000000000000) (by decide) hs g1.hand
  obtain ⟨d, hd⟩ : ∃ d : Nat, 1 + q = d := ⟨(1 + q).toNat, by omega⟩
  have e4 := low_ok f_low (k + 2) (1 + r) (d := d) (by omega) (Sm.of (n := 134) (by omega) (by decide)) m2
  obtain ⟨m', e5, g5⟩ := gc_gr H (g1.trans g2) (nr_frq (mkRat (1 + r) d))
  refine ⟨mkRat (1 + r) d, m', ?_, ⟨?_, Sz.mkRat (by omega) (by omega) (by omega)⟩, g5⟩
  · rw [call_of f_great, runD_eq rfl]
    rw [← hd] at e4
    simp -implicitDefEqProofs [b__law_great, e1, e2, e4, e5]
  · have qd : (0 : Rat) < (d : Rat) := Rat.natCast_pos.mpr (by omega)
    rw [Rat.mkRat_eq_div, Rat.lt_div_iff qd, Rat.zero_mul]
    have : ((0 : Int) : Rat) < ((1 + r : Int) : Rat) := Rat.intCast_lt_intCast.mpr (by omega)
    simpa using this
theorem heat_ok (k : Nat) {n b : Nat} {many : Int} (h0 : 0 < many) (h1 : many.natAbs < 2 ^ b) (hb : b ≤ 8999) {m : Mem} (H : Hand m n) : ∃ x m', callF fns (k + 4) i__law_heat [.ref n, .int many] m = .ok (.val (frq x)) m' ∧ (0 < x ∧ Sz (b + 1) x) ∧ Gr n m m' := by
  have hs : Sm many.natAbs := Sm.of h1 hb
  obtain ⟨r, m1, e1, r0, r1, g1⟩ := draw_ok f_draw (k + 2) (n := n) h0 hs H
  obtain ⟨q, m2, e2, q0, q1, g2⟩ := draw_ok f_draw (k + 2) (n := n) h0 hs g1.hand
  obtain ⟨d, hd⟩ : ∃ d : Nat, 1 + q = d := ⟨(1 + q).toNat, by omega⟩
  have e4 := low_ok f_low (k + 2) (1 + r) (d := d) (by omega) (hs.le (by omega)) m2
  obtain ⟨m', e5, g5⟩ := gc_gr H (g1.trans g2) (nr_frq (mkRat (1 + r) d))
  refine ⟨mkRat (1 + r) d, m', ?_, ⟨?_, Sz.mkRat (by rw [Nat.pow_succ]; omega) (by rw [Nat.pow_succ]; omega) (by omega)⟩, g5⟩
  · rw [call_of f_heat, runD_eq rfl]
    rw [← hd] at e4
    simp -implicitDefEqProofs [b__law_heat, e1, e2, e4, e5]
  · have qd : (0 : Rat) < (d : Rat) := Rat.natCast_pos.mpr (by omega)
    rw [Rat.mkRat_eq_div, Rat.lt_div_iff qd, Rat.zero_mul]
    have : ((0 : Int) : Rat) < ((1 + r : Int) : Rat) := Rat.intCast_lt_intCast.mpr (by omega)
    simpa using this
theorem mk_shr {a : Int} {d b : Nat} (h1 : 1 ≤ a) (h2 : a < d) (h3 : d < 2 ^ b) : 0 < mkRat a d ∧ mkRat a d < 1 ∧ Sz b (mkRat a d) := by
  have qd : (0 : Rat) < (d : Rat) := Rat.natCast_pos.mpr (by omega)
  refine ⟨?_, ?_, Sz.mkRat (by omega) h3 (by omega)⟩
  · rw [Rat.mkRat_eq_div, Rat.lt_div_iff qd, Rat.zero_mul]
    have : ((0 : Int) : Rat) < (a : Rat) := Rat.intCast_lt_intCast.mpr (by omega)
    simpa using this
  · rw [Rat.mkRat_eq_div, Rat.div_lt_iff qd, Rat.one_mul]
    have : (a : Rat) < ((d : Int) : Rat) := Rat.intCast_lt_intCast.mpr (by omega)
    exact this
theorem share_ok (k : Nat) {n b : Nat} {high : Int} (h0 : 12 ≤ high) (h1 : high.natAbs < 2 ^ b) (hb : b ≤ 8900) {m : Mem} (H : Hand m n) :
    ∃ s m', callF fns (k + 4) i__law_share [.ref n, .int high] m = .ok (.val (frq s)) m' ∧ (0 < s ∧ s < 1 ∧ Sz (b + 1) s) ∧ Gr n m m' := by
  have hs : Sm high.natAbs := Sm.of h1 (by omega)
  obtain ⟨r, m1, e1, r0, r1, g1⟩ := draw_ok f_draw (k + 2) (n := n) (many := high - 1) (by omega) (hs.le (by omega)) H
  have g1' : Gr n m (m1 ++ [.lst [.int 2, .int 3, .int 10, .int (2 + r)]]) := g1.push _
  obtain ⟨d, m2, e2, hd, g2⟩ := any_ok f_draw f_any (k + 1) (s := m1.length) (ds := [.int 2, .int 3, .int 10, .int (2 + r)]) g1'.hand (at_end _ _) (by have := g1.hand.lt; omega) (by simp) (by simp) (by simp)
  obtain ⟨c, rfl, b0, b1⟩ : ∃ c : Nat, d = .int c ∧ 2 ≤ c ∧ c ≤ high.natAbs := by
    simp only [List.mem_cons, List.not_mem_nil, or_false] at hd
    rcases hd with rfl | rfl | rfl | rfl
    · exact ⟨2, rfl, by omega, by omega⟩
    · exact ⟨3, rfl, by omega, by omega⟩
    · exact ⟨10, rfl, by omega, by omega⟩
    · exact ⟨(2 + r).toNat, by congr 1; omega, by omega, by omega⟩
  obtain ⟨q, m3, e3, q0, q1, g3⟩ := draw_ok f_draw (k + 2) (n := n) (many := (c : Int) - 1) (by omega) (hs.le (by omega)) g2.hand
  have e4 := low_ok f_low (k + 2) (1 + q) (d := c) (by omega) (hs.le (by omega)) m3
  obtain ⟨m', e5, g5⟩ := gc_gr H ((g1'.trans g2).trans g3) (nr_frq (mkRat (1 + q) c))
  refine ⟨mkRat (1 + q) c, m', ?_, mk_shr (by omega) (by omega) (by rw [Nat.pow_succ]; omega), g5⟩
  rw [call_of f_share, runD_eq rfl]
  simp -implicitDefEqProofs [b__law_share, e1, e2, e3, e4, e5]
theorem sum_ok (k : Nat) {a b : Nat} {x y : Rat} (hx : Sz a x) (hy : Sz b y) (hs : a + b ≤ 8000) (m : Mem) :
    callF fns (k + 2) i__law_sum [frq x, frq y] m = .ok (.val (frq (x + y))) m := by
  have s1 : mulOk x.num y.den = true := mulOk_of hx.1 (by simpa using hy.2) (by omega)
  have s2 : mulOk y.num x.den = true := mulOk_of hy.1 (by simpa using hx.2) (by omega)
  have s3 : mulOk x.den y.den = true := mulOk_of (by simpa using hx.2) (by simpa using hy.2) (by omega)
  have e := low_ok f_low k (x.num * y.den + y.num * x.den) (d := x.den * y.den) (Nat.mul_ne_zero x.den_nz y.den_nz)
    (Sm.of (show x.den * y.den < 2 ^ (a + b) by rw [Nat.pow_add]; exact Nat.mul_lt_mul'' hx.2 hy.2) (by omega)) m
  rw [Int.natCast_mul, ← Rat.add_def'] at e
  rw [call_of f_sum, runD_eq rfl, frq_eq x, frq_eq y]
  simp -implicitDefEqProofs [b__law_sum, s1, s2, s3, e, gc_val]
theorem lless_ok (k : Nat) {a b : Nat} {x y : Rat} (hx : Sz a x) (hy : Sz b y) (hs : a + b ≤ 8000) (m : Mem) :
    callF fns (k + 3) i__law_less [frq x, frq y] m = .ok (.val (frq (x - y))) m := by
  have e := sum_ok k hx hy.neg hs m
  rw [← Rat.sub_eq_add_neg, frq_eq (-y), Rat.neg_num, Rat.neg_den] at e
  rw [call_of f_lless, runD_eq rfl, frq_eq y]
  simp -implicitDefEqProofs [b__law_less, e, gc_val]
theorem change_ok (k : Nat) {a b : Nat} {x y : Rat} (hx : Sz a x) (hy : Sz b y) (h : 0 < x) (hs : a + b ≤ 8000) (m : Mem) :
    callF fns (k + 3) i__law_change [frq x, frq y] m = .ok (.val (frq (1 - y / x))) m := by
  have px := num_pos_of h
  have e1 : ((x.num.toNat : Nat) : Int) = x.num := by omega
  have s1 : mulOk y.num x.den = true := mulOk_of hy.1 (by simpa using hx.2) (by omega)
  have s3 : mulOk y.den x.num = true := mulOk_of (by simpa using hy.2) hx.1 (by omega)
  have h1 : x.num.toNat < 2 ^ a := by have := hx.1; omega
  have e : callF fns (k + 2) i__law_low [.int (y.num * x.den), .int (y.den * x.num)] m = .ok (.val (frq (y / x))) m := by
    have e := low_ok f_low (k + 1) (y.num * x.den) (d := y.den * x.num.toNat) (Nat.mul_ne_zero y.den_nz (by omega))
      (Sm.of (show y.den * x.num.toNat < 2 ^ (b + a) by rw [Nat.pow_add]; exact Nat.mul_lt_mul'' hy.2 h1) (by omega)) m
    rw [Int.natCast_mul, e1, div_mk y x h] at e
    exact e
  have e2 : callF fns (k + 2) i__law_rest [frq (y / x)] m = .ok (.val (frq (1 - y / x))) m := rest_ok f_rest (k + 1) _ m
  rw [call_of f_change, runD_eq rfl, frq_eq x, frq_eq y]
  simp -implicitDefEqProofs [b__law_change, s1, s3, e, e2, gc_val]
end K28
end SK28S
section SK28U
set_option Elab.async false
set_option linter.all false
set_option maxHeartbeats 2000000
/-! K28U: readings are right. -/
namespace K28
open PySem Mp
theorem f_readings : fns[i__law_are_readings_right]? = some ⟨1, 21, b__law_are_readings_right⟩ := rfl
theorem ok_share : PyData.strOk ("share" : Str) = true := by decide +kernel
theorem ok_unlike : PyData.strOk ("unlike" : Str) = true := by decide +kernel
theorem lo_share : lo (.str ("share" : Str)) = true := by decide +kernel
theorem lo_unlike : lo (.str ("unlike" : Str)) = true := by decide +kernel
theorem len_share : ("share" : Str).length = 5 := by decide +kernel
theorem len_unlike : ("unlike" : Str).length = 6 := by decide +kernel
theorem is_lists (k : Nat) {M : Mem} {a b : Nat} {ds : List DV} {ps : List PyData} (h1 : M[a]? = some (.lst ds)) (h2 : M[b]? = some (.lst ds)) (hs : (ds.mapM fun d => snap 39 M d) = some ps) (sh : Sh (.list ps)) :
    callF fns (k + 1) i__law_is [.ref a, .ref b] M = .ok (.val (.bl true)) M := by
  refine is_same f_is k (x := .list ps) ?_ ?_ sh
  · rw [snap_ref, h1]
    show Option.map PyData.list (ds.mapM fun d => snap 39 M d) = _
    rw [hs]
    rfl
  · rw [snap_ref, h2]
    show Option.map PyData.list (ds.mapM fun d => snap 39 M d) = _
    rw [hs]
    rfl
theorem is_val (k : Nat) {M : Mem} {d : DV} {p : PyData} (hs : snap 40 M d = some p) (sh : Sh p) : callF fns (k + 1) i__law_is [d, d] M = .ok (.val (.bl true)) M := is_same f_is k hs hs sh
theorem sh_q {q : Rat} {a : Nat} (h : Sz a q) (ha : a ≤ 1900) : Sh (.tuple [.int q.num, .int q.den]) := by
  obtain ⟨s1, s2⟩ := sh_frq h ha
  simp only [Int.natAbs_natCast] at s2
  exact ⟨by simp [PyData.showable, PyData.showableAll, s1, s2], by simp [wt, wts], by simp⟩
theorem one_by (H s : Rat) (h : 0 < H) : 1 - H * (1 - s) / H = s := by
  have : H ≠ 0 := by grind
  grind
theorem mul_lt_self {H s : Rat} (h : 0 < H) (h0 : 0 < s) : H * (1 - s) < H := by
  have : 0 < H * s := Rat.mul_pos h h0
  grind
theorem shareD_1 {H s : Rat} (h : 0 < H) (h0 : 0 < s) : shareD H (H * (1 - s)) = frq s := by
  unfold shareD
  rw [if_pos (mul_lt_self h h0), one_by H s h]
theorem shareD_2 {H y : Rat} (h : ¬ y < H) : shareD H y = .non := by
  unfold shareD
  rw [if_neg h]
/-- the room comes back -/
theorem room_back {ρ f r : Rat} (hf : 0 < f) (h0 : 0 < r) (h1 : r < 1) : roomD (ρ + f * r ^ 0) (ρ + f * r ^ 1) (ρ + f * r ^ 2) = frq ρ := by
  have e0 : r ^ 0 = 1 := Rat.pow_zero r
  have e1 : r ^ 1 = r := Rat.pow_one r
  have e2 : r ^ 2 = r * r := by rw [show (2 : Nat) = 1 + 1 from rfl, Rat.pow_succ, e1]
  rw [e0, e1, e2, Rat.mul_one]
  have p1 : 0 < f * (1 - r) := Rat.mul_pos hf (by grind)
  have p2 : 0 < f * (1 - r) * (1 - r) := Rat.mul_pos p1 (by grind)
  have p3 : 0 < f * (1 - r) * r := Rat.mul_pos p1 h0
  unfold roomD
  rw [if_neg (by grind), if_neg (by grind)]
  congr 1
  have q : ρ + f + (ρ + f * (r * r)) - (ρ + f * r + (ρ + f * r)) = f * (1 - r) * (1 - r) := by grind
  rw [q]
  generalize hz : f * (1 - r) * (1 - r) = z at *
  have e : (ρ + f) * (ρ + f * (r * r)) - (ρ + f * r) * (ρ + f * r) = ρ * z := by rw [← hz]; grind
  rw [e]
  have : z ≠ 0 := by grind
  grind
theorem roomD_even {a s : Rat} (h : 0 < s) : roomD a (a - s) (a - s - s) = .non := by
  unfold roomD
  rw [if_neg (by grind), if_pos (by grind)]
theorem roomD_wide {a s h : Rat} (hs : 0 < s) (hh : 0 < h) : roomD a (a - s) (a - s - (s + h)) = .non := by
  unfold roomD
  rw [if_neg (by grind), if_pos (by grind)]
theorem low_of (k : Nat) (M : Mem) (a : Int) (d : Nat) (hd : d ≠ 0) {b : Nat} (ha : a.natAbs < 2 ^ b) (h : d < 2 ^ b) (hb : b ≤ 8999) : ∃ ρ, callF fns (k + 1) i__law_low [.int a, .int d] M = .ok (.val (frq ρ)) M ∧ Sz b ρ :=
  ⟨mkRat a d, low_ok f_low k a hd (Sm.of h hb) M, Sz.mkRat ha h hd⟩
theorem readings_ok (k : Nat) {n : Nat} {m : Mem} (H : Hand m n) : ∃ m', callF fns (k + 10) i__law_are_readings_right [.ref n] m = .ok (.val (.bl true)) m' ∧ Gr n m m' := by
  obtain ⟨x, m1, b1, ⟨x0, xz⟩, g1⟩ := great_ok (k + 5) H
  obtain ⟨s, m2, b2, ⟨s0, s1, sz⟩, g2⟩ := share_ok (k + 5) (b := 67) (high := 100000000000000000000) (by decide) (by decide) (by decide) g1.hand
  obtain ⟨o, m3, b3, ⟨o0, o1, oz⟩, g3⟩ := share_ok (k + 5) (b := 67) (high := 100000000000000000000) (by decide) (by decide) (by decide) g2.hand
  have rs := rest_sz s0 s1 sz
  have ro := rest_sz o0 o1 oz
  have ps := r_pos s1
  have po := r_pos o1
  have a1 : callF fns (k + 9) i__law_rest [frq s] m3 = .ok (.val (frq (1 - s))) m3 := rest_ok f_rest (k + 8) s m3
  have a2 : callF fns (k + 9) i__law_rest [frq o] m3 = .ok (.val (frq (1 - o))) m3 := rest_ok f_rest (k + 8) o m3
  have a3 : callF fns (k + 9) i__law_by [frq x, frq (1 - s)] m3 = .ok (.val (frq (x * (1 - s)))) m3 := by_ok f_low f_by (k + 7) xz rs (by omega) m3
  have z2 := xz.mul rs
  have p2 : 0 < x * (1 - s) := Rat.mul_pos x0 ps
  have a4 : callF fns (k + 9) i__law_by [frq (x * (1 - s)), frq (1 - s)] m3 = .ok (.val (frq (x * (1 - s) * (1 - s)))) m3 := by_ok f_low f_by (k + 7) z2 rs (by omega) m3
  have a5 : callF fns (k + 9) i__law_by [frq (x * (1 - s)), frq (1 - o)] m3 = .ok (.val (frq (x * (1 - s) * (1 - o)))) m3 := by_ok f_low f_by (k + 7) z2 ro (by omega) m3
  have z3 := z2.mul rs
  have z4 := z2.mul ro
  have p3 : 0 < x * (1 - s) * (1 - s) := Rat.mul_pos p2 ps
  have p4 : 0 < x * (1 - s) * (1 - o) := Rat.mul_pos p2 po
  have a6 : callF fns (k + 9) i_share_by [frq x, frq (x * (1 - s))] m3 = .ok (.val (frq s)) m3 := by
    have := share_by_ok (k + 3) xz z2 x0 p2 (by omega) (by omega) m3
    rwa [shareD_1 x0 s0] at this
  have a7 : callF fns (k + 9) i_two_readings [frq x, frq (x * (1 - s)), frq (x * (1 - s) * (1 - s))] m3 = .ok (.val (twoD s s)) m3 := by
    have := two_ok (k + 3) xz z2 z3 x0 p2 p3 (by omega) (by omega) (by omega) m3
    rwa [one_by x s x0, one_by _ s p2] at this
  have a8 : callF fns (k + 9) i_two_readings [frq x, frq (x * (1 - s)), frq (x * (1 - s) * (1 - o))] m3 = .ok (.val (twoD s o)) m3 := by
    have := two_ok (k + 3) xz z2 z4 x0 p2 p4 (by omega) (by omega) (by omega) m3
    rwa [one_by x s x0, one_by _ o p2] at this
  have a9 : callF fns (k + 9) i_share_by [frq (x * (1 - s)), frq x] m3 = .ok (.val .non) m3 := by
    have := share_by_ok (k + 3) z2 xz p2 x0 (by omega) (by omega) m3
    rwa [shareD_2 (by have := mul_lt_self x0 s0; grind)] at this
  have a10 : callF fns (k + 9) i_share_by [frq x, frq x] m3 = .ok (.val .non) m3 := by
    have := share_by_ok (k + 3) xz xz x0 x0 (by omega) (by omega) m3
    rwa [shareD_2 (by grind)] at this
  have ne1 : twoD s s = .tup [.str "share", frq s] := if_pos rfl
  rw [ne1] at a7
  generalize hM5 : m3 ++ [MO.lst [frq s, .tup [.str "share", frq s], twoD s o, .non, .non], MO.lst [frq s, .tup [.str "share", frq s], twoD s o, .non, .non]] = M5
  have g5 : Gr n m2 M5 := by rw [← hM5]; exact g3.push _
  have a11 : callF fns (k + 9) i__law_is [.ref m3.length, .ref (m3.length + 1)] M5 = .ok (.val (.bl true)) M5 := by
    obtain ⟨t1, t2⟩ := sh_frq sz (by omega)
    obtain ⟨t3, t4⟩ := sh_frq oz (by omega)
    simp only [Int.natAbs_natCast] at t2 t4
    by_cases h : s = o
    · refine is_lists (k + 8) (ds := [frq s, .tup [.str "share", frq s], twoD s o, .non, .non]) (by rw [← hM5]; simp) (by rw [← hM5]; simp)
        (ps := [.tuple [.int s.num, .int s.den], .tuple [.str "share", .tuple [.int s.num, .int s.den]], .tuple [.str "share", .tuple [.int s.num, .int s.den]], .none, .none]) ?_ ⟨?_, ?_, ?_⟩
      · unfold twoD
        rw [if_pos h]
        simp [frq_eq, ok_share]
      · simp [PyData.showable, PyData.showableAll, t1, t2]
      · simp [wt, wts, len_share]
      · simp [lo_share]
    · refine is_lists (k + 8) (ds := [frq s, .tup [.str "share", frq s], twoD s o, .non, .non]) (by rw [← hM5]; simp) (by rw [← hM5]; simp)
        (ps := [.tuple [.int s.num, .int s.den], .tuple [.str "share", .tuple [.int s.num, .int s.den]], .tuple [.str "unlike", .tuple [.int s.num, .int s.den], .tuple [.int o.num, .int o.den]], .none, .none]) ?_ ⟨?_, ?_, ?_⟩
      · unfold twoD
        rw [if_neg h]
        simp [frq_eq, ok_share, ok_unlike]
      · simp [PyData.showable, PyData.showableAll, t1, t2, t3, t4]
      · simp [wt, wts, len_share, len_unlike]
      · simp [lo_share, lo_unlike]
  have a12 : callF fns (k + 9) i_share_by [frq (x * (1 - s)), frq (x * (1 - s) * (1 - o))] M5 = .ok (.val (frq o)) M5 := by
    have := share_by_ok (k + 3) z2 z4 p2 p4 (by omega) (by omega) M5
    rwa [shareD_1 p2 o0] at this
  have a13 : callF fns (k + 9) i__law_change [frq (x * (1 - s)), frq (x * (1 - s) * (1 - o))] M5 = .ok (.val (frq o)) M5 := by
    have := change_ok (k + 6) z2 z4 p2 (by omega) M5
    rwa [one_by _ o p2] at this
  have a14 : callF fns (k + 9) i__law_is [frq o, frq o] M5 = .ok (.val (.bl true)) M5 := is_val (k + 8) (frq_snap 38 M5 o) (sh_q oz (by omega))
  -- the room
  obtain ⟨y, m6, b6, ⟨y0, yz⟩, g6⟩ := great_ok (k + 5) g5.hand
  obtain ⟨u, m7, b7, u0, u1, g7⟩ := draw_ok f_draw (k + 8) (n := n) (many := 100000000000000000000) (by decide) (Sm.of (n := 67) (by decide) (by decide)) g6.hand
  obtain ⟨w, m8, b8, w0, w1, g8⟩ := draw_ok f_draw (k + 8) (n := n) (many := 1000000) (by decide) (Sm.of (n := 67) (by decide) (by decide)) g7.hand
  have g8' := g8.push [.lst [frq y, .tup [.int 0, .int 1], .tup [.int (-1 - u), .int (1 + w)]]]
  obtain ⟨d, m9, b9, hd, g9⟩ := any_ok f_draw f_any (k + 7) (s := m8.length) (ds := [frq y, .tup [.int 0, .int 1], .tup [.int (-1 - u), .int (1 + w)]]) g8'.hand (at_end _ _) (by have := g8.hand.lt; omega) (by simp) (by simp) (by
    intro d hd
    simp only [List.mem_cons, List.not_mem_nil, or_false] at hd
    rcases hd with rfl | rfl | rfl
    · exact nr_frq _
    · exact nr_tup (by simp)
    · exact nr_tup (by simp))
  obtain ⟨ra, rb, rfl, rb0, rz1, rz2⟩ : ∃ (ra : Int) (rb : Nat), d = .tup [.int ra, .int rb] ∧ rb ≠ 0 ∧ ra.natAbs < 2 ^ 134 ∧ rb < 2 ^ 134 := by
    simp only [List.mem_cons, List.not_mem_nil, or_false] at hd
    rcases hd with rfl | rfl | rfl
    · exact ⟨y.num, y.den, rfl, y.den_nz, yz.1, yz.2⟩
    · exact ⟨0, 1, rfl, by decide, by decide, by decide⟩
    · exact ⟨-1 - u, (1 + w).toNat, by rw [show (((1 + w).toNat : Nat) : Int) = 1 + w by omega], by omega, by omega, by omega⟩
  obtain ⟨ρ, b10, ρz⟩ := low_of (k + 8) m9 ra rb rb0 rz1 rz2 (by decide)
  obtain ⟨f, m10, b11, ⟨f0, fz⟩, g10⟩ := heat_ok (k + 5) (many := 1000000000000) (b := 40) (by decide) (by decide) (by decide) g9.hand
  obtain ⟨t, m11, b12, ⟨t0, t1, tz⟩, g11⟩ := share_ok (k + 5) (b := 30) (high := 1000000000) (by decide) (by decide) (by decide) g10.hand
  have rt := rest_sz t0 t1 tz
  have pt := r_pos t1
  have t2 : 1 - t < 1 := by grind
  have a15 : callF fns (k + 9) i__law_rest [frq t] m11 = .ok (.val (frq (1 - t))) m11 := rest_ok f_rest (k + 8) t m11
  have pw : ∀ i : Nat, i ≤ 2 → callF fns (k + 9) i__law_power [frq (1 - t), .int i] m11 = .ok (.val (frq ((1 - t) ^ i))) m11 := fun i hi => power_ok f_low f_power (k + 7) rt (by decide) (by omega) m11
  have pz : ∀ i : Nat, i ≤ 2 → Sz 65 ((1 - t) ^ i) := fun i hi => (rt.pow i (by decide)).mono (by omega)
  have bw : ∀ i : Nat, i ≤ 2 → callF fns (k + 9) i__law_by [frq f, frq ((1 - t) ^ i)] m11 = .ok (.val (frq (f * (1 - t) ^ i))) m11 := fun i hi => by_ok f_low f_by (k + 7) fz (pz i hi) (by omega) m11
  have wz : ∀ i : Nat, i ≤ 2 → Sz 106 (f * (1 - t) ^ i) := fun i hi => (fz.mul (pz i hi)).mono (by omega)
  have it3 : itD .range m11 [.val (.int 3)] = some ([.int 0, .int 1, .int 2], []) := it_range m11 3 (by decide)
  have pw0 : callF fns (k + 9) i__law_power [frq (1 - t), .int 0] m11 = .ok (.val (frq ((1 - t) ^ 0))) m11 := pw 0 (by decide)
  have pw1 : callF fns (k + 9) i__law_power [frq (1 - t), .int 1] m11 = .ok (.val (frq ((1 - t) ^ 1))) m11 := pw 1 (by decide)
  have pw2 : callF fns (k + 9) i__law_power [frq (1 - t), .int 2] m11 = .ok (.val (frq ((1 - t) ^ 2))) m11 := pw 2 (by decide)
  have bw0 := bw 0 (by decide)
  have bw1 := bw 1 (by decide)
  have bw2 := bw 2 (by decide)
  have rb' := @room_back ρ f (1 - t) f0 pt t2
  have wz0 := wz 0 (by decide)
  have wz1 := wz 1 (by decide)
  have wz2 := wz 2 (by decide)
  clear pw bw wz pz
  generalize (1 - t) ^ 0 = T0 at *
  generalize (1 - t) ^ 1 = T1 at *
  generalize (1 - t) ^ 2 = T2 at *
  generalize f * T0 = F0 at *
  generalize f * T1 = F1 at *
  generalize f * T2 = F2 at *
  generalize hM12 : m11 ++ [MO.lst [frq F0, frq F1, frq F2]] = M12
  have q12 : M12[m11.length]? = some (.lst [frq F0, frq F1, frq F2]) := by rw [← hM12]; simp
  have it12 := it_ref q12
  have l12 : M12.length = m11.length + 1 := by rw [← hM12]; simp
  have c0 : callF fns (k + 9) i__law_sum [frq ρ, frq F0] M12 = .ok (.val (frq (ρ + F0))) M12 := sum_ok (k + 7) ρz wz0 (by omega) M12
  have c1 : callF fns (k + 9) i__law_sum [frq ρ, frq F1] M12 = .ok (.val (frq (ρ + F1))) M12 := sum_ok (k + 7) ρz wz1 (by omega) M12
  have c2 : callF fns (k + 9) i__law_sum [frq ρ, frq F2] M12 = .ok (.val (frq (ρ + F2))) M12 := sum_ok (k + 7) ρz wz2 (by omega) M12
  have az := (ρz.add wz0).mono (show 134 + 106 + 1 ≤ 250 by omega)
  have bz := (ρz.add wz1).mono (show 134 + 106 + 1 ≤ 250 by omega)
  have cz := (ρz.add wz2).mono (show 134 + 106 + 1 ≤ 250 by omega)
  generalize ρ + F0 = A at *
  generalize ρ + F1 = B at *
  generalize ρ + F2 = C at *
  generalize hM13 : M12 ++ [MO.lst [frq A, frq B, frq C]] = M13
  have q13 : M13[m11.length + 1]? = some (.lst [frq A, frq B, frq C]) := by rw [← hM13, ← l12]; simp
  have sq13 : seqOf M13 (.val (.ref (m11.length + 1))) = some (true, [frq A, frq B, frq C], [m11.length + 1]) := by
    rw [seq_ref, q13]
    rfl
  have g13 : Gr n m10 M13 := by rw [← hM13, ← hM12]; exact (g11.push _).push _
  have c3 : callF fns (k + 9) i_room_told [frq A, frq B, frq C] M13 = .ok (.val (frq ρ)) M13 := by
    have := room_ok (k + 3) az bz cz (by omega) M13
    rwa [rb'] at this
  have c4 : callF fns (k + 9) i__law_is [frq ρ, frq ρ] M13 = .ok (.val (.bl true)) M13 := is_val (k + 8) (frq_snap 38 M13 ρ) (sh_q ρz (by omega))
  obtain ⟨st, m14, b14, ⟨st0, stz⟩, g14⟩ := heat_ok (k + 5) (many := 1000000000) (b := 30) (by decide) (by decide) (by decide) g13.hand
  obtain ⟨hh, m15, b15, ⟨hh0, hhz⟩, g15⟩ := heat_ok (k + 5) (many := 1000000) (b := 20) (by decide) (by decide) (by decide) g14.hand
  have c5 : ∀ M, callF fns (k + 9) i__law_less [frq A, frq st] M = .ok (.val (frq (A - st))) M := fun M => lless_ok (k + 6) az stz (by omega) M
  have ez := (az.sub stz).mono (show 250 + 31 + 1 ≤ 290 by omega)
  have c6 : callF fns (k + 9) i__law_sum [frq st, frq hh] m15 = .ok (.val (frq (st + hh))) m15 := sum_ok (k + 7) stz hhz (by omega) m15
  have shz := (stz.add hhz).mono (show 31 + 21 + 1 ≤ 60 by omega)
  have c7 : callF fns (k + 9) i__law_less [frq (A - st), frq (st + hh)] m15 = .ok (.val (frq (A - st - (st + hh)))) m15 := lless_ok (k + 6) ez shz (by omega) m15
  have c8 : callF fns (k + 9) i__law_less [frq (A - st), frq st] m15 = .ok (.val (frq (A - st - st))) m15 := lless_ok (k + 6) ez stz (by omega) m15
  have wz' := (ez.sub shz).mono (show 290 + 60 + 1 ≤ 400 by omega)
  have ez' := (ez.sub stz).mono (show 290 + 31 + 1 ≤ 400 by omega)
  have c9 : callF fns (k + 9) i_room_told [frq A, frq (A - st), frq (A - st - st)] m15 = .ok (.val .non) m15 := by
    have := room_ok (k + 3) (az.mono (show 250 ≤ 400 by omega)) (ez.mono (show 290 ≤ 400 by omega)) ez' (by omega) m15
    rwa [roomD_even st0] at this
  have c10 : callF fns (k + 9) i_room_told [frq A, frq (A - st), frq (A - st - (st + hh))] m15 = .ok (.val .non) m15 := by
    have := room_ok (k + 3) (az.mono (show 250 ≤ 400 by omega)) (ez.mono (show 290 ≤ 400 by omega)) wz' (by omega) m15
    rwa [roomD_wide st0 hh0] at this
  generalize hM16 : m15 ++ [MO.lst [.non, .non], MO.lst [.non, .non]] = M16
  have c11 : callF fns (k + 9) i__law_is [.ref m15.length, .ref (m15.length + 1)] M16 = .ok (.val (.bl true)) M16 := is_lists (k + 8) (ds := [.non, .non]) (ps := [.none, .none]) (by rw [← hM16]; simp) (by rw [← hM16]; simp) rfl ⟨by decide +kernel, by decide +kernel, by decide +kernel⟩
  have g16 : Gr n m14 M16 := by rw [← hM16]; exact g15.push _
  obtain ⟨m', e1, e2⟩ := gc_gr H ((((((((((g1.trans g2).trans g5).trans g6).trans g7).trans g8').trans g9).trans g10).trans g13).trans g14).trans g16) (nr_bl true)
  refine ⟨m', ?_, e2⟩
  have eqs := fun M => cmp_frq M o s
  have td : (if o = s then DV.tup [.str "share", frq s] else .tup [.str "unlike", frq s, frq o]) = twoD s o := by
    unfold twoD
    by_cases h : s = o
    · rw [if_pos h, if_pos h.symm]
    · rw [if_neg h, if_neg (fun e => h e.symm)]
  have l5 : ∀ a : MO, (m3 ++ [a]).length = m3.length + 1 := fun a => by simp
  have pp : binI .pow 10 20 = some 100000000000000000000 := rfl
  have pq : binI .pow 10 6 = some 1000000 := rfl
  have pr : binI .pow 10 12 = some 1000000000000 := rfl
  have pt' : binI .pow 10 9 = some 1000000000 := rfl
  have u' : (0 : Int) - 1 - u = -1 - u := by omega
  generalize hK : k + 9 = K at *
  rw [call_of f_readings, runD_eq rfl, hK]
  by_cases ho : o = s
  · rw [if_pos ho] at td
    rw [decide_eq_true ho] at eqs
    rw [← td] at hM5 a8
    simp -implicitDefEqProofs [-cmp_eq, b__law_are_readings_right, pp, pq, pr, pt', b1, b2, b3, a1, a2, a3, a4, a5, a6, a7, a8, a9, a10, eqs, hM5, a11, a12, a13, a14, b6, b7, b8, u', b9, b10, b11, b12, ev_comp, it3, loopC_cons, loopC_nil, a15, pw0, pw1, pw2, bw0, bw1, bw2, sizeLine, hM12, evS_asgl, it12, c0, c1, c2, l12, hM13, sq13, c3, c4, b14, c5, b15, c6, c7, c8, c9, c10, hM16, c11, e1]
  · rw [if_neg ho] at td
    rw [decide_eq_false ho] at eqs
    rw [← td] at hM5 a8
    simp -implicitDefEqProofs [-cmp_eq, b__law_are_readings_right, pp, pq, pr, pt', b1, b2, b3, a1, a2, a3, a4, a5, a6, a7, a8, a9, a10, eqs, hM5, a11, a12, a13, a14, b6, b7, b8, u', b9, b10, b11, b12, ev_comp, it3, loopC_cons, loopC_nil, a15, pw0, pw1, pw2, bw0, bw1, bw2, sizeLine, hM12, evS_asgl, it12, c0, c1, c2, l12, hM13, sq13, c3, c4, b14, c5, b15, c6, c7, c8, c9, c10, hM16, c11, e1]
end K28
end SK28U
section SK28V
set_option Elab.async false
set_option linter.all false
set_option maxHeartbeats 2000000
/-! K28V: clocks are right. -/
namespace K28
open PySem Mp
theorem f_clocks : fns[i__law_are_clocks_right]? = some ⟨1, 9, b__law_are_clocks_right⟩ := rfl
def clockBody : Ss := (.cons (.asg (.nm 5) (.call 14 (.cons (.v 1) (.cons (.v 2) (.cons (.v 4) .nil)))))
  (.cons (.ife (.not (.call 27 (.cons (.call 21 (.cons (.v 1) (.cons (.v 2) (.cons (.v 5) (.cons (.v 3) .nil))))) (.cons (.bin .mod (.blt .int (.cons (.bin .sub (.v 3) (.v 4)) .nil)) (.c (.int 24))) .nil))))
   (.cons (.ret (.c (.bl false)))
   .nil)
   .nil)
  (.cons (.asg (.nm 6) (.call 30 (.cons (.v 5) (.cons (.call 31 (.cons (.v 2) .nil)) .nil))))
  (.cons (.asg (.tup [.nm 7, .nm 8]) (.tup (.cons (.call 28 (.cons (.bin .add (.ix (.v 5) (.c (.int 0))) (.ix (.v 6) (.c (.int 0)))) (.cons (.bin .add (.ix (.v 5) (.c (.int 1))) (.ix (.v 6) (.c (.int 1)))) .nil))) (.cons (.call 28 (.cons (.bin .add (.ix (.v 1) (.c (.int 0))) (.c (.int 1))) (.cons (.ix (.v 1) (.c (.int 1))) .nil))) .nil))))
  (.cons (.ife (.not (.call 27 (.cons (.lst (.cons (.call 21 (.cons (.v 1) (.cons (.v 2) (.cons (.v 7) (.cons (.v 3) .nil))))) (.cons (.call 21 (.cons (.v 1) (.cons (.v 2) (.cons (.v 8) (.cons (.v 3) .nil))))) .nil))) (.cons (.lst (.cons (.c (.non)) (.cons (.c (.non)) .nil))) .nil))))
   (.cons (.ret (.c (.bl false)))
   .nil)
   .nil)
  .nil)))))
theorem began_hours (n c : Int) : beganD (hoursT n) c = .int ((c - n) % 24) := by simp [beganD, hoursT]
theorem began_between (n c : Int) : beganD (betweenT n) c = .non := by
  have w4 : ("between" : Str) ≠ ("hours" : Str) := by decide +kernel
  simp [beganD, betweenT, w4]
theorem began_hotter (c : Int) : beganD hotter c = .non := by simp [beganD, hotter]
theorem clock_turn (k : Nat) {x s : Rat} (x0 : 0 < x) (xz : Sz 31 x) (s0 : 0 < s) (s1 : s < 1) (sz : Sz 6 s) {c : Int} (c0 : 0 ≤ c) (c1 : c ≤ 23) {h : Nat} (hh : h ≤ 40) (D e5 e6 e7 e8 : Option DV) (M : Mem) :
    ∃ e5' e6' e7' e8', evSs (callF fns (k + 9)) clockBody [D, some (frq x), some (frq s), some (.int c), some (.int h), e5, e6, e7, e8] M
      = .ok (.nx [D, some (frq x), some (frq s), some (.int c), some (.int h), e5', e6', e7', e8']) (M ++ [.lst [.non, .non], .lst [.non, .non]]) := by
  have rz := rest_sz s0 s1 sz
  have rp := r_pos s1
  have zp := rz.pow h (by decide)
  have nz := (xz.mul zp).mono (show 31 + (6 * h + 1) ≤ 300 by omega)
  have np : 0 < x * (1 - s) ^ h := Rat.mul_pos x0 (Rat.pow_pos rp)
  have sz7 := sz.mono (show 6 ≤ 7 by omega)
  have xz110 := xz.mono (show 31 ≤ 110 by omega)
  have a1 : callF fns (k + 9) i_heat_after [frq x, frq s, .int h] M = .ok (.val (frq (x * (1 - s) ^ h))) M := heat_after_ok (k + 3) xz x0 (by decide) sz s0 s1 (by omega) hh M
  have O1 : Ok x s (x * (1 - s) ^ h) := ⟨x0, np, s0, s1, xz110, sz7, nz.mono (by omega)⟩
  have a2 : callF fns (k + 9) i_began_at [frq x, frq s, frq (x * (1 - s) ^ h), .int c] M = .ok (.val (.int ((c - h) % 24))) M := by
    have := began_ok (k + 2) O1 c0 c1 M
    rwa [told_hours x0 s0 s1 (by omega), began_hours] at this
  have m1 : binI .mod (c - h) 24 = some ((c - h) % 24) := binI_mod (by decide)
  have b1 : 0 ≤ (c - h) % 24 ∧ (c - h) % 24 < 24 := by omega
  generalize (c - (h : Int)) % 24 = v at *
  have a3 : callF fns (k + 9) i__law_is [.int v, .int v] M = .ok (.val (.bl true)) M := is_val (k + 8) rfl ⟨by
    have : v.natAbs.log2 ≤ 5 := log2_le (by omega)
    simp [PyData.showable]
    omega, by simp [wt], by simp⟩
  have a4 : callF fns (k + 9) i__law_rest [frq s] M = .ok (.val (frq (1 - s))) M := rest_ok f_rest (k + 8) s M
  have a5 : callF fns (k + 9) i__law_by [frq (x * (1 - s) ^ h), frq (1 - s)] M = .ok (.val (frq (x * (1 - s) ^ (h + 1)))) M := by
    have := by_ok f_low f_by (k + 7) nz rz (by omega) M
    rwa [Rat.mul_assoc, ← Rat.pow_succ] at this
  have lz := (xz.mul (rz.pow (h + 1) (by decide))).mono (show 31 + (6 * (h + 1) + 1) ≤ 300 by omega)
  have med := med_lt (step_lt x0 s0 s1 h)
  have lp : 0 < x * (1 - s) ^ (h + 1) := Rat.mul_pos x0 (Rat.pow_pos rp)
  have ne : (x * (1 - s) ^ h).den + (x * (1 - s) ^ (h + 1)).den ≠ 0 := by have := (x * (1 - s) ^ h).den_nz; omega
  have sN : ((x * (1 - s) ^ h).num + (x * (1 - s) ^ (h + 1)).num).natAbs < 2 ^ 301 := by
    have u1 := nz.1
    have u2 := lz.1
    have := Int.natAbs_add_le (x * (1 - s) ^ h).num (x * (1 - s) ^ (h + 1)).num
    rw [Nat.pow_succ]
    omega
  have sD : (x * (1 - s) ^ h).den + (x * (1 - s) ^ (h + 1)).den < 2 ^ 301 := by
    have v1 := nz.2
    have v2 := lz.2
    rw [Nat.pow_succ]
    omega
  have a6 : callF fns (k + 9) i__law_low [.int ((x * (1 - s) ^ h).num + (x * (1 - s) ^ (h + 1)).num), .int (((x * (1 - s) ^ h).den : Int) + ((x * (1 - s) ^ (h + 1)).den : Int))] M = .ok (.val (frq (mkRat ((x * (1 - s) ^ h).num + (x * (1 - s) ^ (h + 1)).num) ((x * (1 - s) ^ h).den + (x * (1 - s) ^ (h + 1)).den)))) M := low_ok f_low (k + 8) _ ne (Sm.of sD (by decide)) M
  have mz : Sz 301 (mkRat ((x * (1 - s) ^ h).num + (x * (1 - s) ^ (h + 1)).num) ((x * (1 - s) ^ h).den + (x * (1 - s) ^ (h + 1)).den)) := Sz.mkRat sN sD ne
  generalize mkRat ((x * (1 - s) ^ h).num + (x * (1 - s) ^ (h + 1)).num) ((x * (1 - s) ^ h).den + (x * (1 - s) ^ (h + 1)).den) = me at med a6 mz
  have O2 : Ok x s me := ⟨x0, by grind, s0, s1, xz110, sz7, mz.mono (by omega)⟩
  have a7 : callF fns (k + 9) i_began_at [frq x, frq s, frq me, .int c] M = .ok (.val .non) M := by
    have := began_ok (k + 2) O2 c0 c1 M
    rwa [told_between x0 s0 s1 (show h ≤ 60 by omega) med.1 med.2, began_between] at this
  have a8 : callF fns (k + 9) i__law_low [.int (x.num + 1), .int x.den] M = .ok (.val (frq (mkRat (x.num + 1) x.den))) M := low_ok f_low (k + 8) (x.num + 1) x.den_nz (Sm.of xz.2 (by decide)) M
  have az : Sz 32 (mkRat (x.num + 1) x.den) := Sz.mkRat (by have := xz.1; rw [Nat.pow_succ]; omega) (by have := xz.2; rw [Nat.pow_succ]; omega) x.den_nz
  have gt := @succ_gt x
  generalize mkRat (x.num + 1) x.den = ab at a8 az gt
  have O3 : Ok x s ab := ⟨x0, by grind, s0, s1, xz110, sz7, az.mono (by omega)⟩
  have a9 : callF fns (k + 9) i_began_at [frq x, frq s, frq ab, .int c] M = .ok (.val .non) M := by
    have := began_ok (k + 2) O3 c0 c1 M
    rwa [told_hotter gt, began_hotter] at this
  generalize hM2 : M ++ [MO.lst [.non, .non], MO.lst [.non, .non]] = M2
  have a10 : callF fns (k + 9) i__law_is [.ref M.length, .ref (M.length + 1)] M2 = .ok (.val (.bl true)) M2 := is_lists (k + 8) (ds := [.non, .non]) (ps := [.none, .none]) (by rw [← hM2]; simp) (by rw [← hM2]; simp) rfl ⟨by decide +kernel, by decide +kernel, by decide +kernel⟩
  generalize x * (1 - s) ^ (h + 1) = L at *
  generalize x * (1 - s) ^ h = N at *
  refine ⟨some (frq N), some (frq L), some (frq me), some (frq ab), ?_⟩
  simp -implicitDefEqProofs [clockBody, a1, a2, m1, a3, a4, a5, i0, i1, a6, a7, a8, a9, hM2, a10]
theorem clocks_ok (k : Nat) {n : Nat} {m : Mem} (H : Hand m n) : ∃ m', callF fns (k + 10) i__law_are_clocks_right [.ref n] m = .ok (.val (.bl true)) m' ∧ Gr n m m' := by
  obtain ⟨x, m1, b1, ⟨x0, xz⟩, g1⟩ := heat_ok (k + 5) (many := 1000000000) (b := 30) (by decide) (by decide) (by decide) H
  obtain ⟨s, m2, b2, ⟨s0, s1, sz⟩, g2⟩ := share_ok (k + 5) (b := 5) (high := 30) (by decide) (by decide) (by decide) g1.hand
  obtain ⟨c, m3, b3, c0, c1, g3⟩ := draw_ok f_draw (k + 8) (n := n) (many := 24) (by decide) (Sm.of (n := 7) (by decide) (by decide)) g2.hand
  obtain ⟨h1, m4, b4, h10, h11, g4⟩ := draw_ok f_draw (k + 8) (n := n) (many := 41) (by decide) (Sm.of (n := 7) (by decide) (by decide)) g3.hand
  obtain ⟨h1, rfl⟩ : ∃ a : Nat, h1 = a := ⟨h1.toNat, by omega⟩
  have g4' : Gr n m3 (m4 ++ [.lst [.int 0, .int 23, .int 24, .int 25, .int 40]]) := g4.push _
  obtain ⟨d, m5, b5, hd, g5⟩ := any_ok f_draw f_any (k + 7) (s := m4.length) (ds := [.int 0, .int 23, .int 24, .int 25, .int 40]) g4'.hand (at_end _ _) (by have := g4.hand.lt; omega) (by simp) (by simp) (by simp)
  obtain ⟨h2, rfl, h20⟩ := small_any (l := [0, 23, 24, 25, 40]) (N := 40) hd (by
    intro i hi
    simp only [List.mem_cons, List.not_mem_nil, or_false] at hi
    omega)
  obtain ⟨p5, p6, p7, p8, t1⟩ := clock_turn k x0 xz s0 s1 sz c0 (by omega) (h := h1) (by omega) (some (.ref n)) none none none none m5
  obtain ⟨q5, q6, q7, q8, t2⟩ := clock_turn k x0 xz s0 s1 sz c0 (by omega) (h := h2) h20 (some (.ref n)) p5 p6 p7 p8 (m5 ++ [.lst [.non, .non], .lst [.non, .non]])
  have g6 := (g5.push [.lst [.non, .non], .lst [.non, .non]]).push [.lst [.non, .non], .lst [.non, .non]]
  obtain ⟨m', e1, e2⟩ := gc_gr H ((((g1.trans g2).trans g3).trans g4').trans g6) (nr_bl true)
  refine ⟨m', ?_, e2⟩
  have pt' : binI .pow 10 9 = some 1000000000 := rfl
  have fl : forL (.nm 4) (evSs (callF fns (k + 9)) clockBody) (same [] m5) [.int h1, .int h2] [some (.ref n), some (frq x), some (frq s), some (.int c), none, none, none, none, none] m5
      = .ok (.nx [some (.ref n), some (frq x), some (frq s), some (.int c), some (.int h2), q5, q6, q7, q8]) (m5 ++ [.lst [.non, .non], .lst [.non, .non]] ++ [.lst [.non, .non], .lst [.non, .non]]) := by
    rw [forL_cons, put_nm]
    show (evSs _ clockBody [some (.ref n), some (frq x), some (frq s), some (.int c), some (.int h1), none, none, none, none] m5).bind _ = _
    rw [t1, Res.bind_ok]
    dsimp only
    rw [if_pos (same_nil _ _), forL_cons, put_nm]
    show (evSs _ clockBody [some (.ref n), some (frq x), some (frq s), some (.int c), some (.int h2), p5, p6, p7, p8] _).bind _ = _
    rw [t2, Res.bind_ok]
    dsimp only
    rw [if_pos (same_nil _ _), forL_nil]
  unfold clockBody at fl
  generalize m5 ++ [MO.lst [.non, .non], MO.lst [.non, .non]] ++ [MO.lst [.non, .non], MO.lst [.non, .non]] = M6 at *
  rw [call_of f_clocks, runD_eq rfl]
  generalize hK : k + 9 = K at *
  simp -implicitDefEqProofs [b__law_are_clocks_right, pt', b1, b2, b3, evS_for, b4, b5, fl, e1]
end K28
end SK28V
section SK28W
set_option Elab.async false
set_option linter.all false
set_option maxHeartbeats 2000000
/-! K28W: mixes are right. -/
namespace K28
open PySem Mp
theorem f_mixes : fns[i__law_are_mixes_right]? = some ⟨1, 14, b__law_are_mixes_right⟩ := rfl
theorem inv_frq {d : Nat} (h : d ≠ 0) : DV.tup [.int 1, .int d] = frq (mkRat 1 d) := by
  rw [frq_eq, Rat.num_mkRat, Rat.den_mkRat, if_neg h, if_neg h]
  simp
theorem greats_loop (k : Nat) {n : Nat} (m0 : Mem) (env : LE) (he : env[0]? = some (some (.ref n))) : ∀ (ds : List DV) (m : Mem), Hand m n →
    ∃ (qs : List Rat) (m' : Mem), loopC (turnC (callF fns (k + 9)) (.call 34 (.cons (.v 0) .nil)) (.nm 12) .nil env) (same [] m0) ds m = .ok (qs.map frq) m' ∧ qs.length = ds.length ∧ (∀ q ∈ qs, 0 < q ∧ Sz 134 q) ∧ Gr n m m'
  | [], m, H => ⟨[], m, rfl, rfl, (by simp), Gr.refl H⟩
  | d :: ds, m, H => by
    obtain ⟨x, m1, b1, hx, g1⟩ := great_ok (k + 5) H
    obtain ⟨qs, m2, e, l, hq, g2⟩ := greats_loop k m0 env he ds m1 g1.hand
    refine ⟨x :: qs, m2, ?_, by simp [l], ?_, g1.trans g2⟩
    · rw [loopC_cons, turnC_eq (put_nm _ _ _)]
      have e0 : (env.set 12 (some d))[0]? = some (some (.ref n)) := by rw [List.getElem?_set_ne (by decide)]; exact he
      simp -implicitDefEqProofs [e0, b1, e]
    · intro q h
      rcases List.mem_cons.mp h with rfl | h
      · exact hx
      · exact hq q h
theorem cooled_snap (M : Mem) (s : Rat) (qs : List Rat) : snap 40 M (.tup (qs.map fun q => frq (q * (1 - s)))) = some (.tuple (qs.map fun q => .tuple [.int (q * (1 - s)).num, .int (q * (1 - s)).den])) := by
  rw [snap_tup]
  have : ((qs.map fun q => frq (q * (1 - s))).mapM fun d => snap 39 M d) = some (qs.map fun q => .tuple [.int (q * (1 - s)).num, .int (q * (1 - s)).den]) := by
    induction qs with
    | nil => rfl
    | cons q qs ih => rw [List.map_cons, mapM_c, ih, frq_snap]; rfl
  rw [this]
  rfl
theorem cooled_sh {s : Rat} {qs : List Rat} {a : Nat} (h : ∀ q ∈ qs, Sz a (q * (1 - s))) (ha : a ≤ 1900) (hl : qs.length ≤ 6) : Sh (.tuple (qs.map fun q => .tuple [.int (q * (1 - s)).num, .int (q * (1 - s)).den])) := by
  have key : ∀ qs : List Rat, (∀ q ∈ qs, Sz a (q * (1 - s))) → PyData.showableAll (qs.map fun q => PyData.tuple [.int (q * (1 - s)).num, .int (q * (1 - s)).den]) = true ∧ wts (qs.map fun q => PyData.tuple [.int (q * (1 - s)).num, .int (q * (1 - s)).den]) = 3 * qs.length ∧ los (qs.map fun q => PyData.tuple [.int (q * (1 - s)).num, .int (q * (1 - s)).den]) = true := by
    intro qs
    induction qs with
    | nil => intro _; exact ⟨by simp [PyData.showableAll], by simp [wts], by simp⟩
    | cons q qs ih =>
      intro h
      obtain ⟨h1, h2, h3⟩ := ih fun q' hq => h q' (by simp [hq])
      obtain ⟨s1, s2, s3⟩ := sh_q (h q (by simp)) ha
      refine ⟨?_, ?_, ?_⟩
      · rw [List.map_cons, PyData.showableAll, s1, h1]; rfl
      · rw [List.map_cons, wts, h2, wt]
        simp [wts, wt]
        omega
      · rw [List.map_cons, los_cons, s3, h3]; rfl
  obtain ⟨h1, h2, h3⟩ := key qs h
  exact ⟨by rw [PyData.showable]; exact h1, by rw [wt, h2]; omega, by rw [lo_tuple]; exact h3⟩
theorem mk_half (p q : Nat) (h : 1 ≤ p) : ((p : Int) : Rat) + ((q : Int) : Rat) ≠ 0 ∧ mkRat 1 (p + q) = 1 / (((p : Int) : Rat) + ((q : Int) : Rat)) := by
  have e : mkRat 1 (p + q) = ((1 : Int) : Rat) / ((p + q : Nat) : Rat) := Rat.mkRat_eq_div _ _
  have e2 : ((p + q : Nat) : Rat) = ((p : Int) : Rat) + ((q : Int) : Rat) := by rw [Rat.natCast_add]; rfl
  have e3 : (0 : Rat) < ((p + q : Nat) : Rat) := Rat.natCast_pos.mpr (by omega)
  rw [e2] at e e3
  exact ⟨by grind, e⟩
theorem mixes_ok (k : Nat) {n : Nat} {m : Mem} (H : Hand m n) : ∃ m', callF fns (k + 10) i__law_are_mixes_right [.ref n] m = .ok (.val (.bl true)) m' ∧ Gr n m m' := by
  obtain ⟨x, m1, b1, ⟨x0, xz⟩, g1⟩ := great_ok (k + 5) H
  obtain ⟨y, m2, b2, ⟨y0, yz⟩, g2⟩ := great_ok (k + 5) g1.hand
  obtain ⟨p', m3, b3, p0, p1, g3⟩ := draw_ok f_draw (k + 8) (n := n) (many := 20) (by decide) (Sm.of (n := 7) (by decide) (by decide)) g2.hand
  obtain ⟨q', m4, b4, q0, q1, g4⟩ := draw_ok f_draw (k + 8) (n := n) (many := 20) (by decide) (Sm.of (n := 7) (by decide) (by decide)) g3.hand
  obtain ⟨p, hp⟩ : ∃ p : Nat, 1 + p' = p := ⟨(1 + p').toNat, by omega⟩
  obtain ⟨q, hq⟩ : ∃ q : Nat, 1 + q' = q := ⟨(1 + q').toNat, by omega⟩
  have zp : Sz 5 ((p : Int) : Rat) := int_sz (by omega) (by decide)
  have zq : Sz 5 ((q : Int) : Rat) := int_sz (by omega) (by decide)
  have zi : Sz 6 (mkRat 1 (p + q)) := Sz.mkRat (by decide) (by omega) (by omega)
  have z1 := xz.mul zp
  have z2 := yz.mul zq
  have z3 := z1.add z2
  have zR := z3.mul zi
  have a1 : callF fns (k + 9) i__law_by [frq x, .tup [.int p, .int 1]] m4 = .ok (.val (frq (x * (p : Int)))) m4 := by
    rw [int_frq]
    exact by_ok f_low f_by (k + 7) xz zp (by omega) m4
  have a2 : callF fns (k + 9) i__law_by [frq y, .tup [.int q, .int 1]] m4 = .ok (.val (frq (y * (q : Int)))) m4 := by
    rw [int_frq]
    exact by_ok f_low f_by (k + 7) yz zq (by omega) m4
  have a3 : callF fns (k + 9) i__law_sum [frq (x * (p : Int)), frq (y * (q : Int))] m4 = .ok (.val (frq (x * (p : Int) + y * (q : Int)))) m4 := sum_ok (k + 7) z1 z2 (by omega) m4
  have a4 : callF fns (k + 9) i__law_by [frq (x * (p : Int) + y * (q : Int)), .tup [.int 1, .int (p + q)]] m4 = .ok (.val (frq ((x * (p : Int) + y * (q : Int)) * mkRat 1 (p + q)))) m4 := by
    have e : DV.tup [.int 1, .int ((p : Int) + q)] = frq (mkRat 1 (p + q)) := inv_frq (d := p + q) (by omega)
    rw [e]
    exact by_ok f_low f_by (k + 7) z3 zi (by omega) m4
  obtain ⟨n0, hmk⟩ := mk_half p q (by omega)
  have a5 : callF fns (k + 9) i_mixed_heat [frq x, frq y, .tup [.int p, .int q]] m4 = .ok (.val (frq ((x * (p : Int) + y * (q : Int)) * mkRat 1 (p + q)))) m4 := mixed_ok (k + 3) xz yz x0 y0 (by omega) (by omega) (by omega) (by omega) (by omega) (by omega) m4
  have a6 : callF fns (k + 9) i_mixed_heat [frq y, frq x, .tup [.int q, .int p]] m4 = .ok (.val (frq ((x * (p : Int) + y * (q : Int)) * mkRat 1 (p + q)))) m4 := by
    have := mixed_ok (k + 3) yz xz y0 x0 (by omega) (by omega) (p := q) (q := p) (by omega) (by omega) (by omega) (by omega) m4
    rwa [Nat.add_comm q p, Rat.add_comm] at this
  have a7 : callF fns (k + 9) i_mixed_heat [frq x, frq x, .tup [.int p, .int q]] m4 = .ok (.val (frq x)) m4 := by
    have := mixed_ok (k + 3) xz xz x0 x0 (by omega) (by omega) (p := p) (q := q) (by omega) (by omega) (by omega) (by omega) m4
    rw [hmk, ← Rat.mul_add] at this
    rwa [show x * (((p : Int) : Rat) + ((q : Int) : Rat)) * (1 / (((p : Int) : Rat) + ((q : Int) : Rat))) = x by grind] at this
  have h12 : DV.tup [.int 1, .int 2] = frq (mkRat 1 2) := by decide +kernel
  have zh : Sz 2 (mkRat 1 2) := ⟨by decide +kernel, by decide +kernel⟩
  have a8 : callF fns (k + 9) i_mixed_heat [frq x, frq y, .tup [.int 1, .int 1]] m4 = .ok (.val (frq ((x + y) * mkRat 1 2))) m4 := by
    have := mixed_ok (k + 3) xz yz x0 y0 (by omega) (by omega) (p := 1) (q := 1) (by omega) (by omega) (by omega) (by omega) m4
    rw [show x * (((1 : Nat) : Int) : Rat) + y * (((1 : Nat) : Int) : Rat) = x + y by
      have : ((((1 : Nat) : Int)) : Rat) = 1 := rfl
      rw [this]; grind] at this
    exact this
  generalize hM5 : m4 ++ [MO.lst [frq ((x * (p : Int) + y * (q : Int)) * mkRat 1 (p + q)), frq ((x * (p : Int) + y * (q : Int)) * mkRat 1 (p + q)), frq x, frq ((x + y) * mkRat 1 2)]] = M5
  have g5 : Gr n m3 M5 := by rw [← hM5]; exact g4.push _
  have zs := xz.add yz
  have a9 : callF fns (k + 9) i__law_sum [frq x, frq y] M5 = .ok (.val (frq (x + y))) M5 := sum_ok (k + 7) xz yz (by omega) M5
  have a10 : callF fns (k + 9) i__law_by [frq (x + y), .tup [.int 1, .int 2]] M5 = .ok (.val (frq ((x + y) * mkRat 1 2))) M5 := by
    rw [h12]
    exact by_ok f_low f_by (k + 7) zs zh (by omega) M5
  have zH := zs.mul zh
  generalize hR : (x * (p : Int) + y * (q : Int)) * mkRat 1 (p + q) = R at *
  generalize (x + y) * mkRat 1 2 = Hf at *
  generalize hM6 : M5 ++ [MO.lst [frq R, frq R, frq x, frq Hf]] = M6
  have l5 : M5.length = m4.length + 1 := by rw [← hM5]; simp
  have g6 : Gr n m3 M6 := by rw [← hM6]; exact g5.push _
  have a11 : callF fns (k + 9) i__law_is [.ref m4.length, .ref (m4.length + 1)] M6 = .ok (.val (.bl true)) M6 := by
    obtain ⟨t1, t2⟩ := sh_frq zR (by omega)
    obtain ⟨t3, t4⟩ := sh_frq xz (by omega)
    obtain ⟨t5, t6⟩ := sh_frq zH (by omega)
    simp only [Int.natAbs_natCast] at t2 t4 t6
    refine is_lists (k + 8) (ds := [frq R, frq R, frq x, frq Hf]) (by rw [← hM6, ← hM5]; simp) (by rw [← hM6, ← l5]; simp)
      (ps := [.tuple [.int R.num, .int R.den], .tuple [.int R.num, .int R.den], .tuple [.int x.num, .int x.den], .tuple [.int Hf.num, .int Hf.den]]) ?_ ⟨?_, ?_, ?_⟩
    · simp [frq_eq]
    · simp [PyData.showable, PyData.showableAll, t1, t2, t3, t4, t5, t6]
    · simp [wt, wts]
    · simp
  obtain ⟨s, m7, b7, ⟨s0, s1, sz⟩, g7⟩ := share_ok (k + 5) (b := 67) (high := 100000000000000000000) (by decide) (by decide) (by decide) g6.hand
  have rs := rest_sz s0 s1 sz
  have ps := r_pos s1
  obtain ⟨c', m8, b8, c0, c1, g8⟩ := draw_ok f_draw (k + 8) (n := n) (many := 6) (by decide) (Sm.of (n := 7) (by decide) (by decide)) g7.hand
  obtain ⟨c, hc⟩ : ∃ c : Nat, 1 + c' = c := ⟨(1 + c').toNat, by omega⟩
  have it := it_range m8 c (by omega)
  obtain ⟨qs, m9, b9, lq, hqs, g9⟩ := greats_loop k m8 [some (.ref n), some (frq x), some (frq y), some (.int p), some (.int q), some (frq R), some (.ref m4.length), some (frq Hf), some (frq s), none, none, none, none, none] rfl ((List.range c).map fun i => .int (i : Nat)) m8 g8.hand
  have lq' : qs.length = c := by rw [lq, List.length_map, List.length_range]
  have a12 : callF fns (k + 9) i_cooled_by [.tup (qs.map frq), frq s] m9 = .ok (.val (.tup (qs.map fun q => frq (q * (1 - s))))) m9 := cooled_ok (k + 3) hqs sz s0 s1 (by omega) (by omega) (by omega) m9
  have a13 : callF fns (k + 9) i__law_rest [frq s] m9 = .ok (.val (frq (1 - s))) m9 := rest_ok f_rest (k + 8) s m9
  have lp : ∀ D : Option DV, loopC (turnC (callF fns (k + 9)) (.call 30 (.cons (.v 13) (.cons (.call 31 (.cons (.v 8) .nil)) .nil))) (.nm 13) .nil [some (.ref n), some (frq x), some (frq y), some (.int p), some (.int q), some (frq R), some (.ref m4.length), some (frq Hf), some (frq s), D, none, none, none, none]) (same [] m9) (qs.map frq) m9 = .ok (qs.map fun q => frq (q * (1 - s))) m9 := by
    clear a12 b9 lq lq'
    intro D
    induction qs with
    | nil => rfl
    | cons q qs ih =>
      have e : callF fns (k + 9) i__law_by [frq q, frq (1 - s)] m9 = .ok (.val (frq (q * (1 - s)))) m9 := by_ok f_low f_by (k + 7) (hqs q (by simp)).2 rs (by omega) m9
      have ih' := ih fun q' h' => hqs q' (by simp [h'])
      rw [List.map_cons, loopC_cons, turnC_eq (put_nm _ _ _), List.map_cons]
      simp -implicitDefEqProofs [e, a13, ih']
  have sh9 : Sh (.tuple (qs.map fun q => .tuple [.int (q * (1 - s)).num, .int (q * (1 - s)).den])) := cooled_sh (fun q h => (hqs q h).2.mul rs) (by omega) (by omega)
  have a14 : callF fns (k + 9) i__law_is [.tup (qs.map fun q => frq (q * (1 - s))), .tup (qs.map fun q => frq (q * (1 - s)))] m9 = .ok (.val (.bl true)) m9 := is_val (k + 8) (cooled_snap m9 s qs) sh9
  have l3 : (qs.map frq).length < sizeLine := by rw [List.length_map]; unfold sizeLine; omega
  have l4 : (qs.map fun q => frq (q * (1 - s))).length < sizeLine := by rw [List.length_map]; unfold sizeLine; omega
  have tb : ∀ ds : List DV, bltD .tuple m9 [.new (.lst ds)] = some (.val (.tup ds)) := fun _ => rfl
  have a15 : callF fns (k + 9) i_cooled_by [.tup [frq x, frq y], frq s] m9 = .ok (.val (.tup [frq (x * (1 - s)), frq (y * (1 - s))])) m9 := cooled_ok (k + 3) (qs := [x, y]) (a := 134) (by
    intro q h
    simp only [List.mem_cons, List.not_mem_nil, or_false] at h
    rcases h with rfl | rfl
    · exact ⟨x0, xz⟩
    · exact ⟨y0, yz⟩) sz s0 s1 (by omega) (by simp) (by simp) m9
  have R0 : 0 < R := by
    rw [← hR]
    have u1 : (0 : Rat) < ((p : Int) : Rat) := Rat.natCast_pos.mpr (by omega)
    have u2 : (0 : Rat) < ((q : Int) : Rat) := Rat.natCast_pos.mpr (by omega)
    have u3 := Rat.mul_pos x0 u1
    have u4 := Rat.mul_pos y0 u2
    have u5 : (0 : Rat) < mkRat 1 (p + q) := (mk_shr (a := 1) (d := p + q) (b := 6) (by omega) (by omega) (by omega)).1
    exact Rat.mul_pos (by grind) u5
  have a16 : callF fns (k + 9) i_cooled_by [.tup [frq R], frq s] m9 = .ok (.val (.tup [frq (R * (1 - s))])) m9 := cooled_ok (k + 3) (qs := [R]) (a := 300) (by
    intro q h
    simp only [List.mem_cons, List.not_mem_nil, or_false] at h
    subst h
    exact ⟨R0, zR.mono (by omega)⟩) sz s0 s1 (by omega) (by simp) (by simp) m9
  have a17 : callF fns (k + 9) i_mixed_heat [frq (x * (1 - s)), frq (y * (1 - s)), .tup [.int p, .int q]] m9 = .ok (.val (frq (R * (1 - s)))) m9 := by
    have := mixed_ok (k + 3) (xz.mul rs) (yz.mul rs) (Rat.mul_pos x0 ps) (Rat.mul_pos y0 ps) (by omega) (by omega) (p := p) (q := q) (by omega) (by omega) (by omega) (by omega) m9
    rwa [show (x * (1 - s) * (p : Int) + y * (1 - s) * (q : Int)) * mkRat 1 (p + q) = R * (1 - s) by rw [← hR]; grind] at this
  have eqs := cmp_frq m9 (R * (1 - s)) (R * (1 - s))
  rw [decide_eq_true rfl] at eqs
  obtain ⟨m', e1, e2⟩ := gc_gr H ((((((g1.trans g2).trans g3).trans g6).trans g7).trans g8).trans g9) (nr_bl true)
  refine ⟨m', ?_, e2⟩
  have pp : binI .pow 10 20 = some 100000000000000000000 := rfl
  rw [call_of f_mixes, runD_eq rfl]
  generalize R * (1 - s) = RS at *
  generalize x * (1 - s) = XS at *
  generalize y * (1 - s) = YS at *
  generalize qs.map (fun q => frq (q * (1 - s))) = QS at *
  generalize qs.map frq = QQ at *
  generalize (List.range c).map (fun i => DV.int (i : Nat)) = RC at *
  generalize x * (p : Int) + y * (q : Int) = S1 at *
  generalize x * ((p : Int) : Rat) = S2 at *
  generalize y * ((q : Int) : Rat) = S3 at *
  generalize hK : k + 9 = K at *
  simp -implicitDefEqProofs [-cmp_eq, b__law_are_mixes_right, b1, b2, b3, b4, hp, hq, a1, a2, a3, a4, a5, a6, a7, a8, hM5, l5, a9, a10, hM6, a11, pp, b7, b8, hc, ev_comp', it, b9, l3, tb, a12, a13, lp, l4, a14, a15, a16, a17, eqs, e1]
end K28
end SK28W
section SK28X
set_option Elab.async false
set_option linter.all false
set_option maxHeartbeats 2000000
/-! K28X: the law, run. -/
namespace K28
open PySem Mp
theorem f_law : fns[i_law]? = some ⟨1, 5, b_law⟩ := rfl
theorem f_hand : fns[i__law_hand]? = some ⟨1, 3, lHand 614879 13⟩ := rfl
theorem ok_1 : Ok 8 (1 / 2) 1 := ⟨by decide +kernel, by decide +kernel, by decide +kernel, by decide +kernel, ⟨by decide +kernel, by decide +kernel⟩, ⟨by decide +kernel, by decide +kernel⟩, ⟨by decide +kernel, by decide +kernel⟩⟩
theorem sz_n (q : Rat) (h : q.num.natAbs < 64 ∧ q.den < 64) : Sz 6 q := h
section
variable (k : Nat) (m : Mem)
theorem w0 : callF fns (k + 10) i_share_by [.tup [.int 4, .int 1], .tup [.int 3, .int 1]] m = .ok (.val (.tup [.int 1, .int 4])) m := by
  have e := share_by_ok (k + 4) (sz_n 4 (by decide +kernel)) (sz_n 3 (by decide +kernel)) (by decide +kernel) (by decide +kernel) (by decide) (by decide) m
  rw [show frq 4 = .tup [.int 4, .int 1] by decide +kernel, show frq 3 = .tup [.int 3, .int 1] by decide +kernel, show shareD 4 3 = .tup [.int 1, .int 4] by decide +kernel] at e
  exact e
theorem w1 : callF fns (k + 10) i_two_readings [.tup [.int 8, .int 1], .tup [.int 4, .int 1], .tup [.int 2, .int 1]] m = .ok (.val (.tup [.str "share", .tup [.int 1, .int 2]])) m := by
  have e := two_ok (k + 4) (sz_n 8 (by decide +kernel)) (sz_n 4 (by decide +kernel)) (sz_n 2 (by decide +kernel)) (by decide +kernel) (by decide +kernel) (by decide +kernel) (by decide) (by decide) (by decide) m
  rw [show frq 8 = .tup [.int 8, .int 1] by decide +kernel, show frq 4 = .tup [.int 4, .int 1] by decide +kernel, show frq 2 = .tup [.int 2, .int 1] by decide +kernel, show twoD (1 - 4 / 8) (1 - 2 / 4) = .tup [.str "share", .tup [.int 1, .int 2]] by decide +kernel] at e
  exact e
theorem w2 : callF fns (k + 10) i_two_readings [.tup [.int 8, .int 1], .tup [.int 4, .int 1], .tup [.int 1, .int 1]] m = .ok (.val (.tup [.str "unlike", .tup [.int 1, .int 2], .tup [.int 3, .int 4]])) m := by
  have e := two_ok (k + 4) (sz_n 8 (by decide +kernel)) (sz_n 4 (by decide +kernel)) (sz_n 1 (by decide +kernel)) (by decide +kernel) (by decide +kernel) (by decide +kernel) (by decide) (by decide) (by decide) m
  rw [show frq 8 = .tup [.int 8, .int 1] by decide +kernel, show frq 4 = .tup [.int 4, .int 1] by decide +kernel, show frq 1 = .tup [.int 1, .int 1] by decide +kernel, show twoD (1 - 4 / 8) (1 - 1 / 4) = .tup [.str "unlike", .tup [.int 1, .int 2], .tup [.int 3, .int 4]] by decide +kernel] at e
  exact e
theorem w3 : callF fns (k + 10) i_room_told [.tup [.int 30, .int 1], .tup [.int 25, .int 1], .tup [.int 45, .int 2]] m = .ok (.val (.tup [.int 20, .int 1])) m := by
  have e := room_ok (k + 4) (sz_n 30 (by decide +kernel)) (sz_n 25 (by decide +kernel)) (sz_n (45 / 2) (by decide +kernel)) (by decide) m
  rw [show frq 30 = .tup [.int 30, .int 1] by decide +kernel, show frq 25 = .tup [.int 25, .int 1] by decide +kernel, show frq (45 / 2) = .tup [.int 45, .int 2] by decide +kernel, show roomD 30 25 (45 / 2) = .tup [.int 20, .int 1] by decide +kernel] at e
  exact e
theorem w4 : callF fns (k + 10) i_room_told [.tup [.int 5, .int 1], .tup [.int 4, .int 1], .tup [.int 3, .int 1]] m = .ok (.val .non) m := by
  have e := room_ok (k + 4) (sz_n 5 (by decide +kernel)) (sz_n 4 (by decide +kernel)) (sz_n 3 (by decide +kernel)) (by decide) m
  rw [show frq 5 = .tup [.int 5, .int 1] by decide +kernel, show frq 4 = .tup [.int 4, .int 1] by decide +kernel, show frq 3 = .tup [.int 3, .int 1] by decide +kernel, show roomD 5 4 3 = .non by decide +kernel] at e
  exact e
theorem w5 : callF fns (k + 10) i_room_told [.tup [.int 10, .int 1], .tup [.int 9, .int 1], .tup [.int 7, .int 1]] m = .ok (.val .non) m := by
  have e := room_ok (k + 4) (sz_n 10 (by decide +kernel)) (sz_n 9 (by decide +kernel)) (sz_n 7 (by decide +kernel)) (by decide) m
  rw [show frq 10 = .tup [.int 10, .int 1] by decide +kernel, show frq 9 = .tup [.int 9, .int 1] by decide +kernel, show frq 7 = .tup [.int 7, .int 1] by decide +kernel, show roomD 10 9 7 = .non by decide +kernel] at e
  exact e
theorem w6 : callF fns (k + 10) i_began_at [.tup [.int 8, .int 1], .tup [.int 1, .int 2], .tup [.int 1, .int 1], .int 1] m = .ok (.val (.int 22)) m := by
  have e := began_ok (k + 3) ok_1 (c := 1) (by decide) (by decide) m
  rw [show frq 8 = .tup [.int 8, .int 1] by decide +kernel, show frq (1 / 2) = .tup [.int 1, .int 2] by decide +kernel, show frq 1 = .tup [.int 1, .int 1] by decide +kernel, show beganD (toldQ 8 (1 - 1 / 2) 1) 1 = .int 22 by decide +kernel] at e
  exact e
theorem w7 : callF fns (k + 10) i_mixed_heat [.tup [.int 1, .int 1], .tup [.int 2, .int 1], .tup [.int 1, .int 3]] m = .ok (.val (.tup [.int 7, .int 4])) m := by
  have e := mixed_ok (k + 4) (sz_n 1 (by decide +kernel)) (sz_n 2 (by decide +kernel)) (by decide +kernel) (by decide +kernel) (by decide) (by decide) (p := 1) (q := 3) (by decide) (by decide) (by decide) (by decide) m
  rw [show frq 1 = .tup [.int 1, .int 1] by decide +kernel, show frq 2 = .tup [.int 2, .int 1] by decide +kernel, show frq ((1 * (((1 : Nat) : Int) : Rat) + 2 * (((3 : Nat) : Int) : Rat)) * mkRat 1 (1 + 3)) = .tup [.int 7, .int 4] by decide +kernel] at e
  exact e
end
def due1 : List DV := [.tup [.int 1, .int 4], .tup [.str "share", .tup [.int 1, .int 2]], .tup [.str "unlike", .tup [.int 1, .int 2], .tup [.int 3, .int 4]], .tup [.int 20, .int 1], .non, .non, .int 22, .tup [.int 7, .int 4]]
def due1P : List PyData := [.tuple [.int 1, .int 4], .tuple [.str "share", .tuple [.int 1, .int 2]], .tuple [.str "unlike", .tuple [.int 1, .int 2], .tuple [.int 3, .int 4]], .tuple [.int 20, .int 1], .none, .none, .int 22, .tuple [.int 7, .int 4]]
theorem sh_due1 : Sh (.list due1P) := ⟨by decide +kernel, by decide +kernel, by decide +kernel⟩
theorem snap_due1 (M : Mem) : (due1.mapM fun d => snap 39 M d) = some due1P := by
  simp [due1, due1P, ok_share, ok_unlike]
theorem turns (k : Nat) (m0 : Mem) (env : LE) (he : env[1]? = some (some (.ref 1))) : ∀ (ds : List DV) (m : Mem), Hand m 1 →
    ∃ (m' : Mem), loopC (turnC (callF fns (k + 10)) (.and (.cons (.call 38 (.cons (.v 1) .nil)) (.cons (.call 39 (.cons (.v 1) .nil)) (.cons (.call 40 (.cons (.v 1) .nil)) .nil)))) (.nm 4) .nil env) (same [] m0) ds m = .ok (ds.map fun _ => .bl true) m'
  | [], m, H => ⟨m, rfl⟩
  | d :: ds, m, H => by
    obtain ⟨m1, b1, g1⟩ := readings_ok k H
    obtain ⟨m2, b2, g2⟩ := clocks_ok k g1.hand
    obtain ⟨m3, b3, g3⟩ := mixes_ok k g2.hand
    obtain ⟨m4, e⟩ := turns k m0 env he ds m3 g3.hand
    refine ⟨m4, ?_⟩
    have e0 : (env.set 4 (some d))[1]? = some (some (.ref 1)) := by rw [List.getElem?_set_ne (by decide)]; exact he
    rw [loopC_cons, turnC_eq (put_nm _ _ _)]
    simp -implicitDefEqProofs [e0, b1, b2, b3, e]
theorem law_run (k : Nat) (ns : List Int) : ∃ m', callF fns (k + 11) i_law [.rl (ns.map .int)] [] = .ok (.val (.bl true)) m' := by
  obtain ⟨ds, m, c1, hm, H⟩ := hand_ok f_hand (k + 9) (by decide) ns
  generalize hm0 : m ++ [MO.lst ds] = m0 at H
  have l0 : m0.length = 2 := by rw [← hm0]; simp [hm]
  generalize hm1 : m0 ++ [MO.lst (due1.take 4)] = m1
  have l1 : m1.length = 3 := by rw [← hm1]; simp [l0]
  generalize hm2 : m1 ++ [MO.lst due1] = m2
  have l2 : m2.length = 4 := by rw [← hm2]; simp [l1]
  generalize hm3 : m2 ++ [MO.lst due1] = m3
  have q1 : m2[3]? = some (.lst due1) := by rw [← hm2, ← l1]; simp
  have q2 : m3[4]? = some (.lst due1) := by rw [← hm3, ← l2]; simp
  have q1' : m3[3]? = some (.lst due1) := by rw [← hm3]; exact Up.at ⟨_, rfl⟩ q1
  have q0 : m1[2]? = some (.lst (due1.take 4)) := by rw [← hm1, ← l0]; simp
  have c9 : callF fns (k + 10) i__law_is [.ref 3, .ref 4] m3 = .ok (.val (.bl true)) m3 := is_lists (k + 9) q1' q2 (snap_due1 m3) sh_due1
  have H3 : Hand m3 1 := by rw [← hm3, ← hm2, ← hm1]; exact ((H.push _).push _).push _
  obtain ⟨M', h⟩ := turns k m3 [some (.rl (ns.map .int)), some (.ref 1), some (.ref 3), some (.ref 4), none] rfl [.int 0, .int 1, .int 2, .int 3] m3 H3
  have it : itD .range m3 [.val (.int 4)] = some ([.int 0, .int 1, .int 2, .int 3], []) := it_range m3 4 (by decide)
  obtain ⟨m', hg⟩ : ∃ m', gc [] (.val (.bl true)) M' = .ok (.val (.bl true)) m' := by
    unfold gc
    split
    · exact ⟨_, rfl⟩
    · exact ⟨_, rfl⟩
  refine ⟨m', ?_⟩
  have b := bin_add_ref (ys := due1.drop 4) q0 (by decide)
  rw [List.take_append_drop] at b
  unfold due1 at hm1 hm2 hm3 b
  simp only [List.take_succ_cons, List.take_zero, List.drop_succ_cons, List.drop_zero] at hm1 b
  rw [call_of f_law, runD_eq rfl]
  simp -implicitDefEqProofs [b_law, c1, hm, hm0, l0, hm1, l1, hm2, l2, hm3, b, c9, ev_comp', it, h, hg, sizeLine, w0, w1, w2, w3, w4, w5, w6, w7]
theorem law_ev (ns : List Int) (h : ns.length ≤ 63) : ∃ m', callF (dts.map DefT.dfn) 25 i_law [.rl (ns.map .int)] [] = .ok (.val (.bl true)) m' := law_run 14 ns
end K28
end SK28X
section SK28Z
set_option Elab.async false
set_option linter.all false
open PySem PySem.W PyProof.Rows
set_option maxRecDepth 100000 in
set_option maxHeartbeats 0 in
theorem PySem.Challenge.cw_fewclues_k28_whole_readings_shares_and_r_holds : PySem.Challenge.rw_fewclues_k28_whole_readings_shares_and_r.Holds := by
  w_on; o_law; k_head; (case hw => w_witness2)
  k_fill
  refine Mp.walk_mp (l := PySem.Challenge.rw_fewclues_k28_whole_readings_shares_and_r) (n := 63) (k := 24) (i := K28.i_law) (x := "script") (top := K28.top) (Dts := K28.dts) (T := K28.tab) (dl := K28.d_law) rfl (by decide) rfl ⟨rfl, by decide, by decide⟩ (fun w h Y => PySem.W.kIn_of Y) rfl ?F K28.bds K28.chk ?R rfl rfl rfl K28.law_ev
  case F =>
    intro w d hd
    simp only [K28.dts, List.mem_cons, List.not_mem_nil, or_false] at hd
    rcases hd with rfl | rfl | rfl | rfl | rfl | rfl | rfl | rfl | rfl | rfl | rfl | rfl | rfl | rfl | rfl | rfl | rfl | rfl | rfl | rfl | rfl | rfl | rfl | rfl | rfl | rfl | rfl | rfl | rfl | rfl | rfl | rfl | rfl | rfl | rfl | rfl | rfl | rfl | rfl | rfl | rfl | rfl <;> (refine' Mp.funAt_mk ?a1 ?l1 ?c1 ?k1; (case a1 => k_is); (case l1 => k_is); (case c1 => k_is); (case k1 => k_is))
  case R =>
    intro w mg h KX G
    refine ⟨?_, ?_⟩
    · intro x hx
      simp only [K28.tab, List.mem_cons, List.not_mem_nil, or_false] at hx
      rcases hx with rfl | rfl | rfl | rfl | rfl | rfl | rfl | rfl | rfl | rfl <;> exact PySem.W.mg_none_of KX G (by k_is)
    · intro x d hx
      simp only [K28.tab, List.mem_cons, List.not_mem_nil, or_false, Prod.mk.injEq] at hx
      rcases hx with ⟨rfl, rfl⟩ | ⟨rfl, rfl⟩ | ⟨rfl, rfl⟩ | ⟨rfl, rfl⟩ | ⟨rfl, rfl⟩
      · refine' Mp.con_int KX G ?z; (case z => k_is)
      · refine' Mp.con_int KX G ?z; (case z => k_is)
      · refine' Mp.con_int KX G ?z; (case z => k_is)
      · refine' Mp.con_int KX G ?z; (case z => k_is)
      · refine' Mp.con_int KX G ?z; (case z => k_is)
end SK28Z
