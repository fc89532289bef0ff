import PyProof.Rows.All
import Wide.All
import OpenK.AllK
import Wide.FinOn
import HandS.ForMost
import KE.SortData
import KE.DataCmp
import KE.DataEq
import KE.KeyNested
import KE.KDictCopyH
import KE.KDictKeyed
import HandS.Head0
import HandS.Head1
import HandS.Head2
import HandS.HeadEnd
import HandS.HeadHook4
import Lean
import HandS.HeadWalk
import HandS.TupAny
import HandS.TupMul
import HandS.Style
import HandS.IsInst
import HandS.TupLen
import HandS.Small
import KE.KDictSum
import HandS.Text
import KE.SortCalls
import KE.LtData
import KE.KDictPairs
import HandS.Conv
import HandS.Walk
import KE.GoesNew
import KE.GoesMore
import HandS.TupSets
import HandS.SetKeys
import KE.KDictZip
import KE.KDictItemsList
import HandS.Defaults
import PyProof.TableCode
import PySem.Str
import PySem.Challenge.RW_alltreestold_k70_whole_statements
set_option Elab.async false
set_option linter.all false
set_option maxRecDepth 100000
set_option maxHeartbeats 0
set_option autoImplicit false
/-! EvA: plain data, questions (draws), a compact syntax, its evaluator. No kit here. -/
namespace Ev
/-- plain data -/
inductive D where
  | non | bl (b : Bool) | int (i : Int) | str (s : List Nat) | lst (xs : List D) | tup (xs : List D) | dct (kvs : List (D × D)) | fn (f : Nat) | box
  deriving Inhabited, Repr
/-- a run that may ask for draws -/
inductive Tr (α : Type) where
  | ret (a : α) | ask (m : Nat) (k : Nat → Tr α) | stuck
namespace Tr
def bind {α β : Type} : Tr α → (α → Tr β) → Tr β
  | .ret a, f => f a
  | .ask m k, f => .ask m fun d => bind (k d) f
  | .stuck, _ => .stuck
def ofO {α : Type} : Option α → Tr α
  | some a => .ret a
  | none => .stuck
instance : Monad Tr where
  pure := .ret
  bind := bind
/-- whatever is drawn, it ends, and so -/
def All {α : Type} : Tr α → (α → Prop) → Prop
  | .ret a, P => P a
  | .ask m k, P => 0 < m ∧ ∀ d, d < m → All (k d) P
  | .stuck, _ => False
/-- the same, reckoned -/
def allB {α : Type} : Tr α → (α → Bool) → Bool
  | .ret a, P => P a
  | .ask m k, P => (decide (0 < m)) && (List.range m).all fun d => allB (k d) P
  | .stuck, _ => false
end Tr
/-! ### equality, order -/
def eqNats : List Nat → List Nat → Bool
  | [], [] => true
  | a :: as, b :: bs => (a == b) && eqNats as bs
  | _, _ => false
def ltNats : List Nat → List Nat → Bool
  | [], [] => false
  | [], _ :: _ => true
  | _ :: _, [] => false
  | a :: as, b :: bs => if a < b then true else if a == b then ltNats as bs else false
mutual
/-- Python's == -/
def D.eq : D → D → Bool
  | .non, .non => true
  | .bl a, .bl b => a == b
  | .bl a, .int j => (if a then 1 else 0) == j
  | .int i, .bl b => i == (if b then 1 else 0)
  | .int i, .int j => i == j
  | .str x, .str y => eqNats x y
  | .lst xs, .lst ys => D.eqs xs ys
  | .tup xs, .tup ys => D.eqs xs ys
  | _, _ => false
def D.eqs : List D → List D → Bool
  | [], [] => true
  | x :: xs, y :: ys => D.eq x y && D.eqs xs ys
  | _, _ => false
end
mutual
/-- can be compared by <, place by place -/
def D.alike : D → D → Bool
  | .non, .non => true
  | .bl _, .bl _ => true
  | .int _, .int _ => true
  | .str _, .str _ => true
  | .lst xs, .lst ys => D.alikes xs ys
  | .tup xs, .tup ys => D.alikes xs ys
  | _, _ => false
def D.alikes : List D → List D → Bool
  | x :: xs, y :: ys => D.alike x y && D.alikes xs ys
  | _, _ => true
end
mutual
/-- Python's <, for alike data -/
def D.lt : D → D → Bool
  | .bl a, .bl b => !a && b
  | .int i, .int j => decide (i < j)
  | .str x, .str y => ltNats x y
  | .lst xs, .lst ys => D.lts xs ys
  | .tup xs, .tup ys => D.lts xs ys
  | _, _ => false
def D.lts : List D → List D → Bool
  | [], [] => false
  | [], _ :: _ => true
  | _ :: _, [] => false
  | x :: xs, y :: ys => if D.eq x y then D.lts xs ys else D.lt x y
end
mutual
/-- without functions, dicts, the box -/
def D.plain : D → Bool
  | .non => true
  | .bl _ => true
  | .int _ => true
  | .str _ => true
  | .lst xs => D.plains xs
  | .tup xs => D.plains xs
  | _ => false
def D.plains : List D → Bool
  | [] => true
  | x :: xs => D.plain x && D.plains xs
end
mutual
def D.depth : D → Nat
  | .lst xs => D.depths xs + 1
  | .tup xs => D.depths xs + 1
  | _ => 0
def D.depths : List D → Nat
  | [] => 0
  | x :: xs => max (D.depth x) (D.depths xs)
end
/-- not None (< asks it of what is compared) -/
def D.some? : D → Bool
  | .non => false
  | _ => true
def line : Nat := 16777216
/-- data that == may be asked of -/
def D.ok (d : D) : Bool := d.plain && decide (d.depth ≤ 64)
def insD (x : D) : List D → List D
  | [] => [x]
  | y :: ys => if D.lt x y then x :: y :: ys else y :: insD x ys
def sortD : List D → List D
  | [] => []
  | x :: xs => insR x (sortD xs)
where
  /-- ahead of those that are not less -/
  insR (x : D) : List D → List D
    | [] => [x]
    | y :: ys => if D.lt y x then y :: insR x ys else x :: y :: ys
def memD (x : D) : List D → Bool
  | [] => false
  | y :: ys => D.eq y x || memD x ys
/-- each once, in the order met -/
def distinct : List D → List D → List D
  | acc, [] => acc.reverse
  | acc, x :: xs => if memD x acc then distinct acc xs else distinct (x :: acc) xs
def allAlike : List D → Bool
  | [] => true
  | x :: xs => (xs.all fun y => D.alike x y && D.alike y x) && allAlike xs
/-- these can be sorted -/
def D.isTup : D → Bool
  | .tup _ => true
  | _ => false
def D.flat : D → Bool
  | .tup _ => false
  | .non => false
  | _ => true
def sortable (xs : List D) : Bool := decide (xs.length ≤ line) && (xs.all fun x => x.ok) && ((xs.all fun x => x.isTup) || (xs.all fun x => x.flat)) && (xs.all fun x => xs.all fun y => D.alike x y)
def maxI : Int → List Int → Int
  | m, [] => m
  | m, x :: xs => if m < x then maxI x xs else maxI m xs
def minI : Int → List Int → Int
  | m, [] => m
  | m, x :: xs => if x < m then minI x xs else minI m xs
def D.truthy : D → Option Bool
  | .non => some false
  | .bl b => some b
  | .int i => some (i != 0)
  | .str s => if s.length ≤ line then some (!s.isEmpty) else none
  | .lst xs => some (!xs.isEmpty)
  | .tup xs => some (!xs.isEmpty)
  | .dct kvs => some (!kvs.isEmpty)
  | _ => none
/-! ### places -/
def sIx (n d : Nat) : Option Int → Nat
  | none => d
  | some i => if i < 0 then (i + n).toNat else min i.toNat n
def cut {α : Type} (xs : List α) (lo hi : Option Int) : List α := (xs.drop (sIx xs.length 0 lo)).take (sIx xs.length xs.length hi - sIx xs.length 0 lo)
def atI {α : Type} (xs : List α) (i : Int) : Option α :=
  if 0 ≤ i then xs[i.toNat]? else if -(xs.length : Int) ≤ i then xs[(i + xs.length).toNat]? else none
/-- the place of an equal one -/
def indexD (x : D) : List D → Nat → Option Nat
  | [], _ => none
  | y :: ys, n => if D.eq y x then some n else indexD x ys (n + 1)
/-! ### dicts -/
/-- keys: all carried by value, or all tuples of such -/
def D.leaf : D → Bool
  | .int _ => true
  | .str _ => true
  | _ => false
mutual
def D.nest : Nat → D → Bool
  | _, .non => true
  | _, .bl _ => true
  | _, .int _ => true
  | _, .str _ => true
  | n + 1, .tup xs => D.nests n xs
  | _, _ => false
def D.nests : Nat → List D → Bool
  | _, [] => true
  | n, x :: xs => D.nest n x && D.nests n xs
end
def D.tkey : D → Bool
  | .tup xs => D.nest 8 (.tup xs)
  | _ => false
/-- a key beside the others -/
def keyOk (k : D) (kvs : List (D × D)) : Bool := (k.leaf && kvs.all fun p => p.1.leaf) || (k.tkey && kvs.all fun p => p.1.tkey)
def valD (k : D) : List (D × D) → Option D
  | [] => none
  | p :: r => if D.eq p.1 k then some p.2 else valD k r
def putD (k v : D) : List (D × D) → List (D × D)
  | [] => [(k, v)]
  | p :: r => if D.eq p.1 k then (p.1, v) :: r else p :: putD k v r
def dropD (k : D) : List (D × D) → List (D × D)
  | [] => []
  | p :: r => if D.eq p.1 k then r else p :: dropD k r
def putsD : List (D × D) → List (D × D) → Option (List (D × D))
  | kvs, [] => some kvs
  | kvs, p :: r => if keyOk p.1 kvs && decide (kvs.length < line) then putsD (putD p.1 p.2 kvs) r else none
/-- a new dict of these -/
def mkD (ps : List (D × D)) : Option (List (D × D)) :=
  if ((ps.all fun p => p.1.leaf) || (ps.all fun p => p.1.tkey)) && decide (ps.length ≤ line) then some (ps.foldl (fun acc p => putD p.1 p.2 acc) []) else none
def pairsD : List D → Option (List (D × D))
  | [] => some []
  | .tup [k, v] :: r => (pairsD r).map ((k, v) :: ·)
  | _ :: _ => none
/-! ### values with their standing: cl may go anywhere; fr a new object nobody else has; br a caller's; ow this frame's own -/
inductive Tg where
  | cl | fr | br | ow | lk
  deriving DecidableEq, Repr, Inhabited
structure A where
  d : D
  t : Tg
  deriving Inhabited, Repr
def D.mutable : D → Bool
  | .lst _ => true
  | .dct _ => true
  | _ => false
abbrev cl (d : D) : A := ⟨d, .cl⟩
abbrev fr (d : D) : A := ⟨d, .fr⟩
/-- it may be stored, handed back -/
def A.clean (a : A) : Option D := if a.t = .cl ∨ a.t = .fr then some a.d else none
inductive BOp where
  | add | sub | mul | mod | fdiv | pow | shl
  deriving DecidableEq, Repr
inductive COp where
  | eq | ne | lt | le | gt | ge | is | isnot | in_ | notin
  deriving DecidableEq, Repr
inductive Ty where
  | tuple | list | str | int | bool
  deriving DecidableEq, Repr
inductive Bi where
  | len | tuple | list | dict | sorted | sortedSet | lenSet | all | any | sum | max | min | int | str | abs
  deriving DecidableEq, Repr
inductive Mt where
  | get | join | index | split | upper | count
  deriving DecidableEq, Repr
def absSmall (i : Int) : Bool := decide (-(2 ^ 64) < i ∧ i < 2 ^ 64)
def repD {α : Type} (xs : List α) : Nat → List α
  | 0 => []
  | n + 1 => xs ++ repD xs n
def binD : BOp → D → D → Option A
  | .add, .int i, .int j => some (cl (.int (i + j)))
  | .add, .str x, .str y => if x.length + y.length ≤ line then some (cl (.str (x ++ y))) else none
  | .add, .tup x, .tup y => if x.length + y.length ≤ line then some (cl (.tup (x ++ y))) else none
  | .add, .lst x, .lst y => if x.length + y.length ≤ line then some (fr (.lst (x ++ y))) else none
  | .sub, .int i, .int j => some (cl (.int (i - j)))
  | .mul, .int i, .int j => if absSmall i || absSmall j then some (cl (.int (i * j))) else none
  | .mul, .str x, .int j => if j ≤ 1000000 ∧ -1000000 ≤ j ∧ x.length * j.toNat ≤ line then some (cl (.str (repD x j.toNat))) else none
  | .mul, .lst x, .int j => if j ≤ 1000000 ∧ -1000000 ≤ j ∧ x.length * j.toNat ≤ line then some (fr (.lst (repD x j.toNat))) else none
  | .mod, .int i, .int j => if j = 0 then none else some (cl (.int (i.fmod j)))
  | .fdiv, .int i, .int j => if j = 0 ∨ 1073741824 ≤ j.natAbs then none else some (cl (.int (i.fdiv j)))
  | .pow, .int i, .int j => if 0 ≤ j ∧ j ≤ 1000 ∧ absSmall i then some (cl (.int (i ^ j.toNat))) else none
  | .shl, .int i, .int j => if 0 ≤ j ∧ j ≤ 1000 ∧ absSmall i then some (cl (.int (i * 2 ^ j.toNat))) else none
  | _, _, _ => none
def isConst : D → Bool
  | .non => true
  | .bl _ => true
  | _ => false
def sameConst : D → D → Bool
  | .non, .non => true
  | .bl a, .bl b => a == b
  | _, _ => false
def inD : D → D → Option Bool
  | x, .lst ys => if x.ok && D.ok (.lst ys) then some (memD x ys) else none
  | x, .tup ys => if x.ok && D.ok (.tup ys) then some (memD x ys) else none
  | .str [c], .str y => some (y.elem c)
  | k, .dct kvs => if keyOk k kvs then some (valD k kvs).isSome else none
  | _, _ => none
def cmpD : COp → D → D → Option Bool
  | .eq, x, y => if x.ok && y.ok then some (D.eq x y) else none
  | .ne, x, y => if x.ok && y.ok then some (!D.eq x y) else none
  | .lt, x, y => if x.ok && y.ok && D.alike x y && x.some? then some (D.lt x y) else none
  | .le, x, y => if x.ok && y.ok && D.alike x y && x.some? then some (!D.lt y x) else none
  | .gt, x, y => if x.ok && y.ok && D.alike x y && x.some? then some (D.lt y x) else none
  | .ge, x, y => if x.ok && y.ok && D.alike x y && x.some? then some (!D.lt x y) else none
  | .is, x, y => if isConst y then some (sameConst x y) else none
  | .isnot, x, y => if isConst y then some (!sameConst x y) else none
  | .in_, x, y => inD x y
  | .notin, x, y => (inD x y).map (!·)
def idxD : D → D → Option D
  | .lst xs, .int i => atI xs i
  | .tup xs, .int i => atI xs i
  | .str x, .int i => if x.length ≤ line then (atI x i).map fun c => .str [c] else none
  | .dct kvs, k => if keyOk k kvs then valD k kvs else none
  | _, _ => none
def slcD : D → Option Int → Option Int → Option A
  | .lst xs, lo, hi => some (fr (.lst (cut xs lo hi)))
  | .tup xs, lo, hi => some (cl (.tup (cut xs lo hi)))
  | .str x, lo, hi => if x.length ≤ line then some (cl (.str (cut x lo hi))) else none
  | _, _, _ => none
def revD : D → Option A
  | .lst xs => some (fr (.lst xs.reverse))
  | _ => none
def isiD : D → Ty → Option Bool
  | .fn _, _ => none
  | .box, _ => none
  | .tup _, .tuple => some true
  | .lst _, .list => some true
  | .str _, .str => some true
  | .int _, .int => some true
  | .bl _, .int => some true
  | .bl _, .bool => some true
  | _, _ => some false
/-- what is walked: the items -/
def itemsD : D → Option (List D)
  | .lst xs => some xs
  | .tup xs => some xs
  | .str x => if x.length ≤ line then some (x.map fun c => .str [c]) else none
  | .dct kvs => some (kvs.map (·.1))
  | _ => none
def truths : List D → Option (List Bool)
  | [] => some []
  | x :: xs => match x.truthy, truths xs with
    | some b, some bs => some (b :: bs)
    | _, _ => none
def blsD : List D → Option (List Bool)
  | [] => some []
  | .bl i :: xs => (blsD xs).map (i :: ·)
  | _ :: _ => none
def intsD : List D → Option (List Int)
  | [] => some []
  | .int i :: xs => (intsD xs).map (i :: ·)
  | _ :: _ => none
def strsD : List D → Option (List (List Nat))
  | [] => some []
  | .str i :: xs => (strsD xs).map (i :: ·)
  | _ :: _ => none
def joinS (sep : List Nat) : List (List Nat) → List Nat
  | [] => []
  | [x] => x
  | x :: xs => x ++ sep ++ joinS sep xs
def maxD : D → List D → D
  | m, [] => m
  | m, x :: xs => if D.lt m x then maxD x xs else maxD m xs
def minD : D → List D → D
  | m, [] => m
  | m, x :: xs => if D.lt x m then minD x xs else minD m xs
def natS : Nat → Nat → List Nat → List Nat
  | 0, _, acc => acc
  | f + 1, n, acc => if n < 10 then (48 + n) :: acc else natS f (n / 10) ((48 + n % 10) :: acc)
def intS (i : Int) : List Nat := if i < 0 then 45 :: natS (i.natAbs.log2 + 2) i.natAbs [] else natS (i.natAbs.log2 + 2) i.natAbs []
/-- what a set is made of: a list's or a tuple's items, all ints and texts or all nested keys -/
def setXs : D → Option (List D)
  | .lst xs => some xs
  | .tup xs => some xs
  | _ => none
def keysOk (xs : List D) : Bool := ((xs.all fun x => x.leaf) || (xs.all fun x => x.tkey)) && decide (xs.length ≤ 60)
def biD : Bi → List D → Option A
  | .len, [.lst xs] => some (cl (.int xs.length))
  | .len, [.tup xs] => some (cl (.int xs.length))
  | .len, [.str x] => if x.length ≤ line then some (cl (.int x.length)) else none
  | .len, [.dct kvs] => some (cl (.int kvs.length))
  | .tuple, [.lst xs] => some (cl (.tup xs))
  | .tuple, [.tup xs] => some (cl (.tup xs))
  | .list, [.lst xs] => some (fr (.lst xs))
  | .list, [.tup xs] => some (fr (.lst xs))
  | .dict, [.lst xs] => match pairsD xs with
    | some ps => (mkD ps).map fun kvs => fr (.dct kvs)
    | none => none
  | .dict, [.tup xs] => match pairsD xs with
    | some ps => (mkD ps).map fun kvs => fr (.dct kvs)
    | none => none
  | .sorted, [d] => match itemsD d with
    | some xs => if sortable xs then some (fr (.lst (sortD xs))) else none
    | none => none
  | .sortedSet, [d] => match setXs d with
    | some xs => if keysOk xs && sortable xs then some (fr (.lst (sortD (distinct [] xs)))) else none
    | none => none
  | .lenSet, [d] => match setXs d with
    | some xs => if keysOk xs then some (cl (.int (distinct [] xs).length)) else none
    | none => none
  | .all, [.lst xs] => (blsD xs).map fun bs => cl (.bl (bs.all id))
  | .any, [.lst xs] => (blsD xs).map fun bs => cl (.bl (bs.any id))
  | .sum, [.lst xs] => (intsD xs).map fun is => cl (.int is.sum)
  | .max, [.lst xs] => match intsD xs with
    | some (i :: is) => some (cl (.int (maxI i is)))
    | _ => none
  | .min, [.lst xs] => match intsD xs with
    | some (i :: is) => some (cl (.int (minI i is)))
    | _ => none
  | .max, [.int i, .int j] => some (cl (.int (if j > i then j else i)))
  | .min, [.int i, .int j] => some (cl (.int (if j < i then j else i)))
  | .int, [.int i] => some (cl (.int i))
  | .abs, [.int i] => some (cl (.int (if i < 0 then -i else i)))
  | .str, [.int i] => if i.natAbs.log2 < 1920 then some (cl (.str (intS i))) else none
  | _, _ => none
def mthD : Mt → D → List D → Option A
  | .get, .dct kvs, [k] => if keyOk k kvs then some (cl ((valD k kvs).getD .non)) else none
  | .get, .dct kvs, [k, x] => if keyOk k kvs then some (cl ((valD k kvs).getD x)) else none
  | .join, .str sep, [.lst xs] => match strsD xs with
    | some ss => if (ss.map (·.length)).sum + ss.length * sep.length ≤ line then some (cl (.str (joinS sep ss))) else none
    | none => none
  | .index, .lst xs, [x] => if x.ok && D.ok (.lst xs) then (indexD x xs 0).map fun n => cl (.int n) else none
  | .index, .tup xs, [x] => if x.ok && D.ok (.tup xs) then (indexD x xs 0).map fun n => cl (.int n) else none
  | _, _, _ => none
/-- the receivers that are known -/
def mthRecv : Mt → D → Bool
  | .get, .dct _ => true
  | .join, .str _ => true
  | _, _ => false
/-! ### the compact syntax -/
mutual
inductive E where
  | var (i : Nat)
  | cst (d : D)
  | glb (g : Nat)
  | tup (es : List E)
  | lst (es : List E)
  | dct (es : List E)
  | bin (o : BOp) (a b : E)
  | neg (a : E)
  | not (a : E)
  | and (es : List E)
  | or (es : List E)
  | ife (c a b : E)
  | cmp (a : E) (ops : List COp) (bs : List E)
  | idx (a b : E)
  | slc (a : E) (lo hi : Option E)
  | rev (a : E)
  | call (f : Nat) (es : List E)
  | callv (f : E) (es : List E)
  | draw (b m : E)
  | bi (b : Bi) (es : List E)
  | bit (b : Bi) (it : It)
  | isi (a : E) (t : Ty)
  | mth (m : Mt) (o : E) (es : List E)
  | comp (own : List Nat) (gs : List Gen) (elt : E)
inductive Gen where
  | mk (t : T) (it : It) (ifs : List E)
inductive It where
  | of (e : E)
  | rng (es : List E)
  | enm (e : E)
  | zip (es : List E)
  | items (e : E)
  | values (e : E)
inductive T where
  | nm (i : Nat)
  | tup (ts : List T)
  | sub (i : Nat) (k : E)
end
inductive S where
  | asg (t : T) (own : Bool) (e : E)
  | asgs (ts : List (T × Bool)) (es : List E)
  | app (i : Nat) (e : E)
  | ext (i : Nat) (e : E)
  | pop (t : T) (i : Nat)
  | aug (i : Nat) (o : BOp) (e : E)
  | ret (e : Option E)
  | ife (c : E) (a b : List S)
  | whl (c : E) (b : List S)
  | forr (t : T) (it : It) (lock : List Nat) (keep : Option (List Nat)) (b : List S)
  | brk | cnt | pass
  | frz (i : Nat)
/-! ### frames -/
inductive Kd where
  | cl | ow | lk | br
  deriving DecidableEq, Repr, Inhabited
structure Sl where
  d : D
  k : Kd
  deriving Inhabited, Repr
abbrev Fm := List (Option Sl)
def Fm.get (f : Fm) (i : Nat) : Option Sl := match f[i]? with
  | some (some s) => some s
  | _ => none
def Sl.read (s : Sl) : A := match s.k with
  | .cl => ⟨s.d, .cl⟩
  | .ow => ⟨s.d, .ow⟩
  | .lk => ⟨s.d, .lk⟩
  | .br => ⟨s.d, .br⟩
/-- a value put into a slot; a locked slot isn't written -/
def Fm.put (f : Fm) (own : Bool) (i : Nat) (a : A) : Option Fm := match f[i]? with
  | none => none
  | some o => match o with
    | some ⟨_, .lk⟩ => none
    | _ => match a.t with
      | .cl => some (f.set i (some ⟨a.d, .cl⟩))
      | .fr => some (f.set i (some ⟨a.d, if own && a.d.mutable then .ow else .cl⟩))
      | .br => some (f.set i (some ⟨a.d, .br⟩))
      | .ow => none
      | .lk => none
/-- the own thing in a slot is changed -/
def Fm.mut (f : Fm) (i : Nat) (g : D → Option D) : Option Fm := match f.get i with
  | some ⟨d, .ow⟩ => (g d).map fun d' => f.set i (some ⟨d', .ow⟩)
  | _ => none
def wipe (f : Fm) : List Nat → Fm
  | [] => f
  | v :: vs => (wipe f vs).set v none
def lockAll (f : Fm) : List Nat → Option Fm
  | [] => some f
  | i :: r => match f.get i with
    | some ⟨d, .ow⟩ => lockAll (f.set i (some ⟨d, .lk⟩)) r
    | _ => none
def unlockAll (f : Fm) : List Nat → Option Fm
  | [] => some f
  | i :: r => match f.get i with
    | some ⟨d, .lk⟩ => unlockAll (f.set i (some ⟨d, .ow⟩)) r
    | _ => none
def isLk : Option Sl → Bool
  | some ⟨_, .lk⟩ => true
  | _ => false
def keepOnly (f : Fm) (keep : List Nat) : Fm := f.mapIdx fun i s => if keep.elem i || isLk s then s else none
/-- the program: its functions (how many parameters, how many slots, the body), its constants -/
structure Fd where
  ps : Nat
  n : Nat
  body : List S
structure Pg where
  fns : List Fd
  glb : List D
open Tr
def rangeD (es : List D) : Option (List D) := match es with
  | [.int j] => if j < 2 ^ 62 ∧ -(2 ^ 62) ≤ j then some ((List.range j.toNat).map fun (k : Nat) => D.int (k : Int)) else none
  | [.int i, .int j] => if j < 2 ^ 62 ∧ -(2 ^ 62) ≤ j ∧ i < 2 ^ 62 ∧ -(2 ^ 62) ≤ i then some ((List.range (j - i).toNat).map fun (k : Nat) => D.int (i + (k : Int))) else none
  | [.int i, .int j, .int (-1)] => if j < 2 ^ 62 ∧ -(2 ^ 62) ≤ j ∧ i < 2 ^ 62 ∧ -(2 ^ 62) ≤ i then some ((List.range (i - j).toNat).map fun (k : Nat) => D.int (i - (k : Int))) else none
  | _ => none
def enumD : List D → Nat → List D
  | [], _ => []
  | x :: xs, n => .tup [.int n, x] :: enumD xs (n + 1)
def zip3 : List D → List D → List D → List D
  | x :: xs, y :: ys, z :: zs => .tup [x, y, z] :: zip3 xs ys zs
  | _, _, _ => []
def seqD : D → Option (List D)
  | .lst xs => some xs
  | .tup xs => some xs
  | .str x => if x.length ≤ line then some (x.map fun c => .str [c]) else none
  | _ => none
def zipD : List D → Option (List D)
  | [a, b] => match seqD a, seqD b with
    | some xs, some ys => some (List.zipWith (fun x y => .tup [x, y]) xs ys)
    | _, _ => none
  | [a, b, c] => match seqD a, seqD b, seqD c with
    | some xs, some ys, some zs => some (zip3 xs ys zs)
    | _, _, _ => none
  | _ => none
def cleans : List A → Option (List D)
  | [] => some []
  | a :: r => match a.clean, cleans r with
    | some d, some ds => some (d :: ds)
    | _, _ => none
def boolT (d : D) : Tr Bool := ofO d.truthy
mutual
/-- names bound, none locked -/
def bindT : T → D → Fm → Option Fm
  | .nm i, d, f => Fm.put f false i (cl d)
  | .tup ts, d, f => match d with
    | .tup ds => bindTs ts ds f
    | _ => none
  | .sub _ _, _, _ => none
def bindTs : List T → List D → Fm → Option Fm
  | [], ds, f => match ds with
    | [] => some f
    | _ :: _ => none
  | t :: ts, ds, f => match ds with
    | [] => none
    | d :: ds => match bindT t d f with
      | some f' => bindTs ts ds f'
      | none => none
end
def pairUp : List D → Option (List (D × D))
  | [] => some []
  | k :: v :: r => (pairUp r).map ((k, v) :: ·)
  | [_] => none
/-- what is walked, by its sources -/
def itemsA : It → List D → Option (List D)
  | .of _, [d] => seqD d
  | .rng _, ds => rangeD ds
  | .enm _, [d] => (seqD d).map fun xs => enumD xs 0
  | .zip _, ds => zipD ds
  | .items _, [.dct kvs] => some (kvs.map fun p => .tup [p.1, p.2])
  | .values _, [.dct kvs] => some (kvs.map fun p => p.2)
  | _, _ => none
def itT (it : It) (m : Tr (List A)) : Tr (List D) := m.bind fun as => ofO (itemsA it (as.map A.d))
/-- every item, one after another; acc is told reversed -/
def eachT (f : D → List D → Tr (List D)) : List D → List D → Tr (List D)
  | [], acc => .ret acc
  | x :: xs, acc => (f x acc).bind fun acc' => eachT f xs acc'
/-- the element is told -/
def lastF (elt : Fm → Tr A) (f : Fm) (acc : List D) : Tr (List D) := (elt f).bind fun x => match x.clean with
  | some d => if acc.length < line then .ret (d :: acc) else .stuck
  | none => .stuck
mutual
/-- the names it binds -/
def T.names : T → List Nat
  | .nm i => [i]
  | .tup ts => T.namess ts
  | .sub _ _ => []
def T.namess : List T → List Nat
  | [] => []
  | t :: ts => T.names t ++ T.namess ts
end
/-- one item of a clause -/
def genF (t : T) (ifs : Fm → Tr Bool) (k : Fm → List D → Tr (List D)) (f : Fm) (x : D) (acc : List D) : Tr (List D) := match bindT t x f with
  | some f' => (ifs f').bind fun b => if b then k f' acc else .ret acc
  | none => .stuck
def genM (inner : Bool) (m : Fm → Tr (List A)) (it : List D → Option (List D)) (t : T) (ifs : Fm → Tr Bool) (k : Fm → List D → Tr (List D)) (f : Fm) (acc : List D) : Tr (List D) :=
  (m f).bind fun as => if inner && !(as.all fun a => decide (a.t ≠ .ow)) then .stuck else (ofO (it (as.map A.d))).bind fun xs => eachT (fun x acc => genF t ifs k (wipe f t.names) x acc) xs acc
section
variable (G : Pg) (call : Nat → List A → Tr A)
mutual
def evE : E → Fm → Tr A
  | .var i, f => match f.get i with
    | some s => .ret s.read
    | none => .stuck
  | .cst d, _ => .ret (cl d)
  | .glb g, _ => match G.glb[g]? with
    | some d => .ret (cl d)
    | none => .stuck
  | .tup es, f => (evEs es f).bind fun as => match cleans as with
    | some ds => if ds.length ≤ line then .ret (cl (.tup ds)) else .stuck
    | none => .stuck
  | .lst es, f => (evEs es f).bind fun as => match cleans as with
    | some ds => if ds.length ≤ line then .ret (fr (.lst ds)) else .stuck
    | none => .stuck
  | .dct es, f => (evPs es f).bind fun ps => if (ps.all fun p => p.1.leaf) && decide (ps.length ≤ 15) then .ret (fr (.dct (ps.foldl (fun acc p => putD p.1 p.2 acc) []))) else .stuck
  | .bin o a b, f => (evE a f).bind fun x => (evE b f).bind fun y => ofO (binD o x.d y.d)
  | .neg a, f => (evE a f).bind fun x => match x.d with
    | .int i => .ret (cl (.int (-i)))
    | _ => .stuck
  | .not a, f => ((evE a f).bind fun x => boolT x.d).bind fun b => .ret (cl (.bl (!b)))
  | .and es, f => evAnd es f
  | .or es, f => evOr es f
  | .ife c a b, f => ((evE c f).bind fun x => boolT x.d).bind fun t => if t then evE a f else evE b f
  | .cmp a ops bs, f => (evE a f).bind fun x => evCmp x ops bs f
  | .idx a b, f => (evE a f).bind fun x => (evE b f).bind fun y => (ofO (idxD x.d y.d)).bind fun d => .ret (cl d)
  | .slc a lo hi, f => (evE a f).bind fun x => (evO lo f).bind fun l => (evO hi f).bind fun h => ofO (slcD x.d l h)
  | .rev a, f => (evE a f).bind fun x => ofO (revD x.d)
  | .call g es, f => (evEs es f).bind fun as => call g as
  | .callv g es, f => (evE g f).bind fun x => (evEs es f).bind fun as => match x.d with
    | .fn k => call k as
    | _ => .stuck
  | .draw b m, f => (evE b f).bind fun x => (evE m f).bind fun y => match x.d, y.d with
    | .box, .int n => if 0 < n ∧ n < 1000000 then .ask n.toNat fun d => .ret (cl (.int d)) else .stuck
    | _, _ => .stuck
  | .bi b es, f => (evEs es f).bind fun as => ofO (biD b (as.map A.d))
  | .bit b it, f => (itT it (evItA it f)).bind fun xs => match b with
    | .list => if xs.length ≤ line then .ret (fr (.lst xs)) else .stuck
    | .tuple => if xs.length ≤ line then .ret (cl (.tup xs)) else .stuck
    | .sorted => if sortable xs then .ret (fr (.lst (sortD xs))) else .stuck
    | .dict => match pairsD xs with
      | some ps => match mkD ps with
        | some kvs => .ret (fr (.dct kvs))
        | none => .stuck
      | none => .stuck
    | _ => .stuck
  | .isi a t, f => (evE a f).bind fun x => (ofO (isiD x.d t)).bind fun b => .ret (cl (.bl b))
  | .mth m o es, f => (evE o f).bind fun x => if mthRecv m x.d then (evEs es f).bind fun as => match cleans as with
    | some ds => ofO (mthD m x.d ds)
    | none => .stuck else .stuck
  | .comp own gs elt, f => (evGens false gs (fun f' => evE elt f') (wipe f own) []).bind fun acc => .ret (fr (.lst acc.reverse))
def evEs : List E → Fm → Tr (List A)
  | [], _ => .ret []
  | e :: es, f => (evE e f).bind fun a => (evEs es f).bind fun as => .ret (a :: as)
/-- pairs, each clean -/
def evPs : List E → Fm → Tr (List (D × D))
  | [], _ => .ret []
  | k :: es, f => match es with
    | [] => .stuck
    | v :: r => (evE k f).bind fun x => (evE v f).bind fun y => match x.clean, y.clean with
      | some k, some v => (evPs r f).bind fun ps => .ret ((k, v) :: ps)
      | _, _ => .stuck
def evAnd : List E → Fm → Tr A
  | [], _ => .stuck
  | e :: es, f => match es with
    | [] => evE e f
    | _ :: _ => (evE e f).bind fun x => (boolT x.d).bind fun b => if b then evAnd es f else .ret x
def evOr : List E → Fm → Tr A
  | [], _ => .stuck
  | e :: es, f => match es with
    | [] => evE e f
    | _ :: _ => (evE e f).bind fun x => (boolT x.d).bind fun b => if b then .ret x else evOr es f
/-- a chain of comparisons -/
def evCmp : A → List COp → List E → Fm → Tr A
  | x, ops, bs, f => match ops, bs with
    | [o], [b] => (evE b f).bind fun y => (ofO (cmpD o x.d y.d)).bind fun c => .ret (cl (.bl c))
    | [o, o2], [b, b2] => (evE b f).bind fun y => (ofO (cmpD o x.d y.d)).bind fun c =>
      if c then (evE b2 f).bind fun z => (ofO (cmpD o2 y.d z.d)).bind fun c2 => .ret (cl (.bl c2)) else .ret (cl (.bl false))
    | _, _ => .stuck
def evO : Option E → Fm → Tr (Option Int)
  | none, _ => .ret none
  | some e, f => (evE e f).bind fun x => match x.d with
    | .int i => .ret (some i)
    | _ => .stuck
def evItA : It → Fm → Tr (List A)
  | .of e, f => (evE e f).bind fun x => .ret [x]
  | .rng es, f => evEs es f
  | .enm e, f => (evE e f).bind fun x => .ret [x]
  | .zip es, f => evEs es f
  | .items e, f => (evE e f).bind fun x => .ret [x]
  | .values e, f => (evE e f).bind fun x => .ret [x]
/-- the tests of a clause -/
def evIfs : List E → Fm → Tr Bool
  | [], _ => .ret true
  | e :: es, f => match es with
    | [] => (evE e f).bind fun x => boolT x.d
    | _ :: _ => .stuck
/-- a target in a comprehension: names alone -/
def evGens : Bool → List Gen → (Fm → Tr A) → Fm → List D → Tr (List D)
  | _, [], elt, f, acc => lastF elt f acc
  | inner, .mk t it ifs :: gs, elt, f, acc => genM inner (fun f => evItA it f) (itemsA it) t (fun f => evIfs ifs f) (fun f acc => evGens true gs elt f acc) f acc
end
/-- a place is written -/
def stD : D → D → D → Option D
  | .dct kvs, kd, d => if keyOk kd kvs && decide (kvs.length < line) then some (.dct (putD kd d kvs)) else none
  | .lst xs, .int j, d => if 0 ≤ j ∧ j.toNat < xs.length then some (.lst (xs.set j.toNat d)) else none
  | _, _, _ => none
def appD (d : D) : D → Option D
  | .lst xs => if xs.length < line then some (.lst (xs ++ [d])) else none
  | _ => none
def extD (ys : List D) : D → Option D
  | .lst xs => if xs.length + ys.length ≤ line then some (.lst (xs ++ ys)) else none
  | _ => none
/-- how a statement ends -/
inductive Fl where
  | nx (f : Fm) | rt (a : A) | bk (f : Fm) | ct (f : Fm)
/-- x op= e -/
def augD : BOp → D → D → Option A
  | .add, .int i, .int j => some (cl (.int (i + j)))
  | .add, .str x, .str y => if x.length + y.length ≤ line then some (cl (.str (x ++ y))) else none
  | .sub, .int i, .int j => some (cl (.int (i - j)))
  | _, _, _ => none
def augOk : BOp → Bool
  | .add => true
  | .sub => true
  | _ => false
mutual
/-- a target of a statement takes a plain value -/
def asgD : T → D → Fm → Tr Fm
  | .nm i, d, f => ofO (f.put false i (cl d))
  | .sub i k, d, f => (evE G call k f).bind fun x => match x.clean with
    | some kd => ofO (f.mut i fun c => stD c kd d)
    | none => .stuck
  | .tup ts, d, f => match d with
    | .tup ds => if ds.length = ts.length then asgDs ts ds f else .stuck
    | _ => .stuck
def asgDs : List T → List D → Fm → Tr Fm
  | [], ds, f => match ds with
    | [] => .ret f
    | _ => .stuck
  | t :: ts, ds, f => match ds with
    | d :: ds => (asgD t d f).bind fun f' => asgDs ts ds f'
    | [] => .stuck
end
/-- two or three names at once -/
def isPar : List (T × Bool) → Bool
  | [(.nm _, _), (.nm _, _)] => true
  | [(.nm _, _), (.nm _, _), (.nm _, _)] => true
  | _ => false
def parT : List (T × Bool) → List A → Fm → Option Fm
  | [], [], f => some f
  | (.nm i, own) :: ts, a :: as, f => match f.put own i a with
    | some f' => parT ts as f'
    | none => none
  | _, _, _ => none
/-- while: no more turns than WF -/
def WF : Nat := 2 ^ 40
def whl (c : Fm → Tr Bool) (b : Fm → Tr Fl) : Nat → Fm → Tr Fl
  | 0, _ => .stuck
  | n + 1, f => (c f).bind fun t => if t then (b f).bind fun r => match r with
      | .nx f' => whl c b n f'
      | .ct f' => whl c b n f'
      | .bk f' => .ret (.nx f')
      | .rt a => .ret (.rt a)
    else .ret (.nx f)
def forL (bind : D → Fm → Option Fm) (keep : Option (List Nat)) (b : Fm → Tr Fl) : List D → Fm → Tr Fl
  | [], f => .ret (.nx f)
  | x :: xs, f => match bind x f with
    | none => .stuck
    | some f1 => (b f1).bind fun r => match r with
      | .nx f' => forL bind keep b xs (match keep with | some k => keepOnly f' k | none => f')
      | .ct f' => forL bind keep b xs (match keep with | some k => keepOnly f' k | none => f')
      | .bk f' => .ret (.nx f')
      | .rt a => .ret (.rt a)
def unlockFl (lock : List Nat) : Fl → Tr Fl
  | .nx f => (ofO (unlockAll f lock)).bind fun f' => .ret (.nx f')
  | .rt a => .ret (.rt a)
  | _ => .stuck
mutual
def evS : S → Fm → Tr Fl
  | .asg t own e, f => (evE G call e f).bind fun a => match t with
    | .nm i => (ofO (f.put own i a)).bind fun f' => .ret (.nx f')
    | t => (match a.clean with
      | some d => asgD G call t d f
      | none => .stuck).bind fun f' => .ret (.nx f')
  | .asgs ts es, f => (evEs G call es f).bind fun as => match cleans as with
    | some ds => if isPar ts then (ofO (parT ts as f)).bind fun f' => .ret (.nx f') else if ds.length ≤ line then (asgD G call (.tup (ts.map (·.1))) (.tup ds) f).bind fun f' => .ret (.nx f') else .stuck
    | none => .stuck
  | .app i e, f => (evE G call e f).bind fun a => match a.clean with
    | some d => (ofO (f.mut i (appD d))).bind fun f' => .ret (.nx f')
    | none => .stuck
  | .ext i e, f => (evE G call e f).bind fun a => match a.d with
    | .lst ys => (ofO (f.mut i (extD ys))).bind fun f' => .ret (.nx f')
    | _ => .stuck
  | .pop t i, f => match f.get i with
    | some ⟨.lst xs, .ow⟩ => match xs.getLast? with
      | some d => (asgD G call t d (f.set i (some ⟨.lst xs.dropLast, .ow⟩))).bind fun f' => .ret (.nx f')
      | none => .stuck
    | _ => .stuck
  | .aug i o e, f => match f.get i with
    | some s => (evE G call e f).bind fun y => (ofO (augD o s.d y.d)).bind fun a => (ofO (f.put false i a)).bind fun f' => .ret (.nx f')
    | none => .stuck
  | .ret e, f => match e with
    | none => .ret (.rt (cl .non))
    | some e => (evE G call e f).bind fun a => match a.t with
      | .cl => .ret (.rt a)
      | .fr => .ret (.rt a)
      | .ow => .ret (.rt ⟨a.d, .fr⟩)
      | .br => .stuck
      | .lk => .stuck
  | .ife c a b, f => ((evE G call c f).bind fun x => boolT x.d).bind fun t => if t then evSs a f else evSs b f
  | .whl c b, f => whl (fun f => (evE G call c f).bind fun x => boolT x.d) (fun f => evSs b f) WF f
  | .forr t it lock keep b, f => (ofO (lockAll f lock)).bind fun f1 => (evItA G call it f1).bind fun as =>
      if as.all (fun a => decide (a.t ≠ .ow)) then (ofO (itemsA it (as.map A.d))).bind fun xs =>
        (forL (bindT t) keep (fun f => evSs b f) xs f1).bind fun r => unlockFl lock r
      else .stuck
  | .brk, f => .ret (.bk f)
  | .cnt, f => .ret (.ct f)
  | .pass, f => .ret (.nx f)
  | .frz i, f => match f.get i with
    | some ⟨d, .ow⟩ => .ret (.nx (f.set i (some ⟨d, .cl⟩)))
    | _ => .stuck
def evSs : List S → Fm → Tr Fl
  | [], f => .ret (.nx f)
  | s :: ss, f => (evS s f).bind fun r => match r with
    | .nx f' => evSs ss f'
    | r => .ret r
end
end
/-- the arguments as a callee has them -/
def argS (a : A) : Option Sl := match a.t with
  | .cl => some ⟨a.d, .cl⟩
  | .fr => some ⟨a.d, .cl⟩
  | .br => some ⟨a.d, .br⟩
  | .ow => some ⟨a.d, .br⟩
  | .lk => some ⟨a.d, .br⟩
def callF (G : Pg) : Nat → Nat → List A → Tr A
  | 0, _, _ => .stuck
  | n + 1, g, as => match G.fns[g]? with
    | none => .stuck
    | some fd => if as.length = fd.ps then
        (evSs G (callF G n) fd.body (as.map argS ++ List.replicate (fd.n - fd.ps) none)).bind fun r => match r with
          | .nx _ => .ret (cl .non)
          | .rt a => match a.t with
            | .cl => .ret a
            | .fr => .ret a
            | _ => .stuck
          | _ => .stuck
      else .stuck
end Ev
/-! EvB: how plain data lie in the hand layer's heap. -/
namespace Ev
open PySem PySem.Spec PyProof.Rows L2
def toStr (s : List Nat) : Str := ⟨s.toArray⟩
theorem toStr_list (s : List Nat) : (toStr s).cps.toList = s := rfl
theorem toStr_len (s : List Nat) : (toStr s).length = s.length := by
  show s.toArray.size = _
  simp
theorem toStr_inj {a b : List Nat} : toStr a = toStr b ↔ a = b := by
  constructor
  · intro h
    have := congrArg (fun z : Str => z.cps.toList) h
    exact this
  · rintro rfl; rfl
theorem toStr_app (a b : List Nat) : toStr a ++ toStr b = toStr (a ++ b) := by
  show (⟨a.toArray ++ b.toArray⟩ : Str) = ⟨(a ++ b).toArray⟩
  simp
mutual
def toPy : D → PyData
  | .non => .none
  | .bl b => .bool b
  | .int i => .int i
  | .str s => .str (toStr s)
  | .lst xs => .list (toPys xs)
  | .tup xs => .tuple (toPys xs)
  | .dct _ => .dict []
  | .fn _ => .dict []
  | .box => .dict []
def toPys : List D → List PyData
  | [] => []
  | x :: xs => toPy x :: toPys xs
end
theorem toPys_map : ∀ xs : List D, toPys xs = xs.map toPy
  | [] => by simp [toPys]
  | x :: xs => by simp [toPys, toPys_map xs]
/-- a dict with keys that are tuples: the keys, where they stand, the values -/
def DctAtT (w : World) (h : Heap) (a : Addr) (xs : List (NestedKey × Addr × V)) : Prop :=
  ∃ o es ep, h.get? a = some o ∧ o.ExactDict ∧ o.data = .dict es ep ∧ Paired (fun (x : NestedKey × Addr × V) (e : DictEntry) => e.hash = x.1.hash w ∧ e.key = .ref x.2.1 ∧ RelV x.2.2 e.val) xs es.toList ∧ (xs.map (·.1)).Nodup
def dR (w : World) (a : Addr) (xs : List (NestedKey × Addr × V)) : HO := .ext fun h => DctAtT w h a xs
/-- a dict -/
def isD (o : HO) : Prop := (∃ kk, o = .dK kk) ∨ ∃ w a xs, o = dR w a xs
theorem isD_lst {vs : List V} : ¬ isD (.lst vs) := fun h => by rcases h with ⟨_, h⟩ | ⟨_, _, _, h⟩ <;> cases h
theorem isD_tup {vs : List V} : ¬ isD (.tup vs) := fun h => by rcases h with ⟨_, h⟩ | ⟨_, _, _, h⟩ <;> cases h
theorem isD_frz {o : Obj} {u : HO} : ¬ isD (.frz o u) := fun h => by rcases h with ⟨_, h⟩ | ⟨_, _, _, h⟩ <;> cases h
theorem isD_mut {o : HO} (h : isD o) : Mut (some o) := by rcases h with ⟨_, rfl⟩ | ⟨_, _, _, rfl⟩ <;> exact True.intro
mutual
/-- data as keys -/
def toKey : D → NestedKey
  | .non => .none
  | .bl b => .num (if b then 1 else 0)
  | .int i => .num i
  | .str s => .text (toStr s)
  | .tup xs => .tup (toKeys xs)
  | _ => .none
def toKeys : List D → List NestedKey
  | [] => []
  | x :: xs => toKey x :: toKeys xs
end
/-- what is fixed through a run: the written part, the functions' places, the world -/
structure Cs where
  w : World
  K : PySem.W.Frag
  fa : Nat → Option Addr
/-- the ghosts of a place in the run: the box and its cells; B: what plain data never touch; M: this frame's own; L: those that are locked now -/
structure Gh where
  b0 : Addr
  c0 : Addr
  B : Addr → Prop
  M : Addr → Prop
  L : Addr → Prop
/-- a tuple that is known: tracked with its object, or of the module -/
def PlT (K : PySem.W.Frag) (H : Hp) (a : Addr) (vs : List V) : Prop :=
  (∃ o, H a = some (.frz o (.tup vs)) ∧ o.dict = none) ∨ ∃ (o : Obj) (its : Array Value) (n : Nat), K.lookup a = some o ∧ o.cls = .type "tuple" ∧ o.dict = none ∧ o.data = .seq its n ∧ its.size ≤ sizeLine ∧ Vals vs its.toList
theorem PlT.sq {K : PySem.W.Frag} {H : Hp} {a : Addr} {vs : List V} (h : PlT K H a vs) : SqT K H a vs := by
  rcases h with ⟨o, h, _⟩ | ⟨o, its, n, h1, h2, _, h3⟩
  · exact .inl (.inr ⟨o, h⟩)
  · exact .inr ⟨o, its, n, h1, h2, h3⟩
theorem PlT.at {K K' : PySem.W.Frag} (e : K = K') {H : Hp} {a : Addr} {vs : List V} (h : PlT K H a vs) : SqT K' H a vs := e ▸ h.sq
/-- a dict's key, as ints and texts -/
def toK : D → Key
  | .int i => .inl i
  | .str s => .inr (toStr s)
  | _ => .inl 0
/-- a dict that is tracked: by ints and texts, or by tuples -/
def DcT (c : Cs) (P : HO → Prop) (a : Addr) (kvs : List (D × D)) (rows : List (V × V)) : Prop :=
  (∃ kk : List (Key × V), P (.dK kk) ∧ rows = kk.map (fun p => (kV p.1, p.2)) ∧ ∀ p ∈ kvs, p.1.leaf = true) ∨
    ∃ xs : List (NestedKey × Addr × V), P (dR c.w a xs) ∧ rows = xs.map (fun x => (.ref x.2.1, x.2.2)) ∧ xs.map (·.1) = kvs.map (fun p => toKey p.1) ∧ kvs ≠ [] ∧ ∀ p ∈ kvs, p.1.tkey = true
/-- a dict of the module, with texts as keys -/
def DcK (c : Cs) (a : Addr) (kvs : List (D × D)) (rows : List (V × V)) : Prop :=
  ∃ es n, c.K.lookup a = some ⟨.type "dict", none, .dict es n, #[]⟩ ∧ PySem.W.KeysLit c.w.params es.toList ∧ (rows.map (·.1)).Nodup ∧ Paired (fun (r : V × V) (e : DictEntry) => RelV r.1 e.key ∧ RelV r.2 e.val) rows es.toList ∧ ∀ p ∈ kvs, p.1.leaf = true
/-- a dict is there to be read; one that is tracked is not at B -/
def DcR (c : Cs) (B : Addr → Prop) (H : Hp) (a : Addr) (kvs : List (D × D)) (rows : List (V × V)) : Prop :=
  (a == sysModules) = false ∧ kvs.length ≤ sizeLine ∧ ((¬ B a ∧ DcT c (Rd H a) a kvs rows) ∨ DcK c a kvs rows)
variable (c : Cs)
mutual
/-- v is the plain value d; its lists and dicts are not at B -/
def Rz (b0 : Addr) (B : Addr → Prop) (H : Hp) : D → V → Prop
  | .non, v => v = .non
  | .bl b, v => v = .bl b
  | .int i, v => v = .int i
  | .str s, v => v = .str (toStr s)
  | .fn f, v => ∃ a, c.fa f = some a ∧ v = .ref a
  | .box, v => v = .ref b0
  | .tup ds, v => ∃ a vs, v = .ref a ∧ PlT c.K H a vs ∧ Rzs b0 B H ds vs
  | .lst ds, v => ∃ a vs, v = .ref a ∧ ¬ B a ∧ H a = some (.lst vs) ∧ Rzs b0 B H ds vs
  | .dct kvs, v => ∃ a rows, v = .ref a ∧ DcR c B H a kvs rows ∧ Rzd b0 B H kvs rows
def Rzs (b0 : Addr) (B : Addr → Prop) (H : Hp) : List D → List V → Prop
  | [], vs => vs = []
  | d :: ds, vs => ∃ v r, vs = v :: r ∧ Rz b0 B H d v ∧ Rzs b0 B H ds r
def Rzd (b0 : Addr) (B : Addr → Prop) (H : Hp) : List (D × D) → List (V × V) → Prop
  | [], rows => rows = []
  | p :: ps, rows => ∃ k v r, rows = (k, v) :: r ∧ Rz b0 B H p.1 k ∧ Rz b0 B H p.2 v ∧ Rzd b0 B H ps r
end
/-- the root may stand anywhere; what it holds is plain -/
def Root (b0 : Addr) (B : Addr → Prop) (H : Hp) (d : D) (a : Addr) : Prop := match d with
  | .lst ds => ∃ vs, H a = some (.lst vs) ∧ Rzs c b0 B H ds vs
  | .dct kvs => ∃ rows, (a == sysModules) = false ∧ kvs.length ≤ sizeLine ∧ DcT c (Rd H a) a kvs rows ∧ Rzd c b0 B H kvs rows
  | _ => False
/-- .. and it may be written -/
def RootM (b0 : Addr) (B : Addr → Prop) (H : Hp) (d : D) (a : Addr) : Prop := match d with
  | .lst ds => ∃ vs, H a = some (.lst vs) ∧ Rzs c b0 B H ds vs
  | .dct kvs => ∃ rows, (a == sysModules) = false ∧ kvs.length ≤ sizeLine ∧ DcT c (fun o => H a = some o) a kvs rows ∧ Rzd c b0 B H kvs rows
  | _ => False
/-- a value that is read, whatever its standing -/
def Rr (b0 : Addr) (B : Addr → Prop) (H : Hp) (d : D) (v : V) : Prop := Rz c b0 B H d v ∨ ∃ a, v = .ref a ∧ Root c b0 B H d a
/-- the box stands -/
def BoxOk (g : Gh) (H : Hp) : Prop := ∃ (cells : List Int) (x y : Int), H g.b0 = some (.lst [.ref g.c0, .int x, .int y]) ∧ H g.c0 = some (.lst (cells.map V.int)) ∧ cells.length ≤ 63 ∧ 0 ≤ x ∧ 0 ≤ y ∧ y < 2147483648
/-- what was tracked is as it was, but the box; a dict that nobody owns may be known from now on -/
def Sm (g : Gh) (H H' : Hp) : Prop := ∀ a o, H a = some o → ((a = g.b0 ∨ a = g.c0) ∧ Mut (some o)) ∨ H' a = some o ∨ (¬ g.B a ∧ isD o ∧ ∃ od, H' a = some (.frz od o))
theorem Sm.refl (g : Gh) (H : Hp) : Sm g H H := fun _ _ h => .inr (.inl h)
theorem Sm.trans {g : Gh} {H H1 H2 : Hp} (h : Sm g H H1) (h' : Sm g H1 H2) : Sm g H H2 := fun a o e => by
  rcases h a o e with z | z | ⟨nb, i, od, z⟩
  · exact .inl z
  · exact h' a o z
  · rcases h' a _ z with y | y | ⟨_, i', _⟩
    · exact absurd y.2 (fun q => q)
    · exact .inr (.inr ⟨nb, i, od, y⟩)
    · exact absurd i' isD_frz
theorem Sm.of_same {g : Gh} {H H' : Hp} (h : Same H H') : Sm g H H' := fun a o e => .inr (.inl (h a o e))
theorem Sm.sub {g g' : Gh} {H H' : Hp} (h : Sm g' H H') (hb : g'.b0 = g.b0) (hc : g'.c0 = g.c0) (hB : ∀ a, H a ≠ none → g.B a → g'.B a) : Sm g H H' := fun a o e => by
  rcases h a o e with z | z | ⟨nb, z⟩
  · rw [hb, hc] at z
    exact .inl z
  · exact .inr (.inl z)
  · exact .inr (.inr ⟨fun q => nb (hB a (by rw [e]; simp) q), z⟩)
theorem Sm.own {g : Gh} {H H' : Hp} (h : Sm g H H') {a : Addr} {o : HO} (ha : a ≠ g.b0 ∧ a ≠ g.c0) (hB : g.B a) (e : H a = some o) : H' a = some o := by
  rcases h a o e with z | z | z
  · exact absurd z.1 (fun q => q.elim ha.1 ha.2)
  · exact z
  · exact absurd hB z.1
theorem Sm.lst {g : Gh} {H H' : Hp} (h : Sm g H H') {a : Addr} {vs : List V} (ha : a ≠ g.b0 ∧ a ≠ g.c0) (e : H a = some (.lst vs)) : H' a = some (.lst vs) := by
  rcases h a _ e with z | z | ⟨_, i, _⟩
  · exact absurd z.1 (fun q => q.elim ha.1 ha.2)
  · exact z
  · exact absurd i isD_lst
theorem Sm.some {g : Gh} {H H' : Hp} (h : Sm g H H') (hb : H' g.b0 ≠ none ∧ H' g.c0 ≠ none) {a : Addr} (e : H a ≠ none) : H' a ≠ none := by
  cases q : H a with
  | none => exact absurd q e
  | some o =>
    rcases h a o q with z | z | ⟨_, i, od, z⟩
    · rcases z.1 with y | y <;> rw [y]
      · exact hb.1
      · exact hb.2
    · rw [z]; simp
    · rw [z]; simp
theorem Sm.rd {g : Gh} {H H' : Hp} (h : Sm g H H') {a : Addr} {u : HO} (ha : a ≠ g.b0 ∧ a ≠ g.c0) (r : Rd H a u) : Rd H' a u := by
  rcases r with r | ⟨o, r⟩
  · rcases h a _ r with z | z | ⟨_, i, od, z⟩
    · exact absurd z.1 (fun q => q.elim ha.1 ha.2)
    · exact .inl z
    · exact .inr ⟨od, z⟩
  · rcases h a _ r with z | z | ⟨_, i, od, z⟩
    · exact absurd z.2 (fun q => q)
    · exact .inr ⟨o, z⟩
    · exact absurd i isD_frz
variable {c}
/-- B bars the box -/
def Bars (g : Gh) : Prop := g.B g.b0 ∧ g.B g.c0
theorem ne_box {g : Gh} (hb : Bars g) {a : Addr} (h : ¬ g.B a) : a ≠ g.b0 ∧ a ≠ g.c0 := ⟨fun e => h (e ▸ hb.1), fun e => h (e ▸ hb.2)⟩
theorem DcT.imp {P P' : HO → Prop} (h : ∀ o, isD o → P o → P' o) {a : Addr} {kvs : List (D × D)} {rows : List (V × V)} (r : DcT c P a kvs rows) : DcT c P' a kvs rows := by
  rcases r with ⟨kk, p, r⟩ | ⟨xs, p, r⟩
  · exact .inl ⟨kk, h _ (.inl ⟨_, rfl⟩) p, r⟩
  · exact .inr ⟨xs, h _ (.inr ⟨_, _, _, rfl⟩) p, r⟩
/-- what is not barred, and what never changes, is as it was; dicts may be known from now on -/
def Sb (B : Addr → Prop) (H H' : Hp) : Prop := ∀ a o, H a = some o → (¬ B a ∨ ¬ Mut (some o)) → H' a = some o ∨ (isD o ∧ ∃ od, H' a = some (.frz od o))
theorem Sm.sb {g : Gh} {H H' : Hp} (hb : Bars g) (h : Sm g H H') : Sb g.B H H' := fun a o e n => by
  rcases h a o e with z | z | ⟨_, z⟩
  · rcases n with n | n
    · exact absurd z.1 fun q => q.elim (ne_box hb n).1 (ne_box hb n).2
    · exact absurd z.2 n
  · exact .inl z
  · exact .inr z
theorem Sb.upd {B : Addr → Prop} {H : Hp} {a : Addr} {o u : HO} (hB : B a) (e : H a = some u) (hm : Mut (some u)) : Sb B H (upd H a o) := fun b w q n => by
  by_cases hb : b = a
  · subst hb
    rw [e] at q
    cases q
    rcases n with n | n
    · exact absurd hB n
    · exact absurd hm n
  · exact .inl (by rw [upd_ne hb]; exact q)
theorem Sb.lst {B : Addr → Prop} {H H' : Hp} (h : Sb B H H') {a : Addr} {vs : List V} (nb : ¬ B a) (e : H a = some (.lst vs)) : H' a = some (.lst vs) := by
  rcases h a _ e (.inl nb) with z | z
  · exact z
  · exact absurd z.1 isD_lst
theorem Sb.rd {B : Addr → Prop} {H H' : Hp} (h : Sb B H H') {a : Addr} {u : HO} (nb : ¬ B a) (r : Rd H a u) : Rd H' a u := by
  rcases r with r | ⟨o, r⟩
  · rcases h a _ r (.inl nb) with z | ⟨_, od, z⟩
    · exact .inl z
    · exact .inr ⟨od, z⟩
  · rcases h a _ r (.inl nb) with z | ⟨i, od, z⟩
    · exact .inr ⟨o, z⟩
    · exact absurd i isD_frz
theorem Sb.tup {B : Addr → Prop} {K : PySem.W.Frag} {H H' : Hp} (h : Sb B H H') {a : Addr} {vs : List V} (r : PlT K H a vs) : PlT K H' a vs := by
  rcases r with ⟨o, r, d⟩ | r
  · rcases h a _ r (.inr fun z => z) with z | ⟨i, _⟩
    · exact .inl ⟨o, z, d⟩
    · exact absurd i isD_frz
  · exact .inr r
theorem Sb.dcr {B : Addr → Prop} {H H' : Hp} (h : Sb B H H') {a : Addr} {kvs : List (D × D)} {rows : List (V × V)} (r : DcR c B H a kvs rows) : DcR c B H' a kvs rows := by
  obtain ⟨r1, r2, r3⟩ := r
  refine ⟨r1, r2, ?_⟩
  rcases r3 with ⟨nb, r3⟩ | r3
  · exact .inl ⟨nb, r3.imp fun o _ q => h.rd nb q⟩
  · exact .inr r3
mutual
theorem Rz.keep {b0 : Addr} {B : Addr → Prop} {H H' : Hp} (h : Sb B H H') : ∀ {d : D} {v : V}, Rz c b0 B H d v → Rz c b0 B H' d v
  | .non, _, r => r
  | .bl _, _, r => r
  | .int _, _, r => r
  | .str _, _, r => r
  | .fn _, _, r => r
  | .box, _, r => r
  | .tup ds, v, r => by
    rw [Rz] at r ⊢
    obtain ⟨a, vs, e, q, rs⟩ := r
    exact ⟨a, vs, e, h.tup q, Rzs.keep h rs⟩
  | .lst ds, v, r => by
    rw [Rz] at r ⊢
    obtain ⟨a, vs, e, nb, q, rs⟩ := r
    exact ⟨a, vs, e, nb, h.lst nb q, Rzs.keep h rs⟩
  | .dct kvs, v, r => by
    rw [Rz] at r ⊢
    obtain ⟨a, rows, e, q, rs⟩ := r
    exact ⟨a, rows, e, h.dcr q, Rzd.keep h rs⟩
theorem Rzs.keep {b0 : Addr} {B : Addr → Prop} {H H' : Hp} (h : Sb B H H') : ∀ {ds : List D} {vs : List V}, Rzs c b0 B H ds vs → Rzs c b0 B H' ds vs
  | [], _, r => by rw [Rzs] at r ⊢; exact r
  | d :: ds, _, r => by
    rw [Rzs] at r ⊢
    obtain ⟨v, q, e, r1, r2⟩ := r
    exact ⟨v, q, e, Rz.keep h r1, Rzs.keep h r2⟩
theorem Rzd.keep {b0 : Addr} {B : Addr → Prop} {H H' : Hp} (h : Sb B H H') : ∀ {kvs : List (D × D)} {rows : List (V × V)}, Rzd c b0 B H kvs rows → Rzd c b0 B H' kvs rows
  | [], _, r => by rw [Rzd] at r ⊢; exact r
  | (a, b) :: ps, _, r => by
    rw [Rzd] at r ⊢
    obtain ⟨k, v, q, e, r1, r2, r3⟩ := r
    exact ⟨k, v, q, e, Rz.keep h r1, Rz.keep h r2, Rzd.keep h r3⟩
end
theorem Rz.mono {g : Gh} {H H' : Hp} (hb : Bars g) (h : Sm g H H') {d : D} {v : V} (r : Rz c g.b0 g.B H d v) : Rz c g.b0 g.B H' d v := r.keep (h.sb hb)
theorem Rzs.mono {g : Gh} {H H' : Hp} (hb : Bars g) (h : Sm g H H') {ds : List D} {vs : List V} (r : Rzs c g.b0 g.B H ds vs) : Rzs c g.b0 g.B H' ds vs := r.keep (h.sb hb)
theorem Rzd.mono {g : Gh} {H H' : Hp} (hb : Bars g) (h : Sm g H H') {kvs : List (D × D)} {rows : List (V × V)} (r : Rzd c g.b0 g.B H kvs rows) : Rzd c g.b0 g.B H' kvs rows := r.keep (h.sb hb)
mutual
/-- another bar -/
theorem Rz.bar {b0 : Addr} {B B' : Addr → Prop} {H : Hp} (hB : ∀ a, H a ≠ none → B' a → B a) : ∀ {d : D} {v : V}, Rz c b0 B H d v → Rz c b0 B' H d v
  | .non, _, r => r
  | .bl _, _, r => r
  | .int _, _, r => r
  | .str _, _, r => r
  | .fn _, _, r => r
  | .box, _, r => r
  | .tup ds, v, r => by
    rw [Rz] at r ⊢
    obtain ⟨a, vs, e, q, rs⟩ := r
    exact ⟨a, vs, e, q, Rzs.bar hB rs⟩
  | .lst ds, v, r => by
    rw [Rz] at r ⊢
    obtain ⟨a, vs, e, nb, q, rs⟩ := r
    exact ⟨a, vs, e, fun z => nb (hB a (by rw [q]; simp) z), q, Rzs.bar hB rs⟩
  | .dct kvs, v, r => by
    rw [Rz] at r ⊢
    obtain ⟨a, rows, e, ⟨q1, q2, q⟩, rs⟩ := r
    refine ⟨a, rows, e, ⟨q1, q2, ?_⟩, Rzd.bar hB rs⟩
    rcases q with ⟨nb, q⟩ | q
    · refine .inl ⟨fun z => nb (hB a ?_ z), q⟩
      rcases q with ⟨_, (q | ⟨o, q⟩), _⟩ | ⟨_, (q | ⟨o, q⟩), _⟩ <;> rw [q] <;> simp
    · exact .inr q
theorem Rzs.bar {b0 : Addr} {B B' : Addr → Prop} {H : Hp} (hB : ∀ a, H a ≠ none → B' a → B a) : ∀ {ds : List D} {vs : List V}, Rzs c b0 B H ds vs → Rzs c b0 B' H ds vs
  | [], _, r => by rw [Rzs] at r ⊢; exact r
  | d :: ds, _, r => by
    rw [Rzs] at r ⊢
    obtain ⟨v, q, e, r1, r2⟩ := r
    exact ⟨v, q, e, Rz.bar hB r1, Rzs.bar hB r2⟩
theorem Rzd.bar {b0 : Addr} {B B' : Addr → Prop} {H : Hp} (hB : ∀ a, H a ≠ none → B' a → B a) : ∀ {kvs : List (D × D)} {rows : List (V × V)}, Rzd c b0 B H kvs rows → Rzd c b0 B' H kvs rows
  | [], _, r => by rw [Rzd] at r ⊢; exact r
  | (a, b) :: ps, _, r => by
    rw [Rzd] at r ⊢
    obtain ⟨k, v, q, e, r1, r2, r3⟩ := r
    exact ⟨k, v, q, e, Rz.bar hB r1, Rz.bar hB r2, Rzd.bar hB r3⟩
end
theorem Rzs.length {b0 : Addr} {B : Addr → Prop} {H : Hp} : ∀ {ds : List D} {vs : List V}, Rzs c b0 B H ds vs → vs.length = ds.length
  | [], _, r => by rw [Rzs] at r; rw [r]; rfl
  | d :: ds, _, r => by
    rw [Rzs] at r
    obtain ⟨v, q, e, _, r2⟩ := r
    rw [e, List.length_cons, List.length_cons, Rzs.length r2]
theorem Rzs.get {b0 : Addr} {B : Addr → Prop} {H : Hp} : ∀ {ds : List D} {vs : List V} {i : Nat} {d : D}, Rzs c b0 B H ds vs → ds[i]? = some d → ∃ v, vs[i]? = some v ∧ Rz c b0 B H d v
  | [], _, _, _, _, h => by simp at h
  | x :: xs, _, 0, d, r, h => by
    rw [Rzs] at r
    obtain ⟨v, q, e, r1, _⟩ := r
    simp at h
    subst h
    exact ⟨v, by rw [e]; rfl, r1⟩
  | x :: xs, _, i + 1, d, r, h => by
    rw [Rzs] at r
    obtain ⟨v, q, e, _, r2⟩ := r
    obtain ⟨u, h1, h2⟩ := Rzs.get (i := i) (d := d) r2 (by simpa using h)
    exact ⟨u, by rw [e]; simpa using h1, h2⟩
theorem Rzs.app {b0 : Addr} {B : Addr → Prop} {H : Hp} : ∀ {ds es : List D} {vs ws : List V}, Rzs c b0 B H ds vs → Rzs c b0 B H es ws → Rzs c b0 B H (ds ++ es) (vs ++ ws)
  | [], _, _, _, r, r' => by rw [Rzs] at r; rw [r]; exact r'
  | d :: ds, es, _, ws, r, r' => by
    rw [Rzs] at r
    obtain ⟨v, q, e, r1, r2⟩ := r
    rw [e, List.cons_append, List.cons_append, Rzs]
    exact ⟨v, q ++ ws, rfl, r1, Rzs.app r2 r'⟩
theorem Rzs.take {b0 : Addr} {B : Addr → Prop} {H : Hp} : ∀ {ds : List D} {vs : List V} (n : Nat), Rzs c b0 B H ds vs → Rzs c b0 B H (ds.take n) (vs.take n)
  | _, _, 0, _ => by simp [Rzs]
  | [], _, n + 1, r => by rw [Rzs] at r; rw [r]; simp [Rzs]
  | d :: ds, _, n + 1, r => by
    rw [Rzs] at r
    obtain ⟨v, q, e, r1, r2⟩ := r
    rw [e, List.take_succ_cons, List.take_succ_cons, Rzs]
    exact ⟨v, q.take n, rfl, r1, Rzs.take n r2⟩
theorem Rzs.drop {b0 : Addr} {B : Addr → Prop} {H : Hp} : ∀ {ds : List D} {vs : List V} (n : Nat), Rzs c b0 B H ds vs → Rzs c b0 B H (ds.drop n) (vs.drop n)
  | _, _, 0, r => r
  | [], _, n + 1, r => by rw [Rzs] at r; rw [r]; simp [Rzs]
  | d :: ds, _, n + 1, r => by
    rw [Rzs] at r
    obtain ⟨v, q, e, _, r2⟩ := r
    rw [e]
    exact Rzs.drop n r2
theorem Rzs.nil {b0 : Addr} {B : Addr → Prop} {H : Hp} : Rzs c b0 B H [] [] := by rw [Rzs]
theorem Rzs.cons {b0 : Addr} {B : Addr → Prop} {H : Hp} {d : D} {v : V} {ds : List D} {vs : List V} (h : Rz c b0 B H d v) (r : Rzs c b0 B H ds vs) : Rzs c b0 B H (d :: ds) (v :: vs) := by
  rw [Rzs]; exact ⟨v, vs, rfl, h, r⟩
theorem Rzs.one {b0 : Addr} {B : Addr → Prop} {H : Hp} {d : D} {v : V} (h : Rz c b0 B H d v) : Rzs c b0 B H [d] [v] := .cons h .nil
theorem Rzs.rev {b0 : Addr} {B : Addr → Prop} {H : Hp} : ∀ {ds : List D} {vs : List V}, Rzs c b0 B H ds vs → Rzs c b0 B H ds.reverse vs.reverse
  | [], _, r => by rw [Rzs] at r; rw [r]; simp [Rzs]
  | d :: ds, _, r => by
    rw [Rzs] at r
    obtain ⟨v, q, e, r1, r2⟩ := r
    rw [e, List.reverse_cons, List.reverse_cons]
    exact Rzs.app (Rzs.rev r2) (.one r1)
theorem Rzs.set {b0 : Addr} {B : Addr → Prop} {H : Hp} {d : D} {v : V} (h : Rz c b0 B H d v) : ∀ {ds : List D} {vs : List V} (i : Nat), Rzs c b0 B H ds vs → Rzs c b0 B H (ds.set i d) (vs.set i v)
  | [], _, _, r => by rw [Rzs] at r; rw [r]; simp [Rzs]
  | x :: xs, _, 0, r => by
    rw [Rzs] at r
    obtain ⟨u, q, e, _, r2⟩ := r
    rw [e]
    exact .cons h r2
  | x :: xs, _, i + 1, r => by
    rw [Rzs] at r
    obtain ⟨u, q, e, r1, r2⟩ := r
    rw [e]
    exact .cons r1 (Rzs.set h i r2)
theorem Rzs.rep {b0 : Addr} {B : Addr → Prop} {H : Hp} {ds : List D} {vs : List V} (r : Rzs c b0 B H ds vs) : ∀ n, Rzs c b0 B H (repD ds n) (repD vs n)
  | 0 => .nil
  | n + 1 => Rzs.app r (Rzs.rep r n)
/-! ### what a root says -/
theorem Rr.tup {b0 : Addr} {B : Addr → Prop} {H : Hp} {ds : List D} {v : V} (r : Rr c b0 B H (.tup ds) v) : ∃ a vs, v = .ref a ∧ PlT c.K H a vs ∧ Rzs c b0 B H ds vs := by
  rcases r with r | ⟨a, _, r⟩
  · rw [Rz] at r; exact r
  · exact False.elim r
theorem Rr.lst {b0 : Addr} {B : Addr → Prop} {H : Hp} {ds : List D} {v : V} (r : Rr c b0 B H (.lst ds) v) : ∃ a vs, v = .ref a ∧ H a = some (.lst vs) ∧ Rzs c b0 B H ds vs := by
  rcases r with r | ⟨a, e, vs, h, rs⟩
  · rw [Rz] at r
    obtain ⟨a, vs, e, _, h, rs⟩ := r
    exact ⟨a, vs, e, h, rs⟩
  · exact ⟨a, vs, e, h, rs⟩
theorem Rr.int {b0 : Addr} {B : Addr → Prop} {H : Hp} {i : Int} {v : V} (r : Rr c b0 B H (.int i) v) : v = .int i := by
  rcases r with r | ⟨a, _, r⟩
  · rw [Rz] at r; exact r
  · exact False.elim r
theorem Rr.bl {b0 : Addr} {B : Addr → Prop} {H : Hp} {i : Bool} {v : V} (r : Rr c b0 B H (.bl i) v) : v = .bl i := by
  rcases r with r | ⟨a, _, r⟩
  · rw [Rz] at r; exact r
  · exact False.elim r
theorem Rr.non {b0 : Addr} {B : Addr → Prop} {H : Hp} {v : V} (r : Rr c b0 B H .non v) : v = .non := by
  rcases r with r | ⟨a, _, r⟩
  · rw [Rz] at r; exact r
  · exact False.elim r
theorem Rr.str {b0 : Addr} {B : Addr → Prop} {H : Hp} {i : List Nat} {v : V} (r : Rr c b0 B H (.str i) v) : v = .str (toStr i) := by
  rcases r with r | ⟨a, _, r⟩
  · rw [Rz] at r; exact r
  · exact False.elim r
theorem Rr.fn {b0 : Addr} {B : Addr → Prop} {H : Hp} {i : Nat} {v : V} (r : Rr c b0 B H (.fn i) v) : ∃ a, c.fa i = some a ∧ v = .ref a := by
  rcases r with r | ⟨a, _, r⟩
  · rw [Rz] at r; exact r
  · exact False.elim r
theorem Rr.box {b0 : Addr} {B : Addr → Prop} {H : Hp} {v : V} (r : Rr c b0 B H .box v) : v = .ref b0 := by
  rcases r with r | ⟨a, _, r⟩
  · rw [Rz] at r; exact r
  · exact False.elim r
theorem Rr.dct {b0 : Addr} {B : Addr → Prop} {H : Hp} {kvs : List (D × D)} {v : V} (r : Rr c b0 B H (.dct kvs) v) : ∃ a rows, v = .ref a ∧ DcR c (fun _ => False) H a kvs rows ∧ Rzd c b0 B H kvs rows := by
  rcases r with r | ⟨a, e, rows, h, h1, h2, rs⟩
  · rw [Rz] at r
    obtain ⟨a, rows, e, ⟨q1, q2, q⟩, rs⟩ := r
    refine ⟨a, rows, e, ⟨q1, q2, ?_⟩, rs⟩
    rcases q with ⟨_, q⟩ | q
    · exact .inl ⟨fun z => z, q⟩
    · exact .inr q
  · exact ⟨a, rows, e, ⟨h, h1, .inl ⟨fun z => z, h2⟩⟩, rs⟩
theorem Rzd.length {b0 : Addr} {B : Addr → Prop} {H : Hp} : ∀ {ds : List (D × D)} {vs : List (V × V)}, Rzd c b0 B H ds vs → vs.length = ds.length
  | [], _, r => by rw [Rzd] at r; rw [r]; rfl
  | d :: ds, _, r => by
    rw [Rzd] at r
    obtain ⟨k, v, q, e, _, _, r2⟩ := r
    rw [e, List.length_cons, List.length_cons, Rzd.length r2]
/-! ### plain data are data -/
mutual
theorem Rz.dp {b0 : Addr} {B : Addr → Prop} {H : Hp} : ∀ {d : D} {v : V}, d.plain = true → Rz c b0 B H d v → Dp c.K H v (toPy d)
  | .non, _, _, r => by rw [Rz] at r; rw [r, toPy]; exact .non
  | .bl _, _, _, r => by rw [Rz] at r; rw [r, toPy]; exact .bl _
  | .int _, _, _, r => by rw [Rz] at r; rw [r, toPy]; exact .int _
  | .str _, _, _, r => by rw [Rz] at r; rw [r, toPy]; exact .str _
  | .fn _, _, h, _ => by simp [D.plain] at h
  | .box, _, h, _ => by simp [D.plain] at h
  | .dct _, _, h, _ => by simp [D.plain] at h
  | .tup ds, _, h, r => by
    rw [Rz] at r
    obtain ⟨a, vs, e, q, rs⟩ := r
    rw [e, toPy]
    exact .tup q.sq (Rzs.dp (by simpa [D.plain] using h) rs)
  | .lst ds, _, h, r => by
    rw [Rz] at r
    obtain ⟨a, vs, e, _, q, rs⟩ := r
    rw [e, toPy]
    exact .lst (SqL.of q) (Rzs.dp (by simpa [D.plain] using h) rs)
theorem Rzs.dp {b0 : Addr} {B : Addr → Prop} {H : Hp} : ∀ {ds : List D} {vs : List V}, D.plains ds = true → Rzs c b0 B H ds vs → DpAll c.K H vs (toPys ds)
  | [], _, _, r => by rw [Rzs] at r; rw [r, toPys]; exact .nil
  | d :: ds, _, h, r => by
    rw [Rzs] at r
    obtain ⟨v, q, e, r1, r2⟩ := r
    rw [D.plains, Bool.and_eq_true] at h
    rw [e, toPys]
    exact .cons (Rz.dp h.1 r1) (Rzs.dp h.2 r2)
end
theorem Rr.dp {b0 : Addr} {B : Addr → Prop} {H : Hp} {d : D} {v : V} (h : d.plain = true) (r : Rr c b0 B H d v) : Dp c.K H v (toPy d) := by
  rcases r with r | ⟨a, e, r⟩
  · exact r.dp h
  · cases d with
    | lst ds =>
      obtain ⟨vs, q, rs⟩ := r
      rw [e, toPy]
      exact .lst (SqL.of q) (rs.dp (by simpa [D.plain] using h))
    | dct _ => simp [D.plain] at h
    | _ => exact False.elim r
mutual
theorem toPy_plain : ∀ {d : D}, d.plain = true → (toPy d).plain = true
  | .non, _ => by simp [toPy, PyData.plain]
  | .bl _, _ => by simp [toPy, PyData.plain]
  | .int _, _ => by simp [toPy, PyData.plain]
  | .str _, _ => by simp [toPy, PyData.plain]
  | .fn _, h => by simp [D.plain] at h
  | .box, h => by simp [D.plain] at h
  | .dct _, h => by simp [D.plain] at h
  | .tup ds, h => by
    rw [toPy, PyData.plain]
    exact toPys_plain (by simpa [D.plain] using h)
  | .lst ds, h => by
    rw [toPy, PyData.plain]
    exact toPys_plain (by simpa [D.plain] using h)
theorem toPys_plain : ∀ {ds : List D}, D.plains ds = true → PyData.plainAll (toPys ds) = true
  | [], _ => by simp [toPys, PyData.plainAll]
  | d :: ds, h => by
    rw [D.plains, Bool.and_eq_true] at h
    rw [toPys, PyData.plainAll, toPy_plain h.1, toPys_plain h.2]
    rfl
end
mutual
theorem toPy_depth : ∀ (d : D), (toPy d).depth ≤ d.depth + 1 ∧ (d.plain = true → (toPy d).depth = d.depth)
  | .non => by simp [toPy, PyData.depth, D.depth]
  | .bl _ => by simp [toPy, PyData.depth, D.depth]
  | .int _ => by simp [toPy, PyData.depth, D.depth]
  | .str _ => by simp [toPy, PyData.depth, D.depth]
  | .fn _ => by refine ⟨?_, fun h => by simp [D.plain] at h⟩; simp [toPy, PyData.depth, D.depth, PyData.depthAll, PyData.depthKv]
  | .box => by refine ⟨?_, fun h => by simp [D.plain] at h⟩; simp [toPy, PyData.depth, D.depth, PyData.depthAll, PyData.depthKv]
  | .dct _ => by refine ⟨?_, fun h => by simp [D.plain] at h⟩; simp [toPy, PyData.depth, D.depth, PyData.depthAll, PyData.depthKv]
  | .tup ds => by
    have h := toPys_depth ds
    rw [toPy, PyData.depth, D.depth]
    refine ⟨by omega, fun q => ?_⟩
    have := h.2 (by simpa [D.plain] using q)
    omega
  | .lst ds => by
    have h := toPys_depth ds
    rw [toPy, PyData.depth, D.depth]
    refine ⟨by omega, fun q => ?_⟩
    have := h.2 (by simpa [D.plain] using q)
    omega
theorem toPys_depth : ∀ (ds : List D), PyData.depthAll (toPys ds) ≤ D.depths ds + 1 ∧ (D.plains ds = true → PyData.depthAll (toPys ds) = D.depths ds)
  | [] => by simp [toPys, PyData.depthAll, D.depths]
  | d :: ds => by
    have h1 := toPy_depth d
    have h2 := toPys_depth ds
    rw [toPys, PyData.depthAll, D.depths]
    refine ⟨by omega, fun q => ?_⟩
    rw [D.plains, Bool.and_eq_true] at q
    have a := h1.2 q.1
    have b := h2.2 q.2
    omega
end
end Ev
/-! EvH0: the module's names; the head's run. -/
namespace Ev
open PySem PySem.Spec PyProof.Rows L2
def bltNames : List Str := ["len", "tuple", "list", "dict", "sorted", "set", "all", "any", "sum", "max", "min", "int", "str", "bool", "abs", "isinstance", "range", "enumerate", "zip"]
/-! ### constants of the module -/
def litV : D → V
  | .int i => .int i
  | .str z => .str (toStr z)
  | _ => .non
def keyS : D → Str
  | .str z => toStr z
  | _ => toStr []
def isStrD : D → Bool
  | .str _ => true
  | _ => false
def fnV (K : PySem.W.Frag) (fnNames : List Str) : D → V
  | .fn k => (match fnNames[k]? with
    | some x => .ref (He.ga K x)
    | none => .non)
  | _ => .non
def isFnD (fnNames : List Str) : D → Bool
  | .fn k => decide (k < fnNames.length)
  | _ => false
/-- a module's name stands for that datum -/
def glbOk (K : PySem.W.Frag) (fnNames : List Str) (x : Str) : D → Bool
  | .int i => (He.Fa.int x i).ok K
  | .str z => (He.Fa.str x (toStr z)).ok K
  | .tup ds => (He.Fa.glo x).ok K && (ds.all fun d => d.leaf) && (match K.lookup (He.ga K x) with
    | some ⟨.type c, none, .seq its _, _⟩ => decide (c = "tuple") && (decide (its.size ≤ sizeLine) && He.relAll (ds.map litV) its.toList)
    | _ => false)
  | .dct kvs => (He.Fa.glo x).ok K && (kvs.all fun p => isStrD p.1 && isFnD fnNames p.2) && decide (kvs.length ≤ 1000) && decide ((kvs.map fun p => keyS p.1).Nodup) && (match K.lookup (He.ga K x) with
    | some ⟨_, _, .dict es _, _⟩ => He.relAll (kvs.map fun p => fnV K fnNames p.2) (es.toList.map (·.val))
    | _ => false)
  | _ => false
/-- the tables of a list of constants -/
def glbTabs : List (Str × D) → List He.Tab
  | [] => []
  | (x, .dct kvs) :: r => (fun K => He.ga K x, kvs.map fun p => keyS p.1) :: glbTabs r
  | _ :: r => glbTabs r
end Ev
namespace K70
open Ev PySem PySem.Spec PyProof.Rows L2
abbrev P0 : Program := PySem.Challenge.pw_alltreestold_k70_whole_statements
/-- the def of that name -/
def isDef (x : Str) : Stmt → Bool
  | .FunctionDef name _ _ _ _ _ _ _ _ _ => name == x
  | _ => false
def stOf (x : Str) : Stmt := (P0.main.body.find? (isDef x)).getD (.Pass ⟨0, 0, 0, 0⟩)
def fnNames : List PySem.Str := [.ofString "is_name", .ofString "is_whole", .ofString "is_number", .ofString "is_ascending", .ofString "is_sign", .ofString "is_text", .ofString "is_symbol", .ofString "is_rule", .ofString "is_grammar", .ofString "sorts_of", .ofString "rules_for", .ofString "is_tree", .ofString "is_part", .ofString "text_of", .ofString "size_of", .ofString "tree_key", .ofString "sorts_in", .ofString "order_of", .ofString "tree_by", .ofString "least_trees_by", .ofString "least_trees_of", .ofString "fruitful_sorts", .ofString "are_sorts", .ofString "is_barren_paper", .ofString "fruitful_rules", .ofString "steps_from", .ofString "is_step", .ofString "is_way", .ofString "is_closed_paper", .ofString "has_sign", .ofString "is_full_paper", .ofString "is_form", .ofString "fits_symbol", .ofString "rules_fitting", .ofString "sorts_with_form", .ofString "skeletons_of", .ofString "sorts_by", .ofString "filled", .ofString "pair_by", .ofString "parts_them", .ofString "is_sorts", .ofString "is_web_pair", .ofString "is_web_paper", .ofString "ends_of", .ofString "ends_behind", .ofString "facts_in", .ofString "cuts_between", .ofString "packings_at", .ofString "nodes_under", .ofString "forest_of", .ofString "same_kinds", .ofString "has_in", .ofString "parts_fit", .ofString "are_costs", .ofString "cost_of", .ofString "packing_cost", .ofString "are_prices", .ofString "first_node", .ofString "is_least", .ofString "is_texted", .ofString "is_sorted_in", .ofString "are_both", .ofString "is_costed", .ofString "is_costed_told", .ofString "has_word", .ofString "is_statement", .ofString "is_question", .ofString "is_node_in", .ofString "facts_by", .ofString "is_shut_set", .ofString "is_tree_of", .ofString "proves_text", .ofString "proves_sort", .ofString "proves_forms", .ofString "proves_cost", .ofString "proves", .ofString "_law_same", .ofString "_law_grammars", .ofString "_law_kinds", .ofString "_law_good", .ofString "_law_bad", .ofString "_law_rows"]
def glbNames : List PySem.Str := [.ofString "RESERVED", .ofString "SMALL", .ofString "DIGITS", .ofString "MARKS", .ofString "MOST_RULES", .ofString "MOST_PARTS", .ofString "LONGEST", .ofString "SORT", .ofString "SIGN", .ofString "MOST_COST", .ofString "FORMS", .ofString "ASKED"]
def glbD : List D := [.tup [.str [97, 108, 108], .str [97, 110, 121], .str [110, 111, 110, 101]], .str [97, 98, 99, 100, 101, 102, 103, 104, 105, 106, 107, 108, 109, 110, 111, 112, 113, 114, 115, 116, 117, 118, 119, 120, 121, 122], .str [48, 49, 50, 51, 52, 53, 54, 55, 56, 57], .str [43, 45, 42, 47, 61, 60, 62, 40, 41, 44, 46, 59], .int 24, .int 5, .int 60, .str [115, 111, 114, 116], .str [115, 105, 103, 110], .int 1000, .dct [(.str [115, 116, 97, 110, 100, 115], .fn 59), (.str [115, 116, 97, 110, 100, 115, 32, 110, 111, 116], .fn 59), (.str [100, 111, 117, 98, 116, 101, 100], .fn 59), (.str [102, 114, 117, 105, 116, 102, 117, 108], .fn 60), (.str [98, 97, 114, 114, 101, 110], .fn 60), (.str [114, 101, 97, 99, 104, 101, 100], .fn 60), (.str [99, 108, 111, 115, 101, 100, 32, 111, 102, 102], .fn 60), (.str [101, 109, 112, 116, 121], .fn 60), (.str [110, 101, 118, 101, 114, 32, 101, 109, 112, 116, 121], .fn 60), (.str [97, 108, 105, 107, 101], .fn 61), (.str [117, 110, 108, 105, 107, 101], .fn 61), (.str [99, 111, 115, 116, 115], .fn 63)], .dct [(.str [115, 116, 97, 110, 100], .fn 59), (.str [102, 114, 117, 105, 116], .fn 60), (.str [114, 101, 97, 99, 104], .fn 60), (.str [101, 109, 112, 116, 121], .fn 60), (.str [97, 108, 105, 107, 101], .fn 61), (.str [99, 111, 115, 116], .fn 62)]]
def dOf (x : Str) : He.DefD := ⟨(x, none), x, x, defArgs (stOf x), defBody (stOf x), defScope (stOf x), [], []⟩
def defs : List He.DefD := fnNames.map dOf
def boxNames : List Str := ["_law_box", "_law_load", "_law_draw", "law"]
def hFn : List He.DefD := defs ++ boxNames.map dOf
def hFa : List He.Fa := fnNames.map .glo ++ bltNames.map .free ++ boxNames.map .glo
def hTs : List He.Tab := glbTabs (glbNames.zip glbD)
def hEx (K : PySem.W.Frag) : Bool := (glbNames.zip glbD).all fun q => glbOk K fnNames q.1 q.2
abbrev R : PySem.W.OpenRow := PySem.W.OpenLaw.row PySem.Challenge.rw_alltreestold_k70_whole_statements
abbrev hk : PySem.W.Hook := He.hookX 2 hFa hFn hTs [] hEx
def ob (s : PySem.W.SharedT) : He.AlX := He.obsX 2 hFa hFn hTs [] hEx (HandSHeadRun.getT s)
theorem ob_eq (s : PySem.W.SharedT) : ob s = hk.obs s.abs := He.obsX_eq (HandSHeadRun.getT_eq s)
def lawAt : Nat := P0.main.body.length - 1
def loose : List Str := (P0.main.scope.names.map (·.1)).filter fun x => !(x == ("__name__" : Str) || x == ("law" : Str))
theorem run0 (w : World) : HandSHeadRun.RunEq R (PySem.W.view R.prog [lawAt]) hk ob 4000 loose (w.withFollow "special-get-raises" false) := by
  intro os
  kernel_rfl
theorem run1 (w : World) : HandSHeadRun.RunEq R (PySem.W.view R.prog [lawAt]) hk ob 4000 loose (w.withFollow "special-get-raises" true) := by
  intro os
  kernel_rfl
end K70
/-! EvC1: two-place operations on plain data. -/
namespace Ev
open PySem PySem.Spec PyProof.Rows L2
def Gh.plus (g : Gh) (p : Addr) : Gh := { g with B := fun a => g.B a ∨ a = p }
theorem Bars.plus {g : Gh} (h : Bars g) (p : Addr) : Bars (g.plus p) := ⟨.inl h.1, .inl h.2⟩
/-- a value that stands with this frame, or with a caller's -/
def Rw (c : Cs) (g : Gh) (H : Hp) (d : D) (v : V) : Prop := Rz c g.b0 g.B H d v ∨ ∃ p, v = .ref p ∧ g.B p ∧ p ≠ g.b0 ∧ p ≠ g.c0 ∧ Root c g.b0 g.B H d p
/-- .. and is not this frame's -/
def Rb (c : Cs) (g : Gh) (H : Hp) (d : D) (v : V) : Prop := Rz c g.b0 g.B H d v ∨ ∃ p, v = .ref p ∧ g.B p ∧ ¬ g.M p ∧ p ≠ g.b0 ∧ p ≠ g.c0 ∧ Root c g.b0 g.B H d p
/-- this frame's own, to be written -/
def Ro (c : Cs) (g : Gh) (H : Hp) (d : D) (v : V) : Prop := ∃ p, v = .ref p ∧ g.B p ∧ (g.M p ∧ ¬ g.L p) ∧ p ≠ g.b0 ∧ p ≠ g.c0 ∧ RootM c g.b0 g.B H d p
/-- .. locked -/
def Rl (c : Cs) (g : Gh) (H : Hp) (d : D) (v : V) : Prop := ∃ p, v = .ref p ∧ g.B p ∧ (g.M p ∧ g.L p) ∧ p ≠ g.b0 ∧ p ≠ g.c0 ∧ RootM c g.b0 g.B H d p
/-- it is not written now -/
def Rk (c : Cs) (g : Gh) (H : Hp) (d : D) (v : V) : Prop := Rz c g.b0 g.B H d v ∨ ∃ p, v = .ref p ∧ g.B p ∧ (g.M p → g.L p) ∧ p ≠ g.b0 ∧ p ≠ g.c0 ∧ Root c g.b0 g.B H d p
/-- what a value with its standing is, made since H -/
def Rn (c : Cs) (g : Gh) (H H' : Hp) (a : A) (v : V) : Prop := match a.t with
  | .cl => Rz c g.b0 g.B H' a.d v
  | .fr => ∃ p, v = .ref p ∧ H p = none ∧ RootM c g.b0 (g.plus p).B H' a.d p
  | .br => Rb c g H' a.d v
  | .ow => Ro c g H' a.d v
  | .lk => Rl c g H' a.d v
/-- the context and what is fixed -/
structure Fit (X : Cx) (c : Cs) : Prop where
  K : c.K = X.K
  w : c.w = X.w
  calm : X.calm = true
  un : X.A.units + 160 < cLine
theorem same_new {H : Hp} {p : Addr} {o : HO} (h : H p = none) : Same H (upd H p o) := fun b u e => by
  rw [upd_ne (ne_of_none e h)]; exact e
section
variable {c : Cs} {g : Gh} {H H' : Hp} {p : Addr}
theorem rn_cl {d : D} {v : V} (h : Rz c g.b0 g.B H' d v) : Rn c g H H' (cl d) v := h
theorem rn_int {i : Int} : Rn c g H H' (cl (.int i)) (.int i) := rn_cl (by rw [Rz])
theorem rn_bl {i : Bool} : Rn c g H H' (cl (.bl i)) (.bl i) := rn_cl (by rw [Rz])
theorem rn_str {i : List Nat} : Rn c g H H' (cl (.str i)) (.str (toStr i)) := rn_cl (by rw [Rz])
theorem Rzs.same (hb : Bars g) (h : Same H H') {ds : List D} {vs : List V} (r : Rzs c g.b0 g.B H ds vs) : Rzs c g.b0 g.B H' ds vs := r.mono hb (.of_same h)
theorem new_tup (hb : Bars g) (hp : H p = none) {o : Obj} (ho : o.dict = none) {ds : List D} {vs : List V} (rs : Rzs c g.b0 g.B H ds vs) : Rn c g H (upd H p (.frz o (.tup vs))) (cl (.tup ds)) (.ref p) := by
  refine rn_cl ?_
  rw [Rz]
  exact ⟨p, vs, rfl, .inl ⟨o, upd_same, ho⟩, rs.same hb (same_new hp)⟩
theorem Rzs.plus (hp : H p = none) {b0 : Addr} {B : Addr → Prop} {ds : List D} {vs : List V} (rs : Rzs c b0 B H ds vs) : Rzs c b0 (fun a => B a ∨ a = p) H ds vs :=
  rs.bar fun a ha h => h.elim id fun e => absurd (e ▸ hp) ha
theorem new_lst (hb : Bars g) (hp : H p = none) {ds : List D} {vs : List V} (rs : Rzs c g.b0 g.B H ds vs) : Rn c g H (upd H p (.lst vs)) (fr (.lst ds)) (.ref p) :=
  ⟨p, rfl, hp, vs, upd_same, Rzs.same (g := g.plus p) (hb.plus p) (same_new hp) (rs.plus hp)⟩
end
/-- an operation's reading by the data -/
def rB (c : Cs) (f : D → D → Option A) : R2 := fun x y H Q => ∃ g dx dy a, Bars g ∧ Rr c g.b0 g.B H dx x ∧ Rr c g.b0 g.B H dy y ∧ f dx dy = some a ∧ ∀ v H', Same H H' → Rn c g H H' a v → Q v H'
theorem absSmall_iff {i : Int} (h : absSmall i = true) : -(2 ^ 64) < i ∧ i < 2 ^ 64 := by simpa [absSmall] using h
theorem absSmall_nat {i : Int} (h : absSmall i = true) : i.natAbs < 2 ^ 64 := by
  have := absSmall_iff h
  omega
theorem line_eq : line = sizeLine := by rw [sizeLine_eq]; rfl
theorem repD_flat {α : Type} (xs : List α) : ∀ n, repD xs n = (List.replicate n xs).flatten
  | 0 => rfl
  | n + 1 => by rw [repD, List.replicate_succ, List.flatten_cons, repD_flat xs n]
theorem fold_rep' (its : List Nat) : ∀ (m : Nat) (acc : List Nat), (List.foldl (fun x1 x2 => x1 ++ x2) acc.toArray (List.replicate m its.toArray)) = (acc ++ (List.replicate m its).flatten).toArray
  | 0, acc => by simp
  | m + 1, acc => by
    rw [List.replicate_succ, List.foldl_cons, List.append_toArray, fold_rep' its m, List.replicate_succ, List.flatten_cons, List.append_assoc]
theorem size_rep' (its : List Nat) : ∀ (m : Nat), (List.foldl (fun x1 x2 => x1 ++ x2) #[] (List.replicate m its.toArray)) = (List.replicate m its).flatten.toArray := fun m => by
  have := fold_rep' its m []
  rw [List.nil_append] at this
  exact this
section
variable {X : Cx} {c : Cs}
/-- a new tuple's object -/
abbrev tupO (its : List Value) : Obj := { cls := .type "tuple", data := .seq its.toArray }
theorem tup_new {pins : List (Addr × Obj)} {s : Shared} {σ : L2.St} {H : Hp} (I : Inv X pins σ H s) {vs : List V} {its : List Value} (r : Vals vs its) (hz : vs.length ≤ sizeLine) {t : Nat} :
    Inv X pins σ (upd H s.heap.objs.size (.frz (tupO its) (.tup vs))) { s with heap := s.heap.push (tupO its), toks := t } := by
  refine I.laid (fun b ob q => Heap.get?_push_of_some _ q) (Nat.le_refl _) ⟨Heap.get?_push_size _ rfl, hz, its, r, ?_⟩
  exact ⟨_, Heap.get?_push_size _ rfl, rfl, 0, rfl⟩
/-- + -/
theorem bin_add (F : Fit X c) : OpR X (binaryOp .Add) (rB c (binD .add)) := by
  intro pins s σ H x y v u Q I rx ry ⟨g, dx, dy, a, hb, hx, hy, e, q⟩
  cases dx with
  | int i =>
    cases dy with
    | int j =>
      simp only [binD, Option.some.injEq] at e
      subst e
      cases hx.int; cases hy.int
      exact op_add pins s σ H _ _ v u Q I rx ry ⟨i, j, rfl, rfl, q _ _ (Same.refl H) rn_int⟩
    | _ => simp [binD] at e
  | str i =>
    cases dy with
    | str j =>
      simp only [binD] at e
      split at e
      · rename_i hl
        simp only [Option.some.injEq] at e
        subst e
        cases hx.str; cases hy.str
        exact op_add_str pins s σ H _ _ v u Q I rx ry ⟨_, _, rfl, rfl, by rw [toStr_len, toStr_len, ← line_eq]; exact hl, by rw [toStr_app]; exact q _ _ (Same.refl H) rn_str⟩
      · simp at e
    | _ => simp [binD] at e
  | tup i =>
    cases dy with
    | tup j =>
      simp only [binD] at e
      split at e
      · rename_i hl
        simp only [Option.some.injEq] at e
        subst e
        obtain ⟨a1, vs1, rfl, t1, r1⟩ := hx.tup
        obtain ⟨a2, vs2, rfl, t2, r2⟩ := hy.tup
        cases rx
        cases ry
        obtain ⟨its, v1, p1, z1⟩ := I.tuple (t1.at F.K)
        obtain ⟨its2, v2, p2, z2⟩ := I.tuple (t2.at F.K)
        have l1 := Vals.length v1
        have l2 := Vals.length v2
        have hz : vs1.length + vs2.length ≤ sizeLine := by rw [r1.length, r2.length, ← line_eq]; exact hl
        by_cases e1 : its = []
        · subst e1
          cases v1
          have e3 : i = [] := List.length_eq_zero_iff.mp (by rw [← r1.length]; rfl)
          subst e3
          refine cat_tup0 p1 p2 ⟨.ref a2, H, I, rfl, q _ _ (Same.refl H) (rn_cl ?_)⟩
          rw [List.nil_append, Rz]
          exact ⟨a2, vs2, rfl, t2, r2⟩
        · refine HT.cat_tup p1 p2 e1 (fun e2 => ⟨.ref a1, H, I, rfl, q _ _ (Same.refl H) (rn_cl ?_)⟩) (fun _ => ?_) (by omega)
          · subst e2
            cases v2
            have e3 : j = [] := List.length_eq_zero_iff.mp (by rw [← r2.length]; rfl)
            subst e3
            rw [List.append_nil, Rz]
            exact ⟨a1, vs1, rfl, t1, r1⟩
          · have hp : H s.heap.objs.size = none := I.hok.fresh (Nat.le_refl _)
            exact ⟨.ref s.heap.objs.size, _, tup_new (t := s.toks) I (v1.append v2) (by rw [List.length_append]; exact hz), rfl, q _ _ (same_new hp) (new_tup hb hp rfl (r1.app r2))⟩
      · simp at e
    | _ => simp [binD] at e
  | lst i =>
    cases dy with
    | lst j =>
      simp only [binD] at e
      split at e
      · rename_i hl
        simp only [Option.some.injEq] at e
        subst e
        obtain ⟨a1, vs1, rfl, t1, r1⟩ := hx.lst
        obtain ⟨a2, vs2, rfl, t2, r2⟩ := hy.lst
        exact op_cat pins s σ H _ _ v u Q I rx ry ⟨a1, a2, vs1, vs2, rfl, rfl, t1, t2, by rw [r1.length, r2.length, ← line_eq]; exact hl, fun p hp => q _ _ (same_new hp) (new_lst hb hp (r1.app r2))⟩
      · simp at e
    | _ => simp [binD] at e
  | _ => simp [binD] at e
/-- - -/
theorem bin_sub : OpR X (binaryOp .Sub) (rB c (binD .sub)) := by
  intro pins s σ H x y v u Q I rx ry ⟨g, dx, dy, a, hb, hx, hy, e, q⟩
  cases dx with
  | int i =>
    cases dy with
    | int j =>
      simp only [binD, Option.some.injEq] at e
      subst e
      cases hx.int; cases hy.int
      exact op_sub pins s σ H _ _ v u Q I rx ry ⟨i, j, rfl, rfl, q _ _ (Same.refl H) rn_int⟩
    | _ => simp [binD] at e
  | _ => simp [binD] at e
/-- * -/
theorem bin_mul (F : Fit X c) : OpR X (binaryOp .Mult) (rB c (binD .mul)) := by
  intro pins s σ H x y v u Q I rx ry ⟨g, dx, dy, a, hb, hx, hy, e, q⟩
  cases dx with
  | int i =>
    cases dy with
    | int j =>
      simp only [binD] at e
      split at e
      · rename_i hl
        simp only [Option.some.injEq] at e
        subst e
        cases hx.int; cases hy.int
        rw [Bool.or_eq_true] at hl
        exact op_mul pins s σ H _ _ v u Q I rx ry ⟨i, j, rfl, rfl, hl.imp absSmall_iff absSmall_iff, q _ _ (Same.refl H) rn_int⟩
      · simp at e
    | _ => simp [binD] at e
  | lst i =>
    cases dy with
    | int j =>
      simp only [binD] at e
      split at e
      · rename_i hl
        simp only [Option.some.injEq] at e
        subst e
        cases hy.int
        obtain ⟨a1, vs1, rfl, t1, r1⟩ := hx.lst
        exact op_rep pins s σ H _ _ v u Q I rx ry ⟨a1, j, vs1, rfl, rfl, t1, by omega, by omega, by rw [r1.length, ← line_eq]; exact hl.2.2, fun p hp => by
          rw [← repD_flat]
          exact q _ _ (same_new hp) (new_lst hb hp (r1.rep _))⟩
      · simp at e
    | _ => simp [binD] at e
  | str i =>
    cases dy with
    | int j =>
      simp only [binD] at e
      split at e
      · rename_i hl
        simp only [Option.some.injEq] at e
        subst e
        cases hx.str; cases hy.int
        obtain ⟨t, rfl⟩ := rx
        obtain ⟨t', rfl⟩ := ry
        obtain ⟨h1, h2, h3⟩ := hl
        refine PySem.P.mul_str ?_ (fun hn _ => ?_) (fun hn _ => ?_) ?_
        · rw [decide_eq_false (by omega), decide_eq_false (by omega)]; rfl
        · rw [toStr_len]
          have k1 : i.length ≤ line := by
            refine Nat.le_trans ?_ h3
            exact Nat.le_mul_of_pos_right _ (by omega)
          have k2 : (9223372036854 : Int) ≤ (2 ^ 63 - 1) / j := by
            refine Int.le_ediv_of_mul_le (by omega) ?_
            omega
          have k3 : (line : Int) = 16777216 := rfl
          omega
        · rw [toStr_len]
          unfold Builtin.Str.tooLong
          rw [← line_eq]
          exact decide_eq_false (Nat.not_lt.mpr h3)
        · have er : (repD i j.toNat).toArray = (List.replicate j.toNat (toStr i).cps).foldl (· ++ ·) #[] := by
            rw [repD_flat]
            exact (size_rep' i j.toNat).symm
          by_cases hn : j < 1
          · rw [if_pos hn]
            have : j.toNat = 0 := by omega
            rw [this] at q
            exact ⟨by decide, .str (toStr []), H, I.tok _, ⟨_, rfl⟩, q _ _ (Same.refl H) rn_str⟩
          · rw [if_neg hn]
            by_cases h0 : (j == 1 || (toStr i).length == 0) = true
            · rw [if_pos h0]
              have : repD i j.toNat = i := by
                rw [Bool.or_eq_true, toStr_len] at h0
                rcases h0 with h0 | h0
                · have : j = 1 := by simpa using h0
                  subst this
                  simp [repD]
                · have : i = [] := by simpa using h0
                  subst this
                  rw [repD_flat]
                  simp
              rw [this] at q
              exact ⟨.str (toStr i), H, I, ⟨_, rfl⟩, q _ _ (Same.refl H) rn_str⟩
            · rw [if_neg h0]
              rw [← er]
              refine ⟨?_, .str (toStr (repD i j.toNat)), H, I.tok _, ⟨_, rfl⟩, q _ _ (Same.refl H) rn_str⟩
              show (repD i j.toNat).toArray.size ≤ sizeLine
              rw [List.size_toArray, ← line_eq, repD_flat]
              simp only [List.length_flatten, List.map_replicate, List.sum_replicate_nat]
              rw [Nat.mul_comm]
              exact h3
      · simp at e
    | _ => simp [binD] at e
  | _ => simp [binD] at e
/-- % -/
theorem bin_mod : OpR X (binaryOp .Mod) (rB c (binD .mod)) := by
  intro pins s σ H x y v u Q I rx ry ⟨g, dx, dy, a, hb, hx, hy, e, q⟩
  cases dx with
  | int i =>
    cases dy with
    | int j =>
      simp only [binD] at e
      split at e
      · simp at e
      · rename_i hl
        simp only [Option.some.injEq] at e
        subst e
        cases hx.int; cases hy.int
        exact op_modN pins s σ H _ _ v u Q I rx ry ⟨i, j, rfl, rfl, hl, q _ _ (Same.refl H) rn_int⟩
    | _ => simp [binD] at e
  | _ => simp [binD] at e
/-- // -/
theorem bin_fdiv : OpR X (binaryOp .FloorDiv) (rB c (binD .fdiv)) := by
  intro pins s σ H x y v u Q I rx ry ⟨g, dx, dy, a, hb, hx, hy, e, q⟩
  cases dx with
  | int i =>
    cases dy with
    | int j =>
      simp only [binD] at e
      split at e
      · simp at e
      · rename_i hl
        simp only [Option.some.injEq] at e
        subst e
        cases hx.int; cases hy.int
        exact op_fdivN pins s σ H _ _ v u Q I rx ry ⟨i, j, rfl, rfl, ⟨by omega, by omega⟩, q _ _ (Same.refl H) rn_int⟩
    | _ => simp [binD] at e
  | _ => simp [binD] at e
/-- ** -/
theorem bin_pow : OpR X (binaryOp .Pow) (rB c (binD .pow)) := by
  intro pins s σ H x y v u Q I rx ry ⟨g, dx, dy, a, hb, hx, hy, e, q⟩
  cases dx with
  | int i =>
    cases dy with
    | int j =>
      simp only [binD] at e
      split at e
      · rename_i hl
        simp only [Option.some.injEq] at e
        subst e
        cases hx.int; cases hy.int
        exact op_pow pins s σ H _ _ v u Q I rx ry ⟨i, j, rfl, rfl, ⟨hl.1, by omega, absSmall_nat hl.2.2⟩, q _ _ (Same.refl H) rn_int⟩
      · simp at e
    | _ => simp [binD] at e
  | _ => simp [binD] at e
/-- << -/
theorem bin_shl : OpR X (binaryOp .LShift) (rB c (binD .shl)) := by
  intro pins s σ H x y v u Q I rx ry ⟨g, dx, dy, a, hb, hx, hy, e, q⟩
  cases dx with
  | int i =>
    cases dy with
    | int j =>
      simp only [binD] at e
      split at e
      · rename_i hl
        simp only [Option.some.injEq] at e
        subst e
        cases hx.int; cases hy.int
        exact op_shl pins s σ H _ _ v u Q I rx ry ⟨i, j, rfl, rfl, ⟨hl.1, by omega, absSmall_nat hl.2.2⟩, q _ _ (Same.refl H) rn_int⟩
      · simp at e
    | _ => simp [binD] at e
  | _ => simp [binD] at e
end
end Ev
/-! EvC2: comparisons of plain data; truth. -/
namespace Ev
open PySem PySem.Spec PyProof.Rows L2
theorem eqNats_iff : ∀ (a b : List Nat), eqNats a b = true ↔ a = b
  | [], [] => by simp [eqNats]
  | [], _ :: _ => by simp [eqNats]
  | _ :: _, [] => by simp [eqNats]
  | a :: as, b :: bs => by
    rw [eqNats, Bool.and_eq_true, eqNats_iff as bs]
    simp
theorem eqNats_str (a b : List Nat) : (toStr a == toStr b) = eqNats a b := by
  rw [Bool.eq_iff_iff, eqNats_iff, beq_iff_eq, toStr_inj]
mutual
theorem eqv_toPy : ∀ (a b : D), a.plain = true → b.plain = true → PyData.eqv (toPy a) (toPy b) = D.eq a b
  | .non, b, _, h => by cases b <;> simp_all [toPy, PyData.eqv, D.eq, D.plain]
  | .bl _, b, _, h => by cases b <;> simp_all [toPy, PyData.eqv, D.eq, D.plain]
  | .int _, b, _, h => by cases b <;> simp_all [toPy, PyData.eqv, D.eq, D.plain]
  | .str _, b, _, h => by cases b <;> simp_all [toPy, PyData.eqv, D.eq, D.plain, eqNats_str]
  | .lst xs, b, h0, h => by
    cases b with
    | lst ys =>
      rw [toPy, toPy, PyData.eqv, D.eq]
      exact eqvs_toPy xs ys (by simpa [D.plain] using h0) (by simpa [D.plain] using h)
    | _ => simp_all [toPy, PyData.eqv, D.eq, D.plain]
  | .tup xs, b, h0, h => by
    cases b with
    | tup ys =>
      rw [toPy, toPy, PyData.eqv, D.eq]
      exact eqvs_toPy xs ys (by simpa [D.plain] using h0) (by simpa [D.plain] using h)
    | _ => simp_all [toPy, PyData.eqv, D.eq, D.plain]
  | .dct _, _, h, _ => by simp [D.plain] at h
  | .fn _, _, h, _ => by simp [D.plain] at h
  | .box, _, h, _ => by simp [D.plain] at h
theorem eqvs_toPy : ∀ (a b : List D), D.plains a = true → D.plains b = true → PyData.eqvAll (toPys a) (toPys b) = D.eqs a b
  | [], [], _, _ => by simp [toPys, PyData.eqvAll, D.eqs]
  | [], _ :: _, _, _ => by simp [toPys, PyData.eqvAll, D.eqs]
  | _ :: _, [], _, _ => by simp [toPys, PyData.eqvAll, D.eqs]
  | x :: xs, y :: ys, h0, h => by
    rw [D.plains, Bool.and_eq_true] at h0 h
    rw [toPys, toPys, PyData.eqvAll, D.eqs, eqv_toPy x y h0.1 h.1, eqvs_toPy xs ys h0.2 h.2]
end
theorem ltNats_iff : ∀ (a b : List Nat), decide (a < b) = ltNats a b
  | [], [] => by simp [ltNats]
  | [], _ :: _ => by simp [ltNats]
  | _ :: _, [] => by simp [ltNats]
  | a :: as, b :: bs => by
    rw [ltNats, ← ltNats_iff as bs, Bool.eq_iff_iff, decide_eq_true_iff, List.cons_lt_cons_iff]
    by_cases h : a < b
    · simp [h]
    · by_cases e : a = b
      · simp [e]
      · simp [h, e]
mutual
theorem alike_toPy : ∀ (a b : D), D.alike a b = PySem.W.alike (toPy a) (toPy b) ∨ a.plain = false ∨ b.plain = false
  | .non, b => by cases b <;> simp [toPy, PySem.W.alike, D.alike, D.plain]
  | .bl _, b => by cases b <;> simp [toPy, PySem.W.alike, D.alike, D.plain]
  | .int _, b => by cases b <;> simp [toPy, PySem.W.alike, D.alike, D.plain]
  | .str _, b => by cases b <;> simp [toPy, PySem.W.alike, D.alike, D.plain]
  | .lst xs, b => by
    cases b with
    | lst ys =>
      simp only [toPy, PySem.W.alike, D.alike, D.plain]
      exact alikes_toPy xs ys
    | _ => simp [toPy, PySem.W.alike, D.alike, D.plain]
  | .tup xs, b => by
    cases b with
    | tup ys =>
      simp only [toPy, PySem.W.alike, D.alike, D.plain]
      exact alikes_toPy xs ys
    | _ => simp [toPy, PySem.W.alike, D.alike, D.plain]
  | .dct _, _ => by simp [D.plain]
  | .fn _, _ => by simp [D.plain]
  | .box, _ => by simp [D.plain]
theorem alikes_toPy : ∀ (a b : List D), D.alikes a b = PySem.W.alikeAll (toPys a) (toPys b) ∨ D.plains a = false ∨ D.plains b = false
  | [], [] => by simp [toPys, PySem.W.alikeAll, D.alikes]
  | [], _ :: _ => by simp [toPys, PySem.W.alikeAll, D.alikes]
  | _ :: _, [] => by simp [toPys, PySem.W.alikeAll, D.alikes]
  | x :: xs, y :: ys => by
    rw [D.plains, D.plains, toPys, toPys, PySem.W.alikeAll, D.alikes]
    rcases alike_toPy x y with h | h | h
    · rcases alikes_toPy xs ys with k | k | k
      · left; rw [h, k]
      · right; left; rw [k]; simp
      · right; right; rw [k]; simp
    · right; left; rw [h]; simp
    · right; right; rw [h]; simp
end
theorem alike_py {a b : D} (ha : a.plain = true) (hb : b.plain = true) : PySem.W.alike (toPy a) (toPy b) = D.alike a b := by
  rcases alike_toPy a b with h | h | h
  · exact h.symm
  · rw [ha] at h; cases h
  · rw [hb] at h; cases h
theorem lexs_nil_cons (y : PyData) (ys : List PyData) : PyProof.Rows.lexLt PyProof.Rows.itemOrd (PySem.W.keyToksAll []) (PySem.W.keyToksAll (y :: ys)) = true := by
  rw [PySem.W.toks_all_cons]
  simp only [PySem.W.keyToksAll]
  rw [PyProof.Rows.lex_diff (O := PyProof.Rows.itemOrd) (by simp)]
  simp [PyProof.Rows.itemLt]
mutual
theorem lt_toPy : ∀ (a b : D), a.plain = true → b.plain = true → D.alike a b = true → PySem.W.dataLt (toPy a) (toPy b) = D.lt a b
  | .non, b, _, _, h => by
    cases b with
    | non => simp only [toPy, D.lt]; unfold PySem.W.dataLt; exact PyProof.Rows.lex_irrefl _
    | _ => simp [D.alike] at h
  | .bl x, b, _, _, h => by
    cases b with
    | bl y => rw [toPy, toPy, PySem.W.dataLt_bool, D.lt]; cases x <;> cases y <;> decide
    | _ => simp [D.alike] at h
  | .int _, b, _, _, h => by
    cases b with
    | int y => rw [toPy, toPy, PySem.W.dataLt_int, D.lt]
    | _ => simp [D.alike] at h
  | .str x, b, _, _, h => by
    cases b with
    | str y => rw [toPy, toPy, PySem.W.dataLt_str, D.lt]; exact ltNats_iff x y
    | _ => simp [D.alike] at h
  | .lst xs, b, h0, h1, h => by
    cases b with
    | lst ys =>
      rw [toPy, toPy, PySem.W.dataLt_list, D.lt]
      exact lts_toPy xs ys (by simpa [D.plain] using h0) (by simpa [D.plain] using h1) (by simpa [D.alike] using h)
    | _ => simp [D.alike] at h
  | .tup xs, b, h0, h1, h => by
    cases b with
    | tup ys =>
      rw [toPy, toPy, PySem.W.dataLt_tuple, D.lt]
      exact lts_toPy xs ys (by simpa [D.plain] using h0) (by simpa [D.plain] using h1) (by simpa [D.alike] using h)
    | _ => simp [D.alike] at h
  | .dct _, _, h, _, _ => by simp [D.plain] at h
  | .fn _, _, h, _, _ => by simp [D.plain] at h
  | .box, _, h, _, _ => by simp [D.plain] at h
theorem lts_toPy : ∀ (a b : List D), D.plains a = true → D.plains b = true → D.alikes a b = true → PyProof.Rows.lexLt PyProof.Rows.itemOrd (PySem.W.keyToksAll (toPys a)) (PySem.W.keyToksAll (toPys b)) = D.lts a b
  | [], [], _, _, _ => by simp only [toPys, D.lts]; exact PyProof.Rows.lex_irrefl _
  | [], y :: ys, _, _, _ => by
    rw [toPys, toPys, D.lts]
    exact lexs_nil_cons _ _
  | x :: xs, [], _, _, _ => by
    rw [toPys, toPys, D.lts, PySem.W.toks_all_cons]
    simp only [PySem.W.keyToksAll]
    rw [PyProof.Rows.lex_diff (O := PyProof.Rows.itemOrd) (by simp)]
    simp [PyProof.Rows.itemLt]
  | x :: xs, y :: ys, h0, h1, h => by
    rw [D.plains, Bool.and_eq_true] at h0 h1
    rw [D.alikes, Bool.and_eq_true] at h
    have ha : PySem.W.alike (toPy x) (toPy y) = true := by rw [alike_py h0.1 h1.1]; exact h.1
    have he := eqv_toPy x y h0.1 h1.1
    rw [toPys, toPys, D.lts]
    cases e : D.eq x y with
    | true =>
      rw [e] at he
      rw [PySem.W.dataLt_all_yes ha he, if_pos rfl, lts_toPy xs ys h0.2 h1.2 h.2]
    | false =>
      rw [e] at he
      rw [PySem.W.dataLt_all_no ha he, if_neg Bool.false_ne_true, lt_toPy x y h0.1 h1.1 h.1]
end
theorem any_toPy {x : D} (hx : x.plain = true) : ∀ (ys : List D), D.plains ys = true → (toPys ys).any (fun y => PyData.eqv y (toPy x)) = memD x ys
  | [], _ => by simp [toPys, memD]
  | y :: ys, h => by
    rw [D.plains, Bool.and_eq_true] at h
    rw [toPys, List.any_cons, memD, eqv_toPy y x h.1 hx, any_toPy hx ys h.2]
/-- a comparison's reading by the data -/
def rC (c : Cs) (o : COp) : R2 := fun x y H Q => ∃ b0 B dx dy k, Rr c b0 B H dx x ∧ Rr c b0 B H dy y ∧ cmpD o dx dy = some k ∧ Q (.bl k) H
/-- .. where no dict is looked into -/
def noDct : COp → D → Prop
  | .in_, .dct _ => False
  | .notin, .dct _ => False
  | _, _ => True
theorem ok_of {d : D} (h : d.ok = true) : d.plain = true ∧ d.depth ≤ 64 := by simpa [D.ok] using h
section
variable {X : Cx} {c : Cs} {pins : List (Addr × Obj)} {s : Shared} {σ : L2.St} {H : Hp} {d : D} {v : V} {u : Value} {b0 : Addr} {B : Addr → Prop}
theorem Rr.reads (F : Fit X c) (I : Inv X pins σ H s) (h : d.plain = true) (r : Rr c b0 B H d v) (rv : RelV v u) : ∃ as, Reads s.heap u (toPy d) as :=
  Dp.reads I _ v u (F.K ▸ r.dp h) rv
theorem un_min (F : Fit X c) {d e : D} (h : d.ok = true) : X.A.units + 2 + min (toPy d).depth (toPy e).depth < cLine := by
  obtain ⟨h1, h2⟩ := ok_of h
  have := (toPy_depth d).2 h1
  have := F.un
  omega
theorem cmp_eq (F : Fit X c) : OpR X (compareOp .Eq) (rC c .eq) := by
  intro pins s σ H x y v u Q I rx ry ⟨b0, B, dx, dy, k, hx, hy, e, q⟩
  simp only [cmpD] at e
  split at e
  · rename_i hh
    simp only [Option.some.injEq] at e
    subst e
    rw [Bool.and_eq_true] at hh
    obtain ⟨h1, h2⟩ := hh
    obtain ⟨as, r1⟩ := hx.reads F I (ok_of h1).1 rx
    obtain ⟨bs, r2⟩ := hy.reads F I (ok_of h2).1 ry
    have hu := un_min F (e := dy) h1
    refine PySem.SeqAt.eq_plain r1 r2 (toPy_plain (ok_of h1).1) (toPy_plain (ok_of h2).1) (by omega) ⟨.bl _, H, I, rfl, ?_⟩
    rw [eqv_toPy _ _ (ok_of h1).1 (ok_of h2).1]
    exact q
  · cases e
theorem cmp_ne (F : Fit X c) : OpR X (compareOp .NotEq) (rC c .ne) := by
  intro pins s σ H x y v u Q I rx ry ⟨b0, B, dx, dy, k, hx, hy, e, q⟩
  simp only [cmpD] at e
  split at e
  · rename_i hh
    simp only [Option.some.injEq] at e
    subst e
    rw [Bool.and_eq_true] at hh
    obtain ⟨h1, h2⟩ := hh
    obtain ⟨as, r1⟩ := hx.reads F I (ok_of h1).1 rx
    obtain ⟨bs, r2⟩ := hy.reads F I (ok_of h2).1 ry
    have hu := un_min F (e := dy) h1
    refine PySem.SeqAt.ne_plain r1 r2 (toPy_plain (ok_of h1).1) (toPy_plain (ok_of h2).1) (by omega) ⟨.bl _, H, I, rfl, ?_⟩
    rw [eqv_toPy _ _ (ok_of h1).1 (ok_of h2).1]
    exact q
  · cases e
theorem ord_of {x y : D} (h : (x.ok && y.ok && D.alike x y && x.some?) = true) : x.ok = true ∧ y.ok = true ∧ D.alike x y = true ∧ toPy x ≠ .none ∧ D.alike y x = true := by
  simp only [Bool.and_eq_true] at h
  obtain ⟨⟨⟨h1, h2⟩, h3⟩, h4⟩ := h
  refine ⟨h1, h2, h3, ?_, ?_⟩
  · cases x <;> simp_all [D.some?, toPy, D.ok, D.plain]
  · have a1 := alike_py (ok_of h1).1 (ok_of h2).1
    have a2 := alike_py (ok_of h2).1 (ok_of h1).1
    rw [h3] at a1
    rw [← a2]
    rw [PySem.W.alike_comm]
    exact a1
theorem cmp_lt (F : Fit X c) : OpR X (compareOp .Lt) (rC c .lt) := by
  intro pins s σ H x y v u Q I rx ry ⟨b0, B, dx, dy, k, hx, hy, e, q⟩
  simp only [cmpD] at e
  split at e
  · rename_i hh
    simp only [Option.some.injEq] at e
    subst e
    obtain ⟨h1, h2, h3, h4, h5⟩ := ord_of hh
    obtain ⟨as, r1⟩ := hx.reads F I (ok_of h1).1 rx
    obtain ⟨bs, r2⟩ := hy.reads F I (ok_of h2).1 ry
    have hu := un_min F (e := dy) h1
    refine PySem.W.lt_data r1 r2 (by rw [alike_py (ok_of h1).1 (ok_of h2).1]; exact h3) h4 (by omega) ⟨.bl _, H, I, rfl, ?_⟩
    rw [lt_toPy _ _ (ok_of h1).1 (ok_of h2).1 h3]
    exact q
  · cases e
theorem cmp_gt (F : Fit X c) : OpR X (compareOp .Gt) (rC c .gt) := by
  intro pins s σ H x y v u Q I rx ry ⟨b0, B, dx, dy, k, hx, hy, e, q⟩
  simp only [cmpD] at e
  split at e
  · rename_i hh
    simp only [Option.some.injEq] at e
    subst e
    obtain ⟨h1, h2, h3, h4, h5⟩ := ord_of hh
    obtain ⟨as, r1⟩ := hx.reads F I (ok_of h1).1 rx
    obtain ⟨bs, r2⟩ := hy.reads F I (ok_of h2).1 ry
    have hu := un_min F (e := dy) h1
    refine PySem.W.gt_data r1 r2 (by rw [alike_py (ok_of h1).1 (ok_of h2).1]; exact h3) h4 (by omega) ⟨.bl _, H, I, rfl, ?_⟩
    rw [lt_toPy _ _ (ok_of h2).1 (ok_of h1).1 h5]
    exact q
  · cases e
theorem cmp_le (F : Fit X c) : OpR X (compareOp .LtE) (rC c .le) := by
  intro pins s σ H x y v u Q I rx ry ⟨b0, B, dx, dy, k, hx, hy, e, q⟩
  simp only [cmpD] at e
  split at e
  · rename_i hh
    simp only [Option.some.injEq] at e
    subst e
    obtain ⟨h1, h2, h3, h4, h5⟩ := ord_of hh
    obtain ⟨as, r1⟩ := hx.reads F I (ok_of h1).1 rx
    obtain ⟨bs, r2⟩ := hy.reads F I (ok_of h2).1 ry
    have hu := un_min F (e := dy) h1
    refine PySem.W.le_data r1 r2 (by rw [alike_py (ok_of h1).1 (ok_of h2).1]; exact h3) h4 (by omega) ⟨.bl _, H, I, rfl, ?_⟩
    rw [lt_toPy _ _ (ok_of h2).1 (ok_of h1).1 h5]
    exact q
  · cases e
theorem cmp_ge (F : Fit X c) : OpR X (compareOp .GtE) (rC c .ge) := by
  intro pins s σ H x y v u Q I rx ry ⟨b0, B, dx, dy, k, hx, hy, e, q⟩
  simp only [cmpD] at e
  split at e
  · rename_i hh
    simp only [Option.some.injEq] at e
    subst e
    obtain ⟨h1, h2, h3, h4, h5⟩ := ord_of hh
    obtain ⟨as, r1⟩ := hx.reads F I (ok_of h1).1 rx
    obtain ⟨bs, r2⟩ := hy.reads F I (ok_of h2).1 ry
    have hu := un_min F (e := dy) h1
    refine PySem.W.ge_data r1 r2 (by rw [alike_py (ok_of h1).1 (ok_of h2).1]; exact h3) h4 (by omega) ⟨.bl _, H, I, rfl, ?_⟩
    rw [lt_toPy _ _ (ok_of h1).1 (ok_of h2).1 h3]
    exact q
  · cases e
theorem vis_of {x : D} (r : Rr c b0 B H x v) (rv : RelV v u) : u = .none ↔ x = .non := by
  cases x with
  | non => cases r.non; simp; exact rv
  | bl b => cases r.bl; cases rv; simp
  | int b => cases r.int; obtain ⟨t, rfl⟩ := rv; simp
  | str b => cases r.str; obtain ⟨t, rfl⟩ := rv; simp
  | lst b => obtain ⟨a, vs, rfl, _⟩ := r.lst; cases rv; simp
  | tup b => obtain ⟨a, vs, rfl, _⟩ := r.tup; cases rv; simp
  | dct b => obtain ⟨a, vs, rfl, _⟩ := r.dct; cases rv; simp
  | fn b => obtain ⟨a, _, rfl⟩ := r.fn; cases rv; simp
  | box => cases r.box; cases rv; simp
theorem visB_of {x : D} {k : Bool} (r : Rr c b0 B H x v) (rv : RelV v u) : u = .bool k ↔ x = .bl k := by
  cases x with
  | non => cases r.non; cases rv; simp
  | bl b => cases r.bl; cases rv; simp
  | int b => cases r.int; obtain ⟨t, rfl⟩ := rv; simp
  | str b => cases r.str; obtain ⟨t, rfl⟩ := rv; simp
  | lst b => obtain ⟨a, vs, rfl, _⟩ := r.lst; cases rv; simp
  | tup b => obtain ⟨a, vs, rfl, _⟩ := r.tup; cases rv; simp
  | dct b => obtain ⟨a, vs, rfl, _⟩ := r.dct; cases rv; simp
  | fn b => obtain ⟨a, _, rfl⟩ := r.fn; cases rv; simp
  | box => cases r.box; cases rv; simp
theorem plainIs_bool {x : D} (k : Bool) (r : Rr c b0 B H x v) (rv : RelV v u) : plainIs u (.bool k) = true := by
  cases x with
  | non => cases r.non; cases rv; rfl
  | bl b => cases r.bl; cases rv; rfl
  | int b => cases r.int; obtain ⟨t, rfl⟩ := rv; rfl
  | str b => cases r.str; obtain ⟨t, rfl⟩ := rv; rfl
  | lst b => obtain ⟨a, vs, rfl, _⟩ := r.lst; cases rv; rfl
  | tup b => obtain ⟨a, vs, rfl, _⟩ := r.tup; cases rv; rfl
  | dct b => obtain ⟨a, vs, rfl, _⟩ := r.dct; cases rv; rfl
  | fn b => obtain ⟨a, _, rfl⟩ := r.fn; cases rv; rfl
  | box => cases r.box; cases rv; rfl
theorem same_non (x : D) : sameConst x .non = true ↔ x = .non := by cases x <;> simp [sameConst]
theorem same_bl (x : D) (k : Bool) : sameConst x (.bl k) = true ↔ x = .bl k := by cases x <;> simp [sameConst]
theorem cmp_is : OpR X (compareOp .Is) (rC c .is) := by
  intro pins s σ H x y v u Q I rx ry ⟨b0, B, dx, dy, k, hx, hy, e, q⟩
  simp only [cmpD] at e
  cases dy with
  | non =>
    simp only [isConst, if_true, Option.some.injEq] at e
    cases hy.non; cases ry
    refine is_none_gen ⟨.bl (v == .none), H, I, rfl, ?_⟩
    have : (v == Value.none) = k := by
      rw [← e, Bool.eq_iff_iff, beq_iff_eq, same_non]
      exact vis_of hx rx
    rw [this]
    exact q
  | bl b =>
    simp only [isConst, if_true, Option.some.injEq] at e
    cases hy.bl; cases ry
    have h := visB_of (k := b) hx rx
    by_cases hv : v = .bool b
    · rw [(same_bl dx b).mpr (h.mp hv)] at e
      subst e
      subst hv
      exact wpAny_is_self rfl ⟨.bl true, H, I, rfl, q⟩
    · have : sameConst dx (.bl b) = false := by
        cases z : sameConst dx (.bl b) with
        | false => rfl
        | true => exact absurd (h.mpr ((same_bl dx b).mp z)) hv
      rw [this] at e
      subst e
      exact wpAny_is_other (plainIs_bool b hx rx) hv ⟨.bl false, H, I, rfl, q⟩
  | _ => simp [isConst] at e
theorem cmp_isnot : OpR X (compareOp .IsNot) (rC c .isnot) := by
  intro pins s σ H x y v u Q I rx ry ⟨b0, B, dx, dy, k, hx, hy, e, q⟩
  simp only [cmpD] at e
  cases dy with
  | non =>
    simp only [isConst, if_true, Option.some.injEq] at e
    cases hy.non; cases ry
    refine isnot_none_gen ⟨.bl (!(v == .none)), H, I, rfl, ?_⟩
    have : (v == Value.none) = sameConst dx .non := by
      rw [Bool.eq_iff_iff, beq_iff_eq, same_non]
      exact vis_of hx rx
    rw [this, e]
    exact q
  | bl b =>
    simp only [isConst, if_true, Option.some.injEq] at e
    cases hy.bl; cases ry
    have h := visB_of (k := b) hx rx
    by_cases hv : v = .bool b
    · rw [(same_bl dx b).mpr (h.mp hv)] at e
      subst e
      subst hv
      exact wpAny_isNot_self rfl ⟨.bl false, H, I, rfl, q⟩
    · have : sameConst dx (.bl b) = false := by
        cases z : sameConst dx (.bl b) with
        | false => rfl
        | true => exact absurd (h.mpr ((same_bl dx b).mp z)) hv
      rw [this] at e
      subst e
      exact wpAny_isNot_other (plainIs_bool b hx rx) hv ⟨.bl true, H, I, rfl, q⟩
  | _ => simp [isConst] at e
theorem un_in (F : Fit X c) {d : D} (h : d.ok = true) (n : Nat) : X.A.units + 1 + min n (toPy d).depth < cLine := by
  obtain ⟨h1, h2⟩ := ok_of h
  have := (toPy_depth d).2 h1
  have := F.un
  omega
/-- in, for rows and texts -/
theorem cmp_in (F : Fit X c) : OpR X (compareOp .In) (fun x y H Q => ∃ b0 B dx dy k, Rr c b0 B H dx x ∧ Rr c b0 B H dy y ∧ (∀ kvs, dy ≠ .dct kvs) ∧ inD dx dy = some k ∧ Q (.bl k) H) := by
  intro pins s σ H x y v u Q I rx ry ⟨b0, B, dx, dy, k, hx, hy, nd, e, q⟩
  cases dy with
  | lst ys =>
    simp only [inD] at e
    split at e
    · rename_i hh
      simp only [Option.some.injEq] at e
      subst e
      rw [Bool.and_eq_true] at hh
      obtain ⟨h1, h2⟩ := hh
      obtain ⟨as, r1⟩ := hx.reads F I (ok_of h1).1 rx
      obtain ⟨bs, r2⟩ := hy.reads F I (ok_of h2).1 ry
      have hp : D.plains ys = true := by simpa [D.plain] using (ok_of h2).1
      rw [toPy] at r2
      refine PySem.SeqAt.in_list_data r2 r1 (toPys_plain hp) (toPy_plain (ok_of h1).1) (un_in F h1 _) ⟨.bl _, H, I, rfl, ?_⟩
      rw [any_toPy (ok_of h1).1 _ hp]
      exact q
    · cases e
  | tup ys =>
    simp only [inD] at e
    split at e
    · rename_i hh
      simp only [Option.some.injEq] at e
      subst e
      rw [Bool.and_eq_true] at hh
      obtain ⟨h1, h2⟩ := hh
      obtain ⟨as, r1⟩ := hx.reads F I (ok_of h1).1 rx
      obtain ⟨bs, r2⟩ := hy.reads F I (ok_of h2).1 ry
      have hp : D.plains ys = true := by simpa [D.plain] using (ok_of h2).1
      rw [toPy] at r2
      refine PySem.SeqAt.in_tuple_data r2 r1 (toPys_plain hp) (toPy_plain (ok_of h1).1) (un_in F h1 _) ⟨.bl _, H, I, rfl, ?_⟩
      rw [any_toPy (ok_of h1).1 _ hp]
      exact q
    · cases e
  | str z =>
    cases dx with
    | str w =>
      match w, e with
      | [ch], e =>
        simp only [inD, Option.some.injEq] at e
        subst e
        cases hx.str; cases hy.str
        refine op_in_sign pins s σ H _ _ v u Q I rx ry ⟨ch, toStr z, rfl, rfl, ?_⟩
        rw [toStr_list]
        have : decide (ch ∈ z) = z.elem ch := by
          rw [Bool.eq_iff_iff, decide_eq_true_iff, List.elem_iff]
        rw [this]
        exact q
    | _ => simp [inD] at e
  | dct kvs => exact absurd rfl (nd kvs)
  | non => cases dx <;> simp [inD] at e
  | bl _ => cases dx <;> simp [inD] at e
  | int _ => cases dx <;> simp [inD] at e
  | fn _ => cases dx <;> simp [inD] at e
  | box => cases dx <;> simp [inD] at e
theorem cmp_notin (F : Fit X c) : OpR X (compareOp .NotIn) (fun x y H Q => ∃ b0 B dx dy k, Rr c b0 B H dx x ∧ Rr c b0 B H dy y ∧ (∀ kvs, dy ≠ .dct kvs) ∧ inD dx dy = some k ∧ Q (.bl (!k)) H) := by
  intro pins s σ H x y v u Q I rx ry ⟨b0, B, dx, dy, k, hx, hy, nd, e, q⟩
  cases dy with
  | lst ys =>
    simp only [inD] at e
    split at e
    · rename_i hh
      simp only [Option.some.injEq] at e
      subst e
      rw [Bool.and_eq_true] at hh
      obtain ⟨h1, h2⟩ := hh
      obtain ⟨as, r1⟩ := hx.reads F I (ok_of h1).1 rx
      obtain ⟨bs, r2⟩ := hy.reads F I (ok_of h2).1 ry
      have hp : D.plains ys = true := by simpa [D.plain] using (ok_of h2).1
      rw [toPy] at r2
      refine PySem.SeqAt.notIn_list_data r2 r1 (toPys_plain hp) (toPy_plain (ok_of h1).1) (un_in F h1 _) ⟨.bl _, H, I, rfl, ?_⟩
      rw [any_toPy (ok_of h1).1 _ hp]
      exact q
    · cases e
  | tup ys =>
    simp only [inD] at e
    split at e
    · rename_i hh
      simp only [Option.some.injEq] at e
      subst e
      rw [Bool.and_eq_true] at hh
      obtain ⟨h1, h2⟩ := hh
      obtain ⟨as, r1⟩ := hx.reads F I (ok_of h1).1 rx
      obtain ⟨bs, r2⟩ := hy.reads F I (ok_of h2).1 ry
      have hp : D.plains ys = true := by simpa [D.plain] using (ok_of h2).1
      rw [toPy] at r2
      refine PySem.SeqAt.notIn_tuple_data r2 r1 (toPys_plain hp) (toPy_plain (ok_of h1).1) (un_in F h1 _) ⟨.bl _, H, I, rfl, ?_⟩
      rw [any_toPy (ok_of h1).1 _ hp]
      exact q
    · cases e
  | str z =>
    cases dx with
    | str w =>
      match w, e with
      | [ch], e =>
        simp only [inD, Option.some.injEq] at e
        subst e
        cases hx.str; cases hy.str
        refine op_notIn_sign pins s σ H _ _ v u Q I rx ry ⟨ch, toStr z, rfl, rfl, ?_⟩
        rw [toStr_list]
        have : decide (ch ∈ z) = z.elem ch := by
          rw [Bool.eq_iff_iff, decide_eq_true_iff, List.elem_iff]
        rw [this]
        exact q
    | _ => simp [inD] at e
  | dct kvs => exact absurd rfl (nd kvs)
  | non => cases dx <;> simp [inD] at e
  | bl _ => cases dx <;> simp [inD] at e
  | int _ => cases dx <;> simp [inD] at e
  | fn _ => cases dx <;> simp [inD] at e
  | box => cases dx <;> simp [inD] at e
end
end Ev
/-! EvC3: places, parts, truth, len of rows and texts. -/
namespace Ev
open PySem PySem.Spec PyProof.Rows L2
theorem atI_eq {α β : Type} {xs : List α} {ys : List β} (hl : ys.length = xs.length) {i : Int} {x : α} (h : Ev.atI xs i = some x) : ∃ j : Nat, xs[j]? = some x ∧ L2.atI ys i = ys[j]? := by
  unfold Ev.atI at h
  unfold L2.atI L2.ixN
  rw [hl]
  by_cases h0 : 0 ≤ i
  · rw [if_pos h0] at h ⊢
    have hlt := (List.getElem?_eq_some_iff.mp h).1
    rw [if_pos (by omega)]
    exact ⟨_, h, rfl⟩
  · rw [if_neg h0] at h ⊢
    by_cases h1 : -(xs.length : Int) ≤ i
    · rw [if_pos h1] at h ⊢
      exact ⟨_, h, rfl⟩
    · rw [if_neg h1] at h
      cases h
theorem sIx_eq (n d : Nat) (o : Option Int) : HT.sIx n d o = Ev.sIx n d o := by cases o <;> rfl
theorem cutV_eq (vs : List V) (lo hi : Option Int) : cutV vs lo hi = cut vs lo hi := by
  unfold cutV cut
  rw [sIx_eq, sIx_eq]
theorem cutS_eq (z : List Nat) (lo hi : Option Int) : cutS (toStr z) lo hi = toStr (cut z lo hi) := by
  unfold cutS cut
  rw [sIx_eq, sIx_eq, toStr_len, toStr_list]
  rfl
section
variable {X : Cx} {c : Cs}
theorem cut_rz {b0 : Addr} {B : Addr → Prop} {H : Hp} {ds : List D} {vs : List V} (r : Rzs c b0 B H ds vs) (lo hi : Option Int) : Rzs c b0 B H (cut ds lo hi) (cut vs lo hi) := by
  unfold cut
  rw [r.length]
  exact (r.drop _).take _
/-- a place's reading; dicts apart -/
def rX (c : Cs) : R2 := fun x y H Q => ∃ b0 B dx dy d, Rr c b0 B H dx x ∧ Rr c b0 B H dy y ∧ (∀ kvs, dx ≠ .dct kvs) ∧ idxD dx dy = some d ∧ ∀ v, Rz c b0 B H d v → Q v H
theorem ix_all (F : Fit X c) : IxR X (rX c) := by
  intro value slice pins s σ H x y v u Q I rx ry ⟨b0, B, dx, dy, d, hx, hy, nd, e, q⟩ hs
  cases dx with
  | lst xs =>
    cases dy with
    | int i =>
      simp only [idxD] at e
      obtain ⟨a, vs, rfl, h, rs⟩ := hx.lst
      cases hy.int
      obtain ⟨j, h1, h2⟩ := atI_eq rs.length e
      obtain ⟨z, h3, h4⟩ := rs.get h1
      exact ix_list value slice pins s σ H _ _ v u Q I rx ry ⟨a, vs, i, z, rfl, rfl, SqL.of h, h2.trans h3, q z h4⟩ hs
    | _ => simp [idxD] at e
  | tup xs =>
    cases dy with
    | int i =>
      simp only [idxD] at e
      obtain ⟨a, vs, rfl, h, rs⟩ := hx.tup
      cases hy.int
      obtain ⟨j, h1, h2⟩ := atI_eq rs.length e
      obtain ⟨z, h3, h4⟩ := rs.get h1
      exact ix_tup value slice pins s σ H _ _ v u Q I rx ry ⟨a, vs, i, z, rfl, rfl, h.at F.K, h2.trans h3, q z h4⟩ hs
    | _ => simp [idxD] at e
  | str z =>
    cases dy with
    | int i =>
      simp only [idxD] at e
      split at e
      · rename_i hl
        obtain ⟨ch, e1, rfl⟩ := Option.map_eq_some_iff.mp e
        cases hx.str; cases hy.int
        obtain ⟨j, h1, h2⟩ := atI_eq (ys := z) rfl e1
        exact ix_str value slice pins s σ H _ _ v u Q I rx ry ⟨toStr z, i, ch, rfl, rfl, by rw [toStr_len, ← line_eq]; exact hl, by rw [toStr_list]; exact h2.trans h1, q (.str (toStr [ch])) (by rw [Rz])⟩ hs
      · cases e
    | _ => simp [idxD] at e
  | dct kvs => exact absurd rfl (nd kvs)
  | _ => simp [idxD] at e
/-- a part's reading -/
def rS (c : Cs) : V → Option Int → Option Int → Hp → VK → Prop := fun x lo hi H Q => ∃ g dx a, Bars g ∧ Rr c g.b0 g.B H dx x ∧ slcD dx lo hi = some a ∧ ∀ v H', Same H H' → Rn c g H H' a v → Q v H'
theorem sl_all (F : Fit X c) : SlR X (rS c) := by
  intro pins s σ H x v vl vu lo hi sl Q I rx hs pl pu ⟨g, dx, a, hb, hx, e, q⟩
  cases dx with
  | lst xs =>
    simp only [slcD, Option.some.injEq] at e
    subst e
    obtain ⟨a, vs, rfl, h, rs⟩ := hx.lst
    exact sl_list pins s σ H _ v vl vu lo hi sl Q I rx hs pl pu ⟨a, vs, rfl, SqL.of h, fun p hp => by
      rw [cutV_eq]
      exact q _ _ (same_new hp) (new_lst hb hp (cut_rz rs lo hi))⟩
  | tup xs =>
    simp only [slcD, Option.some.injEq] at e
    subst e
    obtain ⟨a, vs, rfl, h, rs⟩ := hx.tup
    cases rx
    obtain ⟨its, r, ht, hz⟩ := I.tuple (h.at F.K)
    have hlen : its.toArray.size = vs.length := by rw [List.size_toArray]; exact (Vals.length r).symm
    refine ⟨"tuple", _, PyProof.Rows.slot_tuple_getitem.lookup, ht.typeIs, ?_⟩
    by_cases hw : HT.sIx vs.length 0 lo = 0 ∧ HT.sIx vs.length vs.length hi = vs.length
    · refine getItem_tuple_whole ht hs pl pu (by rw [hlen]; exact hw) ⟨.ref a, H, I, rfl, q _ _ (Same.refl H) (rn_cl ?_)⟩
      have e2 : cut xs lo hi = xs := by
        rw [sIx_eq, sIx_eq, rs.length] at hw
        unfold cut
        rw [hw.1, hw.2]
        simp
      rw [e2, Rz]
      exact ⟨a, vs, rfl, h, rs⟩
    · refine HT.getItem_tuple_cut ht hs pl pu (by rw [hlen]; exact hw) ?_ (by rw [hlen]; exact hz)
      rw [hlen, sIx_eq, sIx_eq]
      have hp : H s.heap.objs.size = none := I.hok.fresh (Nat.le_refl _)
      have rc : Vals (cut vs lo hi) ((its.drop (Ev.sIx vs.length 0 lo)).take (Ev.sIx vs.length vs.length hi - Ev.sIx vs.length 0 lo)) := (r.drop _).take _
      exact ⟨.ref s.heap.objs.size, _, tup_new (t := s.toks) I rc (by rw [← cutV_eq]; exact Nat.le_trans (cutV_length vs lo hi) hz), rfl, q _ _ (same_new hp) (new_tup hb hp rfl (cut_rz rs lo hi))⟩
  | str z =>
    simp only [slcD] at e
    split at e
    · rename_i hl
      simp only [Option.some.injEq] at e
      subst e
      cases hx.str
      exact sl_str pins s σ H _ v vl vu lo hi sl Q I rx hs pl pu ⟨toStr z, rfl, by rw [toStr_len, ← line_eq]; exact hl, by rw [cutS_eq]; exact q _ _ (Same.refl H) rn_str⟩
    · cases e
  | _ => simp [slcD] at e
theorem isEmpty_len {α β : Type} {xs : List α} {ys : List β} (h : xs.length = ys.length) : xs.isEmpty = ys.isEmpty := by
  cases xs <;> cases ys <;> simp_all
/-! ### dicts, as the heap has them -/
/-- entries with ints and texts -/
theorem paired_kk {w : World} {prog : Program} {vs : List (Key × Value)} {kk : List (Key × V)} (r : KV kk vs) {kvs : List (D × D)} {b0 : Addr} {B : Addr → Prop} {H : Hp} (rs : Rzd c b0 B H kvs (kk.map (fun p => (kV p.1, p.2)))) (hl : ∀ p ∈ kvs, p.1.leaf = true) :
    Paired (fun (p : D × D) (q : Key × Value) => toK p.1 = q.1 ∧ ∃ v, Rz c b0 B H p.2 v ∧ RelV v q.2) kvs vs := by
  induction r generalizing kvs with
  | nil =>
    cases kvs with
    | nil => exact .nil
    | cons p ps =>
      rw [Rzd] at rs
      obtain ⟨_, _, _, e, _⟩ := rs
      cases e
  | @cons x y xs ys h t ih =>
    cases kvs with
    | nil =>
      rw [Rzd] at rs
      cases rs
    | cons p ps =>
      rw [Rzd] at rs
      obtain ⟨k, v, q, e, r1, r2, r3⟩ := rs
      rw [List.map_cons] at e
      injection e with e1 e2
      subst e2
      obtain ⟨e3, e4⟩ := Prod.mk.inj e1
      refine .cons ⟨?_, v, r2, e4 ▸ h.2⟩ (ih r3 fun z hz => hl z (List.mem_cons_of_mem _ hz))
      have h0 := hl p List.mem_cons_self
      rw [← h.1]
      cases hp : p.1 with
      | int i =>
        rw [hp, Rz] at r1
        rw [r1] at e3
        cases hk : x.1 with
        | inl j => rw [hk] at e3; cases e3; rfl
        | inr j => rw [hk] at e3; cases e3
      | str i =>
        rw [hp, Rz] at r1
        rw [r1] at e3
        cases hk : x.1 with
        | inl j => rw [hk] at e3; cases e3
        | inr j => rw [hk] at e3; cases e3; rfl
      | _ => rw [hp] at h0; simp [D.leaf] at h0
/-- the entries of a dict of the module -/
theorem pairs_lit {prog : Program} {w : World} {b0 : Addr} {B : Addr → Prop} {H : Hp} : ∀ {es : List DictEntry} {rows : List (V × V)} {kvs : List (D × D)}, Paired (fun (r : V × V) (e : DictEntry) => RelV r.1 e.key ∧ RelV r.2 e.val) rows es → PySem.W.KeysLit w.params es → Rzd c b0 B H kvs rows → (rows.map (·.1)).Nodup →
    ∃ vs : List (Key × Value), Paired (fun (p : D × D) (q : Key × Value) => toK p.1 = q.1 ∧ ∃ v, Rz c b0 B H p.2 v ∧ RelV v q.2) kvs vs ∧ PySem.Pairs (mixKind prog w) es vs ∧ (∀ e ∈ es, ∃ k, (mixKind prog w).is k e.key = true ∧ e.hash = (mixKind prog w).hash k) ∧ (vs.map (fun q => kV q.1)) = rows.map (·.1)
  | [], [], kvs, _, _, rs, _ => by
    cases kvs with
    | nil => exact ⟨[], .nil, .nil, fun _ h => (nomatch h), rfl⟩
    | cons p ps =>
      rw [Rzd] at rs
      obtain ⟨_, _, _, e, _⟩ := rs
      cases e
  | e :: es, [], kvs, r, _, _, _ => by cases r
  | [], x :: xs, kvs, r, _, _, _ => by cases r
  | e :: es, x :: xs, kvs, r, lit, rs, nd => by
    cases r with
    | cons h t =>
      cases kvs with
      | nil => rw [Rzd] at rs; cases rs
      | cons p ps =>
        rw [Rzd] at rs
        obtain ⟨k, v, q, e0, r1, r2, r3⟩ := rs
        injection e0 with e1 e2
        subst e2
        subst e1
        obtain ⟨⟨tx, tt, hk, hh⟩, lit'⟩ := lit
        rw [List.map_cons, List.nodup_cons] at nd
        obtain ⟨vs, i1, i2, i3, i4⟩ := pairs_lit t lit' r3 nd.2
        have hkx : k = .str tx := by
          have := h.1
          rw [hk] at this
          cases k with
          | str y => obtain ⟨t', z⟩ := this; cases z; rfl
          | non => cases this
          | bl _ => cases this
          | int _ => obtain ⟨_, z⟩ := this; cases z
          | byt _ => obtain ⟨_, z⟩ := this; cases z
          | flt _ => obtain ⟨_, z⟩ := this; cases z
          | ref _ => cases this
          | ty _ => cases this
        refine ⟨(.inr tx, e.val) :: vs, .cons ⟨?_, v, r2, h.2⟩ i1, .cons (by rw [hk]; exact keyIs_str tx tt) rfl i2, fun y hy => ?_, by rw [List.map_cons, i4, List.map_cons, hkx]; rfl⟩
        · rw [hkx] at r1
          cases hp : p.1 with
          | str z =>
            rw [hp, Rz] at r1
            injection r1 with r1
            rw [r1]
            rfl
          | non => rw [hp, Rz] at r1; cases r1
          | bl _ => rw [hp, Rz] at r1; cases r1
          | int _ => rw [hp, Rz] at r1; cases r1
          | fn _ => rw [hp, Rz] at r1; obtain ⟨_, _, z⟩ := r1; cases z
          | box => rw [hp, Rz] at r1; cases r1
          | lst _ => rw [hp, Rz] at r1; obtain ⟨_, _, z, _⟩ := r1; cases z
          | tup _ => rw [hp, Rz] at r1; obtain ⟨_, _, z, _⟩ := r1; cases z
          | dct _ => rw [hp, Rz] at r1; obtain ⟨_, _, z, _⟩ := r1; cases z
        · rcases List.mem_cons.mp hy with rfl | hy
          · exact ⟨.inr tx, by rw [hk]; exact keyIs_str tx tt, by rw [hh]; rfl⟩
          · exact i3 y hy
mutual
theorem nest_depth : ∀ (n : Nat) (d : D), d.nest n = true → (toKey d).depth ≤ n
  | n, .non, _ => by simp [toKey, NestedKey.depth]
  | n, .bl _, _ => by simp [toKey, NestedKey.depth]
  | n, .int _, _ => by simp [toKey, NestedKey.depth]
  | n, .str _, _ => by simp [toKey, NestedKey.depth]
  | 0, .tup _, h => by simp [D.nest] at h
  | n + 1, .tup ds, h => by
    rw [toKey, NestedKey.depth]
    have := nests_depth n ds (by simpa [D.nest] using h)
    omega
  | n, .lst _, h => by cases n <;> simp [D.nest] at h
  | n, .dct _, h => by cases n <;> simp [D.nest] at h
  | n, .fn _, h => by cases n <;> simp [D.nest] at h
  | n, .box, h => by cases n <;> simp [D.nest] at h
theorem nests_depth : ∀ (n : Nat) (ds : List D), D.nests n ds = true → NestedKey.depthAll (toKeys ds) ≤ n
  | n, [], _ => by simp [toKeys, NestedKey.depthAll]
  | n, d :: ds, h => by
    rw [D.nests, Bool.and_eq_true] at h
    rw [toKeys, NestedKey.depthAll]
    have := nest_depth n d h.1
    have := nests_depth n ds h.2
    omega
end
mutual
theorem Rz.nested (F : Fit X c) {pins : List (Addr × Obj)} {s : Shared} {σ : L2.St} {H : Hp} (I : Inv X pins σ H s) {b0 : Addr} {B : Addr → Prop} : ∀ (n : Nat) {d : D} {v : V} {u : Value}, d.nest n = true → Rz c b0 B H d v → RelV v u → NestedIs s.heap (toKey d) u
  | n, .non, _, _, _, r, rv => by rw [Rz] at r; subst r; cases rv; rw [toKey]; exact .none
  | n, .bl _, _, _, _, r, rv => by rw [Rz] at r; subst r; cases rv; rw [toKey]; exact .bool rfl
  | n, .int _, _, _, _, r, rv => by rw [Rz] at r; subst r; obtain ⟨t, rfl⟩ := rv; rw [toKey]; exact .int _ _
  | n, .str _, _, _, _, r, rv => by rw [Rz] at r; subst r; obtain ⟨t, rfl⟩ := rv; rw [toKey]; exact .text _ _
  | 0, .tup _, _, _, h, _, _ => by simp [D.nest] at h
  | n + 1, .tup ds, v, u, h, r, rv => by
    rw [Rz] at r
    obtain ⟨a, vs, rfl, q, rs⟩ := r
    cases rv
    obtain ⟨its, rr, ⟨o, h1, h2, m, h3⟩, _⟩ := I.tuple (q.at F.K)
    rw [toKey]
    exact .tup h1 h2 h3 (by simpa using Rzs.nested F I n (by simpa [D.nest] using h) rs rr)
  | n, .lst _, _, _, h, _, _ => by cases n <;> simp [D.nest] at h
  | n, .dct _, _, _, h, _, _ => by cases n <;> simp [D.nest] at h
  | n, .fn _, _, _, h, _, _ => by cases n <;> simp [D.nest] at h
  | n, .box, _, _, h, _, _ => by cases n <;> simp [D.nest] at h
theorem Rzs.nested (F : Fit X c) {pins : List (Addr × Obj)} {s : Shared} {σ : L2.St} {H : Hp} (I : Inv X pins σ H s) {b0 : Addr} {B : Addr → Prop} : ∀ (n : Nat) {ds : List D} {vs : List V} {us : List Value}, D.nests n ds = true → Rzs c b0 B H ds vs → Vals vs us → NestedAll s.heap (toKeys ds) us
  | n, [], _, _, _, r, rv => by rw [Rzs] at r; subst r; cases rv; rw [toKeys]; exact .nil
  | n, d :: ds, _, _, h, r, rv => by
    rw [Rzs] at r
    obtain ⟨v, q, rfl, r1, r2⟩ := r
    rw [D.nests, Bool.and_eq_true] at h
    cases rv with
    | cons k1 k2 =>
      rw [toKeys]
      exact .cons (Rz.nested F I n h.1 r1 k1) (Rzs.nested F I n h.2 r2 k2)
end
/-- rows of a dict with tuples as keys -/
def PairT (c : Cs) (b0 : Addr) (B : Addr → Prop) (H : Hp) : D × D → NestedKey × Addr × Value → Prop := fun p y => toKey p.1 = y.1 ∧ Rz c b0 B H p.1 (.ref y.2.1) ∧ ∃ v, Rz c b0 B H p.2 v ∧ RelV v y.2.2
def PairL (c : Cs) (b0 : Addr) (B : Addr → Prop) (H : Hp) : D × D → Key × Value → Prop := fun p q => toK p.1 = q.1 ∧ ∃ v, Rz c b0 B H p.2 v ∧ RelV v q.2
/-- rows, as told and as the heap has them -/
def PairX : NestedKey × Addr × V → NestedKey × Addr × Value → Prop := fun x y => x.1 = y.1 ∧ x.2.1 = y.2.1 ∧ RelV x.2.2 y.2.2
theorem pairs_tup {prog : Program} {b0 : Addr} {B : Addr → Prop} {H : Hp} {w : World} : ∀ {xs : List (NestedKey × Addr × V)} {es : List DictEntry} {kvs : List (D × D)}, Paired (fun (x : NestedKey × Addr × V) (e : DictEntry) => e.hash = x.1.hash w ∧ e.key = .ref x.2.1 ∧ RelV x.2.2 e.val) xs es →
    Rzd c b0 B H kvs (xs.map (fun x => (.ref x.2.1, x.2.2))) → xs.map (·.1) = kvs.map (fun p => toKey p.1) → ∃ ys : List (NestedKey × Addr × Value), Paired (PairT c b0 B H) kvs ys ∧ es = ys.map (entryOfKey (nestedKind prog w)) ∧ ys.map (·.1) = xs.map (·.1) ∧ Paired PairX xs ys
  | [], [], kvs, _, rs, _ => by
    cases kvs with
    | nil => exact ⟨[], .nil, rfl, rfl, .nil⟩
    | cons p ps =>
      rw [Rzd] at rs
      obtain ⟨_, _, _, e, _⟩ := rs
      cases e
  | [], e :: es, kvs, r, _, _ => by cases r
  | x :: xs, [], kvs, r, _, _ => by cases r
  | x :: xs, e :: es, kvs, r, rs, ek => by
    cases r with
    | cons h t =>
      cases kvs with
      | nil => cases ek
      | cons p ps =>
        rw [Rzd] at rs
        obtain ⟨k, v, q, e0, r1, r2, r3⟩ := rs
        rw [List.map_cons] at e0
        injection e0 with e1 e2
        subst e2
        obtain ⟨e3, e4⟩ := Prod.mk.inj e1
        subst e3 e4
        rw [List.map_cons, List.map_cons] at ek
        injection ek with ek1 ek2
        obtain ⟨ys, i1, i2, i3, i4⟩ := pairs_tup (prog := prog) t r3 ek2
        refine ⟨(x.1, x.2.1, e.val) :: ys, .cons ⟨ek1.symm, r1, _, r2, h.2.2⟩ i1, ?_, by rw [List.map_cons, List.map_cons, i3], .cons ⟨rfl, rfl, h.2.2⟩ i4⟩
        rw [List.map_cons, ← i2]
        obtain ⟨eh, ek, ev⟩ := e
        obtain ⟨h1, h2, h3⟩ := h
        simp only at h1 h2
        subst h1 h2
        rfl
theorem Paired.mem {α β : Type} {R : α → β → Prop} : ∀ {xs : List α} {ys : List β}, Paired R xs ys → ∀ y ∈ ys, ∃ x ∈ xs, R x y
  | _, _, .nil, _, h => nomatch h
  | _, _, .cons r t, y, h => by
    rcases List.mem_cons.mp h with rfl | h
    · exact ⟨_, List.mem_cons_self, r⟩
    · obtain ⟨x, h1, h2⟩ := Paired.mem t y h
      exact ⟨x, List.mem_cons_of_mem _ h1, h2⟩
/-- a dict at hand, by the heap -/
inductive DH (X : Cx) (c : Cs) (b0 : Addr) (B : Addr → Prop) (H : Hp) (h : Heap) (a : Addr) (kvs : List (D × D)) : Prop
  | leaf (vs : List (Key × Value)) (hd : h.DictOf (mixKind X.prog X.w) a vs) (r : Paired (PairL c b0 B H) kvs vs) (hl : ∀ p ∈ kvs, p.1.leaf = true)
  | tups (ys : List (NestedKey × Addr × Value)) (hd : h.DictOfH (nestedKind X.prog X.w) a ys) (r : Paired (PairT c b0 B H) kvs ys) (hl : ∀ p ∈ kvs, p.1.tkey = true)
theorem dctT_full (F : Fit X c) {pins : List (Addr × Obj)} {s : Shared} {σ : L2.St} {H : Hp} (I : Inv X pins σ H s) {b0 : Addr} {B : Addr → Prop} {kvs : List (D × D)} {a : Addr} {xs : List (NestedKey × Addr × V)} (dt : DctAtT c.w s.heap a xs)
    (rs : Rzd c b0 B H kvs (xs.map (fun x => (.ref x.2.1, x.2.2)))) (ek : xs.map (·.1) = kvs.map (fun p => toKey p.1)) (hl : ∀ p ∈ kvs, p.1.tkey = true) : ∃ ys, s.heap.DictOfH (nestedKind X.prog X.w) a ys ∧ Paired (PairT c b0 B H) kvs ys ∧ Paired PairX xs ys := by
  obtain ⟨o, es, ep, h1, h2, h3, h4, h5⟩ := dt
  obtain ⟨ys, i1, i2, i3, i4⟩ := pairs_tup (prog := X.prog) h4 rs ek
  rw [F.w] at i2
  refine ⟨ys, ⟨o, es, ep, h1, h2, h3, i2, fun y hy => ?_, by rw [i3]; exact h5⟩, i1, i4⟩
  obtain ⟨p, hp, e1, e2, _⟩ := Paired.mem i1 y hy
  have ht := hl p hp
  have hn : p.1.nest 8 = true := by
    cases hq : p.1 with
    | tup ds => rw [hq] at ht; exact ht
    | _ => rw [hq] at ht; simp [D.tkey] at ht
  exact ⟨by rw [← e1]; exact Rz.nested F I 8 hn e2 rfl, by rw [← e1]; exact nest_depth 8 _ hn⟩
theorem dcT_heap (F : Fit X c) {pins : List (Addr × Obj)} {s : Shared} {σ : L2.St} {H : Hp} (I : Inv X pins σ H s) {b0 : Addr} {B : Addr → Prop} {kvs : List (D × D)} {a : Addr} {rows : List (V × V)} (q : DcT c (Rd H a) a kvs rows) (rs : Rzd c b0 B H kvs rows) : DH X c b0 B H s.heap a kvs := by
  rcases q with ⟨kk, hk, rfl, hl⟩ | ⟨xs, hx, rfl, ek, _, hl⟩
  · obtain ⟨_, _, vs, rel, hd⟩ := dk_rd I.hok hk
    exact .leaf vs hd (paired_kk (w := X.w) (prog := X.prog) rel rs hl) hl
  · obtain ⟨ys, i1, i2, _⟩ := dctT_full F I (show DctAtT c.w s.heap a xs from (hx.ok I.hok).1) rs ek hl
    exact .tups ys i1 i2 hl
theorem dct_heap (F : Fit X c) {pins : List (Addr × Obj)} {s : Shared} {σ : L2.St} {H : Hp} (I : Inv X pins σ H s) {b0 : Addr} {B : Addr → Prop} {kvs : List (D × D)} {x : V} (hx : Rr c b0 B H (.dct kvs) x) :
    ∃ a, x = .ref a ∧ (a == sysModules) = false ∧ kvs.length ≤ sizeLine ∧ DH X c b0 B H s.heap a kvs := by
  obtain ⟨a, rows, rfl, ⟨q1, q2, q⟩, rs⟩ := hx.dct
  refine ⟨a, rfl, q1, q2, ?_⟩
  rcases q with ⟨_, q⟩ | ⟨es, n, hk, lit, nd, pr, hl⟩
  · exact dcT_heap F I q rs
  · obtain ⟨vs, i1, i2, i3, i4⟩ := pairs_lit (prog := X.prog) pr lit rs nd
    refine .leaf vs ?_ i1 hl
    rw [F.w] at i2 i3
    refine ⟨_, es, n, I.kIn _ _ (F.K ▸ hk), ⟨rfl, rfl, rfl⟩, rfl, fun e he => i3 e (Array.mem_toList_iff.mpr he), i2, ?_⟩
    have : (vs.map (fun q => kV q.1)).Nodup := by rw [i4]; exact nd
    have e2 : vs.map (fun q => kV q.1) = (vs.map (·.1)).map kV := by rw [List.map_map]; rfl
    rw [e2] at this
    exact List.Pairwise.of_map kV (fun _ _ h e => h (congrArg kV e)) this
theorem DH.length {b0 : Addr} {B : Addr → Prop} {H : Hp} {h : Heap} {a : Addr} {kvs : List (D × D)} (d : DH X c b0 B H h a kvs) : ∃ o es ep, h.get? a = some o ∧ o.ExactDict ∧ o.data = .dict es ep ∧ kvs.length = es.size := by
  cases d with
  | leaf vs hd r _ =>
    obtain ⟨o, es, ep, h1, h2, h3, _, h5, _⟩ := hd
    exact ⟨o, es, ep, h1, h2, h3, by rw [Paired.length r, ← Pairs.length h5, Array.length_toList]⟩
  | tups ys hd r _ =>
    obtain ⟨o, es, ep, h1, h2, h3, h4, _⟩ := hd
    exact ⟨o, es, ep, h1, h2, h3, by rw [Paired.length r, ← size_of_entries h4]⟩
theorem tru_dctH {prog : Program} {w : World} {A : Around} {E : Value → Shared → Prop} {s : Shared} {a : Addr} {ys : List (NestedKey × Addr × Value)} {Q : Bool → Shared → Prop} (hS : (a == sysModules) = false) (hd : s.heap.DictOfH (nestedKind prog w) a ys) (hz : (ys.length : Int) < 2 ^ 63)
    (h : Q (!ys.isEmpty) { s with toks := s.toks + 1 + 1 }) : wpAny (model prog w) A (truthy (.ref a)) Q E s := by
  have hh : ((ys.length : Int) != 0) = !ys.isEmpty := by cases ys <;> simp; omega
  have key : wpAny (model prog w) A (runValue (.builtin "len" ⟨[.ref a], []⟩)) (fun r t => r = .int ys.length (s.toks + 1) ∧ Q (!ys.isEmpty) t) E s := by
    refine wpAny_runValue (codeAny_builtin entry_len ?_)
    rw [Around.under_plainId plain_len _]
    exact wpAny_mono (wpAny_len_body_dictH (Q := fun r t => r = .int ys.length (s.toks + 1) ∧ Q (!ys.isEmpty) t) hS hd hz ⟨rfl, h⟩) (fun fin t k => by obtain ⟨r, rfl, k⟩ := k; exact k) fun _ _ z => z
  unfold truthy
  first
    | refine wpAny_bind (wpAny_callSpecial?_none (name := Str.ofString "__bool__") hd.typeIs noBool_dict ?_)
    | refine wpAny_bind (wpAny_pure (wpAny_bind (wpAny_callSpecial?_none (name := Str.ofString "__bool__") hd.typeIs noBool_dict ?_)))
  first
    | refine wpAny_bind (wpAny_specialOf (name := Str.ofString "__len__") hd.typeIs PySem.F.slot_dict_len.lookup ?_)
    | refine wpAny_bind (wpAny_pure (wpAny_bind (wpAny_specialOf (name := Str.ofString "__len__") hd.typeIs PySem.F.slot_dict_len.lookup ?_)))
  first
    | exact wpAny_bind (wpAny_mono key (fun r t k => by obtain ⟨rfl, k⟩ := k; exact wpAny_pure (hh ▸ k)) fun _ _ z => z)
    | exact wpAny_bind (wpAny_pure (wpAny_bind (wpAny_mono key (fun r t k => by obtain ⟨rfl, k⟩ := k; exact wpAny_pure (hh ▸ k)) fun _ _ z => z)))
theorem tru_dct {b0 : Addr} {B : Addr → Prop} {H : Hp} {s : Shared} {a : Addr} {kvs : List (D × D)} {A : Around} {E : Value → Shared → Prop} {Q : Bool → Shared → Prop} (d : DH X c b0 B H s.heap a kvs) (hS : (a == sysModules) = false) (hz : kvs.length ≤ sizeLine)
    (h : ∀ tk, Q (!kvs.isEmpty) { s with toks := tk }) : wpAny (model X.prog X.w) A (truthy (.ref a)) Q E s := by
  have hl := line63
  cases d with
  | leaf vs hd r _ =>
    have e := Paired.length r
    exact wpAny_truthy_dict hS hd (by omega) (by rw [← isEmpty_len e]; exact h _)
  | tups ys hd r _ =>
    have e := Paired.length r
    exact tru_dctH hS hd (by omega) (by rw [← isEmpty_len e]; exact h _)
theorem len_dct {b0 : Addr} {B : Addr → Prop} {H : Hp} {s : Shared} {a : Addr} {kvs : List (D × D)} {A : Around} {E : Value → Shared → Prop} {Q : Value → Shared → Prop} (d : DH X c b0 B H s.heap a kvs) (hS : (a == sysModules) = false) (hz : kvs.length ≤ sizeLine)
    (h : ∀ t tk, Q (.int kvs.length t) { s with toks := tk }) : wpAny (model X.prog X.w) A (call (.builtin "len") [.ref a]) Q E s := by
  have hl := line63
  cases d with
  | leaf vs hd r _ =>
    have e := Paired.length r
    exact call_len_dict hS hd (by omega) (by rw [← e]; exact h _ _)
  | tups ys hd r _ =>
    have e := Paired.length r
    exact call_len_dictH hS hd (by omega) (by rw [← e]; exact h _ _)
/-- truth -/
theorem tru_all (F : Fit X c) : TruR X (fun x H Q => ∃ b0 B d k, Rr c b0 B H d x ∧ d.truthy = some k ∧ Q k H) := by
  intro pins s σ H x v Q I rx ⟨b0, B, d, k, hx, e, q⟩
  cases d with
  | non =>
    simp only [D.truthy, Option.some.injEq] at e
    subst e
    cases hx.non
    exact tru_ok pins s σ H _ v Q I rx ⟨false, rfl, q⟩
  | bl b =>
    simp only [D.truthy, Option.some.injEq] at e
    subst e
    cases hx.bl
    exact tru_ok pins s σ H _ v Q I rx ⟨b, rfl, q⟩
  | int i =>
    simp only [D.truthy, Option.some.injEq] at e
    subst e
    cases hx.int
    exact tru_ok pins s σ H _ v Q I rx ⟨_, rfl, q⟩
  | str z =>
    simp only [D.truthy] at e
    split at e
    · rename_i hl
      simp only [Option.some.injEq] at e
      subst e
      cases hx.str
      refine tru_ok pins s σ H _ v Q I rx ⟨_, ⟨by rw [toStr_len, ← line_eq]; exact hl, ?_⟩, q⟩
      rw [toStr_len]
      cases z <;> simp
      omega
    · cases e
  | lst xs =>
    simp only [D.truthy, Option.some.injEq] at e
    subst e
    obtain ⟨a, vs, rfl, h, rs⟩ := hx.lst
    exact tru_ok pins s σ H _ v Q I rx ⟨_, .inl ⟨vs, SqL.of h, by rw [isEmpty_len rs.length]⟩, q⟩
  | tup xs =>
    simp only [D.truthy, Option.some.injEq] at e
    subst e
    obtain ⟨a, vs, rfl, h, rs⟩ := hx.tup
    exact tru_ok pins s σ H _ v Q I rx ⟨_, .inr (.inl ⟨vs, h.at F.K, by rw [isEmpty_len rs.length]⟩), q⟩
  | dct kvs =>
    simp only [D.truthy, Option.some.injEq] at e
    subst e
    obtain ⟨a, rfl, hS, hz, dh⟩ := dct_heap F I hx
    cases rx
    exact tru_dct dh hS hz (fun tk => ⟨H, I.tok tk, q⟩)
  | _ => simp [D.truthy] at e
end
end Ev
/-! EvC4: dicts that are read. -/
namespace Ev
open PySem PySem.Spec PyProof.Rows L2
theorem leaf_eq {a b : D} (ha : a.leaf = true) (hb : b.leaf = true) : D.eq a b = decide (toK a = toK b) := by
  cases a with
  | int i =>
    cases b with
    | int j => rw [D.eq, toK, toK, key_ll]
    | str j => rw [toK, toK, key_lr]; simp [D.eq]
    | _ => simp [D.leaf] at hb
  | str i =>
    cases b with
    | int j => rw [toK, toK, key_rl]; simp [D.eq]
    | str j =>
      rw [D.eq, toK, toK, key_rr, Bool.eq_iff_iff, eqNats_iff, decide_eq_true_iff, toStr_inj]
    | _ => simp [D.leaf] at hb
  | _ => simp [D.leaf] at ha
mutual
theorem nest_eq : ∀ (n m : Nat) (a b : D), a.nest n = true → b.nest m = true → (D.eq a b = true ↔ toKey a = toKey b)
  | n, m, .non, b, _, hb => by cases b <;> first | (simp [D.eq, toKey]; done) | (cases m <;> simp [D.nest] at hb)
  | n, m, .bl x, b, _, hb => by cases b <;> first | (simp [D.eq, toKey]; done) | (rename_i y; cases x <;> cases y <;> simp [D.eq, toKey]; done) | (cases m <;> simp [D.nest] at hb)
  | n, m, .int _, b, _, hb => by cases b <;> first | (simp [D.eq, toKey]; done) | (cases m <;> simp [D.nest] at hb)
  | n, m, .str _, b, _, hb => by cases b <;> first | (simp [D.eq, toKey, eqNats_iff, toStr_inj]; done) | (cases m <;> simp [D.nest] at hb)
  | 0, m, .tup xs, b, ha, _ => by simp [D.nest] at ha
  | n + 1, 0, .tup xs, b, _, hb => by cases b <;> first | (simp [D.eq, toKey]; done) | (simp [D.nest] at hb)
  | n + 1, m + 1, .tup xs, b, ha, hb => by
    cases b with
    | tup ys =>
      rw [D.eq, toKey, toKey, nests_eq n m xs ys (by simpa [D.nest] using ha) (by simpa [D.nest] using hb)]
      simp
    | _ => first | (simp [D.eq, toKey]; done) | (simp [D.nest] at hb)
  | n, m, .lst _, _, h, _ => by cases n <;> simp [D.nest] at h
  | n, m, .dct _, _, h, _ => by cases n <;> simp [D.nest] at h
  | n, m, .fn _, _, h, _ => by cases n <;> simp [D.nest] at h
  | n, m, .box, _, h, _ => by cases n <;> simp [D.nest] at h
theorem nests_eq : ∀ (n m : Nat) (a b : List D), D.nests n a = true → D.nests m b = true → (D.eqs a b = true ↔ toKeys a = toKeys b)
  | _, _, [], [], _, _ => by simp [D.eqs, toKeys]
  | _, _, [], _ :: _, _, _ => by simp [D.eqs, toKeys]
  | _, _, _ :: _, [], _, _ => by simp [D.eqs, toKeys]
  | n, m, x :: xs, y :: ys, ha, hb => by
    rw [D.nests, Bool.and_eq_true] at ha hb
    rw [D.eqs, Bool.and_eq_true, toKeys, toKeys, nest_eq n m x y ha.1 hb.1, nests_eq n m xs ys ha.2 hb.2]
    simp
end
theorem tkey_nest {k : D} (h : k.tkey = true) : k.nest 8 = true ∧ ∃ ds, k = .tup ds := by
  cases k with
  | tup ds => exact ⟨h, ds, rfl⟩
  | _ => simp [D.tkey] at h
theorem tkey_eq {a b : D} (ha : a.tkey = true) (hb : b.tkey = true) : D.eq a b = decide (toKey a = toKey b) := by
  rw [Bool.eq_iff_iff, decide_eq_true_iff]
  exact nest_eq 8 8 a b (tkey_nest ha).1 (tkey_nest hb).1
section
variable {X : Cx} {c : Cs} {b0 : Addr} {B : Addr → Prop} {H : Hp}
/-- an answer: what stands there -/
def AnsV (c : Cs) (b0 : Addr) (B : Addr → Prop) (H : Hp) : Option D → Option Value → Prop
  | some d, some u => ∃ v, Rz c b0 B H d v ∧ RelV v u
  | none, none => True
  | _, _ => False
theorem ans_leaf {k : D} (hk : k.leaf = true) : ∀ {kvs : List (D × D)} {vs : List (Key × Value)}, Paired (PairL c b0 B H) kvs vs → (∀ p ∈ kvs, p.1.leaf = true) → AnsV c b0 B H (valD k kvs) (valueAt vs (toK k))
  | _, _, .nil, _ => True.intro
  | _, _, .cons (a := p) (b := q) (l₁ := ps) (l₂ := qs) r t, hl => by
    have ih := ans_leaf hk t fun z hz => hl z (List.mem_cons_of_mem _ hz)
    obtain ⟨e, v, r1, r2⟩ := r
    rw [valD, leaf_eq (hl _ List.mem_cons_self) hk]
    unfold valueAt at ih ⊢
    rw [List.find?_cons, ← e]
    by_cases h : toK p.1 = toK k
    · rw [decide_eq_true h]
      exact ⟨v, r1, r2⟩
    · rw [decide_eq_false h, if_neg Bool.false_ne_true]
      exact ih
theorem ans_tup {k : D} (hk : k.tkey = true) : ∀ {kvs : List (D × D)} {ys : List (NestedKey × Addr × Value)}, Paired (PairT c b0 B H) kvs ys → (∀ p ∈ kvs, p.1.tkey = true) → AnsV c b0 B H (valD k kvs) ((atKey ys (toKey k)).map (·.2))
  | _, _, .nil, _ => True.intro
  | _, _, .cons (a := p) (b := q) (l₁ := ps) (l₂ := qs) r t, hl => by
    have ih := ans_tup hk t fun z hz => hl z (List.mem_cons_of_mem _ hz)
    obtain ⟨e, _, v, r1, r2⟩ := r
    rw [valD, tkey_eq (hl _ List.mem_cons_self) hk]
    unfold atKey at ih ⊢
    rw [List.find?_cons, ← e]
    by_cases h : toKey p.1 = toKey k
    · rw [decide_eq_true h]
      exact ⟨v, r1, r2⟩
    · rw [decide_eq_false h, if_neg Bool.false_ne_true]
      exact ih
/-- an empty dict is of both kinds -/
theorem DH.nil_tup {h : Heap} {a : Addr} (d : DH X c b0 B H h a []) : DH X c b0 B H h a [] ∧ h.DictOf (mixKind X.prog X.w) a [] ∧ h.DictOfH (nestedKind X.prog X.w) a [] := by
  refine ⟨d, ?_⟩
  obtain ⟨o, es, ep, h1, h2, h3, h4⟩ := d.length
  have : es = #[] := Array.eq_empty_of_size_eq_zero h4.symm
  subst this
  exact ⟨⟨o, #[], ep, h1, h2, h3, fun e he => absurd he (by simp), .nil, List.nodup_nil⟩, ⟨o, #[], ep, h1, h2, h3, rfl, fun e he => absurd he (by simp), List.nodup_nil⟩⟩
/-- the dict as this key wants it -/
inductive DHk (X : Cx) (c : Cs) (b0 : Addr) (B : Addr → Prop) (H : Hp) (h : Heap) (a : Addr) (kvs : List (D × D)) (k : D) : Prop
  | leaf (hk : k.leaf = true) (vs : List (Key × Value)) (hd : h.DictOf (mixKind X.prog X.w) a vs) (r : Paired (PairL c b0 B H) kvs vs) (hl : ∀ p ∈ kvs, p.1.leaf = true)
  | tups (hk : k.tkey = true) (ys : List (NestedKey × Addr × Value)) (hd : h.DictOfH (nestedKind X.prog X.w) a ys) (r : Paired (PairT c b0 B H) kvs ys) (hl : ∀ p ∈ kvs, p.1.tkey = true)
theorem leaf_not_tkey {k : D} (h : k.leaf = true) (h' : k.tkey = true) : False := by
  cases k <;> simp_all [D.leaf, D.tkey]
theorem DH.key {h : Heap} {a : Addr} {kvs : List (D × D)} (d : DH X c b0 B H h a kvs) {k : D} (hk : keyOk k kvs = true) : DHk X c b0 B H h a kvs k := by
  unfold keyOk at hk
  simp only [Bool.or_eq_true, Bool.and_eq_true, List.all_eq_true] at hk
  cases kvs with
  | nil =>
    obtain ⟨_, h1, h2⟩ := d.nil_tup
    rcases hk with hk | hk
    · exact .leaf hk.1 [] h1 .nil fun _ z => nomatch z
    · exact .tups hk.1 [] h2 .nil fun _ z => nomatch z
  | cons p ps =>
    cases d with
    | leaf vs hd r hl =>
      rcases hk with hk | hk
      · exact .leaf hk.1 vs hd r hl
      · exact (leaf_not_tkey (hl p List.mem_cons_self) (hk.2 p List.mem_cons_self)).elim
    | tups ys hd r hl =>
      rcases hk with hk | hk
      · exact (leaf_not_tkey (hk.2 p List.mem_cons_self) (hl p List.mem_cons_self)).elim
      · exact .tups hk.1 ys hd r hl
theorem leaf_is {prog : Program} {w : World} {k : D} (hk : k.leaf = true) {y : V} {u : Value} (r : Rr c b0 B H k y) (ru : RelV y u) : (mixKind prog w).is (toK k) u = true := by
  cases k with
  | int i => cases r.int; obtain ⟨t, rfl⟩ := ru; exact keyIs_int i t
  | str i => cases r.str; obtain ⟨t, rfl⟩ := ru; exact keyIs_str _ t
  | _ => simp [D.leaf] at hk
theorem tkey_is (F : Fit X c) {pins : List (Addr × Obj)} {s : Shared} {σ : L2.St} (I : Inv X pins σ H s) {k : D} (hk : k.tkey = true) {y : V} {u : Value} (r : Rr c b0 B H k y) (ru : RelV y u) : ∃ b, u = .ref b ∧ (nestedKind X.prog X.w).is s.heap (toKey k) b := by
  obtain ⟨hn, ds, rfl⟩ := tkey_nest hk
  obtain ⟨a, vs, rfl, h1, h2⟩ := r.tup
  cases ru
  have h3 : Rz c b0 B H (.tup ds) (.ref a) := by
    rw [Rz]
    exact ⟨a, vs, rfl, h1, h2⟩
  exact ⟨a, rfl, Rz.nested F I 8 hn h3 (u := .ref a) rfl, nest_depth 8 _ hn⟩
theorem room_nest (F : Fit X c) : (nestedKind X.prog X.w).room X.A.in1 := by
  have := F.un
  show X.A.units + 1 + 8 < cLine
  omega
theorem AnsV.some {o : Option D} {d : D} {u : Option Value} (h : AnsV c b0 B H o u) (e : o = some d) : ∃ w, u = some w ∧ ∃ v, Rz c b0 B H d v ∧ RelV v w := by
  subst e
  cases u with
  | none => exact h.elim
  | some w => exact ⟨w, rfl, h⟩
theorem AnsV.isSome {o : Option D} {u : Option Value} (h : AnsV c b0 B H o u) : u.isSome = o.isSome := by
  cases o <;> cases u <;> first | rfl | exact h.elim
theorem AnsV.isSomeM {β : Type} {o : Option D} {u : Option (β × Value)} (h : AnsV c b0 B H o (u.map (·.2))) : u.isSome = o.isSome := by
  cases o <;> cases u <;> first | rfl | exact h.elim
/-- d[k] -/
theorem ix_dct (F : Fit X c) : IxR X (fun x y H Q => ∃ b0 B kvs k d, Rr c b0 B H (.dct kvs) x ∧ Rr c b0 B H k y ∧ idxD (.dct kvs) k = some d ∧ ∀ v, Rz c b0 B H d v → Q v H) := by
  intro value slice pins s σ H x y v u Q I rx ry ⟨b0, B, kvs, k, d, hx, hy, e, q⟩ hs
  simp only [idxD] at e
  split at e
  · rename_i hk
    obtain ⟨a, rfl, hS, hz, dh⟩ := dct_heap F I hx
    cases rx
    cases dh.key hk with
    | leaf hk vs hd r hl =>
      obtain ⟨w, hw, v, r1, r2⟩ := (ans_leaf hk r hl).some e
      exact tail_any hd.typeIs PySem.F.slot_dict_getitem.lookup (wpAny_getItem_of (leaf_is hk hy ry) hd.mapOf hw ⟨v, H, I.tok _, r2, q v r1⟩) (hs)
    | tups hk ys hd r hl =>
      obtain ⟨b, rfl, ib⟩ := tkey_is F I hk hy ry
      obtain ⟨w, hw, v, r1, r2⟩ := (ans_tup hk r hl).some e
      obtain ⟨p, hp, rfl⟩ := Option.map_eq_some_iff.mp hw
      exact tail_any hd.typeIs PySem.F.slot_dict_getitem.lookup (wpAny_getItem_heap (room_nest F) ib hd hp ⟨v, H, I.tok _, r2, q v r1⟩) (hs)
  · cases e
/-- k in d -/
theorem cmp_inD (F : Fit X c) : OpR X (compareOp .In) (fun x y H Q => ∃ b0 B k kvs z, Rr c b0 B H k x ∧ Rr c b0 B H (.dct kvs) y ∧ keyOk k kvs = true ∧ z = (valD k kvs).isSome ∧ Q (.bl z) H) := by
  intro pins s σ H x y v u Q I rx ry ⟨b0, B, k, kvs, z, hx, hy, hk, e, q⟩
  subst e
  obtain ⟨a, rfl, hS, hz, dh⟩ := dct_heap F I hy
  cases ry
  cases dh.key hk with
  | leaf hk vs hd r hl =>
    refine wpAny_in_of (leaf_is hk hx rx) hS hd.mapOf ?_
    rw [(ans_leaf hk r hl).isSome]
    exact ⟨.bl _, H, I.tok _, rfl, q⟩
  | tups hk ys hd r hl =>
    obtain ⟨b, rfl, ib⟩ := tkey_is F I hk hx rx
    refine wpAny_in_heap (room_nest F) ib hS hd ?_
    rw [(ans_tup hk r hl).isSomeM]
    exact ⟨.bl _, H, I.tok _, rfl, q⟩
theorem cmp_notinD (F : Fit X c) : OpR X (compareOp .NotIn) (fun x y H Q => ∃ b0 B k kvs z, Rr c b0 B H k x ∧ Rr c b0 B H (.dct kvs) y ∧ keyOk k kvs = true ∧ z = (valD k kvs).isSome ∧ Q (.bl (!z)) H) := by
  intro pins s σ H x y v u Q I rx ry ⟨b0, B, k, kvs, z, hx, hy, hk, e, q⟩
  subst e
  obtain ⟨a, rfl, hS, hz, dh⟩ := dct_heap F I hy
  cases ry
  cases dh.key hk with
  | leaf hk vs hd r hl =>
    refine wpAny_notIn_of (leaf_is hk hx rx) hS hd.mapOf ?_
    rw [(ans_leaf hk r hl).isSome]
    exact ⟨.bl _, H, I.tok _, rfl, q⟩
  | tups hk ys hd r hl =>
    obtain ⟨b, rfl, ib⟩ := tkey_is F I hk hx rx
    refine notIn_keyed (room_nest F) ib hS ⟨ys, hd, rfl⟩ ?_
    rw [valueAt_pairsH, Option.isSome_map, (ans_tup hk r hl).isSomeM]
    exact ⟨.bl _, H, I.tok _, rfl, q⟩
/-- d.get(k) -/
theorem mt_get1 (F : Fit X c) : MtR X "dict.get" (fun x xs H Q => ∃ b0 B kvs k y, xs = [y] ∧ Rr c b0 B H (.dct kvs) x ∧ Rr c b0 B H k y ∧ keyOk k kvs = true ∧ ∀ v, Rz c b0 B H ((valD k kvs).getD .non) v → Q v H) := by
  intro pins s σ H x xs v us Q I rx rs ⟨b0, B, kvs, k, y, ex, hx, hy, hk, q⟩
  subst ex
  obtain ⟨u, rfl, ry⟩ := vals1 rs
  obtain ⟨a, rfl, hS, hz, dh⟩ := dct_heap F I hx
  cases rx
  have hn : Rz c b0 B H .non .non := by rw [Rz]
  cases dh.key hk with
  | leaf hk vs hd r hl =>
    refine call_meetsIn PySem.F.slot_dict_get hd.typeIs PySem.F.entry_dict_get (PySem.F.args_dict_get_2 _ _) (meets_dict_get (mixKind X.prog X.w) a (leaf_is hk hy ry) hS) ⟨_, hd.mapOf, ?_⟩
    have an := ans_leaf hk r hl
    cases e : valD k kvs with
    | none =>
      rw [e] at an q
      cases e2 : valueAt vs (toK k) with
      | none => exact ⟨.non, H, I.tok _, rfl, q _ hn⟩
      | some w => rw [e2] at an; exact an.elim
    | some d =>
      rw [e] at an q
      obtain ⟨w, e2, v, r1, r2⟩ := an.some rfl
      rw [e2]
      exact ⟨v, H, I.tok _, r2, q _ r1⟩
  | tups hk ys hd r hl =>
    obtain ⟨b, rfl, ib⟩ := tkey_is F I hk hy ry
    refine call_meetsIn PySem.F.slot_dict_get hd.typeIs PySem.F.entry_dict_get (PySem.F.args_dict_get_2 _ _) (meetsH_dict_get (nestedKind X.prog X.w) a b hS) ⟨room_nest F, toKey k, ys, ib, hd, ?_⟩
    have an := ans_tup hk r hl
    cases e : valD k kvs with
    | none =>
      rw [e] at an q
      cases e2 : (atKey ys (toKey k)).map (·.2) with
      | none => exact ⟨.non, H, I.tok _, rfl, q _ hn⟩
      | some w => rw [e2] at an; exact an.elim
    | some d =>
      rw [e] at an q
      obtain ⟨w, e2, v, r1, r2⟩ := an.some rfl
      rw [e2]
      exact ⟨v, H, I.tok _, r2, q _ r1⟩
/-- d.get(k, z) -/
theorem mt_get2 (F : Fit X c) : MtR X "dict.get" (fun x xs H Q => ∃ b0 B kvs k y dz z, xs = [y, z] ∧ Rr c b0 B H (.dct kvs) x ∧ Rr c b0 B H k y ∧ Rz c b0 B H dz z ∧ keyOk k kvs = true ∧ ∀ v, Rz c b0 B H ((valD k kvs).getD dz) v → Q v H) := by
  intro pins s σ H x xs v us Q I rx rs ⟨b0, B, kvs, k, y, dz, z, ex, hx, hy, hzz, hk, q⟩
  subst ex
  obtain ⟨u, u2, rfl, ry, rz⟩ := vals2 rs
  obtain ⟨a, rfl, hS, hz, dh⟩ := dct_heap F I hx
  cases rx
  cases dh.key hk with
  | leaf hk vs hd r hl =>
    refine call_meetsIn PySem.F.slot_dict_get hd.typeIs PySem.F.entry_dict_get (PySem.F.args_dict_get_3 _ _ _) (meets_dict_get_default (mixKind X.prog X.w) a (leaf_is hk hy ry) hS u2) ⟨_, hd.mapOf, ?_⟩
    have an := ans_leaf hk r hl
    cases e : valD k kvs with
    | none =>
      rw [e] at an q
      cases e2 : valueAt vs (toK k) with
      | none => exact ⟨z, H, I.tok _, rz, q _ hzz⟩
      | some w => rw [e2] at an; exact an.elim
    | some d =>
      rw [e] at an q
      obtain ⟨w, e2, v, r1, r2⟩ := an.some rfl
      rw [e2]
      exact ⟨v, H, I.tok _, r2, q _ r1⟩
  | tups hk ys hd r hl =>
    obtain ⟨b, rfl, ib⟩ := tkey_is F I hk hy ry
    refine call_meetsIn PySem.F.slot_dict_get hd.typeIs PySem.F.entry_dict_get (PySem.F.args_dict_get_3 _ _ _) (meetsH_dict_get_default (nestedKind X.prog X.w) a b hS u2) ⟨room_nest F, toKey k, ys, ib, hd, ?_⟩
    have an := ans_tup hk r hl
    cases e : valD k kvs with
    | none =>
      rw [e] at an q
      cases e2 : (atKey ys (toKey k)).map (·.2) with
      | none => exact ⟨z, H, I.tok _, rz, q _ hzz⟩
      | some w => rw [e2] at an; exact an.elim
    | some d =>
      rw [e] at an q
      obtain ⟨w, e2, v, r1, r2⟩ := an.some rfl
      rw [e2]
      exact ⟨v, H, I.tok _, r2, q _ r1⟩
end
end Ev
/-! EvC5: rows and dicts that are written. -/
namespace Ev
open PySem PySem.Spec PyProof.Rows L2
section
variable {κ : Type} [DecidableEq κ]
/-- in its place, or at the end: the first alone -/
def stK (k : κ) (v : V) : List (κ × V) → List (κ × V)
  | [] => [(k, v)]
  | p :: r => if p.1 = k then (p.1, v) :: r else p :: stK k v r
theorem stK_putK : ∀ {kk : List (κ × V)} {k : κ} {v : V}, (kk.map (·.1)).Nodup → putK kk k v = stK k v kk
  | [], k, v, _ => rfl
  | p :: r, k, v, h => by
    rw [List.map_cons, List.nodup_cons] at h
    unfold putK stK
    by_cases e : p.1 = k
    · rw [if_pos (by simp [e]), if_pos e, List.map_cons, if_pos e]
      congr 1
      refine (List.map_congr_left fun x hx => ?_).trans (List.map_id r)
      rw [if_neg fun z => h.1 (by rw [e, ← z]; exact List.mem_map_of_mem (f := (·.1)) hx)]
      rfl
    · have ih := stK_putK (k := k) (v := v) h.2
      rw [if_neg e, ← ih]
      unfold putK
      by_cases q : (r.any fun kv => decide (kv.1 = k)) = true
      · rw [if_pos q, if_pos (by rw [List.any_cons, q, Bool.or_true]), List.map_cons, if_neg e]
      · rw [if_neg q, if_neg (by rw [List.any_cons, decide_eq_false e, Bool.false_or]; exact q)]
        rfl
def stX {β : Type} (k : κ) (b : Addr) (v : β) : List (κ × Addr × β) → List (κ × Addr × β)
  | [] => [(k, b, v)]
  | p :: r => if p.1 = k then (p.1, p.2.1, v) :: r else p :: stX k b v r
theorem stX_storedH : ∀ {ys : List (κ × Addr × Value)} {k : κ} {b : Addr} {v : Value}, (ys.map (·.1)).Nodup → storedH ys k b v = stX k b v ys
  | [], k, b, v, _ => rfl
  | p :: r, k, b, v, h => by
    rw [List.map_cons, List.nodup_cons] at h
    by_cases e : p.1 = k
    · have e2 : atKey (p :: r) k = some p.2 := by unfold atKey; rw [List.find?_cons, decide_eq_true e]; rfl
      rw [storedH_old e2, stX, if_pos e, List.map_cons]
      have e3 : r.map (putAt k v) = r := map_putAt_of_not_mem r k v (e ▸ h.1)
      rw [e3]
      unfold putAt
      rw [if_pos e]
    · have ih := stX_storedH (k := k) (b := b) (v := v) h.2
      rw [stX, if_neg e, ← ih]
      have e2 : atKey (p :: r) k = atKey r k := by unfold atKey; rw [List.find?_cons, decide_eq_false e]
      unfold storedH
      rw [e2]
      split
      · rw [List.map_cons]
        unfold putAt
        rw [if_neg e]
      · rfl
end
section
variable {c : Cs} {b0 : Addr} {B : Addr → Prop} {H : Hp}
theorem put_leaf {k : D} {y : V} (hk : k.leaf = true) (hy : Rz c b0 B H k y) {d : D} {v : V} (hv : Rz c b0 B H d v) : ∀ {kvs : List (D × D)} {kk : List (Key × V)}, Rzd c b0 B H kvs (kk.map (fun p => (kV p.1, p.2))) → (∀ p ∈ kvs, p.1.leaf = true) →
    Rzd c b0 B H (putD k d kvs) ((stK (toK k) v kk).map (fun p => (kV p.1, p.2))) ∧ (∀ p ∈ putD k d kvs, p.1.leaf = true)
  | [], [], _, _ => by
    have e : y = kV (toK k) := by
      cases k with
      | int i => rw [Rz] at hy; exact hy
      | str i => rw [Rz] at hy; exact hy
      | _ => simp [D.leaf] at hk
    rw [putD, stK]
    refine ⟨?_, fun p hp => ?_⟩
    · rw [List.map_cons, List.map_nil, Rzd]
      exact ⟨_, _, [], rfl, e ▸ hy, hv, by rw [Rzd]⟩
    · have : p = (k, d) := by simpa using hp
      rw [this]
      exact hk
  | [], x :: xs, h, _ => by rw [Rzd] at h; cases h
  | p :: ps, [], h, _ => by rw [Rzd] at h; obtain ⟨_, _, _, e, _⟩ := h; cases e
  | p :: ps, x :: xs, h, hl => by
    rw [Rzd] at h
    obtain ⟨k1, v1, r, e, h1, h2, h3⟩ := h
    rw [List.map_cons] at e
    injection e with e1 e2
    subst e2
    obtain ⟨e3, e4⟩ := Prod.mk.inj e1
    have h0 := hl p List.mem_cons_self
    have ek : toK p.1 = x.1 := by
      cases hp : p.1 with
      | int i =>
        rw [hp, Rz] at h1
        rw [h1] at e3
        cases hx : x.1 with
        | inl j => rw [hx] at e3; cases e3; rfl
        | inr j => rw [hx] at e3; cases e3
      | str i =>
        rw [hp, Rz] at h1
        rw [h1] at e3
        cases hx : x.1 with
        | inl j => rw [hx] at e3; cases e3
        | inr j => rw [hx] at e3; cases e3; rfl
      | _ => rw [hp] at h0; simp [D.leaf] at h0
    rw [putD, leaf_eq h0 hk, stK, ek]
    by_cases q : x.1 = toK k
    · rw [decide_eq_true q, if_pos rfl, if_pos q]
      refine ⟨?_, fun z hz => ?_⟩
      · rw [List.map_cons, Rzd]
        exact ⟨_, _, _, rfl, e3 ▸ h1, hv, h3⟩
      · rcases List.mem_cons.mp hz with rfl | hz
        · exact h0
        · exact hl z (List.mem_cons_of_mem _ hz)
    · rw [decide_eq_false q, if_neg Bool.false_ne_true, if_neg q]
      obtain ⟨i1, i2⟩ := put_leaf hk hy hv h3 fun z hz => hl z (List.mem_cons_of_mem _ hz)
      refine ⟨?_, fun z hz => ?_⟩
      · rw [List.map_cons, Rzd]
        exact ⟨_, _, _, rfl, e3 ▸ h1, e4 ▸ h2, i1⟩
      · rcases List.mem_cons.mp hz with rfl | hz
        · exact h0
        · exact i2 z hz
theorem put_tup {k : D} {b : Addr} (hk : k.tkey = true) (hy : Rz c b0 B H k (.ref b)) {d : D} {v : V} (hv : Rz c b0 B H d v) : ∀ {kvs : List (D × D)} {xs : List (NestedKey × Addr × V)}, Rzd c b0 B H kvs (xs.map (fun x => (.ref x.2.1, x.2.2))) → xs.map (·.1) = kvs.map (fun p => toKey p.1) → (∀ p ∈ kvs, p.1.tkey = true) →
    Rzd c b0 B H (putD k d kvs) ((stX (toKey k) b v xs).map (fun x => (.ref x.2.1, x.2.2))) ∧ (stX (toKey k) b v xs).map (·.1) = (putD k d kvs).map (fun p => toKey p.1) ∧ (∀ p ∈ putD k d kvs, p.1.tkey = true)
  | [], [], _, _, _ => by
    rw [putD, stX]
    refine ⟨?_, rfl, fun p hp => ?_⟩
    · rw [List.map_cons, List.map_nil, Rzd]
      exact ⟨_, _, [], rfl, hy, hv, by rw [Rzd]⟩
    · have : p = (k, d) := by simpa using hp
      rw [this]
      exact hk
  | [], x :: xs, h, _, _ => by rw [Rzd] at h; cases h
  | p :: ps, [], h, _, _ => by rw [Rzd] at h; obtain ⟨_, _, _, e, _⟩ := h; cases e
  | p :: ps, x :: xs, h, ek, hl => by
    rw [Rzd] at h
    obtain ⟨k1, v1, r, e, h1, h2, h3⟩ := h
    rw [List.map_cons] at e
    injection e with e1 e2
    subst e2
    obtain ⟨e3, e4⟩ := Prod.mk.inj e1
    rw [List.map_cons, List.map_cons] at ek
    injection ek with ek1 ek2
    have h0 := hl p List.mem_cons_self
    rw [putD, tkey_eq h0 hk, stX, ek1]
    by_cases q : toKey p.1 = toKey k
    · rw [decide_eq_true q, if_pos rfl, if_pos q]
      refine ⟨?_, ?_, fun z hz => ?_⟩
      · rw [List.map_cons, Rzd]
        exact ⟨_, _, _, rfl, e3 ▸ h1, hv, h3⟩
      · rw [List.map_cons, List.map_cons, ek2]
      · rcases List.mem_cons.mp hz with rfl | hz
        · exact h0
        · exact hl z (List.mem_cons_of_mem _ hz)
    · rw [decide_eq_false q, if_neg Bool.false_ne_true, if_neg q]
      obtain ⟨i1, i2, i3⟩ := put_tup hk hy hv h3 ek2 fun z hz => hl z (List.mem_cons_of_mem _ hz)
      refine ⟨?_, ?_, fun z hz => ?_⟩
      · rw [List.map_cons, Rzd]
        exact ⟨_, _, _, rfl, e3 ▸ h1, e4 ▸ h2, i1⟩
      · rw [List.map_cons, List.map_cons, i2, ek1]
      · rcases List.mem_cons.mp hz with rfl | hz
        · exact h0
        · exact i3 z hz
theorem putD_len (k d : D) : ∀ kvs : List (D × D), (putD k d kvs).length ≤ kvs.length + 1
  | [] => by simp [putD]
  | p :: ps => by
    have := putD_len k d ps
    rw [putD]
    split <;> simp <;> omega
theorem putD_ne (k d : D) (kvs : List (D × D)) : putD k d kvs ≠ [] := by
  cases kvs with
  | nil => simp [putD]
  | cons p ps => rw [putD]; split <;> simp
end
section
variable {X : Cx} {c : Cs}
theorem stX_pair {k : NestedKey} {b : Addr} {v : V} {u : Value} (r : RelV v u) : ∀ {xs : List (NestedKey × Addr × V)} {ys : List (NestedKey × Addr × Value)}, Paired PairX xs ys → Paired PairX (stX k b v xs) (stX k b u ys)
  | _, _, .nil => .cons ⟨rfl, rfl, r⟩ .nil
  | _, _, .cons (a := x) (b := y) h t => by
    rw [stX, stX, h.1]
    split
    · exact .cons ⟨rfl, h.2.1, r⟩ t
    · exact .cons h (stX_pair r t)
theorem dctT_of {w : World} {P : Program} {h : Heap} {a : Addr} {ys : List (NestedKey × Addr × Value)} (d : h.DictOfH (nestedKind P w) a ys) {xs : List (NestedKey × Addr × V)} (p : Paired PairX xs ys) : DctAtT w h a xs := by
  obtain ⟨o, es, ep, h1, h2, h3, h4, h5, h6⟩ := d
  refine ⟨o, es, ep, h1, h2, h3, ?_, ?_⟩
  · rw [h4]
    clear h4 h5 h6
    induction p with
    | nil => exact .nil
    | cons q t ih => exact .cons ⟨by rw [q.1]; rfl, by rw [q.2.1]; rfl, q.2.2⟩ ih
  · have : xs.map (·.1) = ys.map (·.1) := by
      clear h4 h5 h6
      induction p with
      | nil => rfl
      | cons q t ih => rw [List.map_cons, List.map_cons, q.1, ih]
    rw [this]
    exact h6
theorem KV.keys {κ : Type} {kk : List (κ × V)} {vs : List (κ × Value)} (r : KV kk vs) : kk.map (·.1) = vs.map (·.1) := by
  unfold KV at r
  induction r with
  | nil => rfl
  | cons q t ih => rw [List.map_cons, List.map_cons, q.1, ih]
/-- o[k] = v, o one's own -/
def rW (c : Cs) : TSet := fun o i v H Q => ∃ (g : Gh) (d k x d' : D) (p : Addr), g.B p ∧ o = .ref p ∧ RootM c g.b0 g.B H d p ∧ Rz c g.b0 g.B H k i ∧ Rz c g.b0 g.B H x v ∧ stD d k x = some d' ∧
  ∀ o' H', H' = upd H p o' → RootM c g.b0 g.B H' d' p → Q H'
theorem set_all (F : Fit X c) : PSet X (rW c) := by
  intro pins s σ H o i v ov iv u Q I ro ri rv h
  obtain ⟨g, d, k, x, d', p, hB, eo, hR, hk, hx, e, q⟩ := h
  subst eo
  cases ro
  cases d with
  | lst xs =>
    cases k with
    | int j =>
      simp only [stD] at e
      split at e
      · rename_i hj
        simp only [Option.some.injEq] at e
        subst e
        obtain ⟨vs, h1, h2⟩ := hR
        rw [Rz] at hk
        subst hk
        have hl := h2.length
        refine set_list pins s σ H (.ref p) (.int j) v (.ref p) iv u Q I rfl ri rv ⟨p, vs, j, j.toNat, rfl, rfl, h1, ?_, q _ _ rfl ⟨_, upd_same, ?_⟩⟩
        · unfold L2.ixN
          rw [if_pos hj.1, if_pos (by omega)]
        · exact (h2.set hx _).keep (.upd hB h1 True.intro)
      · cases e
    | _ => simp [stD] at e
  | dct kvs =>
    simp only [stD] at e
    split at e
    · rename_i hh
      simp only [Option.some.injEq] at e
      subst e
      simp only [Bool.and_eq_true, decide_eq_true_eq] at hh
      obtain ⟨hko, hlen⟩ := hh
      rw [line_eq] at hlen
      obtain ⟨rows, hS, hz, hd, rs⟩ := hR
      have hz' : (putD k x kvs).length ≤ sizeLine := by have := putD_len k x kvs; omega
      -- an own dict, by ints and texts
      have leafy : ∀ kk : List (Key × V), H p = some (.dK kk) → rows = kk.map (fun q => (kV q.1, q.2)) → (∀ q ∈ kvs, q.1.leaf = true) → k.leaf = true → wpAny (model X.prog X.w) X.A (setItem (.ref p) iv u) (fun _ s' => ∃ H', Inv X pins σ H' s' ∧ Q H') X.xe s := by
        intro kk e1 e2 hl hkl
        subst e2
        have ek : i = kV (toK k) := by
          cases k with
          | int i => rw [Rz] at hk; exact hk
          | str i => rw [Rz] at hk; exact hk
          | _ => simp [D.leaf] at hkl
        subst ek
        have hlk : kk.length < sizeLine := by
          have := rs.length
          rw [List.length_map] at this
          omega
        obtain ⟨_, _, vs, rel, dd⟩ := dk_of I.hok e1
        have nd : (kk.map (·.1)).Nodup := by
          obtain ⟨_, _, _, _, _, _, _, _, n⟩ := dd
          rw [KV.keys rel]
          exact n
        have pk := stK_putK (k := toK k) (v := v) nd
        refine d_setItem (y := kV (toK k)) (by have := F.un; omega) I (DPut.k (k := toK k) (v := v) e1 hlk) ri rv fun s2 I2 => ⟨_, I2, q _ _ rfl ?_⟩
        rw [pk]
        have sb : Sb g.B H (upd H p (.dK (stK (toK k) v kk))) := .upd hB e1 True.intro
        obtain ⟨i1, i2⟩ := put_leaf hkl (hk.keep sb) (hx.keep sb) (rs.keep sb) hl
        exact ⟨_, hS, hz', .inl ⟨_, upd_same, rfl, i2⟩, i1⟩
      -- .. by tuples
      have tupy : ∀ (xs : List (NestedKey × Addr × V)) (o0 : HO) (ys : List (NestedKey × Addr × Value)), H p = some o0 → Mut (some o0) → s.heap.DictOfH (nestedKind X.prog X.w) p ys → Paired PairX xs ys → Rzd c g.b0 g.B H kvs (xs.map (fun x => (.ref x.2.1, x.2.2))) → xs.map (·.1) = kvs.map (fun p => toKey p.1) → (∀ q ∈ kvs, q.1.tkey = true) → k.tkey = true →
          wpAny (model X.prog X.w) X.A (setItem (.ref p) iv u) (fun _ s' => ∃ H', Inv X pins σ H' s' ∧ Q H') X.xe s := by
        intro xs o0 ys e1 hm dh pr rs2 e3 hl hkt
        obtain ⟨b, e4, ib⟩ := tkey_is F I hkt (.inl hk) ri
        subst e4
        have ei : i = .ref b := by
          obtain ⟨_, ds, rfl⟩ := tkey_nest hkt
          rw [Rz] at hk
          obtain ⟨a, _, e5, _⟩ := hk
          subst e5
          cases ri
          rfl
        subst ei
        have hly : ys.length ≤ sizeLine := by
          have e5 := Paired.length pr
          have e6 := rs2.length
          rw [List.length_map] at e6
          omega
        have ny : (ys.map (·.1)).Nodup := by
          obtain ⟨_, _, _, _, _, _, _, _, n⟩ := dh
          exact n
        refine wpAny_setItem_heap (hsz := hly) (room_nest F) ib dh fun h2 dh2 hs => ?_
        rw [stX_storedH ny] at dh2
        have pr2 := stX_pair (k := toKey k) (b := b) rv pr
        have sb : Sb g.B H (upd H p (dR c.w p (stX (toKey k) b v xs))) := .upd hB e1 hm
        have he : ∃ q, h2.get? p = some q := let ⟨q, _, _, hq, _⟩ := dh2; ⟨q, hq⟩
        have dt2 : DctAtT c.w h2 p (stX (toKey k) b v xs) := by
          rw [F.w]
          exact dctT_of dh2 pr2
        refine ⟨_, d_write I (ob := dR c.w p (stX (toKey k) b v xs)) (by rw [e1]; exact hm) hs he ⟨dt2, he, fun g1 g2 q1 q2 => ?_⟩, q _ _ rfl ?_⟩
        · obtain ⟨o, es, ep, j1, j2⟩ := q1
          exact ⟨o, es, ep, q2 o j1, j2⟩
        · obtain ⟨i1, i2, i3⟩ := put_tup hkt (hk.keep sb) (hx.keep sb) (rs2.keep sb) e3 hl
          exact ⟨_, hS, hz', .inr ⟨_, upd_same, rfl, i2, putD_ne _ _ _, i3⟩, i1⟩
      unfold keyOk at hko
      simp only [Bool.or_eq_true, Bool.and_eq_true, List.all_eq_true] at hko
      rcases hd with ⟨kk, e1, e2, hl⟩ | ⟨xs, e1, e2, e3, ne, hl⟩
      · rcases hko with hko | hko
        · exact leafy kk e1 e2 hl hko.1
        · cases kvs with
          | nil =>
            have : kk = [] := by
              have := rs.length
              rw [e2, List.length_map] at this
              exact List.length_eq_zero_iff.mp this
            subst this
            obtain ⟨_, _, vs, rel, dd⟩ := dk_of I.hok e1
            cases rel
            obtain ⟨o, es, ep, j1, j2, j3, _, j4, _⟩ := dd
            have : es = #[] := by
              have := Pairs.length j4
              exact Array.eq_empty_of_size_eq_zero (by simpa using this)
            subst this
            exact tupy [] _ [] e1 True.intro ⟨o, #[], ep, j1, j2, j3, rfl, fun _ z => (nomatch z), List.nodup_nil⟩ .nil (by simp [Rzd]) rfl (fun _ z => nomatch z) hko.1
          | cons z zs => exact (leaf_not_tkey (hl z List.mem_cons_self) (hko.2 z List.mem_cons_self)).elim
      · rcases hko with hko | hko
        · cases kvs with
          | nil => exact absurd rfl ne
          | cons z zs => exact (leaf_not_tkey (hko.2 z List.mem_cons_self) (hl z List.mem_cons_self)).elim
        · subst e2
          obtain ⟨dt, _⟩ := (show ObjOk X.prog X.w H s.heap p (dR c.w p xs) from I.hok p _ e1)
          obtain ⟨ys, i1, i2, i3⟩ := dctT_full F I dt rs e3 hl
          exact tupy xs _ ys e1 True.intro i1 i3 rs e3 hl hko.1
    · cases e
  | _ => simp [stD] at e
end
end Ev
/-! EvC6: rows told item by item, sorting, small built-ins. -/
namespace Ev
open PySem PySem.Spec PyProof.Rows L2
/-! ### sorting -/
section
variable {α : Type}
def insLe (le : α → α → Bool) (x : α) : List α → List α
  | [] => [x]
  | y :: ys => if le x y then x :: y :: ys else y :: insLe le x ys
def isort (le : α → α → Bool) : List α → List α
  | [] => []
  | x :: xs => insLe le x (isort le xs)
theorem insLe_at (le : α → α → Bool) (x : α) : ∀ (l m : List α), (∀ b ∈ l, le x b = false) → (∀ b ∈ m, le x b = true) → insLe le x (l ++ m) = l ++ x :: m
  | [], [], _, _ => rfl
  | [], b :: m, _, h => by rw [List.nil_append, insLe, if_pos (h b List.mem_cons_self)]; rfl
  | b :: l, m, h, h' => by
    rw [List.cons_append, insLe, if_neg (by rw [h b List.mem_cons_self]; exact Bool.false_ne_true), insLe_at le x l m (fun c hc => h c (List.mem_cons_of_mem _ hc)) h']
    rfl
theorem merge_isort {le : α → α → Bool} (h : PySem.W.TotalLe le) : ∀ xs : List α, xs.mergeSort le = isort le xs
  | [] => by simp [isort]
  | x :: xs => by
    obtain ⟨l, m, e1, e2, e3⟩ := List.mergeSort_cons (le := le) (fun a b c => h.trans a b c) (fun a b => Bool.or_eq_true_iff.mpr (h.total a b)) x xs
    have hp := PySem.W.sort_pairwise h (x :: xs)
    rw [e1] at hp
    have hp2 := (List.pairwise_append.mp hp).2.1
    rw [isort, ← merge_isort h xs, e1, e2, insLe_at le x l m (fun b hb => by simpa using e3 b hb) fun b hb => List.rel_of_pairwise_cons hp2 hb]
theorem isort_mem {le : α → α → Bool} : ∀ (xs : List α) (x : α), x ∈ isort le xs → x ∈ xs
  | [], _, h => h
  | y :: ys, x, h => by
    have ins : ∀ (l : List α), x ∈ insLe le y l → x = y ∨ x ∈ l := by
      intro l
      induction l with
      | nil => intro h; rw [insLe] at h; exact .inl (by simpa using h)
      | cons z l ih =>
        intro h
        rw [insLe] at h
        split at h
        · simpa using h
        · rcases List.mem_cons.mp h with h | h
          · exact .inr (h ▸ List.mem_cons_self)
          · exact (ih h).imp id (List.mem_cons_of_mem _)
    rcases ins _ h with h | h
    · exact h ▸ List.mem_cons_self
    · exact List.mem_cons_of_mem _ (isort_mem ys x h)
end
theorem sortD_isort {le : D → D → Bool} : ∀ xs : List D, (∀ a ∈ xs, ∀ b ∈ xs, le a b = !D.lt b a) → sortD xs = isort le xs
  | [], _ => rfl
  | x :: xs, h => by
    rw [sortD, isort, sortD_isort xs fun a ha b hb => h a (List.mem_cons_of_mem _ ha) b (List.mem_cons_of_mem _ hb)]
    have ins : ∀ l : List D, (∀ b ∈ l, b ∈ xs) → sortD.insR x l = insLe le x l := by
      intro l
      induction l with
      | nil => intro _; rfl
      | cons y l ih =>
        intro hl
        rw [sortD.insR, insLe, ih fun b hb => hl b (List.mem_cons_of_mem _ hb), h x List.mem_cons_self y (List.mem_cons_of_mem _ (hl y List.mem_cons_self))]
        cases D.lt y x <;> rfl
    exact ins _ fun b hb => isort_mem xs b hb
theorem sortable_of {xs : List D} (h : sortable xs = true) : xs.length ≤ sizeLine ∧ (∀ x ∈ xs, x.ok = true) ∧ PySem.W.AllAlike (xs.map toPy) ∧ (PySem.W.Sortable (xs.map toPy) ∨ ((∀ d ∈ xs.map toPy, ∃ ys, d = PyData.tuple ys) ∧ PyData.tuple [] ∈ xs.map toPy)) ∧ (∀ a ∈ xs, ∀ b ∈ xs, PySem.W.dataLe false toPy a b = !D.lt b a) := by
  unfold sortable at h
  simp only [Bool.and_eq_true, Bool.or_eq_true, decide_eq_true_eq, List.all_eq_true] at h
  obtain ⟨⟨⟨h1, h2⟩, h3⟩, h4⟩ := h
  have al : ∀ a ∈ xs, ∀ b ∈ xs, PySem.W.alike (toPy a) (toPy b) = true := fun a ha b hb => by
    rw [alike_py (ok_of (h2 a ha)).1 (ok_of (h2 b hb)).1]
    exact h4 a ha b hb
  refine ⟨by rw [← line_eq]; exact h1, h2, ?_, ?_, fun a ha b hb => ?_⟩
  · intro d hd e he
    obtain ⟨a, ha, rfl⟩ := List.mem_map.mp hd
    obtain ⟨b, hb, rfl⟩ := List.mem_map.mp he
    exact al a ha b hb
  · rcases h3 with h3 | h3
    · have tu : ∀ d ∈ xs.map toPy, ∃ ys, d = PyData.tuple ys := fun d hd => by
        obtain ⟨a, ha, rfl⟩ := List.mem_map.mp hd
        have := h3 a ha
        cases a with
        | tup ds => exact ⟨toPys ds, by rw [toPy]⟩
        | _ => simp [D.isTup] at this
      by_cases hm : PyData.tuple [] ∈ xs.map toPy
      · exact .inr ⟨tu, hm⟩
      · refine .inl (.inl fun d hd => ?_)
        obtain ⟨ys, rfl⟩ := tu d hd
        cases ys with
        | nil => exact absurd hd hm
        | cons x r => exact ⟨x, r, rfl⟩
    · refine .inl (.inr fun d hd => ?_)
      obtain ⟨a, ha, rfl⟩ := List.mem_map.mp hd
      have := h3 a ha
      cases a <;> simp_all [D.flat, toPy]
  · have e := lt_toPy b a (ok_of (h2 b hb)).1 (ok_of (h2 a ha)).1 (h4 b hb a ha)
    rw [← e]
    rfl
theorem sortD_merge {xs : List D} (h : sortable xs = true) : xs.mergeSort (PySem.W.dataLe false toPy) = sortD xs := by
  have t : PySem.W.TotalLe (PySem.W.dataLe false toPy) := PySem.W.sortLe_total _ _ _
  rw [merge_isort t, sortD_isort xs (sortable_of h).2.2.2.2]
mutual
theorem reads_lt {h : Heap} : ∀ {v : Value} {d : PyData} {as : List Addr}, Reads h v d as → ∀ a ∈ as, a < h.objs.size
  | _, _, _, .none, _, z => nomatch z
  | _, _, _, .bool _, _, z => nomatch z
  | _, _, _, .int _ _, _, z => nomatch z
  | _, _, _, .str _ _, _, z => nomatch z
  | _, _, _, .list h1 _ _ h4, a, z => by
    rcases List.mem_cons.mp z with rfl | z
    · exact Heap.lt_size h1
    · exact readsAll_lt h4 a z
  | _, _, _, .tuple _ _ _ h4, a, z => readsAll_lt h4 a z
  | _, _, _, .dict h1 _ _ h4 h5, a, z => by
    rw [List.cons_append] at z
    rcases List.mem_cons.mp z with rfl | z
    · exact Heap.lt_size h1
    · rcases List.mem_append.mp z with z | z
      · exact readsAll_lt h4 a z
      · exact readsAll_lt h5 a z
theorem readsAll_lt {h : Heap} : ∀ {vs : List Value} {ds : List PyData} {as : List Addr}, ReadsAll h vs ds as → ∀ a ∈ as, a < h.objs.size
  | _, _, _, .nil, _, z => nomatch z
  | _, _, _, .cons h1 h2, a, z => by
    rcases List.mem_append.mp z with z | z
    · exact reads_lt h1 a z
    · exact readsAll_lt h2 a z
end
section
variable {X : Cx} {c : Cs} {b0 : Addr} {B : Addr → Prop}
/-- a dict's entries -/
def PairE (c : Cs) (b0 : Addr) (B : Addr → Prop) (H : Hp) : D × D → DictEntry → Prop := fun p e => ∃ k v, Rz c b0 B H p.1 k ∧ RelV k e.key ∧ Rz c b0 B H p.2 v ∧ RelV v e.val
theorem rz_leaf {H : Hp} {k : D} (h : k.leaf = true) : Rz c b0 B H k (kV (toK k)) := by
  cases k with
  | int i => rw [Rz]; rfl
  | str i => rw [Rz]; rfl
  | _ => simp [D.leaf] at h
theorem DH.raw {H : Hp} {h : Heap} {a : Addr} {kvs : List (D × D)} (d : DH X c b0 B H h a kvs) : ∃ es ep, h.DictRaw a es ep ∧ Paired (PairE c b0 B H) kvs es.toList := by
  cases d with
  | leaf vs hd r hl =>
    obtain ⟨o, es, ep, h1, h2, h3, _, h5, h6⟩ := hd
    refine ⟨es, ep, ⟨o, h1, h2, h3⟩, ?_⟩
    clear h3 h6
    revert h5
    generalize es.toList = l
    intro h5
    induction r generalizing l with
    | nil => cases h5; exact .nil
    | @cons p q _ _ r t ih =>
      cases h5 with
      | cons k1 k2 k3 =>
        obtain ⟨e1, v, r1, r2⟩ := r
        refine .cons ⟨_, v, rz_leaf (hl p List.mem_cons_self), ?_, r1, by rw [k2]; exact r2⟩ (ih (fun z hz => hl z (List.mem_cons_of_mem _ hz)) _ k3)
        rw [e1]
        rcases keyIs_shape k1 with ⟨i, t, e2, e3⟩ | ⟨x, t, e2, e3⟩
        · rw [e2, e3]; exact ⟨t, rfl⟩
        · rw [e2, e3]; exact ⟨t, rfl⟩
  | tups ys hd r hl =>
    obtain ⟨o, es, ep, h1, h2, h3, h4, h5, h6⟩ := hd
    refine ⟨es, ep, ⟨o, h1, h2, h3⟩, ?_⟩
    rw [h4]
    clear h4 h3 hl h5 h6
    induction r with
    | nil => exact .nil
    | @cons p y _ _ r t ih =>
      obtain ⟨_, r1, v, r2, r3⟩ := r
      exact .cons ⟨_, v, r1, rfl, r2, r3⟩ ih
theorem vals_signs (F : Fit X c) {H : Hp} : ∀ {x : List Nat} {us : List Value}, (∀ (i : Nat) (v : Value), us[i]? = some v → ∃ (ch : Nat) (t : Tok), x[i]? = some ch ∧ v = Value.str (toStr [ch]) t) → us.length = x.length → Vals ((x.map fun ch => V.str (toStr [ch]))) us
  | [], [], _, _ => .nil
  | ch :: x, u :: us, h, hl => by
    obtain ⟨d, t, e1, e2⟩ := h 0 u rfl
    cases e1
    exact .cons ⟨t, e2⟩ (vals_signs F (H := H) (fun i v e => h (i + 1) v e) (by simpa using hl))
theorem rzs_signs {H : Hp} : ∀ x : List Nat, Rzs c b0 B H (x.map fun ch => .str [ch]) (x.map fun ch => V.str (toStr [ch]))
  | [] => .nil
  | ch :: x => .cons (by rw [Rz]) (rzs_signs x)
theorem paired_vals {H : Hp} {R : D × D → DictEntry → Prop} {f : D × D → D} {g : DictEntry → Value} (hR : ∀ p e, R p e → ∃ v, Rz c b0 B H (f p) v ∧ RelV v (g e)) : ∀ {kvs : List (D × D)} {es : List DictEntry}, Paired R kvs es → ∃ xs, Vals xs (es.map g) ∧ Rzs c b0 B H (kvs.map f) xs
  | _, _, .nil => ⟨[], .nil, .nil⟩
  | _, _, .cons r t => by
    obtain ⟨v, r1, r2⟩ := hR _ _ r
    obtain ⟨xs, h1, h2⟩ := paired_vals hR t
    exact ⟨v :: xs, .cons r2 h1, .cons r1 h2⟩
/-- the items, gathered -/
theorem collect_all (F : Fit X c) {pins : List (Addr × Obj)} {s : Shared} {σ : L2.St} {H : Hp} (I : Inv X pins σ H s) {d : D} {x : V} {v : Value} (hx : Rr c b0 B H d x) (rx : RelV x v) {ds : List D} (e : itemsD d = some ds) {A : Around} (hA : A.handled = none) {E : Value → Shared → Prop} :
    wpAny (model X.prog X.w) A (collect v) (fun us s' => ∃ xs, Inv X pins σ H s' ∧ Vals xs us ∧ Rzs c b0 B H ds xs ∧ us.length ≤ sizeLine) E s := by
  cases d with
  | lst xs =>
    simp only [itemsD, Option.some.injEq] at e
    subst e
    obtain ⟨a, vs, rfl, h, rs⟩ := hx.lst
    cases rx
    obtain ⟨its, r, pl, hz⟩ := I.list (SqL.of h)
    obtain ⟨o, ho, hc, n, hd⟩ := pl.isList
    have hl := r.length
    refine wpAny_collect_seq (hsz := by simp only [List.size_toArray]; omega) a (.inl rfl) ho hc hd fun h' kp => ⟨vs, I.kept (t' := s.toks) kp, ?_, rs, ?_⟩
    · exact r
    · rw [List.toList_toArray]; omega
  | tup xs =>
    simp only [itemsD, Option.some.injEq] at e
    subst e
    obtain ⟨a, vs, rfl, h, rs⟩ := hx.tup
    cases rx
    obtain ⟨its, r, ⟨o, ho, hc, n, hd⟩, hz⟩ := I.tuple (h.at F.K)
    have hl := r.length
    refine wpAny_collect_seq (hsz := by simp only [List.size_toArray]; omega) a (.inr rfl) ho hc hd fun h' kp => ⟨vs, I.kept (t' := s.toks) kp, ?_, rs, ?_⟩
    · exact r
    · rw [List.toList_toArray]; omega
  | str z =>
    simp only [itemsD] at e
    split at e
    · rename_i hl
      simp only [Option.some.injEq] at e
      subst e
      cases hx.str
      obtain ⟨t, rfl⟩ := rx
      have hz : (toStr z).cps.size = z.length := by show z.toArray.size = _; simp
      refine wpAny_collect_str (hn := by rw [hz, ← line_eq]; exact hl) hA (toStr z) t fun s' acc kp hg hd ho hi => ?_
      obtain ⟨h', g', d', t', o'⟩ := s'
      cases hg; cases hd; cases ho
      have hsz : acc.toList.length = z.length := by rw [Array.length_toList, hi.1, hz]
      refine ⟨_, I.kept (t' := t') kp, vals_signs (H := H) F (fun i v ev => ?_) hsz, rzs_signs z, by rw [hsz, ← line_eq]; exact hl⟩
      obtain ⟨ch, u, e1, e2⟩ := hi.2 i v (by rw [← Array.getElem?_toList]; exact ev)
      exact ⟨ch, u, by simpa [toStr] using e1, e2⟩
    · cases e
  | dct kvs =>
    simp only [itemsD, Option.some.injEq] at e
    subst e
    obtain ⟨a, rfl, hS, hz, dh⟩ := dct_heap F I hx
    cases rx
    obtain ⟨es, ep, hr, pr⟩ := dh.raw
    have hl : kvs.length = es.size := by rw [Paired.length pr, Array.length_toList]
    refine PySem.W.kdu_collect (PySem.KdlSrc.rawDict hS) hA hr (by omega) fun h' tk acc kp hi => ?_
    obtain ⟨xs, v1, v2⟩ := paired_vals (f := (·.1)) (g := (·.key)) (H := H) (fun p e ⟨k, v, r1, r2, _, _⟩ => ⟨k, r1, r2⟩) pr
    have ea : acc.toList = es.toList.map (·.key) := by
      refine List.ext_getElem? fun i => ?_
      rw [List.getElem?_map, Array.getElem?_toList, Array.getElem?_toList]
      by_cases hlt : i < es.size
      · have h1 : i < acc.size := by rw [hi.1]; exact hlt
        obtain ⟨h2, h3⟩ := hi.2 i acc[i] (by simp [h1])
        rw [Array.getElem?_eq_getElem h1, Array.getElem?_eq_getElem hlt, h3]
        rfl
      · rw [Array.getElem?_eq_none (by rw [hi.1]; omega), Array.getElem?_eq_none (by omega)]
        rfl
    rw [ea]
    exact ⟨xs, I.kept kp, v1, v2, by rw [List.length_map, Array.length_toList]; omega⟩
  | _ => simp [itemsD] at e
end
end Ev
/-! EvC6b: tuples are sorted, empty ones among them too. -/
namespace Ev
open PySem PySem.W PyProof.Rows PySem.SeqAt
section
variable {prog : Program} {w : World} {A : Around} {s : Shared}
/-- two tuples, as sorting asks, by their class's own slot -/
theorem tup_less {xs ys : List PyData} {a b : Value} {as bs : List Addr} {E : Value → Shared → Prop} {Q : Bool → Shared → Prop} (ra : Reads s.heap a (.tuple xs) as) (rb : Reads s.heap b (.tuple ys) bs) (hal : alikeAll xs ys = true)
    (hu : A.units + min (PyData.tuple xs).depth (PyData.tuple ys).depth < cLine) (hq : Q (dataLt (.tuple xs) (.tuple ys)) s) : wpAny (model prog w) A (oneLt' true a b) Q E s := by
  cases ra with
  | @tuple l o us n _ _ h1 h2 h3 h4 =>
    cases rb with
    | @tuple l' o' us' n' _ _ k1 k2 k3 k4 =>
      have c1 : us.size = xs.length := by simpa using SeqAt.ReadsAll.length _ _ _ h4
      have c2 : us'.size = ys.length := by simpa using SeqAt.ReadsAll.length _ _ _ k4
      obtain ⟨cls, dd, dat, sl⟩ := o
      obtain ⟨cls', dd', dat', sl'⟩ := o'
      simp only at h2 h3 k2 k3
      subst h2 h3 k2 k3
      rw [oneLt'_eq]
      simp only [if_true]
      refine wpAny_bind (wpAny_cRoomFor (room_here hu) (wpAny_bind (wpAny_callSpecialIfBound?_slot (T := "tuple") ⟨_, h1, rfl⟩ F.slot_tuple_lt ?_)))
      have row := call_meets (prog := prog) (w := w) (A := A) (E := E) (s := s) (Q := fun a s' => a = .bool (dataLt (.tuple xs) (.tuple ys)) ∧ s' = s) F.slot_tuple_lt (show s.TypeIs (Value.ref l) "tuple" from ⟨_, h1, rfl⟩) F.entry_tuple_lt (F.args_tuple_lt_2 (.ref l) (.ref l'))
        (tuple_ltAt l l' us us' n n' dd dd' sl sl' (pairEq xs ys) fun j => dataLt (xs.getD j .none) (ys.getD j .none))
      refine wpAny_mono (row ⟨h1, k1, fun j j1 j2 => ?_, fun j j1 j2 hj => ?_, ?_⟩) (fun r s' z => ?_) fun _ _ z => z
      · have z := eqAt_alikeAll xs ys A.in1 s us.toList us'.toList _ _ h4 k4 hal (room_in hu) j (by simpa using j1) (by simpa using j2)
        rw [Array.getElem_toList, Array.getElem_toList] at z
        exact z
      · have z := rcLt_alikeAll xs ys A.in1 s us.toList us'.toList _ _ h4 k4 hal (room_in hu) j (by simpa using j1) (by simpa using j2) hj
        rw [Array.getElem_toList, Array.getElem_toList] at z
        exact z
      · rw [dataLt_tuple, ← firstLt_toks xs ys hal, ← c1, ← c2]
        exact ⟨rfl, rfl⟩
      · obtain ⟨rfl, rfl⟩ := z
        exact wpAny_truthy_bool hq
/-- the first items, where they are -/
def Firsts (h : Heap) : List Value → List (Option Value) → Prop
  | [], [] => True
  | v :: vs, f :: fs => (∃ a o us n, v = .ref a ∧ h.get? a = some o ∧ o.cls = .type "tuple" ∧ o.data = .seq us n ∧ f = us[0]?) ∧ Firsts h vs fs
  | _, _ => False
theorem firsts_run {M : Model} {E : Value → Shared → Prop} : ∀ (vs : List Value) (fs : List (Option Value)) {Q : List (Option Value) → Shared → Prop}, Firsts s.heap vs fs → Q fs s → wpAny M A (vs.mapM firstOfTuple') Q E s
  | [], [], _, _, q => by rw [List.mapM_nil]; exact wpAny_pure q
  | [], _ :: _, _, t, _ => t.elim
  | _ :: _, [], _, t, _ => t.elim
  | v :: vs, f :: fs, Q, ⟨⟨a, o, us, n, e1, e2, e3, e4, e5⟩, t⟩, q => by
    subst e1 e5
    rw [List.mapM_cons, kas_first_eq]
    refine wpAny_bind (wpAny_bind (Looks.here (show Looks M s.heap (typeOf (.ref a)) o.cls from (Looks.ld e2).andThen .now) ?_))
    rw [e3, if_neg (by first | decide | simp)]
    exact wpAny_bind (listItems_at e2 e4 (wpAny_pure (wpAny_bind (firsts_run vs fs (Q := fun gs s' => wpAny M A (pure (us[0]? :: gs)) Q E s') t (wpAny_pure q)))))
theorem tup_firsts {h : Heap} : ∀ {vs : List Value} {ds : List PyData}, EachIs (fun v d => ∃ as, Reads h v d as) vs ds → (∀ d ∈ ds, ∃ xs, d = PyData.tuple xs) → ∃ fs : List (Option Value), Firsts h vs fs ∧ ∀ (i : Nat) (d : PyData), ds[i]? = some d → ∃ f, fs[i]? = some f ∧ (f = none ↔ d = PyData.tuple [])
  | _, _, .nil, _ => ⟨[], trivial, fun i d z => by simp at z⟩
  | _, _, .cons (b := d) ⟨as, r⟩ t, ht => by
    obtain ⟨fs, h1, h2⟩ := tup_firsts t fun d hd => ht d (List.mem_cons_of_mem _ hd)
    obtain ⟨xs, rfl⟩ := ht d List.mem_cons_self
    cases r with
    | @tuple a o us n _ _ e1 e2 e3 e4 =>
      refine ⟨us[0]? :: fs, ⟨⟨a, o, us, n, rfl, e1, e2, e3, rfl⟩, h1⟩, fun i d z => ?_⟩
      cases i with
      | zero =>
        simp only [List.getElem?_cons_zero, Option.some.injEq] at z
        subst z
        refine ⟨_, rfl, ?_⟩
        have c1 : us.size = xs.length := by simpa using SeqAt.ReadsAll.length _ _ _ e4
        cases xs with
        | nil =>
          have : us.size = 0 := by simpa using c1
          simp [Array.getElem?_eq_none (Nat.le_of_eq this)]
        | cons x xs =>
          have : 0 < us.size := by rw [c1]; simp
          rw [Array.getElem?_eq_getElem this]
          simp
      | succ i => simpa using h2 i d (by simpa using z)
/-- which way they are compared -/
theorem kind_tups {M : Model} {vs : List Value} {ds : List PyData} (e : EachIs (fun v d => ∃ as, Reads s.heap v d as) vs ds) (ht : ∀ d ∈ ds, ∃ xs, d = PyData.tuple xs) (hn : PyData.tuple [] ∈ ds) :
    ∃ kd, (kd = general' ∨ kd = oneType') ∧ ∀ (E : Value → Shared → Prop) {Q : SortKind → Shared → Prop}, Q kd s → wpAny M A (keyKind' vs.toArray) Q E s := by
  obtain ⟨fs, h1, h2⟩ := tup_firsts e ht
  have hno : ¬ (fs.toArray.all fun x => x.isSome) = true := by
    intro z
    obtain ⟨i, hi, ei⟩ := List.mem_iff_getElem.mp hn
    obtain ⟨f, e1, e2⟩ := h2 i _ (by rw [List.getElem?_eq_getElem hi, ei])
    have : f = none := e2.mpr rfl
    subst this
    rw [List.all_toArray, List.all_eq_true] at z
    have := z none (List.mem_of_getElem? e1)
    simp at this
  have hvs : vs ≠ [] := by
    rintro rfl
    cases e
    simp at hn
  by_cases hf : ((fs.toArray[0]?).bind id).isSome = true
  · refine ⟨general', .inl rfl, fun E Q q => ?_⟩
    rw [keyKind'_eq, List.mapM_toArray, map_eq_pure_bind]
    refine wpAny_bind (wpAny_bind (firsts_run vs fs h1 (wpAny_pure ?_)))
    rw [if_neg hno, if_pos hf]
    exact wpAny_pure q
  · refine ⟨oneType', .inr rfl, fun E Q q => ?_⟩
    rw [keyKind'_eq, List.mapM_toArray, map_eq_pure_bind]
    refine wpAny_bind (wpAny_bind (firsts_run vs fs h1 (wpAny_pure ?_)))
    rw [if_neg hno, if_neg hf, oneTypeOnly'_eq, List.mapM_toArray, map_eq_pure_bind]
    have tys : ∀ v ∈ vs, Looks M s.heap (typeOf v) (.type "tuple") := fun v hv => by
      obtain ⟨d, hd, as, r⟩ := e.left v hv
      obtain ⟨xs, rfl⟩ := ht d hd
      exact looks_reads r
    refine wpAny_bind (wpAny_bind (wpAny_bind (kas_mapM (r := .type "tuple") _ (fun v hv Q' hq => (tys v hv).here hq) (wpAny_pure ?_))))
    obtain ⟨v0, vr, rfl⟩ := List.exists_cons_of_ne_nil hvs
    have a1 : ((List.map (fun _ => Value.type "tuple") (v0 :: vr)).toArray.all fun x => x == Value.type "tuple") = true := by
      simp only [List.all_toArray, List.all_map, List.all_eq_true]
      intro _ _
      exact beq_self_eq_true _
    have a2 : (List.map (fun _ => Value.type "tuple") (v0 :: vr)).toArray[0]? = some (Value.type "tuple") := by simp
    rw [a2]
    simp only [a1, if_true]
    exact wpAny_pure (wpAny_pure q)
/-- tuples, an empty one among them, can be sorted -/
theorem sortsAt_tups {vs : List Value} {ds : List PyData} (e : EachIs (fun v d => ∃ as, Reads s.heap v d as) vs ds) (hal : AllAlike ds) (ht : ∀ d ∈ ds, ∃ xs, d = PyData.tuple xs) (hn : PyData.tuple [] ∈ ds) (hu : ∀ d, d ∈ ds → A.units + d.depth < cLine) :
    SortsAt prog w A s (dataKind s.heap ds) vs := by
  obtain ⟨kd, hk, run⟩ := kind_tups (M := model prog w) (A := A) e ht hn
  refine ⟨fun v hv => ?_, kd, ?_, fun _ E Q q => run E q⟩
  · obtain ⟨d, hd, as, r⟩ := e.left v hv
    exact ⟨_, dataKind_some hal hd r⟩
  · intro E x y a b Q ha hb hq
    obtain ⟨d, as, hd, ra, rfl⟩ := dataKind_inv ha
    obtain ⟨d', as', hd', rb, rfl⟩ := dataKind_inv hb
    obtain ⟨xs, rfl⟩ := ht d hd
    obtain ⟨ys, rfl⟩ := ht d' hd'
    have hu' : A.units + min (PyData.tuple xs).depth (PyData.tuple ys).depth < cLine := Nat.lt_of_le_of_lt (Nat.add_le_add_left (Nat.min_le_left _ _) _) (hu _ hd)
    have al : alike (.tuple xs) (.tuple ys) = true := hal _ hd _ hd'
    rcases hk with rfl | rfl
    · show wpAny _ _ (oneLt' false x y) _ _ _
      exact oneLt_alike (fun z => by cases z) ra rb al (by simp) hu' hq
    · rw [keyLt'_oneType]
      exact tup_less ra rb (by simpa [alike] using al) hu' hq
end
end Ev
/-! EvC7: built-ins over rows: sorted, len, tuple, list, all, any, sum, max, min, abs, int; join. -/
namespace Ev
open PySem PySem.Spec PyProof.Rows L2
section
variable {X : Cx} {c : Cs}
/-- a call's reading by the data -/
def rCa (c : Cs) (f : List D → Option A) : List V → Hp → VK → Prop := fun xs H Q => ∃ (g : Gh) (ds : List D) (a : A), Bars g ∧ Paired (Rr c g.b0 g.B H) ds xs ∧ f ds = some a ∧ ∀ v H', Same H H' → Rn c g H H' a v → Q v H'
theorem each_of {b0 : Addr} {B : Addr → Prop} {H : Hp} {R : Value → D → Prop} : ∀ {ds : List D} {xs : List V} {us : List Value}, Rzs c b0 B H ds xs → Vals xs us → (∀ d ∈ ds, ∀ v u, Rz c b0 B H d v → RelV v u → R u d) → PySem.W.EachIs R us ds
  | [], _, _, r, rv, _ => by rw [Rzs] at r; subst r; cases rv; exact .nil
  | d :: ds, _, _, r, rv, h => by
    rw [Rzs] at r
    obtain ⟨v, q, rfl, r1, r2⟩ := r
    cases rv with
    | cons k1 k2 => exact .cons (h d List.mem_cons_self _ _ r1 k1) (each_of r2 k2 fun e he => h e (List.mem_cons_of_mem _ he))
theorem each_vals {b0 : Addr} {B : Addr → Prop} {H : Hp} : ∀ {us : List Value} {ds : List D}, PySem.W.EachIs (fun u d => ∃ v, Rz c b0 B H d v ∧ RelV v u) us ds → ∃ xs, Vals xs us ∧ Rzs c b0 B H ds xs
  | _, _, .nil => ⟨[], .nil, .nil⟩
  | _, _, .cons ⟨v, h1, h2⟩ t => by
    obtain ⟨xs, k1, k2⟩ := each_vals t
    exact ⟨v :: xs, .cons h2 k1, .cons h1 k2⟩
/-- a new list of these values, sorted -/
theorem sort_new (F : Fit X c) {g : Gh} (hb : Bars g) {pins : List (Addr × Obj)} {s : Shared} {σ : L2.St} {H : Hp} (I : Inv X pins σ H s) {ds : List D} {xs : List V} {us : List Value} (r : Rzs c g.b0 g.B H ds xs) (rv : Vals xs us) (hs : sortable ds = true) {Q : VK}
    (q : ∀ v H', Same H H' → Rn c g H H' (fr (.lst (sortD ds))) v → Q v H') {E : Value → Shared → Prop} :
    wpAny (model X.prog X.w) X.A.in1 (call (.builtin "list.sort") [.ref s.heap.objs.size]) (fun _ s' => EP X pins σ Q (.ref s.heap.objs.size) s') E { s with heap := s.heap.push (seqObj "list" us.toArray 0) } := by
  obtain ⟨h1, h2, h3, h4, _⟩ := sortable_of hs
  have hlen : us.length = ds.length := by rw [← Vals.length rv, r.length]
  have e : PySem.W.EachIs (fun u d => ∃ v, Rz c g.b0 g.B H d v ∧ RelV v u) us ds := each_of r rv fun d _ v u r1 r2 => ⟨v, r1, r2⟩
  have kp : ∀ b o, s.heap.get? b = some o → (s.heap.push (seqObj "list" us.toArray 0)).get? b = some o := fun b o eo => Heap.get?_push_of_some _ eo
  have ho : (s.heap.push (seqObj "list" us.toArray 0)).get? s.heap.objs.size = some (seqObj "list" us.toArray 0) := Heap.get?_push_size _ rfl
  have kp2 : ∀ b o, s.heap.get? b = some o → (PySem.W.sortingHeap (s.heap.push (seqObj "list" us.toArray 0)) s.heap.objs.size us).get? b = some o := fun b o eo => PySem.W.sortingHeap_old (Nat.ne_of_lt (Heap.lt_size eo)) (kp b o eo)
  have er : PySem.W.EachIs (fun u d => ∃ as, Reads (PySem.W.sortingHeap (s.heap.push (seqObj "list" us.toArray 0)) s.heap.objs.size us) u (toPy d) as) us ds := each_of r rv fun d hd v u r1 r2 => by
    obtain ⟨as, rr⟩ := Rr.reads F I (ok_of (h2 d hd)).1 (.inl r1) r2
    exact ⟨as, PyProof.Rows.Reads.keeps kp2 rr⟩
  have room : ∀ y, y ∈ ds.map toPy → X.A.units + 1 + 1 + y.depth < cLine := fun y hy => by
    obtain ⟨d, hd, rfl⟩ := List.mem_map.mp hy
    have := (toPy_depth d).2 (ok_of (h2 d hd)).1
    have := (ok_of (h2 d hd)).2
    have := F.un
    omega
  have SA : PySem.W.SortsAt X.prog X.w X.A.in1.in1 { s with heap := PySem.W.sortingHeap (s.heap.push (seqObj "list" us.toArray 0)) s.heap.objs.size us } (PySem.W.dataKind (PySem.W.sortingHeap (s.heap.push (seqObj "list" us.toArray 0)) s.heap.objs.size us) (ds.map toPy)) us := by
    have el := PySem.W.each_map (R := fun v d => ∃ as, Reads (PySem.W.sortingHeap (s.heap.push (seqObj "list" us.toArray 0)) s.heap.objs.size us) v d as) toPy er
    rcases h4 with h4 | ⟨h4, h5⟩
    · exact PySem.W.SortsAt.data (s := { s with heap := PySem.W.sortingHeap (s.heap.push (seqObj "list" us.toArray 0)) s.heap.objs.size us }) el h3 h4 room
    · exact sortsAt_tups (s := { s with heap := PySem.W.sortingHeap (s.heap.push (seqObj "list" us.toArray 0)) s.heap.objs.size us }) el h3 h4 h5 room
  have eo := PySem.W.sortVals_data false e er h3
  have ho2 : (PySem.W.sortVals (PySem.W.dataKind (PySem.W.sortingHeap (s.heap.push (seqObj "list" us.toArray 0)) s.heap.objs.size us) (ds.map toPy)) false us us).length = ds.length := by
    rw [PySem.W.sortVals_length false rfl]; exact hlen
  refine wpAny_call_entry slot_list_sort ⟨_, ho, rfl⟩ entry_list_sort (PySem.W.list_sort_vals (s := { s with heap := s.heap.push (seqObj "list" us.toArray 0) }) ho SA (by rw [hlen]; exact h1) ⟨.none, rfl, ?_⟩) (args_list_sort _)
  generalize PySem.W.sortVals _ false us us = out at eo ho2 ⊢
  · rw [sortD_merge hs] at eo
    obtain ⟨ys, v1, v2⟩ := each_vals eo
    obtain ⟨ep, hat⟩ := sortedHeap_at (out := List.toArray out) ho
    have hn : H s.heap.objs.size = none := I.hok.fresh (Nat.le_refl _)
    have I2 : Inv X pins σ (upd H s.heap.objs.size (.lst ys)) { s with heap := sortedHeap (s.heap.push (seqObj "list" us.toArray 0)) s.heap.objs.size us (List.toArray out) } := by
      refine I.laid (t' := s.toks) (fun b o eo2 => ?_) (Nat.le_refl _) ⟨?_, out, ep, v1, hat⟩
      · have hlt := Heap.lt_size eo2
        rw [sortedHeap_old (Nat.ne_of_lt hlt) (by rw [Heap.size_push]; exact Nat.lt_succ_of_lt hlt)]
        exact kp b o eo2
      · rw [Vals.length v1, ho2]; exact h1
    exact ⟨.ref s.heap.objs.size, _, I2, rfl, q _ _ (same_new hn) (new_lst hb hn v2)⟩
/-- sorted(..) -/
theorem ca_sorted (F : Fit X c) : CallR X (.builtin "sorted") (rCa c (biD .sorted)) := by
  intro pins s σ H xs us Q I rs ⟨g, ds, a, hb, hr, e, q⟩
  match ds, hr, e with
  | [d], hr, e =>
    cases hr with
    | cons h1 h2 =>
      cases h2
      obtain ⟨u, rfl, rx⟩ := vals1 rs
      simp only [biD] at e
      split at e
      · rename_i es he
        split at e
        · rename_i hs
          simp only [Option.some.injEq] at e
          subst e
          refine Calls.call_function_entry kind_sorted plain_sorted entry_sorted (args_sorted1 _) ?_
          unfold Builtin.«sorted»
          refine wpAny_bind (m := checkCount "sorted" 1 1 _) (wpAny_pure ?_)
          refine wpAny_bind (thn (collect_all F I h1 rx he (A := X.A.in1) (I.ok.hd F.calm)) fun vs s1 ⟨ys, I1, v1, v2, hz⟩ => ?_)
          refine wpAny_bind (wpAny_newList ?_ hz)
          refine wpAny_bind (wpAny_holding (thn (sort_new F hb I1 v2 v1 hs (Q := Q) fun v H' hsm hn => q v H' hsm hn) fun _ s2 hq => ?_))
          exact wpAny_pure ⟨_, rfl, hq⟩
        · cases e
      · cases e
  | [], _, e => simp [biD] at e
  | _ :: _ :: _, _, e => simp [biD] at e
/-- len -/
theorem ca_len (F : Fit X c) : CallR X (.builtin "len") (rCa c (biD .len)) := by
  intro pins s σ H xs us Q I rs ⟨g, ds, a, hb, hr, e, q⟩
  match ds, hr, e with
  | [d], hr, e =>
    cases hr with
    | @cons _ x _ _ h1 h2 =>
      cases h2
      cases d with
      | lst zs =>
        simp only [biD, Option.some.injEq] at e
        subst e
        obtain ⟨b, vs, rfl, h, r⟩ := h1.lst
        exact call_len pins s σ H _ us Q I rs ⟨_, vs.length, rfl, .inl ⟨vs, SqL.of h, rfl⟩, by rw [r.length]; exact q _ _ (Same.refl _) rn_int⟩
      | tup zs =>
        simp only [biD, Option.some.injEq] at e
        subst e
        obtain ⟨b, vs, rfl, h, r⟩ := h1.tup
        exact call_len pins s σ H _ us Q I rs ⟨_, vs.length, rfl, .inr ⟨vs, h.at F.K, rfl⟩, by rw [r.length]; exact q _ _ (Same.refl _) rn_int⟩
      | str z =>
        simp only [biD] at e
        split at e
        · rename_i hl
          simp only [Option.some.injEq] at e
          subst e
          cases h1.str
          exact call_len pins s σ H _ us Q I rs ⟨_, z.length, rfl, ⟨by rw [toStr_len, ← line_eq]; exact hl, (toStr_len z).symm⟩, q _ _ (Same.refl _) rn_int⟩
        · cases e
      | dct kvs =>
        simp only [biD, Option.some.injEq] at e
        subst e
        obtain ⟨b, rfl, hS, hz, dh⟩ := dct_heap F I h1
        rw [Vals.ref1 rs]
        exact len_dct dh hS hz fun t tk => ⟨.int _, H, I.tok tk, ⟨_, rfl⟩, q _ _ (Same.refl _) rn_int⟩
      | _ => simp [biD] at e
  | [], _, e => simp [biD] at e
  | _ :: _ :: _, _, e => simp [biD] at e
/-- tuple(..) -/
theorem ca_tuple (F : Fit X c) : CallR X (.type "tuple") (rCa c (biD .tuple)) := by
  intro pins s σ H xs us Q I rs ⟨g, ds, a, hb, hr, e, q⟩
  match ds, hr, e with
  | [d], hr, e =>
    cases hr with
    | @cons _ x _ _ h1 h2 =>
      cases h2
      cases d with
      | lst zs =>
        simp only [biD, Option.some.injEq] at e
        subst e
        obtain ⟨b, vs, rfl, h, r⟩ := h1.lst
        rw [Vals.ref1 rs]
        obtain ⟨its, v1, pl, hz⟩ := I.list (SqL.of h)
        have hlen := Vals.length v1
        refine call_tuple_list pl.isList (fun h2 kp => ?_) (by simp only [List.size_toArray]; omega)
        have I1 : Inv X pins σ H { s with heap := h2 } := I.kept (t' := s.toks) kp
        have hp : H h2.objs.size = none := I1.hok.fresh (Nat.le_refl _)
        exact ⟨.ref h2.objs.size, _, tup_new (t := s.toks) I1 v1 hz, rfl, q _ _ (same_new hp) (new_tup hb hp rfl r)⟩
      | tup zs =>
        simp only [biD, Option.some.injEq] at e
        subst e
        obtain ⟨b, vs, rfl, h, r⟩ := h1.tup
        refine call_tuple_of pins s σ H _ us Q I rs ⟨b, vs, rfl, .inr ⟨h.at F.K, q _ _ (Same.refl _) (rn_cl ?_)⟩⟩
        rw [Rz]
        exact ⟨b, vs, rfl, h, r⟩
      | _ => simp [biD] at e
  | [], _, e => simp [biD] at e
  | _ :: _ :: _, _, e => simp [biD] at e
/-- list(..) -/
theorem ca_list (F : Fit X c) : CallR X (.type "list") (rCa c (biD .list)) := by
  intro pins s σ H xs us Q I rs ⟨g, ds, a, hb, hr, e, q⟩
  match ds, hr, e with
  | [d], hr, e =>
    cases hr with
    | @cons _ x _ _ h1 h2 =>
      cases h2
      cases d with
      | lst zs =>
        simp only [biD, Option.some.injEq] at e
        subst e
        obtain ⟨b, vs, rfl, h, r⟩ := h1.lst
        exact call_list_of pins s σ H _ us Q I rs ⟨b, vs, rfl, .inl (SqL.of h), fun p hp => q _ _ (same_new hp) (new_lst hb hp r)⟩
      | tup zs =>
        simp only [biD, Option.some.injEq] at e
        subst e
        obtain ⟨b, vs, rfl, h, r⟩ := h1.tup
        exact call_list_of pins s σ H _ us Q I rs ⟨b, vs, rfl, .inr (h.at F.K), fun p hp => q _ _ (same_new hp) (new_lst hb hp r)⟩
      | _ => simp [biD] at e
  | [], _, e => simp [biD] at e
  | _ :: _ :: _, _, e => simp [biD] at e
theorem bls_of {b0 : Addr} {B : Addr → Prop} {H : Hp} : ∀ {ds : List D} {vs : List V} {bs : List Bool}, Rzs c b0 B H ds vs → blsD ds = some bs → vs = bs.map V.bl
  | [], _, bs, r, e => by
    rw [Rzs] at r
    simp only [blsD, Option.some.injEq] at e
    subst e
    exact r
  | d :: ds, _, bs, r, e => by
    rw [Rzs] at r
    obtain ⟨v, q, rfl, r1, r2⟩ := r
    cases d with
    | bl b =>
      simp only [blsD] at e
      obtain ⟨cs, e1, rfl⟩ := Option.map_eq_some_iff.mp e
      rw [Rz] at r1
      rw [r1, bls_of r2 e1]
      rfl
    | _ => simp [blsD] at e
theorem ints_of {b0 : Addr} {B : Addr → Prop} {H : Hp} : ∀ {ds : List D} {vs : List V} {bs : List Int}, Rzs c b0 B H ds vs → intsD ds = some bs → vs = bs.map V.int
  | [], _, bs, r, e => by
    rw [Rzs] at r
    simp only [intsD, Option.some.injEq] at e
    subst e
    exact r
  | d :: ds, _, bs, r, e => by
    rw [Rzs] at r
    obtain ⟨v, q, rfl, r1, r2⟩ := r
    cases d with
    | int b =>
      simp only [intsD] at e
      obtain ⟨cs, e1, rfl⟩ := Option.map_eq_some_iff.mp e
      rw [Rz] at r1
      rw [r1, ints_of r2 e1]
      rfl
    | _ => simp [intsD] at e
theorem strs_of {b0 : Addr} {B : Addr → Prop} {H : Hp} : ∀ {ds : List D} {vs : List V} {bs : List (List Nat)}, Rzs c b0 B H ds vs → strsD ds = some bs → vs = (bs.map toStr).map V.str
  | [], _, bs, r, e => by
    rw [Rzs] at r
    simp only [strsD, Option.some.injEq] at e
    subst e
    exact r
  | d :: ds, _, bs, r, e => by
    rw [Rzs] at r
    obtain ⟨v, q, rfl, r1, r2⟩ := r
    cases d with
    | str b =>
      simp only [strsD] at e
      obtain ⟨cs, e1, rfl⟩ := Option.map_eq_some_iff.mp e
      rw [Rz] at r1
      rw [r1, strs_of r2 e1]
      rfl
    | _ => simp [strsD] at e
/-- all(..) -/
theorem ca_all (F : Fit X c) : CallR X (.builtin "all") (rCa c (biD .all)) := by
  intro pins s σ H xs us Q I rs ⟨g, ds, a, hb, hr, e, q⟩
  match ds, hr, e with
  | [d], hr, e =>
    cases hr with
    | @cons _ x _ _ h1 h2 =>
      cases h2
      cases d with
      | lst zs =>
        simp only [biD] at e
        obtain ⟨bs, e1, rfl⟩ := Option.map_eq_some_iff.mp e
        obtain ⟨b, vs, rfl, h, r⟩ := h1.lst
        have ev := bls_of r e1
        subst ev
        exact cr_all F.calm pins s σ H _ us Q I rs ⟨b, bs, rfl, SqL.of h, q _ _ (Same.refl _) rn_bl⟩
      | _ => simp [biD] at e
  | [], _, e => simp [biD] at e
  | _ :: _ :: _, _, e => simp [biD] at e
theorem ca_any (F : Fit X c) : CallR X (.builtin "any") (rCa c (biD .any)) := by
  intro pins s σ H xs us Q I rs ⟨g, ds, a, hb, hr, e, q⟩
  match ds, hr, e with
  | [d], hr, e =>
    cases hr with
    | @cons _ x _ _ h1 h2 =>
      cases h2
      cases d with
      | lst zs =>
        simp only [biD] at e
        obtain ⟨bs, e1, rfl⟩ := Option.map_eq_some_iff.mp e
        obtain ⟨b, vs, rfl, h, r⟩ := h1.lst
        have ev := bls_of r e1
        subst ev
        exact cr_any F.calm pins s σ H _ us Q I rs ⟨b, bs, rfl, SqL.of h, q _ _ (Same.refl _) rn_bl⟩
      | _ => simp [biD] at e
  | [], _, e => simp [biD] at e
  | _ :: _ :: _, _, e => simp [biD] at e
theorem ca_sum (F : Fit X c) : CallR X (.builtin "sum") (rCa c (biD .sum)) := by
  intro pins s σ H xs us Q I rs ⟨g, ds, a, hb, hr, e, q⟩
  match ds, hr, e with
  | [d], hr, e =>
    cases hr with
    | @cons _ x _ _ h1 h2 =>
      cases h2
      cases d with
      | lst zs =>
        simp only [biD] at e
        obtain ⟨bs, e1, rfl⟩ := Option.map_eq_some_iff.mp e
        obtain ⟨b, vs, rfl, h, r⟩ := h1.lst
        have ev := ints_of r e1
        subst ev
        exact cr_sum F.calm pins s σ H _ us Q I rs ⟨b, bs, rfl, SqL.of h, q _ _ (Same.refl _) rn_int⟩
      | _ => simp [biD] at e
  | [], _, e => simp [biD] at e
  | _ :: _ :: _, _, e => simp [biD] at e
theorem maxI_ge : ∀ (is : List Int) (i : Int), i ≤ maxI i is ∧ (∀ j ∈ is, j ≤ maxI i is) ∧ (maxI i is = i ∨ maxI i is ∈ is)
  | [], i => ⟨by simp [maxI], fun _ h => (nomatch h), .inl rfl⟩
  | x :: is, i => by
    rw [maxI]
    split
    · obtain ⟨h1, h2, h3⟩ := maxI_ge is x
      refine ⟨by omega, fun j hj => ?_, ?_⟩
      · rcases List.mem_cons.mp hj with rfl | hj
        · exact h1
        · exact h2 j hj
      · rcases h3 with h3 | h3
        · exact .inr (by rw [h3]; exact List.mem_cons_self)
        · exact .inr (List.mem_cons_of_mem _ h3)
    · obtain ⟨h1, h2, h3⟩ := maxI_ge is i
      refine ⟨h1, fun j hj => ?_, ?_⟩
      · rcases List.mem_cons.mp hj with rfl | hj
        · omega
        · exact h2 j hj
      · exact h3.imp id (List.mem_cons_of_mem _)
theorem minI_le : ∀ (is : List Int) (i : Int), minI i is ≤ i ∧ (∀ j ∈ is, minI i is ≤ j) ∧ (minI i is = i ∨ minI i is ∈ is)
  | [], i => ⟨by simp [minI], fun _ h => (nomatch h), .inl rfl⟩
  | x :: is, i => by
    rw [minI]
    split
    · obtain ⟨h1, h2, h3⟩ := minI_le is x
      refine ⟨by omega, fun j hj => ?_, ?_⟩
      · rcases List.mem_cons.mp hj with rfl | hj
        · exact h1
        · exact h2 j hj
      · rcases h3 with h3 | h3
        · exact .inr (by rw [h3]; exact List.mem_cons_self)
        · exact .inr (List.mem_cons_of_mem _ h3)
    · obtain ⟨h1, h2, h3⟩ := minI_le is i
      refine ⟨h1, fun j hj => ?_, ?_⟩
      · rcases List.mem_cons.mp hj with rfl | hj
        · omega
        · exact h2 j hj
      · exact h3.imp id (List.mem_cons_of_mem _)
theorem ca_max (F : Fit X c) : CallR X (.builtin "max") (rCa c (biD .max)) := by
  intro pins s σ H xs us Q I rs ⟨g, ds, a, hb, hr, e, q⟩
  match ds, hr, e with
  | [.lst zs], hr, e =>
    cases hr with
    | @cons _ x _ _ h1 h2 =>
      cases h2
      simp only [biD] at e
      split at e
      · rename_i i is e1
        simp only [Option.some.injEq] at e
        subst e
        obtain ⟨b, vs, rfl, h, r⟩ := h1.lst
        have ev := ints_of r e1
        subst ev
        refine cr_max F.calm pins s σ H _ us Q I rs ⟨b, i :: is, rfl, SqL.of h, by simp, fun m hm hle => ?_⟩
        obtain ⟨h3, h4, h5⟩ := maxI_ge is i
        have : m = maxI i is := by
          have a1 : maxI i is ≤ m := hle _ (by rcases h5 with h5 | h5 <;> simp [h5])
          have a2 : m ≤ maxI i is := by
            rcases List.mem_cons.mp hm with rfl | hm
            · exact h3
            · exact h4 m hm
          omega
        rw [this]
        exact q _ _ (Same.refl _) rn_int
      · cases e
  | [], _, e => simp [biD] at e
  | [.non], _, e => simp [biD] at e
  | [.bl _], _, e => simp [biD] at e
  | [.int _], _, e => simp [biD] at e
  | [.str _], _, e => simp [biD] at e
  | [.tup _], _, e => simp [biD] at e
  | [.dct _], _, e => simp [biD] at e
  | [.fn _], _, e => simp [biD] at e
  | [.box], _, e => simp [biD] at e
  | x :: y :: z :: r, _, e => simp [biD] at e
  | [x, y], hr, e =>
    cases hr with
    | @cons _ v1 _ _ h1 h2 =>
      cases h2 with
      | @cons _ v2 _ _ h3 h4 =>
        cases h4
        cases x with
        | int i =>
          cases y with
          | int j =>
            simp only [biD, Option.some.injEq] at e
            subst e
            cases h1.int; cases h3.int
            exact call_max2 F.calm pins s σ H _ us Q I rs ⟨i, j, rfl, q _ _ (Same.refl _) rn_int⟩
          | _ => simp [biD] at e
        | _ => cases y <;> simp [biD] at e
theorem ca_min (F : Fit X c) : CallR X (.builtin "min") (rCa c (biD .min)) := by
  intro pins s σ H xs us Q I rs ⟨g, ds, a, hb, hr, e, q⟩
  match ds, hr, e with
  | [.lst zs], hr, e =>
    cases hr with
    | @cons _ x _ _ h1 h2 =>
      cases h2
      simp only [biD] at e
      split at e
      · rename_i i is e1
        simp only [Option.some.injEq] at e
        subst e
        obtain ⟨b, vs, rfl, h, r⟩ := h1.lst
        have ev := ints_of r e1
        subst ev
        refine cr_min F.calm pins s σ H _ us Q I rs ⟨b, i :: is, rfl, SqL.of h, by simp, fun m hm hle => ?_⟩
        obtain ⟨h3, h4, h5⟩ := minI_le is i
        have : m = minI i is := by
          have a1 : m ≤ minI i is := hle _ (by rcases h5 with h5 | h5 <;> simp [h5])
          have a2 : minI i is ≤ m := by
            rcases List.mem_cons.mp hm with rfl | hm
            · exact h3
            · exact h4 m hm
          omega
        rw [this]
        exact q _ _ (Same.refl _) rn_int
      · cases e
  | [], _, e => simp [biD] at e
  | [.non], _, e => simp [biD] at e
  | [.bl _], _, e => simp [biD] at e
  | [.int _], _, e => simp [biD] at e
  | [.str _], _, e => simp [biD] at e
  | [.tup _], _, e => simp [biD] at e
  | [.dct _], _, e => simp [biD] at e
  | [.fn _], _, e => simp [biD] at e
  | [.box], _, e => simp [biD] at e
  | x :: y :: z :: r, _, e => simp [biD] at e
  | [x, y], hr, e =>
    cases hr with
    | @cons _ v1 _ _ h1 h2 =>
      cases h2 with
      | @cons _ v2 _ _ h3 h4 =>
        cases h4
        cases x with
        | int i =>
          cases y with
          | int j =>
            simp only [biD, Option.some.injEq] at e
            subst e
            cases h1.int; cases h3.int
            exact call_min2 F.calm pins s σ H _ us Q I rs ⟨i, j, rfl, q _ _ (Same.refl _) rn_int⟩
          | _ => simp [biD] at e
        | _ => cases y <;> simp [biD] at e
theorem ca_abs : CallR X (.builtin "abs") (rCa c (biD .abs)) := by
  intro pins s σ H xs us Q I rs ⟨g, ds, a, hb, hr, e, q⟩
  match ds, hr, e with
  | [d], hr, e =>
    cases hr with
    | @cons _ x _ _ h1 h2 =>
      cases h2
      cases d with
      | int i =>
        simp only [biD, Option.some.injEq] at e
        subst e
        cases h1.int
        exact call_abs pins s σ H _ us Q I rs ⟨i, rfl, q _ _ (Same.refl _) rn_int⟩
      | _ => simp [biD] at e
  | [], _, e => simp [biD] at e
  | _ :: _ :: _, _, e => simp [biD] at e
theorem ca_int : CallR X (.type "int") (rCa c (biD .int)) := by
  intro pins s σ H xs us Q I rs ⟨g, ds, a, hb, hr, e, q⟩
  match ds, hr, e with
  | [d], hr, e =>
    cases hr with
    | @cons _ x _ _ h1 h2 =>
      cases h2
      cases d with
      | int i =>
        simp only [biD, Option.some.injEq] at e
        subst e
        cases h1.int
        exact call_int1 pins s σ H _ us Q I rs (.inl ⟨i, rfl, q _ _ (Same.refl _) rn_int⟩)
      | _ => simp [biD] at e
  | [], _, e => simp [biD] at e
  | _ :: _ :: _, _, e => simp [biD] at e
end
end Ev
/-! EvC8: isinstance, join, dict(pairs). -/
namespace Ev
open PySem PySem.Spec PyProof.Rows L2
def Ty.nm : Ty → String
  | .tuple => "tuple"
  | .list => "list"
  | .str => "str"
  | .int => "int"
  | .bool => "bool"
def tyD : D → String
  | .non => "NoneType"
  | .bl _ => "bool"
  | .int _ => "int"
  | .str _ => "str"
  | .lst _ => "list"
  | .tup _ => "tuple"
  | .dct _ => "dict"
  | _ => ""
theorem kitB_all (d : D) (t : Ty) (b : Bool) (h : isiD d t = some b) : kitB (tyD d) t.nm = some b := by
  cases d <;> cases t <;> simp only [isiD, Option.some.injEq] at h <;> first | (subst h; simp only [tyD, Ty.nm]; decide +kernel) | cases h
section
variable {X : Cx} {c : Cs}
/-- isinstance(x, t) -/
theorem ca_isi (F : Fit X c) : CallR X (.builtin "isinstance") (fun xs H Q => ∃ b0 B d x t k, xs = [x, .ty (Ty.nm t)] ∧ Rr c b0 B H d x ∧ isiD d t = some k ∧ Q (.bl k) H) := by
  intro pins s σ H xs us Q I rs ⟨b0, B, d, x, t, k, ex, hx, e, q⟩
  subst ex
  obtain ⟨u, u2, rfl, rx, rt⟩ := vals2 rs
  cases (show u2 = Value.type (Ty.nm t) from rt)
  have hk := kit_ty (K := X.K) (kitB_all d t k e)
  have fin : ∀ tk, EP X pins σ Q (.bool k) { s with toks := tk } := fun tk => ⟨.bl k, H, I.tok tk, rfl, q⟩
  cases d with
  | non => cases hx.non; cases rx; exact PySem.W.kia_one PySem.W.kitx_none I.kIn True.intro hk (fun z => nomatch z) fin
  | bl b => cases hx.bl; cases rx; exact PySem.W.kia_one PySem.W.kitx_bool I.kIn True.intro hk (fun z => nomatch z) fin
  | int b => cases hx.int; obtain ⟨t, rfl⟩ := rx; exact PySem.W.kia_one PySem.W.kitx_int I.kIn True.intro hk (fun z => nomatch z) fin
  | str b => cases hx.str; obtain ⟨t, rfl⟩ := rx; exact PySem.W.kia_one PySem.W.kitx_str I.kIn True.intro hk (fun z => nomatch z) fin
  | lst b =>
    obtain ⟨a, vs, rfl, h, _⟩ := hx.lst
    cases rx
    obtain ⟨its, _, pl, _⟩ := I.list (SqL.of h)
    obtain ⟨o, ho, hc, _⟩ := pl.isList
    exact PySem.W.kia_one PySem.W.kitx_list I.kIn ⟨o, ho, hc⟩ hk (fun z => nomatch z) fin
  | tup b =>
    obtain ⟨a, vs, rfl, h, _⟩ := hx.tup
    cases rx
    obtain ⟨its, _, ⟨o, ho, hc, _⟩, _⟩ := I.tuple (h.at F.K)
    exact PySem.W.kia_one PySem.W.kitx_tuple I.kIn ⟨o, ho, hc⟩ hk (fun z => nomatch z) fin
  | dct b =>
    obtain ⟨a, rfl, _, _, dh⟩ := dct_heap F I hx
    cases rx
    obtain ⟨es, ep, ⟨o, ho, hc, _⟩, _⟩ := dh.raw
    exact PySem.W.kia_one PySem.W.kitx_dict I.kIn ⟨o, ho, hc.1⟩ hk (fun z => nomatch z) fin
  | _ => simp [isiD] at e
/-! ### join -/
theorem toStr_join (sep : List Nat) : ∀ ss : List (List Nat), Txt.join (toStr sep) (ss.map toStr) = toStr (joinS sep ss)
  | [] => by exact PySem.StrLaws.glued_eq_join _ _
  | [x] => by exact PySem.StrLaws.glued_eq_join _ _
  | x :: y :: r => by
    have ih := toStr_join sep (y :: r)
    have je : ∀ p, Txt.join (toStr sep) p = Str.join (toStr sep) p := fun p => PySem.StrLaws.glued_eq_join _ p
    rw [je] at ih ⊢
    have e : Str.join (toStr sep) ((x :: y :: r).map toStr) = toStr x ++ toStr sep ++ Str.join (toStr sep) ((y :: r).map toStr) := rfl
    rw [e, ih, toStr_app, toStr_app]
    rfl
theorem mt_joinD (F : Fit X c) : MtR X "str.join" (fun x xs H Q => ∃ b0 B sep zs y ss, x = .str (toStr sep) ∧ xs = [y] ∧ Rr c b0 B H (.lst zs) y ∧ strsD zs = some ss ∧ (ss.map (·.length)).sum + ss.length * sep.length ≤ line ∧ Q (.str (toStr (joinS sep ss))) H) := by
  intro pins s σ H x xs v us Q I rx rs ⟨b0, B, sep, zs, y, ss, ex, ey, hy, e, hz, q⟩
  subst ex ey
  obtain ⟨a, vs, rfl, h, r⟩ := hy.lst
  have ev := strs_of r e
  subst ev
  refine mt_join pins s σ H _ _ v us Q I rx rs ⟨toStr sep, a, ss.map toStr, rfl, rfl, .inl (SqL.of h), ?_, by rw [toStr_join]; exact q⟩
  rw [List.length_map, List.map_map, toStr_len]
  have : (ss.map ((fun z : Str => z.length) ∘ toStr)) = ss.map (·.length) := List.map_congr_left fun z _ => toStr_len z
  rw [this]
  exact hz
/-! ### dict(pairs) -/
/-- a pair of the row, as the heap has it -/
def PairP (c : Cs) (b0 : Addr) (B : Addr → Prop) (H : Hp) (h : Heap) : D × D → Addr × Value × Value → Prop := fun p t => h.IsTuple t.1 #[t.2.1, t.2.2] ∧ ∃ k v, Rz c b0 B H p.1 k ∧ RelV k t.2.1 ∧ Rz c b0 B H p.2 v ∧ RelV v t.2.2
theorem pairs_at (F : Fit X c) {pins : List (Addr × Obj)} {s : Shared} {σ : L2.St} {H : Hp} (I : Inv X pins σ H s) {b0 : Addr} {B : Addr → Prop} : ∀ {ds : List D} {vs : List V} {us : List Value} {ps : List (D × D)}, Rzs c b0 B H ds vs → Vals vs us → pairsD ds = some ps →
    ∃ ts : List (Addr × Value × Value), us = ts.map (fun t => .ref t.1) ∧ Paired (PairP c b0 B H s.heap) ps ts
  | [], _, _, ps, r, rv, e => by
    rw [Rzs] at r
    subst r
    cases rv
    simp only [pairsD, Option.some.injEq] at e
    subst e
    exact ⟨[], rfl, .nil⟩
  | d :: ds, _, _, ps, r, rv, e => by
    rw [Rzs] at r
    obtain ⟨v, q, rfl, r1, r2⟩ := r
    cases rv with
    | cons k1 k2 =>
      match d, r1, e with
      | .tup [x, y], r1, e =>
        simp only [pairsD] at e
        obtain ⟨qs, e1, rfl⟩ := Option.map_eq_some_iff.mp e
        obtain ⟨ts, h1, h2⟩ := pairs_at F I r2 k2 e1
        rw [Rz] at r1
        obtain ⟨a, vs, rfl, pl, rs⟩ := r1
        cases k1
        obtain ⟨its, rr, ⟨o, ho, hc, n, hd⟩, _⟩ := I.tuple (pl.at F.K)
        rw [Rzs] at rs
        obtain ⟨xv, xq, rfl, x1, rs⟩ := rs
        rw [Rzs] at rs
        obtain ⟨yv, yq, rfl, y1, rs⟩ := rs
        rw [Rzs] at rs
        subst rs
        obtain ⟨xu, yu, rfl, xr, yr⟩ := vals2 rr
        exact ⟨(a, xu, yu) :: ts, by rw [h1]; rfl, .cons ⟨⟨o, ho, hc, n, hd⟩, xv, yv, x1, xr, y1, yr⟩ h2⟩
      | .non, _, e => simp [pairsD] at e
      | .bl _, _, e => simp [pairsD] at e
      | .int _, _, e => simp [pairsD] at e
      | .str _, _, e => simp [pairsD] at e
      | .lst _, _, e => simp [pairsD] at e
      | .dct _, _, e => simp [pairsD] at e
      | .fn _, _, e => simp [pairsD] at e
      | .box, _, e => simp [pairsD] at e
      | .tup [], _, e => simp [pairsD] at e
      | .tup [_], _, e => simp [pairsD] at e
      | .tup (_ :: _ :: _ :: _), _, e => simp [pairsD] at e
theorem Paired.get {α β : Type} {R : α → β → Prop} : ∀ {xs : List α} {ys : List β}, Paired R xs ys → ∀ {i : Nat} {y : β}, ys[i]? = some y → ∃ x, xs[i]? = some x ∧ R x y
  | _, _, .nil, _, _, h => by simp at h
  | _, _, .cons r t, 0, y, h => by simp at h; subst h; exact ⟨_, rfl, r⟩
  | _, _, .cons r t, i + 1, y, h => by
    obtain ⟨x, h1, h2⟩ := Paired.get t (i := i) (y := y) (by simpa using h)
    exact ⟨x, by simpa using h1, h2⟩
theorem pair_items {h : Heap} {b0 : Addr} {B : Addr → Prop} {H : Hp} {ps : List (D × D)} {ts : List (Addr × Value × Value)} (p : Paired (PairP c b0 B H h) ps ts) :
    PairItems h (ts.map (fun t => Value.ref t.1)).toArray (fun j => ((ts[j]?).map (·.1)).getD 0) (ts.map (·.2)) := by
  refine ⟨by simp, fun j k v hj => ?_⟩
  rw [List.getElem?_map] at hj
  obtain ⟨t, ht, e⟩ := Option.map_eq_some_iff.mp hj
  obtain ⟨q, _, hq, _⟩ := Paired.get p ht
  refine ⟨by simp [ht], .inl ?_⟩
  show h.IsTuple (((ts[j]?).map (·.1)).getD 0) #[k, v]
  rw [ht]
  have e1 : t.2.1 = k := congrArg (·.1) e
  have e2 : t.2.2 = v := congrArg (·.2) e
  rw [← e1, ← e2]
  exact hq
theorem stK_nodup {κ : Type} [DecidableEq κ] (k : κ) (v : V) : ∀ {kk : List (κ × V)}, (kk.map (·.1)).Nodup → ((stK k v kk).map (·.1)).Nodup ∧ ∀ x ∈ (stK k v kk).map (·.1), x = k ∨ x ∈ kk.map (·.1)
  | [], _ => ⟨by simp [stK], fun x hx => by simpa [stK] using hx⟩
  | p :: r, h => by
    rw [List.map_cons, List.nodup_cons] at h
    rw [stK]
    split
    · rename_i e
      refine ⟨by rw [List.map_cons, List.nodup_cons]; exact h, fun x hx => .inr hx⟩
    · rename_i e
      obtain ⟨i1, i2⟩ := stK_nodup k v h.2
      refine ⟨?_, fun x hx => ?_⟩
      · rw [List.map_cons, List.nodup_cons]
        refine ⟨fun hm => ?_, i1⟩
        rcases i2 _ hm with z | z
        · exact e z
        · exact h.1 z
      · rw [List.map_cons] at hx
        rcases List.mem_cons.mp hx with rfl | hx
        · exact .inr List.mem_cons_self
        · exact (i2 x hx).imp id (List.mem_cons_of_mem _)
theorem stX_nodup {κ β : Type} [DecidableEq κ] (k : κ) (b : Addr) (v : β) : ∀ {kk : List (κ × Addr × β)}, (kk.map (·.1)).Nodup → ((stX k b v kk).map (·.1)).Nodup ∧ ∀ x ∈ (stX k b v kk).map (·.1), x = k ∨ x ∈ kk.map (·.1)
  | [], _ => ⟨by simp [stX], fun x hx => by simpa [stX] using hx⟩
  | p :: r, h => by
    rw [List.map_cons, List.nodup_cons] at h
    rw [stX]
    split
    · rename_i e
      refine ⟨by rw [List.map_cons, List.nodup_cons]; exact h, fun x hx => .inr hx⟩
    · rename_i e
      obtain ⟨i1, i2⟩ := stX_nodup k b v h.2
      refine ⟨?_, fun x hx => ?_⟩
      · rw [List.map_cons, List.nodup_cons]
        refine ⟨fun hm => ?_, i1⟩
        rcases i2 _ hm with z | z
        · exact e z
        · exact h.1 z
      · rw [List.map_cons] at hx
        rcases List.mem_cons.mp hx with rfl | hx
        · exact .inr List.mem_cons_self
        · exact (i2 x hx).imp id (List.mem_cons_of_mem _)
/-- all of them put, ints and texts -/
theorem puts_leaf {b0 : Addr} {B : Addr → Prop} {H : Hp} {h : Heap} : ∀ {ps : List (D × D)} {ts : List (Addr × Value × Value)} {kvs : List (D × D)} {kk : List (Key × V)}, Paired (PairP c b0 B H h) ps ts → (∀ p ∈ ps, p.1.leaf = true) → Rzd c b0 B H kvs (kk.map (fun p => (kV p.1, p.2))) → (∀ p ∈ kvs, p.1.leaf = true) → (kk.map (·.1)).Nodup →
    ∃ more : List (Key × V), KV more ((ps.zip ts).map fun z => (toK z.1.1, z.2.2.2)) ∧ Rzd c b0 B H (ps.foldl (fun acc p => putD p.1 p.2 acc) kvs) ((mergeK kk more).map (fun p => (kV p.1, p.2))) ∧ (∀ p ∈ ps.foldl (fun acc p => putD p.1 p.2 acc) kvs, p.1.leaf = true)
  | _, _, kvs, kk, .nil, _, r, hl, _ => ⟨[], .nil, r, hl⟩
  | _, _, kvs, kk, .cons (a := p) (b := t) h tl, hk, r, hl, nd => by
    obtain ⟨_, k, v, r1, r2, r3, r4⟩ := h
    obtain ⟨i1, i2⟩ := put_leaf (hk p List.mem_cons_self) r1 r3 r hl
    obtain ⟨more, m1, m2, m3⟩ := puts_leaf tl (fun z hz => hk z (List.mem_cons_of_mem _ hz)) i1 i2 (stK_nodup _ _ nd).1
    refine ⟨(toK p.1, v) :: more, .cons ⟨rfl, r4⟩ m1, ?_, m3⟩
    have e : mergeK kk ((toK p.1, v) :: more) = mergeK (putK kk (toK p.1) v) more := rfl
    rw [e, stK_putK nd]
    exact m2
theorem puts_tup {b0 : Addr} {B : Addr → Prop} {H : Hp} {h : Heap} : ∀ {ps : List (D × D)} {ts : List (Addr × Value × Value)} {kvs : List (D × D)} {xs : List (NestedKey × Addr × V)} {ys : List (NestedKey × Addr × Value)}, Paired (PairP c b0 B H h) ps ts → (∀ p ∈ ps, p.1.tkey = true) → Rzd c b0 B H kvs (xs.map (fun x => (.ref x.2.1, x.2.2))) → xs.map (·.1) = kvs.map (fun p => toKey p.1) → (∀ p ∈ kvs, p.1.tkey = true) → Paired PairX xs ys → (ys.map (·.1)).Nodup →
    ∃ (xs' : List (NestedKey × Addr × V)) (more : List (NestedKey × Addr × Value)), Paired (fun p (m : NestedKey × Addr × Value) => m.1 = toKey p.1 ∧ Rz c b0 B H p.1 (.ref m.2.1)) ps more ∧ Paired (fun (t : Addr × Value × Value) (m : NestedKey × Addr × Value) => t.2.1 = .ref m.2.1 ∧ t.2.2 = m.2.2) ts more ∧
      Rzd c b0 B H (ps.foldl (fun acc p => putD p.1 p.2 acc) kvs) (xs'.map (fun x => (.ref x.2.1, x.2.2))) ∧ xs'.map (·.1) = (ps.foldl (fun acc p => putD p.1 p.2 acc) kvs).map (fun p => toKey p.1) ∧ (∀ p ∈ ps.foldl (fun acc p => putD p.1 p.2 acc) kvs, p.1.tkey = true) ∧ Paired PairX xs' (storedAllH ys more)
  | _, _, kvs, xs, ys, .nil, _, r, ek, hl, px, _ => ⟨xs, [], .nil, .nil, r, ek, hl, px⟩
  | _, _, kvs, xs, ys, .cons (a := p) (b := t) h tl, hk, r, ek, hl, px, nd => by
    obtain ⟨_, k, v, r1, r2, r3, r4⟩ := h
    obtain ⟨b, eb⟩ : ∃ b, k = .ref b := by
      obtain ⟨_, ds, e⟩ := tkey_nest (hk p List.mem_cons_self)
      rw [e, Rz] at r1
      obtain ⟨a, _, e2, _⟩ := r1
      exact ⟨a, e2⟩
    subst eb
    obtain ⟨i1, i2, i3⟩ := put_tup (hk p List.mem_cons_self) r1 r3 r ek hl
    obtain ⟨xs', more, m1, m2, m3, m4, m5, m6⟩ := puts_tup tl (fun z hz => hk z (List.mem_cons_of_mem _ hz)) i1 i2 i3 (stX_pair (k := toKey p.1) (b := b) r4 px) (stX_nodup _ _ _ nd).1
    refine ⟨xs', (toKey p.1, b, t.2.2) :: more, .cons ⟨rfl, r1⟩ m1, .cons ⟨r2, rfl⟩ m2, m3, m4, m5, ?_⟩
    have e : storedAllH ys ((toKey p.1, b, t.2.2) :: more) = storedAllH (storedH ys (toKey p.1) b t.2.2) more := rfl
    rw [e, stX_storedH nd]
    exact m6
theorem foldl_len : ∀ (ps kvs : List (D × D)), (ps.foldl (fun acc p => putD p.1 p.2 acc) kvs).length ≤ kvs.length + ps.length
  | [], kvs => by simp
  | p :: ps, kvs => by
    have h1 := foldl_len ps (putD p.1 p.2 kvs)
    have h2 := putD_len p.1 p.2 kvs
    rw [List.foldl_cons, List.length_cons]
    omega
theorem foldl_ne {ps : List (D × D)} (h : ps ≠ []) : ps.foldl (fun acc p => putD p.1 p.2 acc) [] ≠ [] := by
  have : ∀ (ps kvs : List (D × D)), kvs ≠ [] → ps.foldl (fun acc p => putD p.1 p.2 acc) kvs ≠ [] := by
    intro ps
    induction ps with
    | nil => intro kvs h; exact h
    | cons p ps ih => intro kvs h; exact ih _ (putD_ne _ _ _)
  cases ps with
  | nil => exact absurd rfl h
  | cons p ps => exact this ps _ (putD_ne _ _ _)
/-- a new dict, laid -/
theorem dct_new (F : Fit X c) {g : Gh} (hb : Bars g) {pins : List (Addr × Obj)} {s : Shared} {σ : L2.St} {H : Hp} (I : Inv X pins σ H s) {T : String} {arg : Addr} {fp : List Addr} {OK : Heap → Prop} {ps : List (D × D)} {ts : List (Addr × Value × Value)} (pp : Paired (PairP c g.b0 g.B H s.heap) ps ts)
    (P : PairArg X.prog X.w T arg fp [] (ts.map (·.2)).length (PairRel (ts.map (·.2))) OK) (ok : OK s.heap) {kvs : List (D × D)} (e : mkD ps = some kvs) {Q : VK} (q : ∀ v H', Same H H' → Rn c g H H' (fr (.dct kvs)) v → Q v H') :
    wpAny (model X.prog X.w) X.A (call (.type "dict") [.ref arg]) (EP X pins σ Q) X.xe s := by
  unfold mkD at e
  split at e
  · rename_i hh
    simp only [Option.some.injEq] at e
    subst e
    simp only [Bool.and_eq_true, Bool.or_eq_true, List.all_eq_true, decide_eq_true_eq] at hh
    obtain ⟨hk, hz⟩ := hh
    rw [line_eq] at hz
    have hlt := Paired.length pp
    have hp : H s.heap.objs.size = none := I.hok.fresh (Nat.le_refl _)
    have hS : (s.heap.objs.size == sysModules) = false := beq_eq_false_iff_ne.mpr (Nat.ne_of_gt I.big)
    have hzk : (ps.foldl (fun acc p => putD p.1 p.2 acc) []).length ≤ sizeLine := by
      have := foldl_len ps []
      simp only [List.length_nil] at this
      omega
    by_cases hleaf : ∀ p ∈ ps, p.1.leaf = true
    · obtain ⟨more, m1, m2, m3⟩ := puts_leaf (kvs := []) (kk := []) pp hleaf (by rw [List.map_nil, Rzd]) (fun _ z => nomatch z) List.nodup_nil
      refine call_dict_pairs P (knd := mixKind X.prog X.w) (kvs := (ps.zip ts).map fun z => (toK z.1.1, z.2.2.2)) (I.ok.hd F.calm) ok ⟨by simp [hlt], fun i key v hr => ?_⟩ (by rw [List.length_map]; omega) fun h2 tk hd kp => ?_
      · have hr2 : (ts.map (·.2))[i]? = some (key, v) := hr
        rw [List.getElem?_map] at hr2
        obtain ⟨t, ht, et⟩ := Option.map_eq_some_iff.mp hr2
        obtain ⟨p, hpi, _, k, v2, r1, r2, _, _⟩ := Paired.get pp ht
        have e1 : t.2.1 = key := congrArg (·.1) et
        have e2 : t.2.2 = v := congrArg (·.2) et
        refine ⟨toK p.1, ?_, ?_⟩
        · have hz2 : (ps.zip ts)[i]? = some (p, t) := List.getElem?_zip_eq_some.mpr ⟨hpi, ht⟩
          rw [List.getElem?_map, hz2, ← e2]
          rfl
        · rw [← e1]
          exact leaf_is (hleaf p (List.mem_of_getElem? hpi)) (.inl r1) r2
      · have kp2 : ∀ b o, s.heap.get? b = some o → h2.get? b = some o := fun b o eo => kp b o (fun z => nomatch z) eo
        have rel := KV.merge m1 (kvs := []) (vs := []) .nil
        have hl2 : (mergeK [] more).length ≤ sizeLine := by
          have := Rzd.length m2
          rw [List.length_map] at this
          omega
        refine ⟨.ref s.heap.objs.size, upd H s.heap.objs.size (.dK (mergeK [] more)), I.laid (t' := tk) kp2 (Nat.le_refl _) (show ObjOk X.prog X.w _ _ _ (.dK (mergeK [] more)) from ⟨hl2, hS, _, rel, hd⟩), rfl, q _ _ (same_new hp) ⟨_, rfl, hp, _, hS, hzk, .inl ⟨_, upd_same, rfl, m3⟩, ?_⟩⟩
        exact (m2.bar fun a ha z => z.elim id fun ez => absurd (ez ▸ hp) ha).keep ((Sm.of_same (g := g.plus s.heap.objs.size) (same_new hp)).sb (hb.plus _))
    · have hne : ps ≠ [] := fun z => hleaf (by rw [z]; exact fun _ y => nomatch y)
      have htk : ∀ p ∈ ps, p.1.tkey = true := by
        rcases hk with hk | hk
        · exact absurd hk hleaf
        · exact hk
      obtain ⟨xs, more, m1, m2, m3, m4, m5, m6⟩ := puts_tup (kvs := []) (xs := []) (ys := []) pp htk (by rw [List.map_nil, Rzd]) rfl (fun _ z => nomatch z) .nil List.nodup_nil
      have his : ∀ h2 : Heap, (∀ b o, s.heap.get? b = some o → h2.get? b = some o) → ∀ x ∈ more, (nestedKind X.prog X.w).is h2 x.1 x.2.1 := fun h2 kp x hx => by
        obtain ⟨p, hpm, e1, e2⟩ := Paired.mem m1 x hx
        have hn := (tkey_nest (htk p hpm)).1
        have := Rz.nested F I 8 hn e2 (u := .ref x.2.1) rfl
        exact ⟨by rw [e1]; exact NestedIs.at (fun a o vs n h1 _ => kp a o h1) _ _ this, by rw [e1]; exact nest_depth 8 _ hn⟩
      refine call_dict_pairsH P (knd := nestedKind X.prog X.w) (ps := more) (I.ok.hd F.calm) (by have := F.un; show X.A.units + 1 + 1 + 8 < cLine; omega) ok ⟨by rw [← Paired.length m2, List.length_map], fun i key v hr => ?_⟩ (fun h2 kp x hx => ?_) (by rw [List.length_map]; omega) fun h2 tk hd kp => ?_
      · have hr2 : (ts.map (·.2))[i]? = some (key, v) := hr
        rw [List.getElem?_map] at hr2
        obtain ⟨t, ht, et⟩ := Option.map_eq_some_iff.mp hr2
        have e1 : t.2.1 = key := congrArg (·.1) et
        have e2 : t.2.2 = v := congrArg (·.2) et
        have hi : i < more.length := by rw [← Paired.length m2]; exact (List.getElem?_eq_some_iff.mp ht).1
        obtain ⟨t2, ht2, f1, f2⟩ := Paired.get m2 (List.getElem?_eq_getElem hi)
        rw [ht] at ht2
        cases ht2
        exact ⟨more[i].1, more[i].2.1, by rw [List.getElem?_eq_getElem hi, ← e2, f2], by rw [← e1, f1]⟩
      · exact his h2 (fun b o eo => kp b o (Nat.ne_of_lt (Heap.lt_size eo)) (fun z => nomatch z) eo) x hx
      · have kp2 : ∀ b o, s.heap.get? b = some o → h2.get? b = some o := fun b o eo => kp b o (fun z => nomatch z) eo
        have dt : DctAtT c.w h2 s.heap.objs.size xs := by rw [F.w]; exact dctT_of hd m6
        have he : ∃ o, h2.get? s.heap.objs.size = some o := let ⟨o, _, _, ho, _⟩ := hd; ⟨o, ho⟩
        refine ⟨.ref s.heap.objs.size, upd H s.heap.objs.size (dR c.w s.heap.objs.size xs), I.laid (t' := tk) kp2 (Nat.le_refl _) ⟨dt, he, fun g1 g2 q1 q2 => ?_⟩, rfl, q _ _ (same_new hp) ⟨_, rfl, hp, _, hS, hzk, .inr ⟨_, upd_same, rfl, m4, foldl_ne hne, m5⟩, ?_⟩⟩
        · obtain ⟨o, es, ep, j1, j2⟩ := q1
          exact ⟨o, es, ep, q2 o j1, j2⟩
        · exact (m3.bar fun a ha z => z.elim id fun ez => absurd (ez ▸ hp) ha).keep ((Sm.of_same (g := g.plus s.heap.objs.size) (same_new hp)).sb (hb.plus _))
  · cases e
/-- dict(a row of pairs) -/
theorem ca_dict (F : Fit X c) : CallR X (.type "dict") (rCa c (biD .dict)) := by
  intro pins s σ H xs us Q I rs ⟨g, ds, a, hb, hr, e, q⟩
  match ds, hr, e with
  | [d], hr, e =>
    cases hr with
    | @cons _ x _ _ h1 h2 =>
      cases h2
      cases d with
      | lst zs =>
        simp only [biD] at e
        split at e
        · rename_i ps ep
          obtain ⟨kvs, e1, rfl⟩ := Option.map_eq_some_iff.mp e
          obtain ⟨b, vs, rfl, h, r⟩ := h1.lst
          rw [Vals.ref1 rs]
          obtain ⟨its, v1, pl, hz⟩ := I.list (SqL.of h)
          obtain ⟨ts, et, pp⟩ := pairs_at F I r v1 ep
          subst et
          obtain ⟨o, n, ho, hc, hd, hdat⟩ := pl
          exact dct_new F hb I pp (PairArg.list b _ _ _) ⟨⟨o, n, ho, hc, hd, hdat⟩, pair_items pp⟩ e1 q
        · cases e
      | tup zs =>
        simp only [biD] at e
        split at e
        · rename_i ps ep
          obtain ⟨kvs, e1, rfl⟩ := Option.map_eq_some_iff.mp e
          obtain ⟨b, vs, rfl, h, r⟩ := h1.tup
          rw [Vals.ref1 rs]
          obtain ⟨its, v1, ⟨o, ho, hc, n, hdat⟩, hz⟩ := I.tuple (h.at F.K)
          obtain ⟨ts, et, pp⟩ := pairs_at F I r v1 ep
          subst et
          have hd : o.dict = none := by
            rw [F.K] at h
            rcases h with ⟨o2, h2, d2⟩ | ⟨o2, its2, n2, h2, _, d2, _⟩
            · obtain ⟨e3, _⟩ := (show ObjOk X.prog X.w H s.heap b (.frz o2 (.tup vs)) from I.hok b _ h2)
              rw [ho] at e3
              cases e3
              exact d2
            · have e3 := I.kIn _ _ h2
              rw [ho] at e3
              cases e3
              exact d2
          exact dct_new F hb I pp (PairArg.tuple b _ _ _) ⟨⟨o, n, ho, hc, hd, hdat⟩, pair_items pp⟩ e1 q
        · cases e
      | _ => simp [biD] at e
  | [], _, e => simp [biD] at e
  | _ :: _ :: _, _, e => simp [biD] at e
end
end Ev
/-! EvD1: frames; how the evaluator's runs stand for readings. -/
namespace Ev
open PySem PySem.Spec PyProof.Rows L2
/-! ### runs -/
namespace Tr
variable {α β γ : Type}
theorem All.mono {P Q : α → Prop} : ∀ {t : Tr α}, All t P → (∀ a, P a → Q a) → All t Q
  | .ret a, h, k => k a h
  | .ask m f, h, k => ⟨h.1, fun d hd => All.mono (h.2 d hd) k⟩
  | .stuck, h, _ => h
theorem all_bind {P : β → Prop} : ∀ {t : Tr α} {f : α → Tr β}, All (t.bind f) P ↔ All t (fun a => All (f a) P)
  | .ret a, f => Iff.rfl
  | .ask m k, f => by
    show (0 < m ∧ ∀ d, d < m → All ((k d).bind f) P) ↔ (0 < m ∧ ∀ d, d < m → All (k d) fun a => All (f a) P)
    exact and_congr_right fun _ => forall_congr' fun d => forall_congr' fun _ => all_bind
  | .stuck, f => Iff.rfl
theorem all_ofO {P : α → Prop} {o : Option α} : All (ofO o) P ↔ ∃ a, o = some a ∧ P a := by
  cases o with
  | none => exact ⟨fun h => h.elim, fun ⟨_, h, _⟩ => nomatch h⟩
  | some a => exact ⟨fun h => ⟨a, rfl, h⟩, fun ⟨_, h, k⟩ => by cases h; exact k⟩
theorem all_ret {P : α → Prop} {a : α} : All (.ret a) P ↔ P a := Iff.rfl
theorem bind_assoc {f : α → Tr β} {g : β → Tr γ} : ∀ t : Tr α, (t.bind f).bind g = t.bind fun a => (f a).bind g
  | .ret _ => rfl
  | .ask m k => by
    show Tr.ask m (fun d => ((k d).bind f).bind g) = Tr.ask m fun d => (k d).bind fun a => (f a).bind g
    congr 1
    funext d
    exact bind_assoc (k d)
  | .stuck => rfl
end Tr
open Tr
/-! ### a frame and its slots -/
variable {c : Cs}
def Kd.mine : Kd → Bool
  | .ow => true
  | .lk => true
  | _ => false
/-- a slot's value -/
def SlOk (c : Cs) (g : Gh) (H : Hp) (s : Sl) (v : V) : Prop := match s.k with
  | .cl => Rz c g.b0 g.B H s.d v
  | .br => Rb c g H s.d v
  | .ow => Ro c g H s.d v
  | .lk => Rl c g H s.d v
structure FrOk (c : Cs) (g : Gh) (f : Fm) (σ : L2.St) (H : Hp) : Prop where
  len : f.length = σ.length
  slot : ∀ (i : Nat) (s : Sl), f[i]? = some (some s) → ∃ v, σ[i]? = some (some v) ∧ SlOk c g H s v
  apart : ∀ (i j : Nat) (s t : Sl) (p : Addr), f[i]? = some (some s) → f[j]? = some (some t) → s.k.mine = true → t.k.mine = true → σ[i]? = some (some (.ref p)) → σ[j]? = some (some (.ref p)) → i = j
  box : BoxOk g H
  bars : Bars g
  dom : ∀ a, g.B a → H a ≠ none
  lks : ∀ a, g.L a → g.B a
theorem BoxOk.some {g : Gh} {H : Hp} (h : BoxOk g H) : H g.b0 ≠ none ∧ H g.c0 ≠ none := by
  obtain ⟨_, _, _, h1, h2, _⟩ := h
  exact ⟨by rw [h1]; simp, by rw [h2]; simp⟩
section
variable {g : Gh} {f : Fm} {σ : L2.St} {H H' H1 : Hp} {d : D} {v : V} {p : Addr} {a : A}
theorem DcT.sm (h : Sm g H H') {q : Addr} (hq : q ≠ g.b0 ∧ q ≠ g.c0) {kvs : List (D × D)} {rows : List (V × V)} (r : DcT c (Rd H q) q kvs rows) : DcT c (Rd H' q) q kvs rows := r.imp fun _ _ z => h.rd hq z
theorem DcT.sm' (h : Sm g H H') {q : Addr} (hq : q ≠ g.b0 ∧ q ≠ g.c0) (hB : g.B q) {kvs : List (D × D)} {rows : List (V × V)} (r : DcT c (fun o => H q = some o) q kvs rows) : DcT c (fun o => H' q = some o) q kvs rows := r.imp fun _ _ z => h.own hq hB z
theorem Root.sm (hb : Bars g) (h : Sm g H H') {B : Addr → Prop} (hB : ∀ a, B a → g.B a) (hB' : ∀ a, H a ≠ none → g.B a → B a) (hq : p ≠ g.b0 ∧ p ≠ g.c0) (r : Root c g.b0 B H d p) : Root c g.b0 B H' d p := by
  have hs : Sb B H H' := fun a o e n => (h.sb hb) a o e (n.imp (fun z y => z (hB' a (by rw [e]; simp) y)) id)
  cases d with
  | lst ds =>
    obtain ⟨vs, h1, h2⟩ := r
    exact ⟨vs, h.lst hq h1, h2.keep hs⟩
  | dct kvs =>
    obtain ⟨rows, h1, h2, h3, h4⟩ := r
    exact ⟨rows, h1, h2, h3.sm h hq, h4.keep hs⟩
  | _ => exact r
theorem RootM.sm (hb : Bars g) (h : Sm g H H') (hq : p ≠ g.b0 ∧ p ≠ g.c0) (hp : g.B p) (r : RootM c g.b0 g.B H d p) : RootM c g.b0 g.B H' d p := by
  have hs := h.sb hb
  cases d with
  | lst ds =>
    obtain ⟨vs, h1, h2⟩ := r
    exact ⟨vs, h.own hq hp h1, h2.keep hs⟩
  | dct kvs =>
    obtain ⟨rows, h1, h2, h3, h4⟩ := r
    exact ⟨rows, h1, h2, h3.sm' h hq hp, h4.keep hs⟩
  | _ => exact r
theorem RootM.root {b0 : Addr} {B : Addr → Prop} (r : RootM c b0 B H d p) : Root c b0 B H d p := by
  cases d with
  | lst ds => exact r
  | dct kvs =>
    obtain ⟨rows, h1, h2, h3, h4⟩ := r
    exact ⟨rows, h1, h2, h3.imp fun _ _ z => .inl z, h4⟩
  | _ => exact r
theorem RootM.some {b0 : Addr} {B : Addr → Prop} (r : RootM c b0 B H d p) : ∃ o, H p = some o ∧ Mut (some o) := by
  cases d with
  | lst ds => obtain ⟨vs, h1, _⟩ := r; exact ⟨_, h1, True.intro⟩
  | dct kvs =>
    obtain ⟨rows, _, _, h3, _⟩ := r
    rcases h3 with ⟨kk, h, _⟩ | ⟨xs, h, _⟩
    · exact ⟨_, h, True.intro⟩
    · exact ⟨_, h, True.intro⟩
  | _ => exact r.elim
/-- a root that is not barred is a plain value -/
theorem RootM.rz {b0 : Addr} {B B' : Addr → Prop} (nb : ¬ B p) (hB : ∀ a, H a ≠ none → B a → B' a) (r : RootM c b0 B' H d p) : Rz c b0 B H d (.ref p) := by
  cases d with
  | lst ds =>
    obtain ⟨vs, h1, h2⟩ := r
    rw [Rz]
    exact ⟨p, vs, rfl, nb, h1, h2.bar hB⟩
  | dct kvs =>
    obtain ⟨rows, h1, h2, h3, h4⟩ := r
    rw [Rz]
    exact ⟨p, rows, rfl, ⟨h1, h2, .inl ⟨nb, h3.imp fun _ _ z => .inl z⟩⟩, h4.bar hB⟩
  | _ => exact r.elim
theorem Rw.sm (hb : Bars g) (h : Sm g H H') (r : Rw c g H d v) : Rw c g H' d v := by
  rcases r with r | ⟨p, e, h1, h2, h3, r⟩
  · exact .inl (r.mono hb h)
  · exact .inr ⟨p, e, h1, h2, h3, r.sm hb h (fun _ z => z) (fun _ _ z => z) ⟨h2, h3⟩⟩
theorem Rb.rw (r : Rb c g H d v) : Rw c g H d v := by
  rcases r with r | ⟨p, e, h1, _, h2, h3, r⟩
  · exact .inl r
  · exact .inr ⟨p, e, h1, h2, h3, r⟩
theorem Ro.rw (r : Ro c g H d v) : Rw c g H d v := by
  obtain ⟨p, e, h1, _, h2, h3, r⟩ := r
  exact .inr ⟨p, e, h1, h2, h3, r.root⟩
theorem Rl.rw (r : Rl c g H d v) : Rw c g H d v := by
  obtain ⟨p, e, h1, _, h2, h3, r⟩ := r
  exact .inr ⟨p, e, h1, h2, h3, r.root⟩
theorem Rb.rk (r : Rb c g H d v) : Rk c g H d v := by
  rcases r with r | ⟨p, e, h1, h4, h2, h3, r⟩
  · exact .inl r
  · exact .inr ⟨p, e, h1, fun z => absurd z h4, h2, h3, r⟩
theorem Rl.rk (r : Rl c g H d v) : Rk c g H d v := by
  obtain ⟨p, e, h1, h4, h2, h3, r⟩ := r
  exact .inr ⟨p, e, h1, fun _ => h4.2, h2, h3, r.root⟩
theorem Rk.rw (r : Rk c g H d v) : Rw c g H d v := by
  rcases r with r | ⟨p, e, h1, _, h2, h3, r⟩
  · exact .inl r
  · exact .inr ⟨p, e, h1, h2, h3, r⟩
theorem Rk.sm (hb : Bars g) (h : Sm g H H') (r : Rk c g H d v) : Rk c g H' d v := by
  rcases r with r | ⟨p, e, h1, h4, h2, h3, r⟩
  · exact .inl (r.mono hb h)
  · exact .inr ⟨p, e, h1, h4, h2, h3, r.sm hb h (fun _ z => z) (fun _ _ z => z) ⟨h2, h3⟩⟩
theorem Rl.sm (hb : Bars g) (h : Sm g H H') (r : Rl c g H d v) : Rl c g H' d v := by
  obtain ⟨p, e, h1, h4, h2, h3, r⟩ := r
  exact ⟨p, e, h1, h4, h2, h3, r.sm hb h ⟨h2, h3⟩ h1⟩
theorem Rb.sm (hb : Bars g) (h : Sm g H H') (r : Rb c g H d v) : Rb c g H' d v := by
  rcases r with r | ⟨p, e, h1, h4, h2, h3, r⟩
  · exact .inl (r.mono hb h)
  · exact .inr ⟨p, e, h1, h4, h2, h3, r.sm hb h (fun _ z => z) (fun _ _ z => z) ⟨h2, h3⟩⟩
theorem Ro.sm (hb : Bars g) (h : Sm g H H') (r : Ro c g H d v) : Ro c g H' d v := by
  obtain ⟨p, e, h1, h4, h2, h3, r⟩ := r
  exact ⟨p, e, h1, h4, h2, h3, r.sm hb h ⟨h2, h3⟩ h1⟩
theorem Rw.rr (r : Rw c g H d v) : Rr c g.b0 g.B H d v := by
  rcases r with r | ⟨p, e, _, _, _, r⟩
  · exact .inl r
  · exact .inr ⟨p, e, r⟩
theorem SlOk.sm (hb : Bars g) (h : Sm g H H') {s : Sl} (r : SlOk c g H s v) : SlOk c g H' s v := by
  unfold SlOk at r ⊢
  cases hk : s.k with
  | cl => rw [hk] at r; exact Rz.mono hb h r
  | br => rw [hk] at r; exact Rb.sm hb h r
  | ow => rw [hk] at r; exact Ro.sm hb h r
  | lk => rw [hk] at r; exact Rl.sm hb h r
/-- all stays as it was -/
theorem FrOk.sm (F : FrOk c g f σ H) (h : Sm g H H') (hx : BoxOk g H') : FrOk c g f σ H' where
  len := F.len
  slot := fun i s e => let ⟨v, h1, h2⟩ := F.slot i s e; ⟨v, h1, h2.sm F.bars h⟩
  apart := F.apart
  box := hx
  bars := F.bars
  dom := fun a ha => h.some hx.some (F.dom a ha)
  lks := F.lks
theorem BoxOk.plus (h : BoxOk g H) : BoxOk (g.plus p) H := h
theorem Rz.plus (hp : H p = none) (r : Rz c g.b0 g.B H d v) : Rz c g.b0 (g.plus p).B H d v := r.bar fun a ha z => z.elim id fun e => absurd (e ▸ hp) ha
theorem Rzs.plusG (hp : H p = none) {ds : List D} {vs : List V} (r : Rzs c g.b0 g.B H ds vs) : Rzs c g.b0 (g.plus p).B H ds vs := r.bar fun a ha z => z.elim id fun e => absurd (e ▸ hp) ha
theorem Rzd.plusG (hp : H p = none) {ds : List (D × D)} {vs : List (V × V)} (r : Rzd c g.b0 g.B H ds vs) : Rzd c g.b0 (g.plus p).B H ds vs := r.bar fun a ha z => z.elim id fun e => absurd (e ▸ hp) ha
theorem Root.plus (hp : H p = none) {q : Addr} (r : Root c g.b0 g.B H d q) : Root c g.b0 (g.plus p).B H d q := by
  cases d with
  | lst ds => obtain ⟨vs, h1, h2⟩ := r; exact ⟨vs, h1, h2.plusG hp⟩
  | dct kvs => obtain ⟨rows, h1, h2, h3, h4⟩ := r; exact ⟨rows, h1, h2, h3, h4.plusG hp⟩
  | _ => exact r
theorem RootM.plus (hp : H p = none) {q : Addr} (r : RootM c g.b0 g.B H d q) : RootM c g.b0 (g.plus p).B H d q := by
  cases d with
  | lst ds => obtain ⟨vs, h1, h2⟩ := r; exact ⟨vs, h1, h2.plusG hp⟩
  | dct kvs => obtain ⟨rows, h1, h2, h3, h4⟩ := r; exact ⟨rows, h1, h2, h3, h4.plusG hp⟩
  | _ => exact r
theorem Rw.plus (hp : H p = none) (r : Rw c g H d v) : Rw c (g.plus p) H d v := by
  rcases r with r | ⟨q, e, h1, h2, h3, r⟩
  · exact .inl (r.plus hp)
  · exact .inr ⟨q, e, .inl h1, h2, h3, r.plus hp⟩
theorem Rb.plus (hp : H p = none) (r : Rb c g H d v) : Rb c (g.plus p) H d v := by
  rcases r with r | ⟨q, e, h1, h4, h2, h3, r⟩
  · exact .inl (r.plus hp)
  · exact .inr ⟨q, e, .inl h1, h4, h2, h3, r.plus hp⟩
theorem Ro.plus (hp : H p = none) (r : Ro c g H d v) : Ro c (g.plus p) H d v := by
  obtain ⟨q, e, h1, h4, h2, h3, r⟩ := r
  exact ⟨q, e, .inl h1, h4, h2, h3, r.plus hp⟩
theorem SlOk.plus (hp : H p = none) {s : Sl} (r : SlOk c g H s v) : SlOk c (g.plus p) H s v := by
  unfold SlOk at r ⊢
  cases hk : s.k with
  | cl => rw [hk] at r; exact Rz.plus hp r
  | br => rw [hk] at r; exact Rb.plus hp r
  | ow => rw [hk] at r; exact Ro.plus hp r
  | lk => rw [hk] at r; obtain ⟨q, e, h1, h4, h2, h3, r⟩ := r; exact ⟨q, e, .inl h1, h4, h2, h3, r.plus hp⟩
/-- what a value's standing says, seen from an earlier state -/
theorem Rn.early (hx : BoxOk g H1) (h : Sm g H H1) (r : Rn c g H1 H' a v) : Rn c g H H' a v := by
  unfold Rn at r ⊢
  cases ht : a.t with
  | cl => rw [ht] at r; exact r
  | br => rw [ht] at r; exact r
  | ow => rw [ht] at r; exact r
  | lk => rw [ht] at r; exact r
  | fr =>
    rw [ht] at r
    obtain ⟨p, e, h1, r⟩ := r
    refine ⟨p, e, ?_, r⟩
    cases q : H p with
    | none => rfl
    | some o => exact absurd h1 (h.some hx.some (by rw [q]; simp))
/-- whatever its standing, it may be read -/
theorem Rn.rw (hd : ∀ a, g.B a → H a ≠ none) (r : Rn c g H H' a v) : Rw c g H' a.d v := by
  unfold Rn at r
  cases ht : a.t with
  | cl => rw [ht] at r; exact .inl r
  | br => rw [ht] at r; exact Rb.rw r
  | ow => rw [ht] at r; exact Ro.rw r
  | lk => rw [ht] at r; exact Rl.rw r
  | fr =>
    rw [ht] at r
    obtain ⟨p, e, h1, r⟩ := r
    subst e
    exact .inl (r.rz (fun z => hd p z h1) fun _ _ z => .inl z)
theorem Rn.rk (hd : ∀ a, g.B a → H a ≠ none) (r : Rn c g H H' a v) (e : a.t ≠ .ow) : Rk c g H' a.d v := by
  unfold Rn at r
  cases ht : a.t with
  | cl => rw [ht] at r; exact .inl r
  | br => rw [ht] at r; exact Rb.rk r
  | ow => exact absurd ht e
  | lk => rw [ht] at r; exact Rl.rk r
  | fr =>
    rw [ht] at r
    obtain ⟨p, e, h1, r⟩ := r
    subst e
    exact .inl (r.rz (fun z => hd p z h1) fun _ _ z => .inl z)
theorem Rn.clean (hd : ∀ a, g.B a → H a ≠ none) (r : Rn c g H H' a v) {d : D} (e : a.clean = some d) : Rz c g.b0 g.B H' d v := by
  unfold A.clean at e
  split at e
  · rename_i ht
    simp only [Option.some.injEq] at e
    subst e
    unfold Rn at r
    rcases ht with ht | ht
    · rw [ht] at r; exact r
    · rw [ht] at r
      obtain ⟨p, e, h1, r⟩ := r
      subst e
      exact r.rz (fun z => hd p z h1) fun _ _ z => .inl z
  · cases e
end
end Ev
/-! EvD2: the evaluator's expressions as readings: names, constants, operators, tests. -/
namespace Ev
open PySem PySem.Spec PyProof.Rows L2
open Tr
/-- a reading may be asked for by a stronger one -/
theorem PE.imp {X : Cx} {e : Expr} {t t' : TE} (h : PE X e t) (i : ∀ σ H Q, t' σ H Q → t σ H Q) : PE X e t' := ⟨fun pins s σ H Q I q => h.run pins s σ H Q I (i σ H Q q)⟩
theorem PT.imp {X : Cx} {e : Expr} {t t' : TT} (h : PT X e t) (i : ∀ σ H Q, t' σ H Q → t σ H Q) : PT X e t' := ⟨fun pins s σ H Q I q => h.run pins s σ H Q I (i σ H Q q)⟩
theorem PW.imp {X : Cx} {e : Expr} {t t' : TT} (h : PW X e t) (i : ∀ σ H Q, t' σ H Q → t σ H Q) : PW X e t' := ⟨fun wh pins s σ H Q I q => h.run wh pins s σ H Q I (i σ H Q q)⟩
theorem PA.imp {X : Cx} {e : List Expr} {t t' : TA} (h : PA X e t) (i : ∀ σ H Q, t' σ H Q → t σ H Q) : PA X e t' := ⟨fun pos pins s σ H Q I q => h.run pos pins s σ H Q I (i σ H Q q)⟩
theorem PO.imp {X : Cx} {e : Option Expr} {t t' : TO} (h : PO X e t) (i : ∀ σ H Q, t' σ H Q → t σ H Q) : PO X e t' := ⟨fun pins s σ H Q I q => h.run pins s σ H Q I (i σ H Q q)⟩
variable {c : Cs}
/-- a frame's run as a reading -/
def tM (c : Cs) (m : Fm → Tr A) : TE := fun σ H Q => ∃ g f, FrOk c g f σ H ∧ All (m f) fun a => ∀ v H', Sm g H H' → BoxOk g H' → Rn c g H H' a v → Q v H'
/-- .. of a test -/
def tB' (c : Cs) (m : Fm → Tr Bool) : TT := fun σ H Q => ∃ g f, FrOk c g f σ H ∧ All (m f) fun a => ∀ H', Sm g H H' → BoxOk g H' → Q a H'
/-- .. of arguments -/
inductive Rns (c : Cs) (g : Gh) (H : Hp) : List A → List V → Prop
  | nil : Rns c g H [] []
  | cons {a : A} {as : List A} {v : V} {vs : List V} : Rw c g H a.d v → (∀ d, a.clean = some d → Rz c g.b0 g.B H d v) → (a.t ≠ .ow → Rk c g H a.d v) → Rns c g H as vs → Rns c g H (a :: as) (v :: vs)
def tAs (c : Cs) (m : Fm → Tr (List A)) : TA := fun σ H Q => ∃ g f, FrOk c g f σ H ∧ All (m f) fun as => ∀ vs H', Sm g H H' → BoxOk g H' → Rns c g H' as vs → Q vs H'
section
variable {g : Gh} {f : Fm} {σ : L2.St} {H H' H1 : Hp} {a : A} {v : V}
theorem Rns.sm (hb : Bars g) (h : Sm g H H') : ∀ {as : List A} {vs : List V}, Rns c g H as vs → Rns c g H' as vs
  | _, _, .nil => .nil
  | _, _, .cons r k z t => .cons (r.sm hb h) (fun d e => (k d e).mono hb h) (fun e => (z e).sm hb h) (Rns.sm hb h t)
theorem Rns.paired : ∀ {as : List A} {vs : List V}, Rns c g H as vs → Paired (Rr c g.b0 g.B H) (as.map A.d) vs
  | _, _, .nil => .nil
  | _, _, .cons r _ _ t => .cons r.rr (Rns.paired t)
theorem Rns.rw : ∀ {as : List A} {vs : List V}, Rns c g H as vs → Paired (Rw c g H) (as.map A.d) vs
  | _, _, .nil => .nil
  | _, _, .cons r _ _ t => .cons r (Rns.rw t)
theorem Rns.rk : ∀ {as : List A} {vs : List V}, Rns c g H as vs → as.all (fun a => decide (a.t ≠ .ow)) = true → Paired (Rk c g H) (as.map A.d) vs
  | _, _, .nil, _ => .nil
  | _, _, .cons r _ z t, h => by
    rw [List.all_cons, Bool.and_eq_true, decide_eq_true_eq] at h
    exact .cons (z h.1) (Rns.rk t h.2)
theorem Rns.clean : ∀ {as : List A} {vs : List V} {ds : List D}, Rns c g H as vs → cleans as = some ds → Rzs c g.b0 g.B H ds vs
  | _, _, ds, .nil, e => by simp only [cleans, Option.some.injEq] at e; subst e; exact .nil
  | _, _, ds, .cons (a := a) (as := as) r k _ t, e => by
    simp only [cleans] at e
    split at e
    · rename_i d ds' e1 e2
      simp only [Option.some.injEq] at e
      subst e
      exact .cons (k d e1) (Rns.clean t e2)
    · cases e
theorem Rns.length : ∀ {as : List A} {vs : List V}, Rns c g H as vs → vs.length = as.length
  | _, _, .nil => rfl
  | _, _, .cons _ _ _ t => by rw [List.length_cons, List.length_cons, Rns.length t]
theorem FrOk.later (F : FrOk c g f σ H) (h : Sm g H H1) (hx : BoxOk g H1) : FrOk c g f σ H1 := F.sm h hx
theorem BoxOk.same (b : BoxOk g H) (h : Same H H') : BoxOk g H' := by
  obtain ⟨cells, x, y, h1, h2, h3⟩ := b
  exact ⟨cells, x, y, h _ _ h1, h _ _ h2, h3⟩
/-- one run behind another -/
theorem tM_bind {m : Fm → Tr A} {k : A → Fm → Tr A} {Q : VK} (F : FrOk c g f σ H) (h : All ((m f).bind fun a => k a f) fun a => ∀ v H', Sm g H H' → BoxOk g H' → Rn c g H H' a v → Q v H') {R : VK}
    (hk : ∀ a x H1, Sm g H H1 → BoxOk g H1 → Rn c g H H1 a x → FrOk c g f σ H1 → All (k a f) (fun b => ∀ v H', Sm g H1 H' → BoxOk g H' → Rn c g H1 H' b v → Q v H') → R x H1) : tM c m σ H R := by
  refine ⟨g, f, F, (all_bind.mp h).mono fun a ha x H1 s1 b1 r1 => hk a x H1 s1 b1 r1 (F.sm s1 b1) (ha.mono fun b hb v H' s2 b2 r2 => hb v H' (s1.trans s2) b2 (r2.early b1 s1))⟩
/-- the end of a run -/
theorem Rn.of_rz {d : D} (r : Rz c g.b0 g.B H' d v) : Rn c g H H' (cl d) v := r
end
theorem get_some {f : Fm} {i : Nat} {s : Sl} (h : f.get i = some s) : f[i]? = some (some s) := by
  unfold Fm.get at h
  split at h
  · rename_i e
    cases h
    exact e
  · cases h
/-! ### operators -/
def opOf : BOp → Operator
  | .add => .Add
  | .sub => .Sub
  | .mul => .Mult
  | .mod => .Mod
  | .fdiv => .FloorDiv
  | .pow => .Pow
  | .shl => .LShift
section
variable {X : Cx}
theorem bin_all (F : Fit X c) : ∀ o : BOp, OpR X (binaryOp (opOf o)) (rB c (binD o))
  | .add => bin_add F
  | .sub => bin_sub
  | .mul => bin_mul F
  | .mod => bin_mod
  | .fdiv => bin_fdiv
  | .pow => bin_pow
  | .shl => bin_shl
theorem iop_all (o : BOp) : True := True.intro
variable {a b : Expr} {ma mb : Fm → Tr A} {pos : Pos}
theorem e_bin (F : Fit X c) (o : BOp) (ha : PE X a (tM c ma)) (hb : PE X b (tM c mb)) : PE X (.BinOp a (opOf o) b pos) (tM c fun f => (ma f).bind fun x => (mb f).bind fun y => ofO (binD o x.d y.d)) := by
  refine PE.imp (pe_op (bin_all F o) ha hb) fun σ H Q ⟨g, f, Fr, h⟩ => ?_
  refine tM_bind (k := fun x f => (mb f).bind fun y => ofO (binD o x.d y.d)) Fr h fun x v H1 s1 b1 r1 F1 h1 => ?_
  refine tM_bind (k := fun y f => ofO (binD o x.d y.d)) F1 h1 fun y w H2 s2 b2 r2 F2 h2 => ?_
  obtain ⟨z, e, q⟩ := all_ofO.mp h2
  exact ⟨g, x.d, y.d, z, Fr.bars, ((r1.rw Fr.dom).sm Fr.bars s2).rr, (r2.rw F1.dom).rr, e, fun v' H' sm rn => q v' H' (.of_same sm) (b2.same sm) rn⟩
/-- neg -/
theorem e_neg (ha : PE X a (tM c ma)) : PE X (.UnaryOp .USub a pos) (tM c fun f => (ma f).bind fun x => match x.d with
    | .int i => .ret (cl (.int (-i)))
    | _ => .stuck) := by
  refine PE.imp (pe_un un_neg ha) fun σ H Q ⟨g, f, Fr, h⟩ => ?_
  refine tM_bind (k := fun x f => match x.d with
    | .int i => .ret (cl (.int (-i)))
    | _ => .stuck) Fr h fun x v H1 s1 b1 r1 F1 h1 => ?_
  cases hd : x.d with
  | int i =>
    rw [hd] at h1
    have r := r1.rw Fr.dom
    rw [hd] at r
    exact ⟨i, r.rr.int, h1 _ _ (.refl _ _) b1 rn_int⟩
  | _ => rw [hd] at h1; exact h1.elim
/-- a name -/
theorem e_var {i : Nat} {x : Str} (hN : X.N[i]? = some x) (hv : Vis X.env.scope x) (hd : (x == ("__debug__" : Str)) = false) (hcd : (x == ("__classdict__" : Str)) = false) : PE X (.Name x pos) (tM c fun f => match f.get i with
    | some s => .ret s.read
    | none => .stuck) := by
  refine PE.imp (pe_var hN hv hd hcd) fun σ H Q ⟨g, f, Fr, h⟩ => ?_
  have h : All (match f.get i with
    | some s => .ret s.read
    | none => .stuck) fun a => ∀ v H', Sm g H H' → BoxOk g H' → Rn c g H H' a v → Q v H' := h
  cases e0 : f.get i with
  | none => rw [e0] at h; exact h.elim
  | some s =>
      rw [e0] at h
      have e := get_some e0
      obtain ⟨v, h1, h2⟩ := Fr.slot i s e
      refine ⟨v, h1, h v H (.refl _ _) Fr.box ?_⟩
      unfold SlOk at h2
      unfold Rn Sl.read
      cases hk : s.k with
      | cl => rw [hk] at h2; exact h2
      | br => rw [hk] at h2; exact h2
      | ow => rw [hk] at h2; exact h2
      | lk => rw [hk] at h2; exact h2
/-- a value that is what it is -/
theorem e_cst {e : Expr} {v : V} {d : D} (h : PE X e (tC v)) (hr : ∀ (g : Gh) H, BoxOk g H → Rz c g.b0 g.B H d v) : PE X e (tM c fun _ => .ret (cl d)) :=
  PE.imp h fun σ H Q ⟨g, f, Fr, h⟩ => h v H (.refl _ _) Fr.box (hr g H Fr.box)
/-! ### tests -/
/-- the truth of a run's value -/
def mT (m : Fm → Tr A) : Fm → Tr Bool := fun f => (m f).bind fun x => boolT x.d
theorem tT_bind {g : Gh} {f : Fm} {σ : L2.St} {H : Hp} {m : Fm → Tr A} {k : A → Fm → Tr Bool} {Q : Bool → Hp → Prop} (F : FrOk c g f σ H) (h : All ((m f).bind fun a => k a f) fun a => ∀ H', Sm g H H' → BoxOk g H' → Q a H') {R : VK}
    (hk : ∀ a x H1, Sm g H H1 → BoxOk g H1 → Rn c g H H1 a x → FrOk c g f σ H1 → All (k a f) (fun b => ∀ H', Sm g H1 H' → BoxOk g H' → Q b H') → R x H1) : tM c m σ H R :=
  ⟨g, f, F, (all_bind.mp h).mono fun a ha x H1 s1 b1 r1 => hk a x H1 s1 b1 r1 (F.sm s1 b1) (ha.mono fun b hb H' s2 b2 => hb H' (s1.trans s2) b2)⟩
theorem tB_bind {g : Gh} {f : Fm} {σ : L2.St} {H : Hp} {m : Fm → Tr Bool} {k : Bool → Fm → Tr Bool} {Q : Bool → Hp → Prop} (F : FrOk c g f σ H) (h : All ((m f).bind fun a => k a f) fun a => ∀ H', Sm g H H' → BoxOk g H' → Q a H') {R : Bool → Hp → Prop}
    (hk : ∀ a H1, Sm g H H1 → BoxOk g H1 → FrOk c g f σ H1 → All (k a f) (fun b => ∀ H', Sm g H1 H' → BoxOk g H' → Q b H') → R a H1) : tB' c m σ H R :=
  ⟨g, f, F, (all_bind.mp h).mono fun a ha H1 s1 b1 => hk a H1 s1 b1 (F.sm s1 b1) (ha.mono fun b hb H' s2 b2 => hb H' (s1.trans s2) b2)⟩
theorem tBM_bind {g : Gh} {f : Fm} {σ : L2.St} {H : Hp} {m : Fm → Tr Bool} {k : Bool → Fm → Tr A} {Q : VK} (F : FrOk c g f σ H) (h : All ((m f).bind fun a => k a f) fun a => ∀ v H', Sm g H H' → BoxOk g H' → Rn c g H H' a v → Q v H') {R : Bool → Hp → Prop}
    (hk : ∀ a H1, Sm g H H1 → BoxOk g H1 → FrOk c g f σ H1 → All (k a f) (fun b => ∀ v H', Sm g H1 H' → BoxOk g H' → Rn c g H1 H' b v → Q v H') → R a H1) : tB' c m σ H R :=
  ⟨g, f, F, (all_bind.mp h).mono fun a ha H1 s1 b1 => hk a H1 s1 b1 (F.sm s1 b1) (ha.mono fun b hb v H' s2 b2 r2 => hb v H' (s1.trans s2) b2 (r2.early b1 s1))⟩
/-- a test by its value's truth -/
theorem t_val (F : Fit X c) {e : Expr} {m : Fm → Tr A} (h : PE X e (tM c m)) (he : ∀ whole, isTrue e X.env whole = (do let v ← whole; standAt e.pos; holding [v] (truthy v))) : PT X e (tB' c (mT m)) := by
  refine ⟨fun pins s σ H Q I ⟨g, f, Fr, hq⟩ => ?_⟩
  have hm : tM c m σ H fun x H1 => ∃ b0 B d k, Rr c b0 B H1 d x ∧ d.truthy = some k ∧ Q k H1 := tT_bind (k := fun x _ => boolT x.d) Fr hq fun a x H1 s1 b1 r1 F1 h1 => by
    obtain ⟨k, e1, q⟩ := all_ofO.mp h1
    exact ⟨g.b0, g.B, a.d, k, (r1.rw Fr.dom).rr, e1, q H1 (.refl _ _) b1⟩
  exact isTrue_plain (thn (h.run pins s σ H _ I hm) fun v s1 ⟨x, H1, I1, r1, q1⟩ => tru_all F pins s1 σ H1 x v Q I1 r1 q1) (he _)
theorem t_not {m : Fm → Tr A} (h : PT X a (tB' c (mT m))) : PT X (.UnaryOp .Not a pos) (tB' c (mT fun f => ((m f).bind fun x => boolT x.d).bind fun b => .ret (cl (.bl (!b))))) := by
  refine PT.imp (pt_not h) fun σ H Q ⟨g, f, Fr, hq⟩ => ?_
  have hq : All ((((m f).bind fun x => boolT x.d).bind fun b => (.ret (cl (.bl (!b))) : Tr A)).bind fun x => boolT x.d) fun a => ∀ H', Sm g H H' → BoxOk g H' → Q a H' := hq
  rw [bind_assoc] at hq
  exact tB_bind (m := mT m) (k := fun b _ => (.ret (cl (.bl (!b))) : Tr A).bind fun x => boolT x.d) Fr hq fun b H1 s1 b1 F1 h1 => h1 H1 (.refl _ _) b1
/-- not, as a value -/
theorem e_not (F : Fit X c) {m : Fm → Tr A} (h : PE X a (tM c m)) : PE X (.UnaryOp .Not a pos) (tM c fun f => ((m f).bind fun x => boolT x.d).bind fun b => .ret (cl (.bl (!b)))) := by
  refine ⟨fun pins s σ H Q I ⟨g, f, Fr, hq⟩ => ?_⟩
  have hq : All (((m f).bind fun x => boolT x.d).bind fun b => (.ret (cl (.bl (!b))) : Tr A)) fun a => ∀ v H', Sm g H H' → BoxOk g H' → Rn c g H H' a v → Q v H' := hq
  rw [bind_assoc] at hq
  have hm : tM c m σ H fun x H1 => ∃ b0 B d k, Rr c b0 B H1 d x ∧ d.truthy = some k ∧ Q (.bl (!k)) H1 := tM_bind (k := fun x _ => (boolT x.d).bind fun b => .ret (cl (.bl (!b)))) Fr hq fun a x H1 s1 b1 r1 F1 h1 => by
    obtain ⟨k, e1, q⟩ := all_ofO.mp (all_bind.mp h1)
    exact ⟨g.b0, g.B, a.d, k, (r1.rw Fr.dom).rr, e1, q (.bl (!k)) H1 (.refl _ _) b1 rn_bl⟩
  refine UnaryOp_ (thn (h.run pins s σ H _ I hm) fun v s1 ⟨x, H1, I1, r1, b0, B, d, k, e1, e2, q⟩ => ?_)
  exact not_of (tru_all F pins s1 σ H1 x v (fun k' H' => k' = k ∧ H' = H1) I1 r1 ⟨b0, B, d, k, e1, e2, rfl, rfl⟩ |> fun w => thn w fun k' s2 ⟨H2, I2, e3, e4⟩ => ⟨.bl (!k), H1, e4 ▸ I2, by rw [e3]; rfl, q⟩)
/-- if .. else, as a value, as a test -/
theorem e_ife {cc aa bb : Expr} {mt : Fm → Tr A} (hc : PT X cc (tB' c (mT mt))) (ha : PE X aa (tM c ma)) (hb : PE X bb (tM c mb)) : PE X (.IfExp cc aa bb pos) (tM c fun f => ((mt f).bind fun x => boolT x.d).bind fun t => if t then ma f else mb f) := by
  refine PE.imp (pe_ifExp hc ha hb) fun σ H Q ⟨g, f, Fr, hq⟩ => ?_
  refine tBM_bind (m := mT mt) (k := fun t f => if t then ma f else mb f) Fr hq fun t H1 s1 b1 F1 h1 => ?_
  cases t with
  | true => exact ⟨g, f, F1, h1⟩
  | false => exact ⟨g, f, F1, h1⟩
theorem t_ife {cc aa bb : Expr} {mt : Fm → Tr A} (hc : PT X cc (tB' c (mT mt))) (ha : PT X aa (tB' c (mT ma))) (hb : PT X bb (tB' c (mT mb))) : PT X (.IfExp cc aa bb pos) (tB' c (mT fun f => ((mt f).bind fun x => boolT x.d).bind fun t => if t then ma f else mb f)) := by
  refine ⟨fun pins s σ H Q I ⟨g, f, Fr, hq⟩ => ?_⟩
  have hq : All ((((mt f).bind fun x => boolT x.d).bind fun t => if t then ma f else mb f).bind fun x => boolT x.d) fun a => ∀ H', Sm g H H' → BoxOk g H' → Q a H' := hq
  rw [bind_assoc] at hq
  have hm : tB' c (mT mt) σ H fun t H1 => if t then tB' c (mT ma) σ H1 Q else tB' c (mT mb) σ H1 Q := tB_bind (k := fun t f => (if t then ma f else mb f).bind fun x => boolT x.d) Fr hq fun t H1 s1 b1 F1 h1 => by
    cases t with
    | true => exact ⟨g, f, F1, h1⟩
    | false => exact ⟨g, f, F1, h1⟩
  show wpAny _ _ (do if ← isTrue cc X.env (eval cc X.env) then isTrue aa X.env (eval aa X.env) else isTrue bb X.env (eval bb X.env)) _ _ _
  refine wpAny_bind (thn (hc.run pins s σ H _ I hm) fun t s1 ⟨H1, I1, q1⟩ => ?_)
  cases t with
  | true => exact ha.run pins s1 σ H1 Q I1 q1
  | false => exact hb.run pins s1 σ H1 Q I1 q1
/-! and, or -/
def mAnd (ma mb : Fm → Tr A) : Fm → Tr A := fun f => (ma f).bind fun x => (boolT x.d).bind fun b => if b then mb f else .ret x
def mOr (ma mb : Fm → Tr A) : Fm → Tr A := fun f => (ma f).bind fun x => (boolT x.d).bind fun b => if b then .ret x else mb f
variable {rest : List Expr}
theorem w_one {op : BoolOp} {m : Fm → Tr A} (ha : PT X a (tB' c (mT m))) : PW X (.BoolOp op [a] pos) (tB' c (mT m)) := by
  cases op with
  | And => exact pw_and1 ha
  | Or => exact pw_or1 ha
theorem w_and (ha : PT X a (tB' c (mT ma))) (hb : PW X (.BoolOp .And (b :: rest) pos) (tB' c (mT mb))) : PW X (.BoolOp .And (a :: b :: rest) pos) (tB' c (mT (mAnd ma mb))) := by
  refine PW.imp (pw_and ha hb) fun σ H Q ⟨g, f, Fr, hq⟩ => ?_
  refine ⟨g, f, Fr, ?_⟩
  have hq := all_bind.mp (all_bind.mp hq)
  refine all_bind.mpr (hq.mono fun x hx => ?_)
  obtain ⟨k, e, q⟩ := all_ofO.mp (all_bind.mp hx)
  refine all_ofO.mpr ⟨k, e, fun H1 s1 b1 => ?_⟩
  cases k with
  | true => exact ⟨g, f, Fr.sm s1 b1, (all_bind.mpr q).mono fun z hz H' s2 b2 => hz H' (s1.trans s2) b2⟩
  | false =>
    obtain ⟨k2, e2, q⟩ := all_ofO.mp q
    have e2 : x.d.truthy = some k2 := e2
    rw [e] at e2
    cases e2
    exact q H1 s1 b1
theorem w_or (ha : PT X a (tB' c (mT ma))) (hb : PW X (.BoolOp .Or (b :: rest) pos) (tB' c (mT mb))) : PW X (.BoolOp .Or (a :: b :: rest) pos) (tB' c (mT (mOr ma mb))) := by
  refine PW.imp (pw_or ha hb) fun σ H Q ⟨g, f, Fr, hq⟩ => ?_
  refine ⟨g, f, Fr, ?_⟩
  have hq := all_bind.mp (all_bind.mp hq)
  refine all_bind.mpr (hq.mono fun x hx => ?_)
  obtain ⟨k, e, q⟩ := all_ofO.mp (all_bind.mp hx)
  refine all_ofO.mpr ⟨k, e, fun H1 s1 b1 => ?_⟩
  cases k with
  | false => exact ⟨g, f, Fr.sm s1 b1, (all_bind.mpr q).mono fun z hz H' s2 b2 => hz H' (s1.trans s2) b2⟩
  | true =>
    obtain ⟨k2, e2, q⟩ := all_ofO.mp q
    have e2 : x.d.truthy = some k2 := e2
    rw [e] at e2
    cases e2
    exact q H1 s1 b1
theorem e_and (F : Fit X c) (ha : PE X a (tM c ma)) (hb : PE X (.BoolOp .And (b :: rest) pos) (tM c mb)) : PE X (.BoolOp .And (a :: b :: rest) pos) (tM c (mAnd ma mb)) := by
  refine ⟨fun pins s σ H Q I ⟨g, f, Fr, hq⟩ => ?_⟩
  have hm : tM c ma σ H fun x H1 => ∃ b0 B d k, Rr c b0 B H1 d x ∧ d.truthy = some k ∧ if k then tM c mb σ H1 Q else Q x H1 := ⟨g, f, Fr, (all_bind.mp hq).mono fun x hx v H1 s1 b1 r1 => by
    obtain ⟨k, e, q⟩ := all_ofO.mp (all_bind.mp hx)
    refine ⟨g.b0, g.B, x.d, k, (r1.rw Fr.dom).rr, e, ?_⟩
    cases k with
    | true => exact ⟨g, f, Fr.sm s1 b1, q.mono fun z hz v H' s2 b2 r2 => hz v H' (s1.trans s2) b2 (r2.early b1 s1)⟩
    | false => exact q v H1 s1 b1 r1⟩
  refine BoolOp_and (thn (ha.run pins s σ H _ I hm) fun v s1 ⟨x, H1, I1, r1, b0, B, d, k, e1, e2, q⟩ => ?_)
  refine thn (tru_all F pins s1 σ H1 x v (fun k' H' => k' = k ∧ H' = H1) I1 r1 ⟨b0, B, d, k, e1, e2, rfl, rfl⟩) fun k' s2 ⟨H2, I2, e3, e4⟩ => ?_
  subst e3 e4
  cases k' with
  | true => exact hb.run pins s2 σ H2 Q I2 q
  | false => exact ⟨x, H2, I2, r1, q⟩
theorem e_or (F : Fit X c) (ha : PE X a (tM c ma)) (hb : PE X (.BoolOp .Or (b :: rest) pos) (tM c mb)) : PE X (.BoolOp .Or (a :: b :: rest) pos) (tM c (mOr ma mb)) := by
  refine ⟨fun pins s σ H Q I ⟨g, f, Fr, hq⟩ => ?_⟩
  have hm : tM c ma σ H fun x H1 => ∃ b0 B d k, Rr c b0 B H1 d x ∧ d.truthy = some k ∧ if k then Q x H1 else tM c mb σ H1 Q := ⟨g, f, Fr, (all_bind.mp hq).mono fun x hx v H1 s1 b1 r1 => by
    obtain ⟨k, e, q⟩ := all_ofO.mp (all_bind.mp hx)
    refine ⟨g.b0, g.B, x.d, k, (r1.rw Fr.dom).rr, e, ?_⟩
    cases k with
    | false => exact ⟨g, f, Fr.sm s1 b1, q.mono fun z hz v H' s2 b2 r2 => hz v H' (s1.trans s2) b2 (r2.early b1 s1)⟩
    | true => exact q v H1 s1 b1 r1⟩
  refine BoolOp_or (thn (ha.run pins s σ H _ I hm) fun v s1 ⟨x, H1, I1, r1, b0, B, d, k, e1, e2, q⟩ => ?_)
  refine thn (tru_all F pins s1 σ H1 x v (fun k' H' => k' = k ∧ H' = H1) I1 r1 ⟨b0, B, d, k, e1, e2, rfl, rfl⟩) fun k' s2 ⟨H2, I2, e3, e4⟩ => ?_
  subst e3 e4
  cases k' with
  | false => exact hb.run pins s2 σ H2 Q I2 q
  | true => exact ⟨x, H2, I2, r1, q⟩
end
end Ev
/-! EvD3: comparisons, arguments, displays, places, built-ins, methods. -/
namespace Ev
open PySem PySem.Spec PyProof.Rows L2
open Tr
variable {c : Cs}
/-! ### comparisons -/
def copOf : COp → CmpOp
  | .eq => .Eq
  | .ne => .NotEq
  | .lt => .Lt
  | .le => .LtE
  | .gt => .Gt
  | .ge => .GtE
  | .is => .Is
  | .isnot => .IsNot
  | .in_ => .In
  | .notin => .NotIn
section
variable {X : Cx}
theorem cmp_inA (F : Fit X c) : OpR X (compareOp .In) (rC c .in_) := by
  intro pins s σ H x y v u Q I rx ry ⟨b0, B, dx, dy, k, hx, hy, e, q⟩
  by_cases hd : ∃ kvs, dy = .dct kvs
  · obtain ⟨kvs, rfl⟩ := hd
    have e : inD dx (.dct kvs) = some k := e
    have e2 : keyOk dx kvs = true ∧ (valD dx kvs).isSome = k := by
      by_cases hk : keyOk dx kvs = true
      · refine ⟨hk, ?_⟩
        cases dx with
        | str z =>
          match z, e, hk with
          | [], e, hk => simp only [inD, hk, if_true, Option.some.injEq] at e; exact e
          | [ch], e, hk => simp only [inD, hk, if_true, Option.some.injEq] at e; exact e
          | a :: b :: r, e, hk => simp only [inD, hk, if_true, Option.some.injEq] at e; exact e
        | _ => simp only [inD, hk, if_true, Option.some.injEq] at e; exact e
      · exfalso
        cases dx with
        | str z =>
          match z, e, hk with
          | [], e, hk => simp [inD, hk] at e
          | [ch], e, hk => simp [inD, hk] at e
          | a :: b :: r, e, hk => simp [inD, hk] at e
        | _ => simp [inD, hk] at e
    exact cmp_inD F pins s σ H x y v u Q I rx ry ⟨b0, B, dx, kvs, k, hx, hy, e2.1, e2.2.symm, q⟩
  · exact cmp_in F pins s σ H x y v u Q I rx ry ⟨b0, B, dx, dy, k, hx, hy, fun kvs e => hd ⟨kvs, e⟩, e, q⟩
theorem cmp_notinA (F : Fit X c) : OpR X (compareOp .NotIn) (rC c .notin) := by
  intro pins s σ H x y v u Q I rx ry ⟨b0, B, dx, dy, k, hx, hy, e, q⟩
  obtain ⟨k, e3, rfl⟩ := Option.map_eq_some_iff.mp (show (inD dx dy).map (!·) = some k from e)
  clear e
  revert e3
  intro e
  by_cases hd : ∃ kvs, dy = .dct kvs
  · obtain ⟨kvs, rfl⟩ := hd
    have e2 : keyOk dx kvs = true ∧ (valD dx kvs).isSome = k := by
      by_cases hk : keyOk dx kvs = true
      · refine ⟨hk, ?_⟩
        cases dx with
        | str z =>
          match z, e, hk with
          | [], e, hk => simp only [inD, hk, if_true, Option.some.injEq] at e; exact e
          | [ch], e, hk => simp only [inD, hk, if_true, Option.some.injEq] at e; exact e
          | a :: b :: r, e, hk => simp only [inD, hk, if_true, Option.some.injEq] at e; exact e
        | _ => simp only [inD, hk, if_true, Option.some.injEq] at e; exact e
      · exfalso
        cases dx with
        | str z =>
          match z, e, hk with
          | [], e, hk => simp [inD, hk] at e
          | [ch], e, hk => simp [inD, hk] at e
          | a :: b :: r, e, hk => simp [inD, hk] at e
        | _ => simp [inD, hk] at e
    exact cmp_notinD F pins s σ H x y v u Q I rx ry ⟨b0, B, dx, kvs, k, hx, hy, e2.1, e2.2.symm, q⟩
  · exact cmp_notin F pins s σ H x y v u Q I rx ry ⟨b0, B, dx, dy, k, hx, hy, fun kvs e => hd ⟨kvs, e⟩, e, q⟩
theorem cmp_all (F : Fit X c) : ∀ o : COp, OpR X (compareOp (copOf o)) (rC c o)
  | .eq => cmp_eq F
  | .ne => cmp_ne F
  | .lt => cmp_lt F
  | .le => cmp_le F
  | .gt => cmp_gt F
  | .ge => cmp_ge F
  | .is => cmp_is
  | .isnot => cmp_isnot
  | .in_ => cmp_inA F
  | .notin => cmp_notinA F
/-- not a set display -/
def noSet : Expr → Bool
  | .Set _ _ _ => false
  | _ => true
theorem noSet_in {e : Expr} (h : noSet e = true) (o : CmpOp) : behindInMarks o e = false := by cases e <;> first | rfl | cases h
theorem noSet_last {a b : Expr} (h : noSet b = true) (o o' : CmpOp) : lastMarks [o, o'] [a, b] = false := by
  show behindInMarks o' b = false
  exact noSet_in h o'
variable {a b d : Expr} {ma mb md : Fm → Tr A} {pos : Pos}
def mC1 (o : COp) (ma mb : Fm → Tr A) : Fm → Tr A := fun f => (ma f).bind fun x => (mb f).bind fun y => (ofO (cmpD o x.d y.d)).bind fun c => .ret (cl (.bl c))
def mC2 (o o2 : COp) (ma mb md : Fm → Tr A) : Fm → Tr A := fun f => (ma f).bind fun x => (mb f).bind fun y => (ofO (cmpD o x.d y.d)).bind fun c =>
  if c then (md f).bind fun z => (ofO (cmpD o2 y.d z.d)).bind fun c2 => .ret (cl (.bl c2)) else .ret (cl (.bl false))
theorem r_cmp1 (o : COp) {σ : L2.St} {H : Hp} {Q : VK} (h : tM c (mC1 o ma mb) σ H Q) : tOp (rC c o) (tM c ma) (tM c mb) σ H Q := by
  obtain ⟨g, f, Fr, h⟩ := h
  refine tM_bind (k := fun x f => (mb f).bind fun y => (ofO (cmpD o x.d y.d)).bind fun c => .ret (cl (.bl c))) Fr h fun x v H1 s1 b1 r1 F1 h1 => ?_
  refine tM_bind (k := fun y f => (ofO (cmpD o x.d y.d)).bind fun c => .ret (cl (.bl c))) F1 h1 fun y w H2 s2 b2 r2 F2 h2 => ?_
  obtain ⟨z, e, q⟩ := all_ofO.mp (all_bind.mp h2)
  exact ⟨g.b0, g.B, x.d, y.d, z, ((r1.rw Fr.dom).sm Fr.bars s2).rr, (r2.rw F1.dom).rr, e, q _ _ (.refl _ _) b2 rn_bl⟩
theorem e_cmp1 (F : Fit X c) (o : COp) (ha : PE X a (tM c ma)) (hb : PE X b (tM c mb)) (hs : noSet b = true) : PE X (.Compare a [copOf o] [b] pos) (tM c (mC1 o ma mb)) :=
  PE.imp (pe_cmpR (cmp_all F o) ha hb (noSet_in hs _)) fun _ _ _ h => r_cmp1 o h
theorem r_cmp2 (o o2 : COp) {σ : L2.St} {H : Hp} {Q : VK} (h : tM c (mC2 o o2 ma mb md) σ H Q) : tChain (rC c o) (rC c o2) (tM c ma) (tM c mb) (tM c md) σ H Q := by
  obtain ⟨g, f, Fr, h⟩ := h
  refine tM_bind (k := fun x f => (mb f).bind fun y => (ofO (cmpD o x.d y.d)).bind fun c =>
    if c then (md f).bind fun z => (ofO (cmpD o2 y.d z.d)).bind fun c2 => .ret (cl (.bl c2)) else .ret (cl (.bl false))) Fr h fun x v H1 s1 b1 r1 F1 h1 => ?_
  refine tM_bind (k := fun y f => (ofO (cmpD o x.d y.d)).bind fun c =>
    if c then (md f).bind fun z => (ofO (cmpD o2 y.d z.d)).bind fun c2 => .ret (cl (.bl c2)) else .ret (cl (.bl false))) F1 h1 fun y w H2 s2 b2 r2 F2 h2 => ?_
  obtain ⟨z, e, q⟩ := all_ofO.mp (all_bind.mp h2)
  refine ⟨g.b0, g.B, x.d, y.d, z, ((r1.rw Fr.dom).sm Fr.bars s2).rr, (r2.rw F1.dom).rr, e, z, rfl, ?_⟩
  cases z with
  | false => exact q _ _ (.refl _ _) b2 rn_bl
  | true =>
    refine tM_bind (k := fun z f => (ofO (cmpD o2 y.d z.d)).bind fun c2 => .ret (cl (.bl c2))) F2 q fun z w' H3 s3 b3 r3 F3 h3 => ?_
    obtain ⟨k, e3, q3⟩ := all_ofO.mp (all_bind.mp h3)
    exact ⟨g.b0, g.B, y.d, z.d, k, ((r2.rw F1.dom).sm Fr.bars s3).rr, (r3.rw F2.dom).rr, e3, q3 _ _ (.refl _ _) b3 rn_bl⟩
theorem e_cmp2 (F : Fit X c) (o o2 : COp) (ha : PE X a (tM c ma)) (hb : PE X b (tM c mb)) (hd : PE X d (tM c md)) (hs : noSet d = true) : PE X (.Compare a [copOf o, copOf o2] [b, d] pos) (tM c (mC2 o o2 ma mb md)) :=
  PE.imp (pe_chain (cmp_all F o) (cmp_all F o2) ha hb hd (noSet_last hs _ _)) fun _ _ _ h => r_cmp2 o o2 h
/-- a run that tells a truth value -/
theorem r_test {m : Fm → Tr A} {σ : L2.St} {H : Hp} {Q : Bool → Hp → Prop} (hm : ∀ f P, All (m f) P → All (m f) fun a => P a ∧ ∃ k, a = cl (.bl k)) (h : tB' c (mT m) σ H Q) : tM c m σ H fun x H1 => ∃ k, x = .bl k ∧ Q k H1 := by
  obtain ⟨g, f, Fr, h⟩ := h
  refine ⟨g, f, Fr, (hm f _ (all_bind.mp h)).mono fun a ⟨ha, k, e⟩ v H1 s1 b1 r1 => ?_⟩
  subst e
  have r1 : Rz c g.b0 g.B H1 (.bl k) v := r1
  rw [Rz] at r1
  obtain ⟨k2, e2, q⟩ := all_ofO.mp ha
  have e2 : some k = some k2 := e2
  cases e2
  exact ⟨k, r1, q H1 s1 b1⟩
theorem all_const {α : Type} {P Q : α → Prop} : ∀ {t : Tr α}, All t P → (∀ a, Q a) → All t fun a => P a ∧ Q a
  | .ret a, h, k => ⟨h, k a⟩
  | .ask m f, h, k => ⟨h.1, fun d hd => all_const (h.2 d hd) k⟩
  | .stuck, h, _ => h
theorem bl_ret {α : Type} {t : Tr α} {k : α → Tr A} {P : A → Prop} (hk : ∀ a P, All (k a) P → All (k a) fun z => P z ∧ ∃ b, z = cl (.bl b)) (h : All (t.bind k) P) : All (t.bind k) fun z => P z ∧ ∃ b, z = cl (.bl b) :=
  all_bind.mpr ((all_bind.mp h).mono fun a ha => hk a P ha)
theorem mC1_bl {o : COp} (f : Fm) (P : A → Prop) (h : All (mC1 o ma mb f) P) : All (mC1 o ma mb f) fun a => P a ∧ ∃ k, a = cl (.bl k) :=
  bl_ret (fun x P h => bl_ret (fun y P h => bl_ret (fun z P h => ⟨h, z, rfl⟩) h) h) h
theorem mC2_bl {o o2 : COp} (f : Fm) (P : A → Prop) (h : All (mC2 o o2 ma mb md f) P) : All (mC2 o o2 ma mb md f) fun a => P a ∧ ∃ k, a = cl (.bl k) :=
  bl_ret (fun x P h => bl_ret (fun y P h => bl_ret (fun z P h => by
    cases z with
    | true => exact bl_ret (fun y P h => bl_ret (fun z P h => ⟨h, z, rfl⟩) h) h
    | false => exact ⟨h, false, rfl⟩) h) h) h
theorem t_cmp1 (F : Fit X c) (o : COp) (ha : PE X a (tM c ma)) (hb : PE X b (tM c mb)) (hs : noSet b = true) : PT X (.Compare a [copOf o] [b] pos) (tB' c (mT (mC1 o ma mb))) :=
  PT.imp (pt_cmpR (cmp_all F o) ha hb (noSet_in hs _)) fun _ _ _ h => r_cmp1 o (r_test mC1_bl h)
theorem t_cmp2 (F : Fit X c) (o o2 : COp) (ha : PE X a (tM c ma)) (hb : PE X b (tM c mb)) (hd : PE X d (tM c md)) (hs : noSet d = true) : PT X (.Compare a [copOf o, copOf o2] [b, d] pos) (tB' c (mT (mC2 o o2 ma mb md))) :=
  PT.imp (pt_chain (cmp_all F o) (cmp_all F o2) ha hb hd (noSet_last hs _ _)) fun _ _ _ h => r_cmp2 o o2 (r_test mC2_bl h)
end
/-! ### arguments -/
/-- not a star -/
def noStar : Expr → Bool
  | .Starred _ _ => false
  | _ => true
theorem noStar_each {e : Expr} (h : noStar e = true) (es : List Expr) (env : Env) : starEach (e :: es) env = (false, eval e env) :: starEach es env := by cases e <;> first | rfl | cases h
theorem noStar_back {pos : Pos} {env : Env} : ∀ {es : List Expr}, (es.all noStar) = true → (backTo pos (starEach es env)).any (·.1) = false
  | [], _ => rfl
  | e :: es, h => by
    rw [List.all_cons, Bool.and_eq_true] at h
    rw [noStar_each h.1]
    show (false || (backTo pos (starEach es env)).any (·.1)) = false
    rw [noStar_back h.2]
    rfl
section
variable {X : Cx} {a : Expr} {es : List Expr} {ma : Fm → Tr A} {ms : Fm → Tr (List A)} {pos : Pos}
theorem a_nil : PA X [] (tAs c fun _ => .ret []) := PA.imp pa_nil fun σ H Q ⟨g, f, Fr, h⟩ => h [] H (.refl _ _) Fr.box .nil
theorem a_cons (hs : noStar a = true) (ha : PE X a (tM c ma)) (hes : PA X es (tAs c ms)) : PA X (a :: es) (tAs c fun f => (ma f).bind fun x => (ms f).bind fun as => .ret (x :: as)) := by
  refine PA.imp (pa_cons ha hes (noStar_each hs _ _)) fun σ H Q ⟨g, f, Fr, h⟩ => ?_
  refine ⟨g, f, Fr, (all_bind.mp h).mono fun x hx v H1 s1 b1 r1 => ?_⟩
  refine ⟨g, f, Fr.sm s1 b1, (all_bind.mp hx).mono fun as has vs H2 s2 b2 r2 => ?_⟩
  exact has (v :: vs) H2 (s1.trans s2) b2 (.cons ((r1.rw Fr.dom).sm Fr.bars s2) (fun d e => (r1.clean Fr.dom e).mono Fr.bars s2) (fun e => (r1.rk Fr.dom e).sm Fr.bars s2) r2)
/-! ### displays -/
theorem e_tup {k : Nat} (h : PA X es (tAs c ms)) : PE X (.Tuple es k pos) (tM c fun f => (ms f).bind fun as => match cleans as with
    | some ds => if ds.length ≤ line then .ret (cl (.tup ds)) else .stuck
    | none => .stuck) := by
  refine ⟨fun pins s σ H Q I ⟨g, f, Fr, hq⟩ => ?_⟩
  have ht : tAs c ms σ H fun vs H1 => vs.length ≤ sizeLine ∧ ∀ p o, H1 p = none → o.dict = none → Q (.ref p) (upd H1 p (.frz o (.tup vs))) := ⟨g, f, Fr, (all_bind.mp hq).mono fun as has vs H1 s1 b1 r1 => by
    cases e : cleans as with
    | none => rw [e] at has; exact has.elim
    | some ds =>
      rw [e] at has
      have rz := r1.clean e
      by_cases hl : ds.length ≤ line
      · have has : All (if ds.length ≤ line then Tr.ret (cl (.tup ds)) else .stuck) fun a => ∀ v H', Sm g H H' → BoxOk g H' → Rn c g H H' a v → Q v H' := has
        rw [if_pos hl] at has
        refine ⟨by rw [rz.length, ← line_eq]; exact hl, fun p o hp ho => ?_⟩
        exact has (.ref p) _ (s1.trans (.of_same (same_new hp))) (b1.same (same_new hp)) ((new_tup Fr.bars hp ho rz).early b1 s1)
      · have has : All (if ds.length ≤ line then Tr.ret (cl (.tup ds)) else .stuck) fun a => ∀ v H', Sm g H H' → BoxOk g H' → Rn c g H H' a v → Q v H' := has
        rw [if_neg hl] at has
        exact has.elim⟩
  refine wpAny_Tuple_spliced (thn (h.run pos pins s σ H _ I ht) fun us s1 ⟨xs, H1, I1, r, z, q⟩ => ⟨by rw [← Vals.length r]; exact z, ?_⟩)
  exact ⟨.ref s1.heap.objs.size, _, tup_new (t := s1.toks) I1 r z, rfl, q _ _ (I1.hok.fresh (Nat.le_refl _)) rfl⟩
theorem e_lst (h : PA X es (tAs c ms)) : PE X (.List es pos) (tM c fun f => (ms f).bind fun as => match cleans as with
    | some ds => if ds.length ≤ line then .ret (fr (.lst ds)) else .stuck
    | none => .stuck) := by
  refine PE.imp (pe_lst h) fun σ H Q ⟨g, f, Fr, hq⟩ => ?_
  refine ⟨g, f, Fr, (all_bind.mp hq).mono fun as has vs H1 s1 b1 r1 => ?_⟩
  cases e : cleans as with
  | none => rw [e] at has; exact has.elim
  | some ds =>
    rw [e] at has
    have rz := r1.clean e
    have has : All (if ds.length ≤ line then Tr.ret (fr (.lst ds)) else .stuck) fun a => ∀ v H', Sm g H H' → BoxOk g H' → Rn c g H H' a v → Q v H' := has
    by_cases hl : ds.length ≤ line
    · rw [if_pos hl] at has
      refine ⟨by rw [rz.length, ← line_eq]; exact hl, fun p hp => ?_⟩
      exact has (.ref p) _ (s1.trans (.of_same (same_new hp))) (b1.same (same_new hp)) ((new_lst Fr.bars hp rz).early b1 s1)
    · rw [if_neg hl] at has
      exact has.elim
/-! ### places, parts -/
variable {b : Expr} {mb : Fm → Tr A}
def noSlice : Expr → Bool
  | .Slice _ _ _ _ => false
  | _ => true
theorem noSlice_ix {b : Expr} (h : noSlice b = true) : PlainIx b := by
  intro o i
  cases b <;> first | rfl | cases h
theorem ix_full (F : Fit X c) : IxR X (fun x y H Q => ∃ b0 B dx dy d, Rr c b0 B H dx x ∧ Rr c b0 B H dy y ∧ idxD dx dy = some d ∧ ∀ v, Rz c b0 B H d v → Q v H) := by
  intro value slice pins s σ H x y v u Q I rx ry ⟨b0, B, dx, dy, d, hx, hy, e, q⟩ hs
  by_cases hd : ∃ kvs, dx = .dct kvs
  · obtain ⟨kvs, rfl⟩ := hd
    exact ix_dct F value slice pins s σ H x y v u Q I rx ry ⟨b0, B, kvs, dy, d, hx, hy, e, q⟩ hs
  · exact ix_all F value slice pins s σ H x y v u Q I rx ry ⟨b0, B, dx, dy, d, hx, hy, fun kvs z => hd ⟨kvs, z⟩, e, q⟩ hs
theorem e_idx (F : Fit X c) (ha : PE X a (tM c ma)) (hb : PE X b (tM c mb)) (hs : noSlice b = true) : PE X (.Subscript a b pos) (tM c fun f => (ma f).bind fun x => (mb f).bind fun y => (ofO (idxD x.d y.d)).bind fun d => .ret (cl d)) := by
  refine PE.imp (pe_ix (ix_full F) ha hb (noSlice_ix hs)) fun σ H Q ⟨g, f, Fr, h⟩ => ?_
  refine tM_bind (k := fun x f => (mb f).bind fun y => (ofO (idxD x.d y.d)).bind fun d => .ret (cl d)) Fr h fun x v H1 s1 b1 r1 F1 h1 => ?_
  refine tM_bind (k := fun y f => (ofO (idxD x.d y.d)).bind fun d => .ret (cl d)) F1 h1 fun y w H2 s2 b2 r2 F2 h2 => ?_
  obtain ⟨z, e, q⟩ := all_ofO.mp (all_bind.mp h2)
  exact ⟨g.b0, g.B, x.d, y.d, z, ((r1.rw Fr.dom).sm Fr.bars s2).rr, (r2.rw F1.dom).rr, e, fun v' rz => q v' H2 (.refl _ _) b2 rz⟩
def tO (c : Cs) (m : Fm → Tr (Option Int)) : TO := fun σ H Q => ∃ g f, FrOk c g f σ H ∧ All (m f) fun o => ∀ H', Sm g H H' → BoxOk g H' → Q o H'
theorem o_none : PO X none (tO c fun _ => .ret none) := PO.imp po_none fun σ H Q ⟨g, f, Fr, h⟩ => h H (.refl _ _) Fr.box
theorem o_some (ha : PE X a (tM c ma)) : PO X (some a) (tO c fun f => (ma f).bind fun x => match x.d with
    | .int i => .ret (some i)
    | _ => .stuck) := by
  refine PO.imp (po_some ha) fun σ H Q ⟨g, f, Fr, h⟩ => ?_
  refine ⟨g, f, Fr, (all_bind.mp h).mono fun x hx v H1 s1 b1 r1 => ?_⟩
  cases hd : x.d with
  | int i =>
    rw [hd] at hx
    have r := r1.rw Fr.dom
    rw [hd] at r
    exact ⟨i, r.rr.int, hx H1 s1 b1⟩
  | _ => rw [hd] at hx; exact hx.elim
theorem e_slc (F : Fit X c) {lo hi : Option Expr} {ml mh : Fm → Tr (Option Int)} {p2 : Pos} (ha : PE X a (tM c ma)) (hl : PO X lo (tO c ml)) (hh : PO X hi (tO c mh)) : PE X (.Subscript a (.Slice lo hi none p2) pos) (tM c fun f => (ma f).bind fun x => (ml f).bind fun l => (mh f).bind fun h => ofO (slcD x.d l h)) := by
  refine PE.imp (pe_slice (sl_all F) ha hl hh) fun σ H Q ⟨g, f, Fr, h⟩ => ?_
  refine tM_bind (k := fun x f => (ml f).bind fun l => (mh f).bind fun h => ofO (slcD x.d l h)) Fr h fun x v H1 s1 b1 r1 F1 h1 => ?_
  refine ⟨g, f, F1, (all_bind.mp h1).mono fun l hl2 H2 s2 b2 => ⟨g, f, F1.sm s2 b2, (all_bind.mp hl2).mono fun u hu H3 s3 b3 => ?_⟩⟩
  obtain ⟨z, e, q⟩ := all_ofO.mp hu
  exact ⟨g, x.d, z, Fr.bars, (((r1.rw Fr.dom).sm Fr.bars s2).sm Fr.bars s3).rr, e, fun v' H' sm rn => q v' H' ((s2.trans s3).trans (.of_same sm)) (b3.same sm) ((rn.early b3 s3).early b2 s2)⟩
theorem e_rev {k : Nat} {p1 p2 p3 : Pos} (ha : PE X a (tM c ma)) : PE X (.Subscript a (.Slice none none (some (.UnaryOp .USub (.Constant (.int 1) k p1) p2)) p3) pos) (tM c fun f => (ma f).bind fun x => ofO (revD x.d)) := by
  refine PE.imp (pe_revL ha) fun σ H Q ⟨g, f, Fr, h⟩ => ?_
  refine tM_bind (k := fun x f => ofO (revD x.d)) Fr h fun x v H1 s1 b1 r1 F1 h1 => ?_
  obtain ⟨z, e, q⟩ := all_ofO.mp h1
  cases hd : x.d with
  | lst xs =>
    rw [hd] at e
    simp only [revD, Option.some.injEq] at e
    subst e
    have r := r1.rw Fr.dom
    rw [hd] at r
    obtain ⟨p, vs, rfl, hp, rs⟩ := r.rr.lst
    exact ⟨p, vs, rfl, SqL.of hp, fun p hp => q _ _ (.of_same (same_new hp)) (b1.same (same_new hp)) (new_lst Fr.bars hp rs.rev)⟩
  | _ => rw [hd] at e; simp [revD] at e
/-! ### built-ins -/
/-- a call of a built-in by name -/
theorem e_bi {id : String} {x : Str} {p : Pos} {e : Expr} {fb : List D → Option A} (hc : CallR X (.builtin id) (rCa c fb)) (hg : Gl X x) (hm : X.mg x = none) (hv : bootBuiltins x = some (.builtin id)) (hn : x ≠ "__name__") (hdb : (x == ("__debug__" : Str)) = false) (hst : noStar e = true) (hst2 : es.all noStar = true)
    (ha : PA X (e :: es) (tAs c ms)) : PE X (.Call (.Name x p) (e :: es) [] pos) (tM c fun f => (ms f).bind fun as => ofO (fb (as.map A.d))) := by
  refine PE.imp (pe_callB hc hg hm hv ha hn hdb (noStar_each hst _ _) (noStar_back hst2)) fun σ H Q ⟨g, f, Fr, h⟩ => ?_
  refine ⟨g, f, Fr, (all_bind.mp h).mono fun as has vs H1 s1 b1 r1 => ?_⟩
  obtain ⟨z, ez, q⟩ := all_ofO.mp has
  exact ⟨g, as.map A.d, z, Fr.bars, r1.paired, ez, fun v' H' sm rn => q v' H' (s1.trans (.of_same sm)) (b1.same sm) (rn.early b1 s1)⟩
end
end Ev
/-! EvD4: types called, isinstance, methods, calls of defs, draws. -/
namespace Ev
open PySem PySem.Spec PyProof.Rows L2
open Tr
variable {c : Cs}
section
variable {X : Cx} {a b : Expr} {es : List Expr} {ma mb : Fm → Tr A} {ms : Fm → Tr (List A)} {pos : Pos}
/-- a call of a built-in type by name -/
theorem e_ty {T : String} {x : Str} {p : Pos} {e : Expr} {fb : List D → Option A} (hc : CallR X (.type T) (rCa c fb)) (hg : Gl X x) (hm : X.mg x = none) (hv : bootBuiltins x = some (.type T)) (hn : x ≠ "__name__") (hdb : (x == ("__debug__" : Str)) = false) (hst : noStar e = true) (hst2 : es.all noStar = true)
    (ha : PA X (e :: es) (tAs c ms)) : PE X (.Call (.Name x p) (e :: es) [] pos) (tM c fun f => (ms f).bind fun as => ofO (fb (as.map A.d))) := by
  refine PE.imp (pe_callTy hc hg hm hv ha hn hdb (noStar_each hst _ _) (noStar_back hst2)) fun σ H Q ⟨g, f, Fr, h⟩ => ?_
  refine ⟨g, f, Fr, (all_bind.mp h).mono fun as has vs H1 s1 b1 r1 => ?_⟩
  obtain ⟨z, ez, q⟩ := all_ofO.mp has
  exact ⟨g, as.map A.d, z, Fr.bars, r1.paired, ez, fun v' H' sm rn => q v' H' (s1.trans (.of_same sm)) (b1.same sm) (rn.early b1 s1)⟩
/-- isinstance(x, T) -/
theorem e_isi (F : Fit X c) (t : Ty) {x y : Str} {p p2 : Pos} (hg : Gl X x) (hm : X.mg x = none) (hv : bootBuiltins x = some (.builtin "isinstance")) (hn : x ≠ "__name__") (hdb : (x == ("__debug__" : Str)) = false) (hst : noStar a = true)
    (hg2 : Gl X y) (hm2 : X.mg y = none) (hv2 : bootBuiltins y = some (.type t.nm)) (hn2 : y ≠ "__name__") (hdb2 : (y == ("__debug__" : Str)) = false) (ha : PE X a (tM c ma)) :
    PE X (.Call (.Name x p) [a, .Name y p2] [] pos) (tM c fun f => (ma f).bind fun x => (ofO (isiD x.d t)).bind fun b => .ret (cl (.bl b))) := by
  have ht : PE X (.Name y p2) (tC (.ty t.nm)) := pe_bltn hg2 hm2 hv2 rfl hn2 hdb2
  have hp : PA X [a, .Name y p2] _ := pa_cons ha (pa_cons ht pa_nil) (noStar_each hst _ _)
  refine PE.imp (pe_callB (ca_isi F) hg hm hv hp hn hdb (noStar_each hst _ _) rfl) fun σ H Q ⟨g, f, Fr, h⟩ => ?_
  refine tM_bind (k := fun x f => (ofO (isiD x.d t)).bind fun b => .ret (cl (.bl b))) Fr h fun x v H1 s1 b1 r1 F1 h1 => ?_
  obtain ⟨z, e, q⟩ := all_ofO.mp (all_bind.mp h1)
  exact ⟨g.b0, g.B, x.d, v, t, z, rfl, (r1.rw Fr.dom).rr, e, q _ _ (.refl _ _) b1 rn_bl⟩
/-! ### methods -/
/-- the receiver is of that type, whatever runs -/
def TyOk (X : Cx) (T : String) (ty : V → Hp → Prop) : Prop := ∀ (pins : List (Addr × Obj)) (σ : L2.St) (H : Hp) (s : Shared) (x : V) (v : Value), Inv X pins σ H s → RelV x v → ty x H → s.TypeIs v T ∧ ∀ p, v = .ref p → ∃ ob, s.heap.get? p = some ob ∧ ob.dict = none
/-- the conditions on a method's call, looked up in the text -/
def mthFit (o : Expr) (apos cpos : Pos) (es : List Expr) : Bool := noCall o && (apos.endLine == cpos.line) && es.all noStar && decide (es.length < 20)
where
  noCall : Expr → Bool
    | .Call (.Name _ _) [] [] _ => false
    | _ => true
theorem base_of {o : Expr} (h : mthFit.noCall o = true) (attr : Str) (env : Env) (w : Sem Value) : attributeBase o attr env w = w := by
  unfold attributeBase
  split
  · simp [mthFit.noCall] at h
  · rfl
theorem few_of {env : Env} {pos : Pos} : ∀ {es : List Expr}, es.all noStar = true → (backTo pos (starEach es env)).all (fun x => !x.1) = true
  | [], _ => rfl
  | e :: es, h => by
    rw [List.all_cons, Bool.and_eq_true] at h
    rw [noStar_each h.1]
    show (!false && (backTo pos (starEach es env)).all fun x => !x.1) = true
    rw [few_of h.2]
    rfl
/-- o.m(..), the type told by one's own words -/
theorem pe_bmG {T id : String} {name : Str} {apos : Pos} {o e : Expr} {to : TE} {t : TA} {ty : V → Hp → Prop} {r : V → List V → Hp → VK → Prop} (hT : TyOk X T ty) (pa : PlainAttrs T) (slot : Slot T name id) (hty : typeOf (.builtin id) = pure (.type "method_descriptor")) (hm : MtR X id r) (ho : PE X o to) (ha : PA X (e :: es) t)
    (hf : mthFit o apos pos (e :: es) = true) : PE X (.Call (.Attribute o name apos) (e :: es) [] pos) (fun σ H Q => to σ H fun x H1 => ty x H1 ∧ t σ H1 fun xs H2 => r x xs H2 Q) := by
  unfold mthFit at hf
  simp only [Bool.and_eq_true, decide_eq_true_eq] at hf
  obtain ⟨⟨⟨h1, h2⟩, h3⟩, h4⟩ := hf
  have h5 : noStar e = true ∧ es.all noStar = true := by rw [List.all_cons, Bool.and_eq_true] at h3; exact h3
  refine ⟨fun pins s σ H Q I h => ?_⟩
  have few : ((backTo pos (starEach (e :: es) X.env)).all (fun x => !x.1) && (backToKw pos (keywordEach [] X.env)).all (fun x => x.1.isSome)
      && decide ((e :: es).length + ([] : List Keyword).length + (if ([] : List Keyword).isEmpty then 0 else 1) < 30)) = true := by
    rw [few_of h3]
    simp only [List.length_cons] at h4
    simp [backToKw, keywordEach]
    omega
  refine wpAny_Call_method_late (base_of h1 _ _ _) few h2 rfl (thn (ho.run pins s σ H _ I h) fun v s1 ⟨x, H1, I1, r1, k, q1⟩ => ?_)
  obtain ⟨k1, k2⟩ := hT pins σ H1 s1 x v I1 r1 k
  refine ⟨T, id, pa, slot, hty, k1, k2, ?_⟩
  have hA := ha.run pos pins s1 σ H1 _ I1 q1
  rw [noStar_each h5.1] at hA ⊢
  refine Calls.callWith_builtin (by show (false || (backTo pos (starEach es X.env)).any (·.1)) = false; rw [noStar_back h5.2]; rfl) (Calls.evalArgs_plain ?_)
  exact thn hA fun us s2 ⟨vs, H2, I2, r2, q2⟩ => hm pins s2 σ H2 x vs v us Q I2 r1 r2 q2
theorem ty_dict (F : Fit X c) : TyOk X "dict" (fun x H => ∃ b0 B kvs, Rr c b0 B H (.dct kvs) x) := by
  intro pins σ H s x v I rx ⟨b0, B, kvs, hx⟩
  obtain ⟨a, rfl, _, _, dh⟩ := dct_heap F I hx
  cases rx
  obtain ⟨es, ep, ⟨o, ho, hc, _⟩, _⟩ := dh.raw
  exact ⟨⟨o, ho, hc.1⟩, fun p e => by cases e; exact ⟨o, ho, hc.2.1⟩⟩
theorem ty_str : TyOk X "str" (fun x _ => ∃ z, x = .str z) := by
  intro pins σ H s x v I rx ⟨z, ex⟩
  subst ex
  obtain ⟨t, rfl⟩ := rx
  exact ⟨typeIs_str s z t, fun _ e => nomatch e⟩
/-- d.get(..) -/
theorem e_get (F : Fit X c) {apos : Pos} {o e : Expr} {mo : Fm → Tr A} (ho : PE X o (tM c mo)) (ha : PA X (e :: es) (tAs c ms)) (hf : mthFit o apos pos (e :: es) = true) :
    PE X (.Call (.Attribute o "get" apos) (e :: es) [] pos) (tM c fun f => (mo f).bind fun x => match x.d with
      | .dct _ => (ms f).bind fun as => match cleans as with
        | some ds => ofO (mthD .get x.d ds)
        | none => .stuck
      | _ => .stuck) := by
  have hm : MtR X "dict.get" (fun x xs H Q => ∃ (g : Gh) (kvs : List (D × D)) (ds : List D) (z : A), Bars g ∧ Rr c g.b0 g.B H (.dct kvs) x ∧ Rzs c g.b0 g.B H ds xs ∧ mthD .get (.dct kvs) ds = some z ∧ ∀ v, Rn c g H H z v → Q v H) := by
    intro pins s σ H x xs v us Q I rx rs ⟨g, kvs, ds, z, hb, hx, hs, e, q⟩
    match ds, hs, e with
    | [k], hs, e =>
      rw [Rzs] at hs
      obtain ⟨y, r, rfl, h1, h2⟩ := hs
      rw [Rzs] at h2
      subst h2
      simp only [mthD] at e
      split at e
      · rename_i hk
        simp only [Option.some.injEq] at e
        subst e
        exact mt_get1 F pins s σ H x _ v us Q I rx rs ⟨g.b0, g.B, kvs, k, y, rfl, hx, .inl h1, hk, fun v rz => q v rz⟩
      · cases e
    | [k, z0], hs, e =>
      rw [Rzs] at hs
      obtain ⟨y, r, rfl, h1, h2⟩ := hs
      rw [Rzs] at h2
      obtain ⟨y2, r2, rfl, h3, h4⟩ := h2
      rw [Rzs] at h4
      subst h4
      simp only [mthD] at e
      split at e
      · rename_i hk
        simp only [Option.some.injEq] at e
        subst e
        exact mt_get2 F pins s σ H x _ v us Q I rx rs ⟨g.b0, g.B, kvs, k, y, z0, y2, rfl, hx, .inl h1, h3, hk, fun v rz => q v rz⟩
      · cases e
    | [], _, e => simp [mthD] at e
    | _ :: _ :: _ :: _, _, e => simp [mthD] at e
  refine PE.imp (pe_bmG (ty_dict F) PySem.F.plainAttrs_dict PySem.F.slot_dict_get PySem.F.type_dict_get hm ho ha hf) fun σ H Q ⟨g, f, Fr, h⟩ => ?_
  refine tM_bind (k := fun x f => match x.d with
      | .dct _ => (ms f).bind fun as => match cleans as with
        | some ds => ofO (mthD .get x.d ds)
        | none => .stuck
      | _ => .stuck) Fr h fun x v H1 s1 b1 r1 F1 h1 => ?_
  cases hd : x.d with
  | dct kvs =>
    rw [hd] at h1
    have rw1 := r1.rw Fr.dom
    rw [hd] at rw1
    refine ⟨⟨g.b0, g.B, kvs, rw1.rr⟩, g, f, F1, (all_bind.mp h1).mono fun as has vs H2 s2 b2 r2 => ?_⟩
    cases e : cleans as with
    | none => rw [e] at has; exact has.elim
    | some ds =>
      rw [e] at has
      obtain ⟨z, ez, q⟩ := all_ofO.mp has
      exact ⟨g, kvs, ds, z, Fr.bars, (rw1.sm Fr.bars s2).rr, r2.clean e, ez, fun w rn => q w H2 s2 b2 (rn.early b2 s2)⟩
  | _ => rw [hd] at h1; exact h1.elim
/-- sep.join(a row) -/
theorem e_join (F : Fit X c) {apos : Pos} {o e : Expr} {mo : Fm → Tr A} {me : Fm → Tr A} (ho : PE X o (tM c mo)) (ha : PE X e (tM c me)) (hf : mthFit o apos pos [e] = true) (hst : noStar e = true) :
    PE X (.Call (.Attribute o "join" apos) [e] [] pos) (tM c fun f => (mo f).bind fun x => match x.d with
      | .str _ => (me f).bind fun y => ofO (mthD .join x.d [y.d])
      | _ => .stuck) := by
  refine PE.imp (pe_bmG ty_str PySem.F.plainAttrs_str PySem.F.slot_str_join PySem.F.type_str_join (mt_joinD (c := c) F) ho (pa_cons ha pa_nil (noStar_each hst _ _)) hf) fun σ H Q ⟨g, f, Fr, h⟩ => ?_
  refine tM_bind (k := fun x f => match x.d with
      | .str _ => (me f).bind fun y => ofO (mthD .join x.d [y.d])
      | _ => .stuck) Fr h fun x v H1 s1 b1 r1 F1 h1 => ?_
  cases hd : x.d with
  | str sep =>
    rw [hd] at h1
    have rw1 := r1.rw Fr.dom
    rw [hd] at rw1
    have ev := rw1.rr.str
    subst ev
    refine ⟨⟨_, rfl⟩, tM_bind (k := fun y f => ofO (mthD .join (.str sep) [y.d])) F1 h1 fun y w H2 s2 b2 r2 F2 h2 => ?_⟩
    obtain ⟨z, ez, q⟩ := all_ofO.mp h2
    have rw2 := r2.rw F1.dom
    cases hy : y.d with
    | lst zs =>
      rw [hy] at ez rw2
      simp only [mthD] at ez
      split at ez
      · rename_i ss es
        split at ez
        · rename_i hl
          simp only [Option.some.injEq] at ez
          subst ez
          exact ⟨g.b0, g.B, sep, zs, w, ss, rfl, rfl, rw2.rr, es, hl, q _ _ (.refl _ _) b2 rn_str⟩
        · cases ez
      · cases ez
    | _ => rw [hy] at ez; simp [mthD] at ez
  | _ => rw [hd] at h1; exact h1.elim
/-! ### calls of defs -/
/-- a def's promise, by the evaluator -/
def spF (c : Cs) (G : Pg) (n k : Nat) : Sp := fun vs H Q _ => ∃ g as, Bars g ∧ BoxOk g H ∧ (∀ a, g.B a → H a ≠ none) ∧ Rns c g H as vs ∧ All (callF G n k as) fun a => ∀ v H', Sm g H H' → BoxOk g H' → Rn c g H H' a v → Q v H'
/-- the def at p keeps it, here -/
structure FnS (X : Cx) (c : Cs) (sp : Sp) (p : Addr) : Prop where
  ok : ∃ (l : Nat) (fd : FuncData) (ps : List Str), FnOk X.prog X.w X.K X.mg X.base CX0 l p fd ps sp ∧ Room l X.A ∧ Binds X.K fd ps []
  kp : PySem.W.keepIn X.K (.ref p) = true
/-- a callee's value, called with these -/
theorem run_fnS {sp : Sp} {p : Addr} (S : FnS X c sp p) {pins : List (Addr × Obj)} {σ : L2.St} {H : Hp} {s : Shared} {Q : VK} {us : List Value} {vs : List V} (I : Inv X pins σ H s) (r : Vals vs us) (h : sp vs H Q (fun _ _ _ => False)) :
    wpAny (model X.prog X.w) X.A (call (.ref p) us) (EP X pins σ Q) X.xe s := by
  obtain ⟨l, fd, ps, F, hr, hb⟩ := S.ok
  exact run_fn (dvs := []) (ds := []) F hr hb .nil pass0 I r (by rw [List.append_nil]; exact h)
def notAttr : Expr → Bool
  | .Attribute _ _ _ => false
  | _ => true
theorem call_any {fn e : Expr} {tf : TE} {t : TA} (hf : PE X fn tf) (ha : PA X (e :: es) t) (hna : notAttr fn = true) (hst : noStar e = true) (hst2 : es.all noStar = true) {sp : Addr → Sp} :
    PE X (.Call fn (e :: es) [] pos) (fun σ H Q => tf σ H fun x H1 => ∃ p, x = .ref p ∧ FnS X c (sp p) p ∧ t σ H1 fun vs H2 => sp p vs H2 Q (fun _ _ _ => False)) := by
  refine ⟨fun pins s σ H Q I h => ?_⟩
  refine Call_ (thn (hf.run pins s σ H _ I h) fun u s1 ⟨x, H1, I1, r1, p, ex, S, q1⟩ => ?_) (by cases fn <;> first | rfl | cases hna)
  subst ex
  cases r1
  refine PySem.W.callWith_K (h₀ := X.base) I1.ok.mod.kin S.kp (thn (ha.run pos pins s1 σ H1 _ I1 q1) fun us s2 ⟨vs, H2, I2, r2, q2⟩ => ⟨I2.kIn, ?_⟩) (noStar_each hst _ _) (noStar_back hst2)
  exact run_fnS S I2 r2 q2
theorem call_none {fn : Expr} {tf : TE} (hf : PE X fn tf) (hna : notAttr fn = true) {sp : Addr → Sp} :
    PE X (.Call fn [] [] pos) (fun σ H Q => tf σ H fun x H1 => ∃ p, x = .ref p ∧ FnS X c (sp p) p ∧ sp p [] H1 Q (fun _ _ _ => False)) := by
  refine ⟨fun pins s σ H Q I h => ?_⟩
  refine Call_ (thn (hf.run pins s σ H _ I h) fun u s1 ⟨x, H1, I1, r1, p, ex, S, q1⟩ => ?_) (by cases fn <;> first | rfl | cases hna)
  subst ex
  cases r1
  exact PySem.W.callWith_K0 I1.kIn S.kp (run_fnS S (us := []) I1 .nil q1)
/-- the callee by data -/
theorem sp_of {G : Pg} {n k : Nat} {g : Gh} {f : Fm} {σ : L2.St} {H H1 : Hp} {as : List A} {vs : List V} {Q : VK} (Fr : FrOk c g f σ H) (s1 : Sm g H H1) (b1 : BoxOk g H1) (r : Rns c g H1 as vs) (h : All (callF G n k as) fun a => ∀ v H', Sm g H H' → BoxOk g H' → Rn c g H H' a v → Q v H') :
    spF c G n k vs H1 Q (fun _ _ _ => False) :=
  ⟨g, as, Fr.bars, b1, (Fr.sm s1 b1).dom, r, h.mono fun a ha v H' s2 b2 r2 => ha v H' (s1.trans s2) b2 (r2.early b1 s1)⟩
/-- f(..), f a def of the module -/
theorem e_call {G : Pg} {n k : Nat} {x : Str} {p : Pos} {e : Expr} {q : Addr} (hg : Gl X x) (hm : X.mg x = some (.ref q)) (S : FnS X c (spF c G n k) q) (hdb : (x == ("__debug__" : Str)) = false) (hst : noStar e = true) (hst2 : es.all noStar = true)
    (ha : PA X (e :: es) (tAs c ms)) : PE X (.Call (.Name x p) (e :: es) [] pos) (tM c fun f => (ms f).bind fun as => callF G n k as) := by
  have hf : PE X (.Name x p) (tC (.ref q)) := pe_glob hg hm rfl hdb
  refine PE.imp (call_any (c := c) (sp := fun _ => spF c G n k) hf ha rfl hst hst2) fun σ H Q ⟨g, f, Fr, h⟩ => ?_
  exact ⟨q, rfl, S, g, f, Fr, (all_bind.mp h).mono fun as has vs H1 s1 b1 r1 => sp_of Fr s1 b1 r1 has⟩
theorem e_call0 {G : Pg} {n k : Nat} {x : Str} {p : Pos} {q : Addr} (hg : Gl X x) (hm : X.mg x = some (.ref q)) (S : FnS X c (spF c G n k) q) (hdb : (x == ("__debug__" : Str)) = false) :
    PE X (.Call (.Name x p) [] [] pos) (tM c fun _ => callF G n k []) := by
  have hf : PE X (.Name x p) (tC (.ref q)) := pe_glob hg hm rfl hdb
  refine PE.imp (call_none (c := c) (sp := fun _ => spF c G n k) hf rfl) fun σ H Q ⟨g, f, Fr, h⟩ => ?_
  exact ⟨q, rfl, S, sp_of Fr (.refl _ _) Fr.box .nil h⟩
/-- a value that is a function, called -/
theorem e_callv {G : Pg} {n : Nat} {fn e : Expr} {mf : Fm → Tr A} (hf : PE X fn (tM c mf)) (hna : notAttr fn = true) (S : ∀ k q, c.fa k = some q → FnS X c (spF c G n k) q) (hst : noStar e = true) (hst2 : es.all noStar = true) (ha : PA X (e :: es) (tAs c ms)) :
    PE X (.Call fn (e :: es) [] pos) (tM c fun f => (mf f).bind fun x => match x.d with
      | .fn k => (ms f).bind fun as => callF G n k as
      | _ => .stuck) := by
  -- the callee's number is the value's; the promise is chosen by it
  refine ⟨fun pins s σ H Q I ⟨g, f, Fr, h⟩ => ?_⟩
  have hm : tM c mf σ H fun x H1 => ∃ k q, x = .ref q ∧ c.fa k = some q ∧ tAs c ms σ H1 fun vs H2 => spF c G n k vs H2 Q (fun _ _ _ => False) := by
    refine tM_bind (k := fun x f => match x.d with
      | .fn k => (ms f).bind fun as => callF G n k as
      | _ => .stuck) Fr h fun x v H1 s1 b1 r1 F1 h1 => ?_
    cases hd : x.d with
    | fn k =>
      rw [hd] at h1
      have rw1 := r1.rw Fr.dom
      rw [hd] at rw1
      obtain ⟨q, e1, e2⟩ := rw1.rr.fn
      exact ⟨k, q, e2, e1, g, f, F1, (all_bind.mp h1).mono fun as has vs H2 s2 b2 r2 => sp_of F1 s2 b2 r2 has⟩
    | _ => rw [hd] at h1; exact h1.elim
  refine Call_ (thn (hf.run pins s σ H _ I hm) fun u s1 ⟨x, H1, I1, r1, k, q, ex, hk, q1⟩ => ?_) (by cases fn <;> first | rfl | cases hna)
  subst ex
  cases r1
  have Sk := S k q hk
  refine PySem.W.callWith_K (h₀ := X.base) I1.ok.mod.kin Sk.kp (thn (ha.run pos pins s1 σ H1 _ I1 q1) fun us s2 ⟨vs, H2, I2, r2, q2⟩ => ⟨I2.kIn, ?_⟩) (noStar_each hst _ _) (noStar_back hst2)
  exact run_fnS Sk I2 r2 q2
/-- a draw's promise -/
def spDraw : Sp := fun vs H Q _ => ∃ (g : Gh) (m : Int), vs = [.ref g.b0, .int m] ∧ Bars g ∧ BoxOk g H ∧ 0 < m ∧ m < 1000000 ∧ ∀ (d : Nat) H', (d : Int) < m → Sm g H H' → BoxOk g H' → Q (.int d) H'
theorem e_draw {x : Str} {p : Pos} {e1 e2 : Expr} {q : Addr} (hg : Gl X x) (hm : X.mg x = some (.ref q)) (S : FnS X c spDraw q) (hdb : (x == ("__debug__" : Str)) = false) (hst : noStar e1 = true) (hst2 : noStar e2 = true)
    (ha : PE X e1 (tM c ma)) (hb : PE X e2 (tM c mb)) : PE X (.Call (.Name x p) [e1, e2] [] pos) (tM c fun f => (ma f).bind fun x => (mb f).bind fun y => match x.d, y.d with
      | .box, .int n => if 0 < n ∧ n < 1000000 then .ask n.toNat fun d => .ret (cl (.int d)) else .stuck
      | _, _ => .stuck) := by
  have hf : PE X (.Name x p) (tC (.ref q)) := pe_glob hg hm rfl hdb
  have hp : PA X [e1, e2] _ := pa_cons ha (pa_cons hb pa_nil (noStar_each hst2 _ _)) (noStar_each hst _ _)
  refine PE.imp (call_any (c := c) (sp := fun _ => spDraw) hf hp rfl hst (by rw [List.all_cons, hst2]; rfl)) fun σ H Q ⟨g, f, Fr, h⟩ => ?_
  refine ⟨q, rfl, S, ?_⟩
  refine tM_bind (k := fun x f => (mb f).bind fun y => match x.d, y.d with
      | .box, .int n => if 0 < n ∧ n < 1000000 then .ask n.toNat fun d => .ret (cl (.int d)) else .stuck
      | _, _ => .stuck) Fr h fun x v H1 s1 b1 r1 F1 h1 => ?_
  refine tM_bind (k := fun y f => match x.d, y.d with
      | .box, .int n => if 0 < n ∧ n < 1000000 then .ask n.toNat fun d => .ret (cl (.int d)) else .stuck
      | _, _ => .stuck) F1 h1 fun y w H2 s2 b2 r2 F2 h2 => ?_
  have rx := (r1.rw Fr.dom).sm Fr.bars s2
  have ry := r2.rw F1.dom
  cases hx : x.d with
  | box =>
    cases hy : y.d with
    | int m =>
      rw [hx] at rx h2
      rw [hy] at ry h2
      have h2 : All (if 0 < m ∧ m < 1000000 then .ask m.toNat fun d => .ret (cl (.int d)) else .stuck) fun a => ∀ v H', Sm g H2 H' → BoxOk g H' → Rn c g H2 H' a v → Q v H' := h2
      by_cases hc : 0 < m ∧ m < 1000000
      · rw [if_pos hc] at h2
        have ev := rx.rr.box
        have ew := ry.rr.int
        subst ev ew
        exact ⟨g, m, rfl, Fr.bars, b2, hc.1, hc.2, fun d H3 hd s3 b3 => h2.2 d (by omega) _ H3 s3 b3 rn_int⟩
      · rw [if_neg hc] at h2
        exact h2.elim
    | _ => rw [hx, hy] at h2; exact h2.elim
  | _ => rw [hx] at h2; cases y.d <;> exact h2.elim
end
end Ev
/-! EvD5: what loops walk: rows, texts, enumerate, zip (turn by turn). -/
namespace Ev
open PySem PySem.Spec PyProof.Rows L2
theorem vals_back : ∀ {xs : List V} {us : List Value} {i : Nat} {u : Value}, Vals xs us → us[i]? = some u → ∃ x, xs[i]? = some x ∧ RelV x u
  | _, _, _, _, .nil, h => by simp at h
  | _, _, 0, u, .cons (a := x) r rr, h => by simp at h; subst h; exact ⟨x, rfl, r⟩
  | _, _, i + 1, u, .cons r rr, h => by
    obtain ⟨x, h1, h2⟩ := vals_back (i := i) rr (by simpa using h)
    exact ⟨x, by simpa using h1, h2⟩
/-- what is walked -/
inductive Sr where
  | lst (a : Addr) | tup (a : Addr) | str (z : List Nat)
def signsV (z : List Nat) : List V := z.map fun ch => V.str (toStr [ch])
/-- what it holds -/
def SrV (K : PySem.W.Frag) (H : Hp) : Sr → List V → Prop
  | .lst a, xs => SqL K H a xs
  | .tup a, xs => SqT K H a xs
  | .str z, xs => xs = signsV z
/-- where it stands -/
def Sr.src : Sr → List Addr
  | .lst a => [a]
  | .tup a => [a]
  | .str _ => []
/-- its iterator at it, before the i-th item -/
def SrIt (h : Heap) (it : Addr) (i : Nat) : Sr → Prop
  | .lst a => h.IsListIter it a i
  | .tup a => h.IsTupleIter it a i
  | .str z => ∃ t, h.IsStrIter it (strIterType (toStr z)) (toStr z) t i
theorem SrIt.at {h h' : Heap} {it : Addr} {i : Nat} : ∀ {S : Sr}, SrIt h it i S → (∀ o, h.get? it = some o → h'.get? it = some o) → SrIt h' it i S
  | .lst _, x, k => Heap.IsListIter.at x k
  | .tup _, x, k => Heap.IsTupleIter.at x k
  | .str _, ⟨t, o, h1, h2, h3⟩, k => ⟨t, o, k o h1, h2, h3⟩
theorem SrIt.obj {h : Heap} {it : Addr} {i : Nat} : ∀ {S : Sr}, SrIt h it i S → ∃ o, h.get? it = some o ∧ ∀ v, o.data ≠ .cell v
  | .lst _, ⟨o, h1, h2, h3⟩ => ⟨o, h1, fun v z => by rw [h3] at z; cases z⟩
  | .tup _, ⟨o, h1, h2, h3⟩ => ⟨o, h1, fun v z => by rw [h3] at z; cases z⟩
  | .str z, ⟨t, o, h1, h2, h3⟩ => ⟨o, h1, fun v z => by rw [h3] at z; cases z⟩
section
variable {X : Cx} {pins : List (Addr × Obj)} {σ : L2.St} {H : Hp} {s : Shared} {it : Addr} {i : Nat} {xs ys : List V}
theorem SrV.inj (I : Inv X pins σ H s) : ∀ {S : Sr}, SrV X.K H S xs → SrV X.K H S ys → xs = ys
  | .lst _, a, b => I.list_inj a b
  | .tup _, a, b => I.tuple_inj a b
  | .str _, a, b => a.trans b.symm
theorem signsV_get {z : List Nat} {i : Nat} {v : Value} (h : SignAt (toStr z) i v) : ∃ x, (signsV z)[i]? = some x ∧ RelV x v := by
  obtain ⟨ch, u, h1, h2⟩ := h
  have h1 : z.toArray[i]? = some ch := h1
  have h1 : z[i]? = some ch := by simpa using h1
  exact ⟨.str (toStr [ch]), by unfold signsV; rw [List.getElem?_map, h1]; rfl, u, h2⟩
/-- its items at this turn, for the kit's walks -/
theorem Sr.now (I : Inv X pins σ H s) (hc : X.calm = true) (tg : Expr) : ∀ {S : Sr}, SrV X.K H S xs → SrIt s.heap it i S → it ∉ S.src → ∃ (P : Nat → Value → Prop) (St : Nat → Heap → Prop),
    Draws X.prog X.w X.A.in1 it (it :: S.src) xs.length P St ∧ Goes X.prog X.w X.A tg it (it :: S.src) [it] xs.length (fun i v _ => P i v) St ∧ St i s.heap ∧ (∀ j v, P j v → ∃ x, xs[j]? = some x ∧ RelV x v) ∧ ∀ j h, St j h → SrIt h it j S
  | .lst a, hs, st, hn => by
    obtain ⟨its, r, pl, _⟩ := I.list hs
    have hl := Vals.length r
    have hne : a ≠ it := fun e => hn (by simp [Sr.src, e])
    have d := Draws.list (prog := X.prog) (w := X.w) (A := X.A.in1) (I.ok.hd hc) it a hne its.toArray
    have gg := Goes.list (prog := X.prog) (w := X.w) (A := X.A) (target := tg) (I.ok.hd hc) it a hne its.toArray
    rw [List.size_toArray, ← hl] at d gg
    refine ⟨_, _, d, gg, ⟨st, pl.isList⟩, fun j v hy => ?_, fun j h k => k.1⟩
    have hy : its[j]? = some v := by simpa using hy
    exact vals_back r hy
  | .tup a, hs, st, hn => by
    obtain ⟨its, r, pl, _⟩ := I.tuple hs
    have hl := Vals.length r
    have hne : a ≠ it := fun e => hn (by simp [Sr.src, e])
    have d := Draws.tuple (prog := X.prog) (w := X.w) (A := X.A.in1) (I.ok.hd hc) it a hne its.toArray
    have gg := Goes.tuple (prog := X.prog) (w := X.w) (A := X.A) (target := tg) (I.ok.hd hc) it a hne its.toArray
    rw [List.size_toArray, ← hl] at d gg
    refine ⟨_, _, d, gg, ⟨st, pl⟩, fun j v hy => ?_, fun j h k => k.1⟩
    have hy : its[j]? = some v := by simpa using hy
    exact vals_back r hy
  | .str z, hs, ⟨t, st⟩, hn => by
    have hs : xs = signsV z := hs
    have hl : (toStr z).cps.size = xs.length := by rw [hs]; unfold signsV; rw [List.length_map]; exact toStr_len z
    have d := Draws.text (prog := X.prog) (w := X.w) (A := X.A.in1) (I.ok.hd hc) it (toStr z) t
    have gg := Goes.text (prog := X.prog) (w := X.w) (A := X.A) (target := tg) (I.ok.hd hc) it (toStr z) t
    rw [hl] at d gg
    exact ⟨_, _, d, gg, st, fun j v hy => by rw [hs]; exact signsV_get hy, fun j h k => ⟨t, k⟩⟩
end
/-! ### each item -/
def ItS (K : PySem.W.Frag) (S : Sr) : L2.It :=
  ⟨fun i H => ∃ (xs : List V) (x : V), SrV K H S xs ∧ xs[i]? = some x, fun i H x H' => H' = H ∧ ∀ xs, SrV K H S xs → xs[i]? = some x, fun i H => ∃ xs : List V, SrV K H S xs ∧ xs.length = i⟩
theorem lt_of_get {α : Type} {xs : List α} {i : Nat} {x : α} (h : xs[i]? = some x) : i < xs.length := by
  rcases Nat.lt_or_ge i xs.length with z | z
  · exact z
  · rw [List.getElem?_eq_none z] at h; cases h
theorem turn_S {P : Program} {w : World} {K : PySem.W.Frag} {tg : Expr} {S : Sr} (it : Addr) (hn : it ∉ S.src) : Turn P w K tg (ItS K S) [it] it (fun i h => SrIt h it i S) where
  mem := by simp
  obj := fun i h st b hb => by
    obtain rfl : b = it := by simpa using hb
    exact st.obj
  keep := fun i h h' st k => st.at fun o e => k it (by simp) o e
  item := by
    intro X hP hw hK hc i pins s σ H E I hf st hg
    subst hP hw hK
    obtain ⟨xs, x, hq, hx⟩ := hg
    obtain ⟨f0, f1, f2, f3, f4, f5⟩ := hf it (by simp)
    obtain ⟨P, St, _, W, st1, hv, hst⟩ := Sr.now I hc tg hq st hn
    refine W.goes i s _ _ (lt_of_get hx) st1 fun v h' tk hy st2 kk _ => ?_
    have I1 : Inv X pins σ H { s with heap := h', toks := tk } := I.turned (fun b o hb e => kk b o (by simpa using hb) e) f0 f1 f3 f4 f5
    obtain ⟨x', hx', rx⟩ := hv _ _ hy
    exact ⟨x', H, I1, rx, ⟨rfl, fun ys hy => by rw [hy.inj I hq]; exact hx'⟩, hst _ _ st2, fun b hb => (hf b hb).1⟩
  done := by
    intro X hP hw hK hc i pins s σ H E I hf st hg
    subst hP hw hK
    obtain ⟨xs, hq, hx⟩ := hg
    obtain ⟨f0, f1, f2, f3, f4, f5⟩ := hf it (by simp)
    obtain ⟨P, St, _, W, st1, _, _⟩ := Sr.now I hc tg hq st hn
    subst hx
    exact thn (W.stops s (fun s1 => Inv X pins σ H s1) _ st1 fun h' tk kk _ => I.turned (fun b o hb e => kk b o (by simpa using hb) e) f0 f1 f3 f4 f5) fun r s1 h => h
  self := fun A i s Q E st h => by
    cases S with
    | lst a => exact wpAny_pyIter_listiter st h
    | tup a => exact wpAny_pyIter_tupleiter st h
    | str z =>
      obtain ⟨t, st⟩ := st
      cases ha : (toStr z).cps.all (· < 128)
      · simp only [strIterType, ha, Bool.false_eq_true, if_false] at st
        exact wpAny_pyIter_striter_wide st h
      · simp only [strIterType, ha, if_true] at st
        exact wpAny_pyIter_striter_ascii st h
theorem walk_S {K : PySem.W.Frag} {S : Sr} {xs : List V} : Walk (ItS K S) xs.length (fun H => SrV K H S xs) (YAt xs) :=
  ⟨fun i _ hi q => ⟨xs, xs[i], q, by simp [hi]⟩, fun _ q => ⟨xs, q, rfl⟩, fun _ _ _ _ _ q y => ⟨y.1, y.2 xs q⟩⟩
/-! ### numbered -/
def ItE (K : PySem.W.Frag) (S : Sr) : L2.It :=
  ⟨fun i H => ∃ (xs : List V) (x : V), SrV K H S xs ∧ xs[i]? = some x, fun i H v H' => ∃ T x, v = .ref T ∧ H T = none ∧ H' = upd H T (.tup [.int (i : Nat), x]) ∧ ∀ xs, SrV K H S xs → xs[i]? = some x, fun i H => ∃ xs : List V, SrV K H S xs ∧ xs.length = i⟩
theorem new_tupO {X : Cx} {H : Hp} {h : Heap} {T : Addr} {vs : List V} {us : List Value} (hz : vs.length ≤ sizeLine) (r : Vals vs us) (ht : h.IsTuple T us.toArray) : ObjOk X.prog X.w (upd H T (.tup vs)) h T (.tup vs) := ⟨hz, us, r, ht⟩
theorem turn_E {P : Program} {w : World} {K : PySem.W.Frag} {elts : List Expr} {kk : Nat} {tpos : Pos} {S : Sr} (e it : Addr) (hei : e ≠ it) (hn : it ∉ S.src) (hne : e ∉ S.src) :
    Turn P w K (.Tuple elts kk tpos) (ItE K S) [e, it] e (fun i h => (∃ old, IsEnum h e it (0 + ((i : Nat) : Int)) old) ∧ SrIt h it i S) where
  mem := by simp
  obj := fun i h st b hb => by
    obtain ⟨⟨old, he⟩, hs⟩ := st
    have e' : b = e ∨ b = it := by simpa using hb
    rcases e' with z | z
    · rw [z]; exact ⟨_, he, fun v q => nomatch q⟩
    · rw [z]; exact hs.obj
  keep := fun i h h' st k => let ⟨⟨old, he⟩, hi⟩ := st; ⟨⟨old, k e (by simp) _ he⟩, hi.at fun o q => k it (by simp) o q⟩
  item := by
    intro X hP hw hK hc i pins s σ H E I hf st hg
    subst hP hw hK
    obtain ⟨he, hs⟩ := st
    obtain ⟨xs, x, hq, hx⟩ := hg
    obtain ⟨P, St, D, _, st1, hv, hst⟩ := Sr.now I hc (.Tuple elts kk tpos) hq hs hn
    have W := GoesN.enumFrom (elts := elts) (x1 := kk) (pos := tpos) 0 D e hei (fun z => (List.mem_cons.mp z).elim hei hne) List.mem_cons_self
    refine W.goes i s _ _ (lt_of_get hx) ⟨he, st1⟩ fun v h' tk hy st2 kk _ => ?_
    obtain ⟨T, t, u, rfl, hT, hp, ht⟩ := hy
    obtain ⟨x', hx', rx⟩ := hv _ _ hp
    have e0 : (0 : Int) + (i : Int) = (i : Int) := by omega
    rw [e0] at ht
    have I1 : Inv X pins σ (upd H T (.tup [.int (i : Nat), x'])) { s with heap := h', toks := tk } :=
      I.turnedNew (ch := [e, it]) kk hf hT (new_tupO (by show 2 ≤ sizeLine; decide) (.cons ⟨_, rfl⟩ (.cons rx .nil)) ht)
    refine ⟨.ref T, _, I1, rfl, ⟨T, x', rfl, I.hok.fresh hT, rfl, fun ys hy => by rw [hy.inj I hq]; exact hx'⟩, ⟨st2.1, hst _ _ st2.2⟩, fun b hb => ?_⟩
    have e' : b = e ∨ b = it := by simpa using hb
    have hlt : b < s.heap.objs.size := by
      rcases e' with z | z
      · obtain ⟨_, q⟩ := he; rw [z]; exact Heap.lt_size q
      · obtain ⟨_, q, _⟩ := hs.obj; rw [z]; exact Heap.lt_size q
    rw [upd_ne (Nat.ne_of_lt (Nat.lt_of_lt_of_le hlt hT))]
    exact (hf b hb).1
  done := by
    intro X hP hw hK hc i pins s σ H E I hf st hg
    subst hP hw hK
    obtain ⟨he, hs⟩ := st
    obtain ⟨xs, hq, hx⟩ := hg
    obtain ⟨P, St, D, _, st1, hv, hst⟩ := Sr.now I hc (.Tuple elts kk tpos) hq hs hn
    have W := GoesN.enumFrom (elts := elts) (x1 := kk) (pos := tpos) 0 D e hei (fun z => (List.mem_cons.mp z).elim hei hne) List.mem_cons_self
    subst hx
    exact thn (W.stops s (fun s1 => Inv X pins σ H s1) _ ⟨he, st1⟩ fun h' tk kk _ => I.turnedL (ch := [e, it]) kk hf) fun r s1 h => h
  self := fun A i s Q E st h => let ⟨⟨_, he⟩, _⟩ := st; wpAny_pyIter_enum he h
theorem walk_E {K : PySem.W.Frag} {S : Sr} {xs : List V} : Walk (ItE K S) xs.length (fun H => SrV K H S xs) (YPair (fun i => some (.int (i : Nat))) (fun i => xs[i]?)) := by
  refine ⟨fun i _ hi q => ⟨xs, xs[i], q, by simp [hi]⟩, fun _ q => ⟨xs, q, rfl⟩, fun i H v H' _ q y => ?_⟩
  obtain ⟨T, x, h1, h2, h3, h4⟩ := y
  exact ⟨T, .int (i : Nat), x, h1, h2, h3, rfl, h4 xs q⟩
/-! ### side by side -/
def Itz2 (K : PySem.W.Frag) (S1 S2 : Sr) : L2.It :=
  ⟨fun i H => ∃ (xs ys : List V) (x y : V), SrV K H S1 xs ∧ SrV K H S2 ys ∧ xs[i]? = some x ∧ ys[i]? = some y,
    fun i H v H' => ∃ T x y, v = .ref T ∧ H T = none ∧ H' = upd H T (.tup [x, y]) ∧ (∀ xs, SrV K H S1 xs → xs[i]? = some x) ∧ ∀ ys, SrV K H S2 ys → ys[i]? = some y,
    fun i H => ∃ xs ys : List V, SrV K H S1 xs ∧ SrV K H S2 ys ∧ min xs.length ys.length = i⟩
theorem turn_Z2 {P : Program} {w : World} {K : PySem.W.Frag} {elts : List Expr} {kk : Nat} {tpos : Pos} {S1 S2 : Sr} {z TI TO i1 i2 : Addr} (D : ZipSep2 z TI TO i1 i2 (i1 :: S1.src) (i2 :: S2.src)) (n1 : i1 ∉ S1.src) (n2 : i2 ∉ S2.src) :
    Turn P w K (.Tuple elts kk tpos) (Itz2 K S1 S2) [z, TI, TO, i1, i2] z (fun i h => IsZip h z TI TO .none ∧ IsTupOf2 h TI (.ref i1) (.ref i2) ∧ (∃ x y, IsTupOf2 h TO x y) ∧ SrIt h i1 i S1 ∧ SrIt h i2 i S2) where
  mem := by simp
  obj := fun i h st c hc => by
    obtain ⟨hz, hTI, ⟨x, y, hTO⟩, h1, h2⟩ := st
    have e' : c = z ∨ c = TI ∨ c = TO ∨ c = i1 ∨ c = i2 := by simpa using hc
    rcases e' with q | q | q | q | q
    · rw [q]; exact ⟨_, hz, fun v q => nomatch q⟩
    · rw [q]; exact ⟨_, hTI, fun v q => nomatch q⟩
    · rw [q]; exact ⟨_, hTO, fun v q => nomatch q⟩
    · rw [q]; exact h1.obj
    · rw [q]; exact h2.obj
  keep := fun i h h' st k => by
    obtain ⟨hz, hTI, ⟨x, y, hTO⟩, h1, h2⟩ := st
    exact ⟨k z (by simp) _ hz, k TI (by simp) _ hTI, ⟨x, y, k TO (by simp) _ hTO⟩, h1.at fun o q => k i1 (by simp) o q, h2.at fun o q => k i2 (by simp) o q⟩
  item := by
    intro X hP hw hK hc i pins s σ H E I hf st hg
    subst hP hw hK
    obtain ⟨hz, hTI, hTO, h1, h2⟩ := st
    obtain ⟨xs, ys, x, y, hqx, hqy, hx, hy⟩ := hg
    obtain ⟨P1, St1, D1, _, st1, hv1, hst1⟩ := Sr.now I hc (.Tuple elts kk tpos) hqx h1 n1
    obtain ⟨P2, St2, D2, _, st2, hv2, hst2⟩ := Sr.now I hc (.Tuple elts kk tpos) hqy h2 n2
    have W := GoesN.zip2 (elts := elts) (x1 := kk) (pos := tpos) D D1 D2
    have b1 := lt_of_get hx
    have b2 := lt_of_get hy
    refine W.goes i s _ _ (by omega) ⟨hz, hTI, hTO, st1, st2⟩ fun v h' tk hy st' kk _ => ?_
    obtain ⟨T, u1, u2, rfl, hT, hp1, hp2, ht⟩ := hy
    obtain ⟨x1, hx1, r1⟩ := hv1 _ _ hp1
    obtain ⟨x2, hx2, r2⟩ := hv2 _ _ hp2
    have I1 : Inv X pins σ (upd H T (.tup [x1, x2])) { s with heap := h', toks := tk } :=
      I.turnedNew (ch := [z, TI, TO, i1, i2]) (fun b o hb q => kk b o (fun z' => hb (by simp only [List.mem_cons, List.not_mem_nil, or_false] at z' ⊢; rcases z' with z' | z' | z' | z' <;> simp [z'])) q) hf hT (new_tupO (by show 2 ≤ sizeLine; decide) (.cons r1 (.cons r2 .nil)) ht)
    refine ⟨.ref T, _, I1, rfl, ⟨T, x1, x2, rfl, I.hok.fresh hT, rfl, fun l hl => by rw [hl.inj I hqx]; exact hx1, fun l hl => by rw [hl.inj I hqy]; exact hx2⟩, ⟨st'.1, st'.2.1, st'.2.2.1, hst1 _ _ st'.2.2.2.1, hst2 _ _ st'.2.2.2.2⟩, fun b hb => ?_⟩
    have hlt : b < s.heap.objs.size := by
      have e' : b = z ∨ b = TI ∨ b = TO ∨ b = i1 ∨ b = i2 := by simpa using hb
      rcases e' with q | q | q | q | q
      · rw [q]; exact Heap.lt_size hz
      · rw [q]; exact Heap.lt_size hTI
      · obtain ⟨_, _, k⟩ := hTO; rw [q]; exact Heap.lt_size k
      · obtain ⟨_, k, _⟩ := h1.obj; rw [q]; exact Heap.lt_size k
      · obtain ⟨_, k, _⟩ := h2.obj; rw [q]; exact Heap.lt_size k
    rw [upd_ne (Nat.ne_of_lt (Nat.lt_of_lt_of_le hlt hT))]
    exact (hf b hb).1
  done := by
    intro X hP hw hK hc i pins s σ H E I hf st hg
    subst hP hw hK
    obtain ⟨hz, hTI, hTO, h1, h2⟩ := st
    obtain ⟨xs, ys, hqx, hqy, he⟩ := hg
    obtain ⟨P1, St1, D1, _, st1, hv1, hst1⟩ := Sr.now I hc (.Tuple elts kk tpos) hqx h1 n1
    obtain ⟨P2, St2, D2, _, st2, hv2, hst2⟩ := Sr.now I hc (.Tuple elts kk tpos) hqy h2 n2
    have W := GoesN.zip2 (elts := elts) (x1 := kk) (pos := tpos) D D1 D2
    subst he
    exact thn (W.stops s (fun s1 => Inv X pins σ H s1) _ ⟨hz, hTI, hTO, st1, st2⟩ fun h' tk kk _ => I.turnedL (ch := [z, TI, TO, i1, i2]) (fun b o hb q => kk b o (fun z' => hb (by simp only [List.mem_cons, List.not_mem_nil, or_false] at z' ⊢; rcases z' with z' | z' | z' | z' <;> simp [z'])) q) hf) fun r s1 h => h
  self := fun A i s Q E st h => wpAny_pyIter_zip st.1 h
theorem walk_Z2 {K : PySem.W.Frag} {S1 S2 : Sr} {xs ys : List V} : Walk (Itz2 K S1 S2) (min xs.length ys.length) (fun H => SrV K H S1 xs ∧ SrV K H S2 ys) (YPair (fun i => xs[i]?) (fun i => ys[i]?)) := by
  refine ⟨fun i _ hi q => ?_, fun _ q => ⟨xs, ys, q.1, q.2, rfl⟩, fun i H v H' _ q y => ?_⟩
  · have h1 : i < xs.length := by omega
    have h2 : i < ys.length := by omega
    exact ⟨xs, ys, xs[i], ys[i], q.1, q.2, by simp [h1], by simp [h2]⟩
  · obtain ⟨T, x, z, h1, h2, h3, h4, h5⟩ := y
    exact ⟨T, x, z, h1, h2, h3, h4 xs q.1, h5 ys q.2⟩
def Itz3 (K : PySem.W.Frag) (S1 S2 S3 : Sr) : L2.It :=
  ⟨fun i H => ∃ (xs ys zs : List V) (x y u : V), SrV K H S1 xs ∧ SrV K H S2 ys ∧ SrV K H S3 zs ∧ xs[i]? = some x ∧ ys[i]? = some y ∧ zs[i]? = some u,
    fun i H v H' => ∃ T x y u, v = .ref T ∧ H T = none ∧ H' = upd H T (.tup [x, y, u]) ∧ (∀ xs, SrV K H S1 xs → xs[i]? = some x) ∧ (∀ ys, SrV K H S2 ys → ys[i]? = some y) ∧ ∀ ys, SrV K H S3 ys → ys[i]? = some u,
    fun i H => ∃ xs ys zs : List V, SrV K H S1 xs ∧ SrV K H S2 ys ∧ SrV K H S3 zs ∧ min (min xs.length ys.length) zs.length = i⟩
theorem turn_Z3 {P : Program} {w : World} {K : PySem.W.Frag} {elts : List Expr} {kk : Nat} {tpos : Pos} {S1 S2 S3 : Sr} {z TI TO i1 i2 i3 : Addr} (D : ZipSep3 z TI TO i1 i2 i3 (i1 :: S1.src) (i2 :: S2.src) (i3 :: S3.src)) (n1 : i1 ∉ S1.src) (n2 : i2 ∉ S2.src) (n3 : i3 ∉ S3.src) :
    Turn P w K (.Tuple elts kk tpos) (Itz3 K S1 S2 S3) [z, TI, TO, i1, i2, i3] z (fun i h => IsZip h z TI TO .none ∧ IsTupOf3 h TI (.ref i1) (.ref i2) (.ref i3) ∧ (∃ x y u, IsTupOf3 h TO x y u) ∧ SrIt h i1 i S1 ∧ SrIt h i2 i S2 ∧ SrIt h i3 i S3) where
  mem := by simp
  obj := fun i h st c hc => by
    obtain ⟨hz, hTI, ⟨x, y, u, hTO⟩, h1, h2, h3⟩ := st
    have e' : c = z ∨ c = TI ∨ c = TO ∨ c = i1 ∨ c = i2 ∨ c = i3 := by simpa using hc
    rcases e' with q | q | q | q | q | q
    · rw [q]; exact ⟨_, hz, fun v q => nomatch q⟩
    · rw [q]; exact ⟨_, hTI, fun v q => nomatch q⟩
    · rw [q]; exact ⟨_, hTO, fun v q => nomatch q⟩
    · rw [q]; exact h1.obj
    · rw [q]; exact h2.obj
    · rw [q]; exact h3.obj
  keep := fun i h h' st k => by
    obtain ⟨hz, hTI, ⟨x, y, u, hTO⟩, h1, h2, h3⟩ := st
    exact ⟨k z (by simp) _ hz, k TI (by simp) _ hTI, ⟨x, y, u, k TO (by simp) _ hTO⟩, h1.at fun o q => k i1 (by simp) o q, h2.at fun o q => k i2 (by simp) o q, h3.at fun o q => k i3 (by simp) o q⟩
  item := by
    intro X hP hw hK hc i pins s σ H E I hf st hg
    subst hP hw hK
    obtain ⟨hz, hTI, hTO, h1, h2, h3⟩ := st
    obtain ⟨xs, ys, zs, x, y, u, hqx, hqy, hqz, hx, hy, hu⟩ := hg
    obtain ⟨P1, St1, D1, _, st1, hv1, hst1⟩ := Sr.now I hc (.Tuple elts kk tpos) hqx h1 n1
    obtain ⟨P2, St2, D2, _, st2, hv2, hst2⟩ := Sr.now I hc (.Tuple elts kk tpos) hqy h2 n2
    obtain ⟨P3, St3, D3, _, st3, hv3, hst3⟩ := Sr.now I hc (.Tuple elts kk tpos) hqz h3 n3
    have W := GoesN.zip3 (elts := elts) (x1 := kk) (pos := tpos) D D1 D2 D3
    have b1 := lt_of_get hx
    have b2 := lt_of_get hy
    have b3 := lt_of_get hu
    refine W.goes i s _ _ (by omega) ⟨hz, hTI, hTO, st1, st2, st3⟩ fun v h' tk hy st' kk _ => ?_
    obtain ⟨T, u1, u2, u3, rfl, hT, hp1, hp2, hp3, ht⟩ := hy
    obtain ⟨x1, hx1, r1⟩ := hv1 _ _ hp1
    obtain ⟨x2, hx2, r2⟩ := hv2 _ _ hp2
    obtain ⟨x3, hx3, r3⟩ := hv3 _ _ hp3
    have I1 : Inv X pins σ (upd H T (.tup [x1, x2, x3])) { s with heap := h', toks := tk } :=
      I.turnedNew (ch := [z, TI, TO, i1, i2, i3]) (fun b o hb q => kk b o (fun z' => hb (by simp only [List.mem_cons, List.not_mem_nil, or_false] at z' ⊢; rcases z' with z' | z' | z' | z' | z' <;> simp [z'])) q) hf hT (new_tupO (by show 3 ≤ sizeLine; decide) (.cons r1 (.cons r2 (.cons r3 .nil))) ht)
    refine ⟨.ref T, _, I1, rfl, ⟨T, x1, x2, x3, rfl, I.hok.fresh hT, rfl, fun l hl => by rw [hl.inj I hqx]; exact hx1, fun l hl => by rw [hl.inj I hqy]; exact hx2, fun l hl => by rw [hl.inj I hqz]; exact hx3⟩, ⟨st'.1, st'.2.1, st'.2.2.1, hst1 _ _ st'.2.2.2.1, hst2 _ _ st'.2.2.2.2.1, hst3 _ _ st'.2.2.2.2.2⟩, fun b hb => ?_⟩
    have hlt : b < s.heap.objs.size := by
      have e' : b = z ∨ b = TI ∨ b = TO ∨ b = i1 ∨ b = i2 ∨ b = i3 := by simpa using hb
      rcases e' with q | q | q | q | q | q
      · rw [q]; exact Heap.lt_size hz
      · rw [q]; exact Heap.lt_size hTI
      · obtain ⟨_, _, _, k⟩ := hTO; rw [q]; exact Heap.lt_size k
      · obtain ⟨_, k, _⟩ := h1.obj; rw [q]; exact Heap.lt_size k
      · obtain ⟨_, k, _⟩ := h2.obj; rw [q]; exact Heap.lt_size k
      · obtain ⟨_, k, _⟩ := h3.obj; rw [q]; exact Heap.lt_size k
    rw [upd_ne (Nat.ne_of_lt (Nat.lt_of_lt_of_le hlt hT))]
    exact (hf b hb).1
  done := by
    intro X hP hw hK hc i pins s σ H E I hf st hg
    subst hP hw hK
    obtain ⟨hz, hTI, hTO, h1, h2, h3⟩ := st
    obtain ⟨xs, ys, zs, hqx, hqy, hqz, he⟩ := hg
    obtain ⟨P1, St1, D1, _, st1, hv1, hst1⟩ := Sr.now I hc (.Tuple elts kk tpos) hqx h1 n1
    obtain ⟨P2, St2, D2, _, st2, hv2, hst2⟩ := Sr.now I hc (.Tuple elts kk tpos) hqy h2 n2
    obtain ⟨P3, St3, D3, _, st3, hv3, hst3⟩ := Sr.now I hc (.Tuple elts kk tpos) hqz h3 n3
    have W := GoesN.zip3 (elts := elts) (x1 := kk) (pos := tpos) D D1 D2 D3
    subst he
    exact thn (W.stops s (fun s1 => Inv X pins σ H s1) _ ⟨hz, hTI, hTO, st1, st2, st3⟩ fun h' tk kk _ => I.turnedL (ch := [z, TI, TO, i1, i2, i3]) (fun b o hb q => kk b o (fun z' => hb (by simp only [List.mem_cons, List.not_mem_nil, or_false] at z' ⊢; rcases z' with z' | z' | z' | z' | z' <;> simp [z'])) q) hf) fun r s1 h => h
  self := fun A i s Q E st h => wpAny_pyIter_zip st.1 h
/-- a new triple -/
def YTri (xs ys zs : Nat → Option V) : Nat → Hp → V → Hp → Prop := fun i H v H' => ∃ T x y u, v = .ref T ∧ H T = none ∧ H' = upd H T (.tup [x, y, u]) ∧ xs i = some x ∧ ys i = some y ∧ zs i = some u
theorem walk_Z3 {K : PySem.W.Frag} {S1 S2 S3 : Sr} {xs ys zs : List V} : Walk (Itz3 K S1 S2 S3) (min (min xs.length ys.length) zs.length) (fun H => SrV K H S1 xs ∧ SrV K H S2 ys ∧ SrV K H S3 zs) (YTri (fun i => xs[i]?) (fun i => ys[i]?) (fun i => zs[i]?)) := by
  refine ⟨fun i _ hi q => ?_, fun _ q => ⟨xs, ys, zs, q.1, q.2.1, q.2.2, rfl⟩, fun i H v H' _ q y => ?_⟩
  · have h1 : i < xs.length := by omega
    have h2 : i < ys.length := by omega
    have h3 : i < zs.length := by omega
    exact ⟨xs, ys, zs, xs[i], ys[i], zs[i], q.1, q.2.1, q.2.2, by simp [h1], by simp [h2], by simp [h3]⟩
  · obtain ⟨T, x, z, u, h1, h2, h3, h4, h5, h6⟩ := y
    exact ⟨T, x, z, u, h1, h2, h3, h4 xs q.1, h5 ys q.2.1, h6 zs q.2.2⟩
end Ev
/-! EvD6: iterables by the evaluator. -/
namespace Ev
open PySem PySem.Spec PyProof.Rows L2
open Tr
variable {c : Cs}
/-- an item: plain, or (when it is taken apart at once) a tuple of plain ones -/
def Yd (c : Cs) (wk : Bool) (g : Gh) (H : Hp) (d : D) (x : V) : Prop := Rz c g.b0 g.B H d x ∨ (wk = true ∧ ∃ ds a vs, d = .tup ds ∧ x = .ref a ∧ SqT c.K H a vs ∧ Rzs c g.b0 g.B H ds vs)
/-- J yields ds while its sources stand -/
def WalkD (c : Cs) (wk : Bool) (J : L2.It) (ss : List D) (vs : List V) (ds : List D) : Prop :=
  Walk J ds.length (fun H => ∃ g, Paired (Rw c g H) ss vs) (fun i H x H' => ∀ g, Bars g → Paired (Rw c g H) ss vs → Same H H' ∧ ∃ d, ds[i]? = some d ∧ Yd c wk g H' d x)
/-- a frame's run as an iterable -/
def tI (c : Cs) (wk : Bool) (m : Fm → Tr (List A)) (it : List D → Option (List D)) : TI := fun σ H R => ∃ g f, FrOk c g f σ H ∧ All (m f) fun as => ∃ ds, it (as.map A.d) = some ds ∧
  ∀ J vs H', Sm g H H' → BoxOk g H' → Rns c g H' as vs → WalkD c wk J (as.map A.d) vs ds → R J H'
theorem PI.imp {X : Cx} {tg e : Expr} {t t' : TI} (h : PI X tg e t) (i : ∀ σ H Q, t' σ H Q → t σ H Q) : PI X tg e t' := ⟨fun pins s σ H Q I q => h.run pins s σ H Q I (i σ H Q q)⟩
/-- the source of a value -/
def srOf : D → V → Sr
  | .lst _, .ref p => .lst p
  | .tup _, .ref p => .tup p
  | .str z, _ => .str z
  | _, _ => .str []
theorem signs_rz {b0 : Addr} {B : Addr → Prop} {H : Hp} : ∀ z : List Nat, Rzs c b0 B H (z.map fun ch => .str [ch]) (signsV z)
  | [] => .nil
  | ch :: z => by
    rw [List.map_cons]
    show Rzs c b0 B H _ (V.str (toStr [ch]) :: signsV z)
    exact .cons (by rw [Rz]) (signs_rz z)
section
variable {X : Cx} {b0 : Addr} {B : Addr → Prop} {H : Hp} {d : D} {v : V} {ds : List D}
theorem srV_of (F : Fit X c) (hd : seqD d = some ds) (r : Rr c b0 B H d v) : ∃ xs, SrV X.K H (srOf d v) xs ∧ Rzs c b0 B H ds xs := by
  cases d with
  | lst l =>
    simp only [seqD, Option.some.injEq] at hd
    subst hd
    obtain ⟨a, vs, rfl, h, rs⟩ := r.lst
    exact ⟨vs, SqL.of h, rs⟩
  | tup l =>
    simp only [seqD, Option.some.injEq] at hd
    subst hd
    obtain ⟨a, vs, rfl, h, rs⟩ := r.tup
    exact ⟨vs, h.at F.K, rs⟩
  | str z =>
    simp only [seqD] at hd
    split at hd
    · simp only [Option.some.injEq] at hd
      subst hd
      cases r.str
      exact ⟨_, rfl, signs_rz z⟩
    · cases hd
  | _ => simp [seqD] at hd
/-- how its iterator begins -/
theorem sr_begins (F : Fit X c) {pins : List (Addr × Obj)} {σ : L2.St} {s : Shared} {u : Value} (I : Inv X pins σ H s) (hd : seqD d = some ds) (r : Rr c b0 B H d v) (rv : RelV v u) :
    ∃ o Hb, Begins u o Hb ∧ Hb s.heap ∧ (∀ h it, h.get? it = some o → SrIt h it 0 (srOf d v)) ∧ ∀ b ∈ (srOf d v).src, b < s.heap.objs.size := by
  cases d with
  | lst l =>
    obtain ⟨a, vs, rfl, h, rs⟩ := r.lst
    cases rv
    obtain ⟨its, r, pl, _⟩ := I.list (SqL.of h)
    refine ⟨_, _, begins_list a its.toArray, pl.isList, fun h it e => ⟨_, e, rfl, rfl⟩, fun b hb => ?_⟩
    have : b = a := by simpa [srOf, Sr.src] using hb
    subst this
    exact pl.lt
  | tup l =>
    obtain ⟨a, vs, rfl, h, rs⟩ := r.tup
    cases rv
    obtain ⟨its, r, pl, _⟩ := I.tuple (h.at F.K)
    refine ⟨_, _, begins_tuple a its.toArray, pl, fun h it e => ⟨_, e, rfl, rfl⟩, fun b hb => ?_⟩
    have : b = a := by simpa [srOf, Sr.src] using hb
    subst this
    exact pl.lt
  | str z =>
    cases r.str
    obtain ⟨t, rfl⟩ := rv
    exact ⟨_, _, begins_text (toStr z) t, trivial, fun h it e => ⟨t, _, e, rfl, rfl⟩, fun b hb => by simp [srOf, Sr.src] at hb⟩
  | _ => simp [seqD] at hd
theorem not_src {S : Sr} {n b : Nat} (h : ∀ b ∈ S.src, b < n) (hb : n ≤ b) : b ∉ S.src := fun z => Nat.lt_irrefl _ (Nat.lt_of_lt_of_le (h b z) hb)
end
section
variable {X : Cx} {tg : Expr} {e : Expr} {m : Fm → Tr A}
theorem it1 {d : D} {v : V} {g : Gh} {H : Hp} (h : Paired (Rw c g H) [d] [v]) : Rw c g H d v := by
  cases h with
  | cons h _ => exact h
/-- for x in e -/
theorem i_of (F : Fit X c) (he : PE X e (tM c m)) : PI X tg e (tI c false (fun f => (m f).bind fun x => .ret [x]) fun ds => match ds with
    | [d] => seqD d
    | _ => none) := by
  refine ⟨fun pins s σ H R I ⟨g, f, Fr, h⟩ => ?_⟩
  have hm : tM c m σ H fun v H1 => ∃ (x : A) (ds : List D), seqD x.d = some ds ∧ Rw c g H1 x.d v ∧ ∀ J, WalkD c false J [x.d] [v] ds → R J H1 := ⟨g, f, Fr, (all_bind.mp h).mono fun x hx v H1 s1 b1 r1 => by
    obtain ⟨ds, e1, k⟩ := hx
    exact ⟨x, ds, e1, r1.rw Fr.dom, fun J w => k J [v] H1 s1 b1 (.cons (r1.rw Fr.dom) (fun d e => r1.clean Fr.dom e) (fun e => r1.rk Fr.dom e) .nil) w⟩⟩
  refine thn (he.run pins s σ H _ I hm) fun u s1 ⟨v, H1, I1, r1, x, ds, e1, rx, k⟩ => ?_
  obtain ⟨o, Hb, Bg, hb, hi, hl⟩ := sr_begins F I1 e1 rx.rr r1
  refine Bg.iter _ _ _ _ _ _ hb ?_
  refine pi_one (tk := s1.toks) I1 o (turn_S (tg := tg) (K := X.K) (S := srOf x.d v) _ (not_src hl (Nat.le_refl _))) (hi _ _ (Heap.get?_push_size _ Bg.free)) (k _ ?_)
  refine ⟨fun i H hi ⟨g', r⟩ => ?_, fun H ⟨g', r⟩ => ?_, fun i H y H' hi _ yd g' _ r => ?_⟩
  · obtain ⟨xs, h1, h2⟩ := srV_of F e1 (it1 r).rr
    have : i < xs.length := by rw [h2.length]; exact hi
    exact ⟨xs, xs[i], h1, by simp [this]⟩
  · obtain ⟨xs, h1, h2⟩ := srV_of F e1 (it1 r).rr
    exact ⟨xs, h1, h2.length⟩
  · obtain ⟨xs, h1, h2⟩ := srV_of F e1 (it1 r).rr
    obtain ⟨rfl, h3⟩ := yd
    refine ⟨Same.refl _, ds[i], by simp [hi], .inl ?_⟩
    obtain ⟨z, e2, rz⟩ := h2.get (i := i) (d := ds[i]) (by simp [hi])
    rw [h3 xs h1] at e2
    cases e2
    exact rz
/-! ### numbered -/
theorem enum_get : ∀ (xs : List D) (k i : Nat), (enumD xs k)[i]? = (xs[i]?).map fun x => .tup [.int ((k + i : Nat) : Int), x]
  | [], _, _ => by simp [enumD]
  | x :: xs, k, 0 => by simp [enumD]
  | x :: xs, k, i + 1 => by
    simp only [enumD, List.getElem?_cons_succ]
    rw [enum_get xs (k + 1) i]
    have : k + 1 + i = k + (i + 1) := by omega
    rw [this]
theorem enum_len : ∀ (xs : List D) (k : Nat), (enumD xs k).length = xs.length
  | [], _ => rfl
  | x :: xs, k => by simp [enumD, enum_len xs (k + 1)]
/-- enumerate(v), told by how v's iterator begins -/
theorem enum_new {v : Value} {o : Obj} {H : Heap → Prop} (B : Begins v o H) :
    Meets (Builtin.«enumerate.__new__» ⟨[.type "enumerate", v], []⟩) (fun _ R s => H s.heap ∧
      R (.ok (.ret (.ref (s.heap.push o).objs.size))) { s with heap := (s.heap.push o).push { cls := .type "enumerate", data := .fields #[.none, .bool false, .ref s.heap.objs.size, rawInt 0, .none, .none] } }) :=
  .of_wp fun prog w A R s z => by
    obtain ⟨h0, gens, drawn, tks, os0⟩ := s
    obtain ⟨z1, z2⟩ := z
    have sub := sub_enumerate
    have go : ∀ {A2 : Around} {E2 : Value → Shared → Prop} {Q2 : Value → Shared → Prop}, Q2 (.ref h0.objs.size) ⟨h0.push o, gens, drawn, tks, os0⟩ → wpAny (model prog w) A2 (pyIter v) Q2 E2 ⟨h0, gens, drawn, tks, os0⟩ := fun k => B.iter prog w _ _ ⟨h0, gens, drawn, tks, os0⟩ _ z1 k
    wp_walk using go
    refine wpAny_stack_any fun stk => wpAny_pure ?_
    split
    · rename_i cl _ _ _ _ _
      cases (cl == Value.type "enumerate") <;> (wp_walk using go; exact ⟨_, rfl, z2⟩)
    · wp_walk using go
      exact ⟨_, rfl, z2⟩
theorem enum_call {prog : Program} {w : World} {A : Around} {E : Value → Shared → Prop} {s : Shared} {v : Value} {o : Obj} {H : Heap → Prop} {Q : Value → Shared → Prop} (B : Begins v o H) (h1 : H s.heap)
    (h : ∀ h', IsEnum h' (s.heap.objs.size + 1) s.heap.objs.size 0 .none → h'.get? s.heap.objs.size = some o → (∀ b ob, s.heap.get? b = some ob → h'.get? b = some ob) → Q (.ref (s.heap.objs.size + 1)) { s with heap := h' }) :
    wpAny (model prog w) A (call (.type "enumerate") [v]) Q E s := by
  have sz : (s.heap.push o).objs.size = s.heap.objs.size + 1 := Heap.size_push ..
  refine callType_new F.called_enumerate (by decide) (F.typeCall_enumerate_1 _) (F.newCall_enumerate_1 _) (fun obj => F.args_object_init_2 obj _) F.entry_enumerate_new (enum_new B) ⟨h1, ?_⟩
  have at1 := Heap.get?_push_size (s.heap.push o) (o := { cls := .type "enumerate", data := .fields #[.none, .bool false, .ref s.heap.objs.size, rawInt 0, .none, .none] }) rfl
  rw [sz] at at1
  show _ ∧ _
  rw [sz]
  exact ⟨⟨_, at1, rfl⟩, h _ at1 (Heap.get?_push_of_some _ (Heap.get?_push_size _ B.free)) fun b ob e => Heap.get?_push_of_some _ (Heap.get?_push_of_some _ e)⟩
variable {elts : List Expr} {kk : Nat} {tpos : Pos} {ms : Fm → Tr (List A)}
/-- for i, x in enumerate(e) -/
theorem i_enm (F : Fit X c) {p pos : Pos} (hg : Gl X "enumerate") (hm : X.mg "enumerate" = none) (hst : noStar e = true) (he : PA X [e] (tAs c ms)) :
    PI X (.Tuple elts kk tpos) (.Call (.Name "enumerate" p) [e] [] pos) (tI c true ms fun ds => match ds with
    | [d] => (seqD d).map fun xs => enumD xs 0
    | _ => none) := by
  refine ⟨fun pins s σ H R I ⟨g, f, Fr, h⟩ => ?_⟩
  have hA : tAs c ms σ H fun vs H1 => ∃ as ds, (match as.map A.d with
      | [d] => (seqD d).map fun xs => enumD xs 0
      | _ => none) = some ds ∧ Rns c g H1 as vs ∧ ∀ J, WalkD c true J (as.map A.d) vs ds → R J H1 := ⟨g, f, Fr, h.mono fun as has vs H1 s1 b1 r1 => by
    obtain ⟨ds, e1, k⟩ := has
    exact ⟨as, ds, e1, r1, fun J w => k J vs H1 s1 b1 r1 w⟩⟩
  refine Call_ (ld_blt I hg hm PyProof.Rows.boot_enumerate (PyProof.Rows.callWith_type1 (thn (he.run pos pins s σ H _ I hA) fun us s1 ⟨vs, H1, I1, r1, as, ds, e1, rs, k⟩ => ?_) (noStar_each hst _ _) rfl))
  cases rs with
  | nil => simp at e1
  | @cons a as v vs rw1 _ _ t =>
    cases t with
    | cons _ _ _ _ => simp at e1
    | nil =>
      cases r1 with
      | cons rv rr =>
        cases rr
        simp only [List.map_cons, List.map_nil, Option.map_eq_some_iff] at e1
        obtain ⟨xs0, e1, rfl⟩ := e1
        obtain ⟨o, Hb, Bg, hb, hi, hl⟩ := sr_begins F I1 e1 rw1.rr rv
        refine enum_call Bg hb fun h' he' ho hk => wpAny_pyIter_enum he' ?_
        have I2 : Inv X pins σ H1 { s1 with heap := h' } := I1.kept (t' := s1.toks) hk
        refine ⟨s1.heap.objs.size + 1, [s1.heap.objs.size + 1, s1.heap.objs.size], _, _, H1, rfl, I2, turn_E (K := X.K) (S := srOf a.d v) (s1.heap.objs.size + 1) s1.heap.objs.size (Nat.succ_ne_self _) (not_src hl (Nat.le_refl _)) (not_src hl (Nat.le_succ _)), ⟨⟨.none, he'⟩, hi _ _ ho⟩, fun b hb => ?_, k _ ?_⟩
        · have hle : s1.heap.objs.size ≤ b := by
            have e' : b = s1.heap.objs.size + 1 ∨ b = s1.heap.objs.size := by simpa using hb
            rcases e' with e' | e'
            · rw [e']; exact Nat.le_add_right _ _
            · rw [e']; exact Nat.le_refl _
          exact I1.fpOk hle (I1.hok.fresh hle)
        · unfold WalkD
          rw [enum_len]
          refine ⟨fun i H hi ⟨g', r⟩ => ?_, fun H ⟨g', r⟩ => ?_, fun i H y H' hi _ yd g' gb r => ?_⟩
          · obtain ⟨xs, h1, h2⟩ := srV_of F e1 (it1 r).rr
            have : i < xs.length := by rw [h2.length]; exact hi
            exact ⟨xs, xs[i], h1, by simp [this]⟩
          · obtain ⟨xs, h1, h2⟩ := srV_of F e1 (it1 r).rr
            exact ⟨xs, h1, h2.length⟩
          · obtain ⟨xs, h1, h2⟩ := srV_of F e1 (it1 r).rr
            obtain ⟨T, x, rfl, hT, rfl, h3⟩ := yd
            have sm := same_new (o := .tup [.int (i : Nat), x]) hT
            refine ⟨sm, .tup [.int ((0 + i : Nat) : Int), xs0[i]], ?_, .inr ⟨rfl, _, T, _, rfl, rfl, .of upd_same, ?_⟩⟩
            · rw [enum_get]; simp [hi]
            · obtain ⟨z, e2, rz⟩ := h2.get (i := i) (d := xs0[i]) (by simp [hi])
              rw [h3 xs h1] at e2
              cases e2
              rw [Nat.zero_add]
              exact .cons (by rw [Rz]) (.one (rz.mono gb (.of_same sm)))
/-! ### side by side -/
theorem Rns.two {g : Gh} {H : Hp} {as : List A} {vs : List V} (r : Rns c g H as vs) (h : (as.map A.d).length = 2) : ∃ a a2 v v2, as = [a, a2] ∧ vs = [v, v2] ∧ Rw c g H a.d v ∧ Rw c g H a2.d v2 := by
  cases r with
  | nil => simp at h
  | cons r1 _ _ t =>
    cases t with
    | nil => simp at h
    | cons r2 _ _ t =>
      cases t with
      | nil => exact ⟨_, _, _, _, rfl, rfl, r1, r2⟩
      | cons _ _ _ _ => simp at h
theorem Rns.three {g : Gh} {H : Hp} {as : List A} {vs : List V} (r : Rns c g H as vs) (h : (as.map A.d).length = 3) : ∃ a a2 a3 v v2 v3, as = [a, a2, a3] ∧ vs = [v, v2, v3] ∧ Rw c g H a.d v ∧ Rw c g H a2.d v2 ∧ Rw c g H a3.d v3 := by
  cases r with
  | nil => simp at h
  | cons r1 _ _ t =>
    cases t with
    | nil => simp at h
    | cons r2 _ _ t =>
      cases t with
      | nil => simp at h
      | cons r3 _ _ t =>
        cases t with
        | nil => exact ⟨_, _, _, _, _, _, rfl, rfl, r1, r2, r3⟩
        | cons _ _ _ _ => simp at h
theorem vals1 {v : V} {us : List Value} (r : Vals [v] us) : ∃ u, us = [u] ∧ RelV v u := by
  cases r with
  | cons r t => cases t; exact ⟨_, rfl, r⟩
theorem vals2 {v v2 : V} {us : List Value} (r : Vals [v, v2] us) : ∃ u u2, us = [u, u2] ∧ RelV v u ∧ RelV v2 u2 := by
  cases r with
  | cons r t => obtain ⟨u2, rfl, r2⟩ := vals1 t; exact ⟨_, _, rfl, r, r2⟩
theorem vals3 {v v2 v3 : V} {us : List Value} (r : Vals [v, v2, v3] us) : ∃ u u2 u3, us = [u, u2, u3] ∧ RelV v u ∧ RelV v2 u2 ∧ RelV v3 u3 := by
  cases r with
  | cons r t => obtain ⟨u2, u3, rfl, r2, r3⟩ := vals2 t; exact ⟨_, _, _, rfl, r, r2, r3⟩
/-- sources, one by one -/
theorem pairs_inv {g : Gh} {H : Hp} {d : D} {ss : List D} {v : V} {vs : List V} (h : Paired (Rw c g H) (d :: ss) (v :: vs)) : Rw c g H d v ∧ Paired (Rw c g H) ss vs := by
  cases h with
  | cons h t => exact ⟨h, t⟩
theorem zipWith_get {xs ys : List D} {i : Nat} {x y : D} (hx : xs[i]? = some x) (hy : ys[i]? = some y) : (List.zipWith (fun x y => D.tup [x, y]) xs ys)[i]? = some (.tup [x, y]) := by
  rw [List.getElem?_zipWith, hx, hy]
theorem zip3_get : ∀ {xs ys zs : List D} {i : Nat} {x y z : D}, xs[i]? = some x → ys[i]? = some y → zs[i]? = some z → (zip3 xs ys zs)[i]? = some (.tup [x, y, z])
  | a :: xs, b :: ys, c :: zs, 0, x, y, z, h1, h2, h3 => by
    simp at h1 h2 h3
    subst h1 h2 h3
    rfl
  | a :: xs, b :: ys, c :: zs, i + 1, x, y, z, h1, h2, h3 => by
    simp only [zip3, List.getElem?_cons_succ] at h1 h2 h3 ⊢
    exact zip3_get h1 h2 h3
  | [], _, _, _, _, _, _, h, _, _ => by simp at h
  | _ :: _, [], _, _, _, _, _, _, h, _ => by simp at h
  | _ :: _, _ :: _, [], _, _, _, _, _, _, h => by simp at h
theorem zip3_len : ∀ (xs ys zs : List D), (zip3 xs ys zs).length = min (min xs.length ys.length) zs.length
  | [], _, _ => by simp [zip3]
  | _ :: _, [], _ => by simp [zip3]
  | _ :: _, _ :: _, [] => by simp [zip3]
  | x :: xs, y :: ys, z :: zs => by
    simp only [zip3, List.length_cons, zip3_len xs ys zs]
    omega
theorem i_zip2 (F : Fit X c) {e2 : Expr} {p pos : Pos} (hg : Gl X "zip") (hm : X.mg "zip" = none) (hst : noStar e = true) (hst2 : noStar e2 = true) (he : PA X [e, e2] (tAs c ms)) :
    PI X (.Tuple elts kk tpos) (.Call (.Name "zip" p) [e, e2] [] pos) (tI c true ms fun ds => if ds.length = 2 then zipD ds else none) := by
  refine ⟨fun pins s σ H R I ⟨g, f, Fr, h⟩ => ?_⟩
  have hA : tAs c ms σ H fun vs H1 => ∃ (as : List A) (ds : List D), (if (as.map A.d).length = 2 then zipD (as.map A.d) else none) = some ds ∧ Rns c g H1 as vs ∧ ∀ J, WalkD c true J (as.map A.d) vs ds → R J H1 := ⟨g, f, Fr, h.mono fun as has vs H1 s1 b1 r1 => by
    obtain ⟨ds, e1, k⟩ := has
    exact ⟨as, ds, e1, r1, fun J w => k J vs H1 s1 b1 r1 w⟩⟩
  refine Call_ (ld_blt I hg hm PyProof.Rows.boot_zip (PyProof.Rows.callWith_type1 (thn (he.run pos pins s σ H _ I hA) fun us s1 ⟨vs, H1, I1, r1, as, ds, e1, rs, k⟩ => ?_) (noStar_each hst _ _) (noStar_back (by rw [List.all_cons, hst2]; rfl))))
  split at e1
  · rename_i hl
    obtain ⟨a, a2, v, v2, rfl, rfl, rw1, rw2⟩ := rs.two hl
    obtain ⟨u, u2, rfl, rv, rv2⟩ := vals2 r1
    simp only [List.map_cons, List.map_nil, zipD] at e1
    cases q1 : seqD a.d with
    | none => rw [q1] at e1; simp at e1
    | some xs =>
      cases q2 : seqD a2.d with
      | none => rw [q1, q2] at e1; simp at e1
      | some ys =>
        rw [q1, q2] at e1
        simp only [Option.some.injEq] at e1
        subst e1
        obtain ⟨o1, Hb1, B1, hb1, hi1, hl1⟩ := sr_begins F I1 q1 rw1.rr rv
        obtain ⟨o2, Hb2, B2, hb2, hi2, hl2⟩ := sr_begins F I1 q2 rw2.rr rv2
        refine zip_begins2 B1 B2 hb1 hb2 fun h' hz hTI hTO g1 g2 hsz hk => wpAny_pyIter_zip hz ?_
        have I2 : Inv X pins σ H1 { s1 with heap := h' } := I1.kept (t' := s1.toks) hk
        generalize hn : s1.heap.objs.size = n at *
        have ne : ∀ a b : Nat, a ≠ b → n + a ≠ n + b := fun a b h z => h (Nat.add_left_cancel z)
        have D : ZipSep2 (n + 4) (n + 2) (n + 3) n (n + 1) (n :: (srOf a.d v).src) ((n + 1) :: (srOf a2.d v2).src) :=
          ⟨ne 2 4 (by decide), ne 3 4 (by decide), ne 2 3 (by decide), ne 2 0 (by decide), List.mem_cons_self, fun z => (List.mem_cons.mp z).elim (ne 4 0 (by decide)) (not_src hl1 (Nat.le_add_right _ _)), fun z => (List.mem_cons.mp z).elim (ne 3 0 (by decide)) (not_src hl1 (Nat.le_add_right _ _)),
            ne 2 1 (by decide), List.mem_cons_self, fun z => (List.mem_cons.mp z).elim (ne 4 1 (by decide)) (not_src hl2 (Nat.le_add_right _ _)), fun z => (List.mem_cons.mp z).elim (ne 3 1 (by decide)) (not_src hl2 (Nat.le_add_right _ _)),
            fun z => (List.mem_cons.mp z).elim (ne 0 1 (by decide)) (not_src hl2 (Nat.le_refl _)), fun z => (List.mem_cons.mp z).elim (ne 1 0 (by decide)) (not_src hl1 (Nat.le_add_right _ _))⟩
        refine ⟨n + 4, [n + 4, n + 2, n + 3, n, n + 1], _, _, H1, rfl, I2, turn_Z2 (K := X.K) D (not_src hl1 (Nat.le_refl _)) (not_src hl2 (Nat.le_add_right _ _)), ⟨hz, hTI, ⟨_, _, hTO⟩, hi1 _ _ g1, hi2 _ _ g2⟩, fun b hb => ?_, k _ ?_⟩
        · have hle : n ≤ b := by
            have e' : b = n + 4 ∨ b = n + 2 ∨ b = n + 3 ∨ b = n ∨ b = n + 1 := by simpa using hb
            rcases e' with z | z | z | z | z <;> rw [z] <;> first | exact Nat.le_add_right _ _ | exact Nat.le_refl _
          rw [← hn] at hle
          exact I1.fpOk hle (I1.hok.fresh hle)
        · unfold WalkD
          rw [List.length_zipWith]
          refine ⟨fun i H hi ⟨g', r⟩ => ?_, fun H ⟨g', r⟩ => ?_, fun i H y H' hi _ yd g' gb r => ?_⟩
          · obtain ⟨r1, r2⟩ := pairs_inv r
            obtain ⟨us, h1, h2⟩ := srV_of F q1 r1.rr
            obtain ⟨ws, h3, h4⟩ := srV_of F q2 (it1 r2).rr
            have c1 : i < us.length := by rw [h2.length]; omega
            have c2 : i < ws.length := by rw [h4.length]; omega
            exact ⟨us, ws, us[i], ws[i], h1, h3, by simp [c1], by simp [c2]⟩
          · obtain ⟨r1, r2⟩ := pairs_inv r
            obtain ⟨us, h1, h2⟩ := srV_of F q1 r1.rr
            obtain ⟨ws, h3, h4⟩ := srV_of F q2 (it1 r2).rr
            exact ⟨us, ws, h1, h3, by rw [h2.length, h4.length]⟩
          · obtain ⟨r1, r2⟩ := pairs_inv r
            obtain ⟨us, h1, h2⟩ := srV_of F q1 r1.rr
            obtain ⟨ws, h3, h4⟩ := srV_of F q2 (it1 r2).rr
            obtain ⟨T, x, y, rfl, hT, rfl, k1, k2⟩ := yd
            have c1 : i < xs.length := by omega
            have c2 : i < ys.length := by omega
            have sm := same_new (o := .tup [x, y]) hT
            obtain ⟨z, e2, rz⟩ := h2.get (i := i) (d := xs[i]) (by simp [c1])
            obtain ⟨z2, e3, rz2⟩ := h4.get (i := i) (d := ys[i]) (by simp [c2])
            rw [k1 us h1] at e2
            rw [k2 ws h3] at e3
            cases e2
            cases e3
            exact ⟨sm, _, zipWith_get (x := xs[i]) (y := ys[i]) (by simp [c1]) (by simp [c2]), .inr ⟨rfl, _, T, _, rfl, rfl, .of upd_same, .cons (rz.mono gb (.of_same sm)) (.one (rz2.mono gb (.of_same sm)))⟩⟩
  · cases e1
theorem i_zip3 (F : Fit X c) {e2 e3 : Expr} {p pos : Pos} (hg : Gl X "zip") (hm : X.mg "zip" = none) (hst : noStar e = true) (hst2 : noStar e2 = true) (hst3 : noStar e3 = true) (he : PA X [e, e2, e3] (tAs c ms)) :
    PI X (.Tuple elts kk tpos) (.Call (.Name "zip" p) [e, e2, e3] [] pos) (tI c true ms fun ds => if ds.length = 3 then zipD ds else none) := by
  refine ⟨fun pins s σ H R I ⟨g, f, Fr, h⟩ => ?_⟩
  have hA : tAs c ms σ H fun vs H1 => ∃ (as : List A) (ds : List D), (if (as.map A.d).length = 3 then zipD (as.map A.d) else none) = some ds ∧ Rns c g H1 as vs ∧ ∀ J, WalkD c true J (as.map A.d) vs ds → R J H1 := ⟨g, f, Fr, h.mono fun as has vs H1 s1 b1 r1 => by
    obtain ⟨ds, e1, k⟩ := has
    exact ⟨as, ds, e1, r1, fun J w => k J vs H1 s1 b1 r1 w⟩⟩
  refine Call_ (ld_blt I hg hm PyProof.Rows.boot_zip (PyProof.Rows.callWith_type1 (thn (he.run pos pins s σ H _ I hA) fun us s1 ⟨vs, H1, I1, r1, as, ds, e1, rs, k⟩ => ?_) (noStar_each hst _ _) (noStar_back (by rw [List.all_cons, hst2, List.all_cons, hst3]; rfl))))
  split at e1
  · rename_i hl
    obtain ⟨a, a2, a3, v, v2, v3, rfl, rfl, rw1, rw2, rw3⟩ := rs.three hl
    obtain ⟨u, u2, u3, rfl, rv, rv2, rv3⟩ := vals3 r1
    simp only [List.map_cons, List.map_nil, zipD] at e1
    cases q1 : seqD a.d with
    | none => rw [q1] at e1; simp at e1
    | some xs =>
      cases q2 : seqD a2.d with
      | none => rw [q1, q2] at e1; simp at e1
      | some ys =>
        cases q3 : seqD a3.d with
        | none => rw [q1, q2, q3] at e1; simp at e1
        | some zs =>
          rw [q1, q2, q3] at e1
          simp only [Option.some.injEq] at e1
          subst e1
          obtain ⟨o1, Hb1, B1, hb1, hi1, hl1⟩ := sr_begins F I1 q1 rw1.rr rv
          obtain ⟨o2, Hb2, B2, hb2, hi2, hl2⟩ := sr_begins F I1 q2 rw2.rr rv2
          obtain ⟨o3, Hb3, B3, hb3, hi3, hl3⟩ := sr_begins F I1 q3 rw3.rr rv3
          refine zip_begins3 B1 B2 B3 hb1 hb2 hb3 fun h' hz hTI hTO g1 g2 g3 hsz hk => wpAny_pyIter_zip hz ?_
          have I2 : Inv X pins σ H1 { s1 with heap := h' } := I1.kept (t' := s1.toks) hk
          generalize hn : s1.heap.objs.size = n at *
          have ne : ∀ a b : Nat, a ≠ b → n + a ≠ n + b := fun a b h z => h (Nat.add_left_cancel z)
          have no : ∀ {S : Sr}, (∀ b ∈ S.src, b < n) → ∀ j k, j ≠ k → n + j ∉ (n + k) :: S.src := fun {S} h j k hjk z => (List.mem_cons.mp z).elim (ne j k hjk) (not_src h (Nat.le_add_right _ _))
          have D : ZipSep3 (n + 5) (n + 3) (n + 4) n (n + 1) (n + 2) (n :: (srOf a.d v).src) ((n + 1) :: (srOf a2.d v2).src) ((n + 2) :: (srOf a3.d v3).src) := by
            constructor <;> first
              | exact ne _ _ (by decide) | exact ne _ 0 (by decide) | exact List.mem_cons_self | exact no hl1 _ 0 (by decide) | exact no hl2 _ _ (by decide) | exact no hl3 _ _ (by decide) | exact no hl2 0 _ (by decide) | exact no hl3 0 _ (by decide)
          refine ⟨n + 5, [n + 5, n + 3, n + 4, n, n + 1, n + 2], _, _, H1, rfl, I2, turn_Z3 (K := X.K) D (not_src hl1 (Nat.le_refl _)) (not_src hl2 (Nat.le_add_right _ _)) (not_src hl3 (Nat.le_add_right _ _)), ⟨hz, hTI, ⟨_, _, _, hTO⟩, hi1 _ _ g1, hi2 _ _ g2, hi3 _ _ g3⟩, fun b hb => ?_, k _ ?_⟩
          · have hle : n ≤ b := by
              have e' : b = n + 5 ∨ b = n + 3 ∨ b = n + 4 ∨ b = n ∨ b = n + 1 ∨ b = n + 2 := by simpa using hb
              rcases e' with z | z | z | z | z | z <;> rw [z] <;> first | exact Nat.le_add_right _ _ | exact Nat.le_refl _
            rw [← hn] at hle
            exact I1.fpOk hle (I1.hok.fresh hle)
          · unfold WalkD
            rw [zip3_len]
            refine ⟨fun i H hi ⟨g', r⟩ => ?_, fun H ⟨g', r⟩ => ?_, fun i H y H' hi _ yd g' gb r => ?_⟩
            · obtain ⟨r1, r2⟩ := pairs_inv r
              obtain ⟨r2, r3⟩ := pairs_inv r2
              obtain ⟨us, h1, h2⟩ := srV_of F q1 r1.rr
              obtain ⟨ws, h3, h4⟩ := srV_of F q2 r2.rr
              obtain ⟨ts, h5, h6⟩ := srV_of F q3 (it1 r3).rr
              have c1 : i < us.length := by rw [h2.length]; omega
              have c2 : i < ws.length := by rw [h4.length]; omega
              have c3 : i < ts.length := by rw [h6.length]; omega
              exact ⟨us, ws, ts, us[i], ws[i], ts[i], h1, h3, h5, by simp [c1], by simp [c2], by simp [c3]⟩
            · obtain ⟨r1, r2⟩ := pairs_inv r
              obtain ⟨r2, r3⟩ := pairs_inv r2
              obtain ⟨us, h1, h2⟩ := srV_of F q1 r1.rr
              obtain ⟨ws, h3, h4⟩ := srV_of F q2 r2.rr
              obtain ⟨ts, h5, h6⟩ := srV_of F q3 (it1 r3).rr
              exact ⟨us, ws, ts, h1, h3, h5, by rw [h2.length, h4.length, h6.length]⟩
            · obtain ⟨r1, r2⟩ := pairs_inv r
              obtain ⟨r2, r3⟩ := pairs_inv r2
              obtain ⟨us, h1, h2⟩ := srV_of F q1 r1.rr
              obtain ⟨ws, h3, h4⟩ := srV_of F q2 r2.rr
              obtain ⟨ts, h5, h6⟩ := srV_of F q3 (it1 r3).rr
              obtain ⟨T, x, y, u, rfl, hT, rfl, k1, k2, k3⟩ := yd
              have c1 : i < xs.length := by omega
              have c2 : i < ys.length := by omega
              have c3 : i < zs.length := by omega
              have sm := same_new (o := .tup [x, y, u]) hT
              obtain ⟨z, e2, rz⟩ := h2.get (i := i) (d := xs[i]) (by simp [c1])
              obtain ⟨z2, e3, rz2⟩ := h4.get (i := i) (d := ys[i]) (by simp [c2])
              obtain ⟨z3, e4, rz3⟩ := h6.get (i := i) (d := zs[i]) (by simp [c3])
              rw [k1 us h1] at e2
              rw [k2 ws h3] at e3
              rw [k3 ts h5] at e4
              cases e2
              cases e3
              cases e4
              exact ⟨sm, _, zip3_get (x := xs[i]) (y := ys[i]) (z := zs[i]) (by simp [c1]) (by simp [c2]) (by simp [c3]), .inr ⟨rfl, _, T, _, rfl, rfl, .of upd_same, .cons (rz.mono gb (.of_same sm)) (.cons (rz2.mono gb (.of_same sm)) (.one (rz3.mono gb (.of_same sm))))⟩⟩
  · cases e1
/-! ### ranges -/
theorem walk_ints {wk : Bool} {J : L2.It} {ss : List D} {vs : List V} {n : Nat} {fn : Nat → Int} (w : Walk J n (fun _ => True) (YFn fun i => .int (fn i))) : WalkD c wk J ss vs ((List.range n).map fun k => D.int (fn k)) := by
  unfold WalkD
  rw [List.length_map, List.length_range]
  refine ⟨fun i H hi _ => w.goes i H hi trivial, fun H _ => w.stops H trivial, fun i H x H' hi _ y g _ _ => ?_⟩
  obtain ⟨rfl, rfl⟩ := w.yields i H x H' hi trivial y
  exact ⟨Same.refl _, .int (fn i), by simp [hi], .inl (by rw [Rz])⟩
theorem ints_vals {g : Gh} {H : Hp} {is : List Int} {vs : List V} (h : Paired (Rr c g.b0 g.B H) (is.map D.int) vs) : vs = is.map V.int := by
  induction is generalizing vs with
  | nil => cases h; rfl
  | cons i is ih =>
    cases h with
    | cons h t => rw [h.int, ih t]; rfl
variable {a b e3 : Expr}
theorem i_rng1 {p pos : Pos} (hg : Gl X "range") (hm : X.mg "range" = none) (hst : noStar a = true) (he : PA X [a] (tAs c ms)) :
    PI X tg (.Call (.Name "range" p) [a] [] pos) (tI c false ms fun ds => if ds.length = 1 then rangeD ds else none) := by
  refine PI.imp (pi_range1 hg hm he (noStar_each hst _ _)) fun σ H R ⟨g, f, Fr, h⟩ => ⟨g, f, Fr, h.mono fun as has vs H1 s1 b1 r1 => ?_⟩
  obtain ⟨ds, e1, k⟩ := has
  dsimp only at e1
  split at e1
  · rename_i hl
    have hp := r1.paired
    unfold rangeD at e1
    split at e1
    · rename_i j heq
      split at e1
      · rename_i hb
        simp only [Option.some.injEq] at e1
        rw [heq] at hp
        have hv := ints_vals (is := [j]) hp
        refine ⟨j, hv, hb.2, hb.1, k _ vs H1 s1 b1 r1 ?_⟩
        rw [← e1]
        have w := walk_ints (c := c) (wk := false) (ss := as.map A.d) (vs := vs) (fn := fun i => 0 + (i : Int)) (walk_range (lo := 0) (n := j.toNat))
        simpa using w
      · cases e1
    · rename_i heq
      exact absurd hl (by rw [heq]; simp)
    · rename_i heq
      exact absurd hl (by rw [heq]; simp)
    · cases e1
  · cases e1
theorem i_rng2 {p pos : Pos} (hg : Gl X "range") (hm : X.mg "range" = none) (hst : noStar a = true) (hst2 : noStar b = true) (he : PA X [a, b] (tAs c ms)) :
    PI X tg (.Call (.Name "range" p) [a, b] [] pos) (tI c false ms fun ds => if ds.length = 2 then rangeD ds else none) := by
  refine PI.imp (pi_range2 hg hm he (by rw [noStar_each hst, noStar_each hst2]; rfl) (by rw [noStar_each hst2]; rfl)) fun σ H R ⟨g, f, Fr, h⟩ => ⟨g, f, Fr, h.mono fun as has vs H1 s1 b1 r1 => ?_⟩
  obtain ⟨ds, e1, k⟩ := has
  dsimp only at e1
  split at e1
  · rename_i hl
    have hp := r1.paired
    unfold rangeD at e1
    split at e1
    · rename_i heq
      exact absurd hl (by rw [heq]; simp)
    · rename_i i j heq
      split at e1
      · rename_i hb
        simp only [Option.some.injEq] at e1
        rw [heq] at hp
        have hv := ints_vals (is := [i, j]) hp
        refine ⟨i, j, hv, ⟨hb.2.2.2, hb.2.2.1, hb.2.1, hb.1⟩, k _ vs H1 s1 b1 r1 ?_⟩
        rw [← e1]
        exact walk_ints walk_range
      · cases e1
    · rename_i heq
      exact absurd hl (by rw [heq]; simp)
    · cases e1
  · cases e1
theorem i_rng3 {p pos : Pos} (hg : Gl X "range") (hm : X.mg "range" = none) (hst : noStar a = true) (hst2 : noStar b = true) (hst3 : noStar e3 = true) (he : PA X [a, b, e3] (tAs c ms)) :
    PI X tg (.Call (.Name "range" p) [a, b, e3] [] pos) (tI c false ms fun ds => if ds.length = 3 then rangeD ds else none) := by
  refine PI.imp (pi_range3 hg hm he (noStar_each hst _ _) (noStar_back (by rw [List.all_cons, hst2, List.all_cons, hst3]; rfl))) fun σ H R ⟨g, f, Fr, h⟩ => ⟨g, f, Fr, h.mono fun as has vs H1 s1 b1 r1 => ?_⟩
  obtain ⟨ds, e1, k⟩ := has
  dsimp only at e1
  split at e1
  · rename_i hl
    have hp := r1.paired
    unfold rangeD at e1
    split at e1
    · rename_i heq
      exact absurd hl (by rw [heq]; simp)
    · rename_i heq
      exact absurd hl (by rw [heq]; simp)
    · rename_i i j heq
      split at e1
      · rename_i hb
        simp only [Option.some.injEq] at e1
        rw [heq] at hp
        have hv := ints_vals (is := [i, j, -1]) hp
        refine ⟨i, j, -1, (i - j).toNat, hv, RgC.neg hb.2.2.2 hb.2.2.1 hb.2.1 hb.1, k _ vs H1 s1 b1 r1 ?_⟩
        rw [← e1]
        have w := walk_ints (c := c) (wk := false) (ss := as.map A.d) (vs := vs) (fn := fun k => i + (k : Nat) * (-1 : Int)) (walk_rangeC (lo := i) (c := -1) (n := (i - j).toNat))
        have ee : (fun k : Nat => D.int (i + (k : Nat) * (-1 : Int))) = fun k : Nat => D.int (i - (k : Int)) := funext fun k => by congr 1; omega
        rw [ee] at w
        exact w
      · cases e1
    · cases e1
  · cases e1
end
end Ev
/-! EvD7: names bound by loops; comprehensions. -/
namespace Ev
open PySem PySem.Spec PyProof.Rows L2
open Tr
variable {c : Cs}
/-! ### targets of names -/
mutual
def gT (K : PySem.W.Frag) : T → TG
  | .nm i => gName i
  | .tup ts => gTup K ts.length (gTs K ts)
  | .sub _ _ => fun _ _ _ _ => False
def gTs (K : PySem.W.Frag) : List T → TGs
  | [] => gNil
  | t :: ts => gCons (gT K t) (gTs K ts)
end
/-- a tuple of targets: what stands under it may be known weakly -/
def T.isTup : T → Bool
  | .tup _ => true
  | _ => false
section
variable {g : Gh} {f f' : Fm} {σ : L2.St} {H H' : Hp} {d : D} {v : V} {i : Nat}
theorem put_cl {own : Bool} (h : f.put own i (cl d) = some f') : f' = f.set i (some ⟨d, .cl⟩) ∧ i < f.length ∧ ∀ d, f[i]? ≠ some (some ⟨d, .lk⟩) := by
  unfold Fm.put at h
  split at h
  · cases h
  · rename_i o e
    have hl : i < f.length := lt_of_get e
    split at h
    · cases h
    · rename_i hn
      simp only [Option.some.injEq] at h
      refine ⟨h.symm, hl, fun d' z => ?_⟩
      rw [e] at z
      simp only [Option.some.injEq] at z
      exact hn d' (by rw [z])
/-- a plain value into a slot -/
theorem FrOk.cl (F : FrOk c g f σ H) (hi : i < f.length) (r : Rz c g.b0 g.B H d v) : FrOk c g (f.set i (some ⟨d, .cl⟩)) (σ.set i (some v)) H where
  len := by rw [List.length_set, List.length_set, F.len]
  slot := fun j s e => by
    by_cases hj : i = j
    · subst hj
      rw [List.getElem?_set_self hi] at e
      cases e
      exact ⟨v, by rw [List.getElem?_set_self (by rw [← F.len]; exact hi)], r⟩
    · rw [List.getElem?_set_ne hj] at e
      rw [List.getElem?_set_ne hj]
      exact F.slot j s e
  apart := fun j k s t p e1 e2 m1 m2 e3 e4 => by
    have nj : i ≠ j := fun z => by subst z; rw [List.getElem?_set_self hi] at e1; cases e1; cases m1
    have nk : i ≠ k := fun z => by subst z; rw [List.getElem?_set_self hi] at e2; cases e2; cases m2
    rw [List.getElem?_set_ne nj] at e1 e3
    rw [List.getElem?_set_ne nk] at e2 e4
    exact F.apart j k s t p e1 e2 m1 m2 e3 e4
  box := F.box
  bars := F.bars
  dom := F.dom
  lks := F.lks
/-- slots forgotten -/
theorem FrOk.drop (F : FrOk c g f σ H) {f' : Fm} {σ' : L2.St} (hl : f'.length = σ'.length) (h : ∀ (i : Nat) (s : Sl), f'[i]? = some (some s) → f[i]? = some (some s) ∧ σ'[i]? = σ[i]?) : FrOk c g f' σ' H where
  len := hl
  slot := fun i s e => by obtain ⟨e1, e2⟩ := h i s e; rw [e2]; exact F.slot i s e1
  apart := fun i j s t p e1 e2 m1 m2 e3 e4 => by
    obtain ⟨k1, k2⟩ := h i s e1
    obtain ⟨k3, k4⟩ := h j t e2
    exact F.apart i j s t p k1 k3 m1 m2 (k2 ▸ e3) (k4 ▸ e4)
  box := F.box
  bars := F.bars
  dom := F.dom
  lks := F.lks
theorem wipe_len (f : Fm) : ∀ vs : List Nat, (wipe f vs).length = f.length
  | [] => rfl
  | v :: vs => by unfold wipe; rw [List.length_set, wipe_len f vs]
theorem wipe_get {f : Fm} {i : Nat} {s : Sl} : ∀ {vs : List Nat}, (wipe f vs)[i]? = some (some s) → f[i]? = some (some s) ∧ i ∉ vs
  | [], h => ⟨h, by simp⟩
  | v :: vs, h => by
    unfold wipe at h
    by_cases hv : v = i
    · subst hv
      have hl := lt_of_get h
      rw [List.length_set] at hl
      rw [List.getElem?_set_self hl] at h
      cases h
    · rw [List.getElem?_set_ne hv] at h
      obtain ⟨h1, h2⟩ := wipe_get h
      exact ⟨h1, fun z => (List.mem_cons.mp z).elim (fun e => hv e.symm) h2⟩
theorem FrOk.wipe1 (F : FrOk c g f σ H) (vs : List Nat) : FrOk c g (wipe f vs) σ H := F.drop (by rw [wipe_len, F.len]) fun i s e => ⟨(wipe_get e).1, rfl⟩
theorem lwipe_get {σ : L2.St} {i : Nat} : ∀ {vs : List Nat}, i ∉ vs → (L2.wipe σ vs)[i]? = σ[i]?
  | [], _ => rfl
  | v :: vs, h => by
    unfold L2.wipe
    rw [List.getElem?_set_ne fun e => h (by rw [e]; exact List.mem_cons_self)]
    exact lwipe_get fun m => h (List.mem_cons_of_mem _ m)
theorem FrOk.wipe2 (F : FrOk c g f σ H) (vs : List Nat) : FrOk c g (wipe f vs) (L2.wipe σ vs) H := F.drop (by rw [wipe_len, L2.wipe_length, F.len]) fun i s e => ⟨(wipe_get e).1, lwipe_get (wipe_get e).2⟩
theorem lwipe_set {σ : L2.St} {i : Nat} {x : Option V} {vs : List Nat} (h : i ∈ vs) : L2.wipe (σ.set i x) vs = L2.wipe σ vs := by
  refine List.ext_getElem? fun j => ?_
  by_cases hj : j ∈ vs
  · have key : ∀ (τ : L2.St), (L2.wipe τ vs)[j]? = if j < τ.length then some none else none := fun τ => by
      by_cases hl : j < τ.length
      · rw [if_pos hl]
        cases e : (L2.wipe τ vs)[j]? with
        | none => rw [List.getElem?_eq_none_iff, L2.wipe_length] at e; omega
        | some o =>
          cases o with
          | none => rfl
          | some y => exact absurd hj (L2.wipe_some e).2
      · rw [if_neg hl]
        exact List.getElem?_eq_none (by rw [L2.wipe_length]; omega)
    rw [key, key, List.length_set]
  · rw [lwipe_get hj, lwipe_get hj, List.getElem?_set_ne (fun e : i = j => hj (e ▸ h))]
end
/-- slots that are not plain are as they were; those that are locked stay -/
structure KeepS (f : Fm) (σ : L2.St) (f' : Fm) (σ' : L2.St) : Prop where
  old : ∀ (i : Nat) (s : Sl), f'[i]? = some (some s) → s.k ≠ .cl → f[i]? = some (some s) ∧ σ'[i]? = σ[i]?
  lk : ∀ (i : Nat) (d : D), f[i]? = some (some ⟨d, .lk⟩) → f'[i]? = some (some ⟨d, .lk⟩) ∧ σ'[i]? = σ[i]?
theorem KeepS.refl (f : Fm) (σ : L2.St) : KeepS f σ f σ := ⟨fun _ _ h _ => ⟨h, rfl⟩, fun _ _ h => ⟨h, rfl⟩⟩
theorem KeepS.trans {f f1 f2 : Fm} {σ σ1 σ2 : L2.St} (h : KeepS f σ f1 σ1) (h' : KeepS f1 σ1 f2 σ2) : KeepS f σ f2 σ2 := ⟨fun i s e k => by
  obtain ⟨e1, e2⟩ := h'.old i s e k
  obtain ⟨e3, e4⟩ := h.old i s e1 k
  exact ⟨e3, e2.trans e4⟩, fun i d e => by
  obtain ⟨e1, e2⟩ := h.lk i d e
  obtain ⟨e3, e4⟩ := h'.lk i d e1
  exact ⟨e3, e4.trans e2⟩⟩
theorem KeepS.set {f : Fm} {σ : L2.St} {i : Nat} {d : D} {v : V} (hi : i < f.length) (hn : ∀ d, f[i]? ≠ some (some ⟨d, .lk⟩)) : KeepS f σ (f.set i (some ⟨d, .cl⟩)) (σ.set i (some v)) := ⟨fun j s e k => by
  by_cases hj : i = j
  · subst hj
    rw [List.getElem?_set_self hi] at e
    cases e
    exact absurd rfl k
  · rw [List.getElem?_set_ne hj] at e
    exact ⟨e, List.getElem?_set_ne hj⟩, fun j d e => by
  have hj : i ≠ j := fun z => hn d (z ▸ e)
  exact ⟨by rw [List.getElem?_set_ne hj]; exact e, List.getElem?_set_ne hj⟩⟩
mutual
/-- names bound -/
theorem bind_ok {g : Gh} {H : Hp} {vs : List Nat} (F : Cs) : ∀ (t : T) {f f' : Fm} {σ : L2.St} {d : D} {x : V} {wk : Bool} {Q : L2.St → Hp → Prop}, bindT t d f = some f' → FrOk c g f σ H → Yd c wk g H d x → (wk = true → t.isTup = true) → (∀ i ∈ t.names, i ∈ vs) →
    (∀ σ', FrOk c g f' σ' H → L2.wipe σ' vs = L2.wipe σ vs → KeepS f σ f' σ' → Q σ' H) → gT c.K t x σ H Q
  | .nm i, f, f', σ, d, x, wk, Q, hb, Fr, hy, hw, hv, k => by
    simp only [bindT] at hb
    obtain ⟨rfl, hi, hnl⟩ := put_cl hb
    have r : Rz c g.b0 g.B H d x := by
      rcases hy with r | ⟨r, _⟩
      · exact r
      · exact absurd (hw r) (by simp [T.isTup])
    rw [gT]
    exact k _ (Fr.cl hi r) (lwipe_set (hv i (by simp [T.names]))) (.set hi hnl)
  | .tup ts, f, f', σ, d, x, wk, Q, hb, Fr, hy, hw, hv, k => by
    cases d with
    | tup ds =>
      simp only [bindT] at hb
      have r : ∃ a vs, x = .ref a ∧ SqT c.K H a vs ∧ Rzs c g.b0 g.B H ds vs := by
        rcases hy with r | ⟨_, ds', a, vs, e, e2, e3, e4⟩
        · rw [Rz] at r
          obtain ⟨a, vs, e, p, rs⟩ := r
          exact ⟨a, vs, e, p.sq, rs⟩
        · cases e
          exact ⟨a, vs, e2, e3, e4⟩
      obtain ⟨a, xs, e, sq, rs⟩ := r
      rw [gT]
      refine ⟨a, xs, e, sq, ?_, binds_ok F ts hb Fr rs (fun i hi => hv i (by rw [T.names]; exact hi)) k⟩
      rw [rs.length]
      exact binds_len ts hb
    | _ => simp [bindT] at hb
  | .sub _ _, _, _, _, _, _, _, _, hb, _, _, _, _, _ => by simp [bindT] at hb
theorem binds_ok {g : Gh} {H : Hp} {vs : List Nat} (F : Cs) : ∀ (ts : List T) {f f' : Fm} {σ : L2.St} {ds : List D} {xs : List V} {Q : L2.St → Hp → Prop}, bindTs ts ds f = some f' → FrOk c g f σ H → Rzs c g.b0 g.B H ds xs → (∀ i ∈ T.namess ts, i ∈ vs) →
    (∀ σ', FrOk c g f' σ' H → L2.wipe σ' vs = L2.wipe σ vs → KeepS f σ f' σ' → Q σ' H) → gTs c.K ts xs σ H Q
  | [], f, f', σ, ds, xs, Q, hb, Fr, rs, hv, k => by
    cases ds with
    | nil =>
      simp only [bindTs, Option.some.injEq] at hb
      subst hb
      rw [Rzs] at rs
      rw [gTs]
      exact ⟨rs, k σ Fr rfl (.refl _ _)⟩
    | cons _ _ => simp [bindTs] at hb
  | t :: ts, f, f', σ, ds, xs, Q, hb, Fr, rs, hv, k => by
    cases ds with
    | nil => simp [bindTs] at hb
    | cons d ds =>
      simp only [bindTs] at hb
      cases e : bindT t d f with
      | none => rw [e] at hb; cases hb
      | some f1 =>
        rw [e] at hb
        rw [Rzs] at rs
        obtain ⟨x, r, rfl, r1, r2⟩ := rs
        rw [gTs]
        refine ⟨x, r, rfl, bind_ok F t e Fr (wk := false) (.inl r1) (fun z => by cases z) (fun i hi => hv i (by rw [T.namess]; exact List.mem_append_left _ hi)) fun σ1 Fr1 w1 l1 => ?_⟩
        exact binds_ok F ts hb Fr1 r2 (fun i hi => hv i (by rw [T.namess]; exact List.mem_append_right _ hi)) fun σ2 Fr2 w2 l2 => k σ2 Fr2 (w2.trans w1) (l1.trans l2)
theorem binds_len : ∀ (ts : List T) {f f' : Fm} {ds : List D}, bindTs ts ds f = some f' → ds.length = ts.length
  | [], f, f', ds, hb => by
    cases ds with
    | nil => rfl
    | cons _ _ => simp [bindTs] at hb
  | t :: ts, f, f', ds, hb => by
    cases ds with
    | nil => simp [bindTs] at hb
    | cons d ds =>
      simp only [bindTs] at hb
      cases e : bindT t d f with
      | none => rw [e] at hb; cases hb
      | some f1 =>
        rw [e] at hb
        rw [List.length_cons, List.length_cons, binds_len ts hb]
end
end Ev
/-! EvD8: list comprehensions. -/
namespace Ev
open PySem PySem.Spec PyProof.Rows L2
open Tr
variable {c : Cs}
/-- D is being built -/
def Gh.acc (g : Gh) (D : Addr) : Gh := { g with B := fun a => g.B a ∨ a = D, M := fun a => g.M a ∨ a = D }
section
variable {g : Gh} {f f' : Fm} {σ σ' : L2.St} {H H' H1 : Hp} {d : D} {v : V} {D : Addr} {o u : HO} {A B : Hp}
theorem Bars.acc (h : Bars g) (D : Addr) : Bars (g.acc D) := ⟨.inl h.1, .inl h.2⟩
theorem Sm.up (h : Sm g A B) : Sm g (upd A D o) (upd B D o) := fun a w e => by
  by_cases ha : a = D
  · subst ha
    rw [upd_same] at e ⊢
    exact .inr (.inl e)
  · rw [upd_ne ha] at e ⊢
    exact h a w e
theorem Sm.ofAcc (h : Sm (g.acc D) A B) : Sm g A B := h.sub rfl rfl fun a _ z => .inl z
/-- where nothing stood -/
theorem Sm.new (hD : H D = none) : Sm g H (upd H D o) := .of_same (same_new hD)
theorem upd_upd : upd (upd H D o) D u = upd H D u := funext fun a => by
  by_cases ha : a = D
  · subst ha; rw [upd_same, upd_same]
  · rw [upd_ne ha, upd_ne ha, upd_ne ha]
theorem Rb.acc (hD : H D = none) (r : Rb c g H d v) : Rb c (g.acc D) H d v := by
  rcases r with r | ⟨q, e, h1, h4, h2, h3, r⟩
  · exact .inl (r.plus (g := g) hD)
  · refine .inr ⟨q, e, .inl h1, fun z => z.elim h4 fun z => ?_, h2, h3, r.plus (g := g) hD⟩
    subst z
    obtain ⟨o, e, _⟩ : ∃ o, H q = some o ∧ True := by
      cases d with
      | lst ds => obtain ⟨vs, h, _⟩ := r; exact ⟨_, h, trivial⟩
      | dct kvs =>
        obtain ⟨rows, _, _, h, _⟩ := r
        rcases h with ⟨kk, h, _⟩ | ⟨xs, h, _⟩ <;> rcases h with h | ⟨_, h⟩ <;> exact ⟨_, h, trivial⟩
      | _ => exact r.elim
    rw [hD] at e
    cases e
theorem Rk.acc (hD : H D = none) (r : Rk c g H d v) : Rk c (g.acc D) H d v := by
  rcases r with r | ⟨q, e, h1, h4, h2, h3, r⟩
  · exact .inl (r.plus (g := g) hD)
  · exact .inr ⟨q, e, .inl h1, fun z => z.elim h4 fun z => absurd (z ▸ hD) (fun hD => by
      cases d with
      | lst ds => obtain ⟨vs, h, _⟩ := r; rw [hD] at h; cases h
      | dct kvs =>
        obtain ⟨rows, _, _, h, _⟩ := r
        rcases h with ⟨kk, h, _⟩ | ⟨xs, h, _⟩ <;> rcases h with h | ⟨_, h⟩ <;> rw [hD] at h <;> cases h
      | _ => exact r.elim), h2, h3, r.plus (g := g) hD⟩
theorem Rw.acc (hD : H D = none) (r : Rw c g H d v) : Rw c (g.acc D) H d v := by
  rcases r with r | ⟨q, e, h1, h2, h3, r⟩
  · exact .inl (r.plus (g := g) hD)
  · exact .inr ⟨q, e, .inl h1, h2, h3, r.plus (g := g) hD⟩
theorem Root.tracked {b0 : Addr} {BB : Addr → Prop} {q : Addr} (r : Root c b0 BB H d q) : H q ≠ none := by
  cases d with
  | lst ds => obtain ⟨vs, h, _⟩ := r; rw [h]; simp
  | dct kvs =>
    obtain ⟨rows, _, _, h, _⟩ := r
    rcases h with ⟨kk, h, _⟩ | ⟨xs, h, _⟩ <;> rcases h with h | ⟨_, h⟩ <;> rw [h] <;> simp
  | _ => exact r.elim
/-- no slot's own thing stands at D -/
def NoD (f : Fm) (σ : L2.St) (D : Addr) : Prop := ∀ (i : Nat) (s : Sl), f[i]? = some (some s) → s.k.mine = true → σ[i]? ≠ some (some (.ref D))
theorem NoD.keep (h : NoD f σ D) (k : KeepS f σ f' σ') : NoD f' σ' D := fun i s e hk => by
  obtain ⟨e1, e2⟩ := k.old i s e (fun z => by rw [z] at hk; cases hk)
  rw [e2]
  exact h i s e1 hk
theorem FrOk.fresh (F : FrOk c g f σ H) (hD : H D = none) : ¬ g.L D := fun z => F.dom D (F.lks D z) hD
theorem FrOk.acc (F : FrOk c g f σ H) (hD : H D = none) : FrOk c (g.acc D) f σ (upd H D o) := by
  have s1 : Sm (g.acc D) H (upd H D o) := .new hD
  refine { len := F.len, slot := fun i s e => ?_, apart := F.apart, box := F.box.same (same_new hD), bars := F.bars.acc D, dom := fun a ha => ?_, lks := fun a ha => .inl (F.lks a ha) }
  · obtain ⟨v, h1, h2⟩ := F.slot i s e
    refine ⟨v, h1, SlOk.sm (F.bars.acc D) s1 ?_⟩
    unfold SlOk at h2 ⊢
    cases hk : s.k with
    | cl => rw [hk] at h2; exact h2.plus (g := g) hD
    | br => rw [hk] at h2; exact Rb.acc hD h2
    | ow =>
      rw [hk] at h2
      obtain ⟨q, e, a1, a2, a3, a4, r⟩ := h2
      exact ⟨q, e, .inl a1, ⟨.inl a2.1, a2.2⟩, a3, a4, r.plus (g := g) hD⟩
    | lk =>
      rw [hk] at h2
      obtain ⟨q, e, a1, a2, a3, a4, r⟩ := h2
      exact ⟨q, e, .inl a1, ⟨.inl a2.1, a2.2⟩, a3, a4, r.plus (g := g) hD⟩
  · rcases ha with ha | rfl
    · exact s1.some (by have := F.box.same (same_new (o := o) hD); exact this.some) (F.dom a ha)
    · rw [upd_same]; simp
theorem FrOk.noD (F : FrOk c g f σ H) (hD : H D = none) : NoD f σ D := fun i s e hk z => by
  obtain ⟨v, h1, h2⟩ := F.slot i s e
  rw [h1] at z
  cases z
  unfold SlOk at h2
  have key : ∀ {q : Addr}, Root c g.b0 g.B H s.d q → V.ref D = .ref q → False := fun r e => by cases e; exact r.tracked hD
  cases hk' : s.k with
  | cl => rw [hk'] at hk; cases hk
  | br => rw [hk'] at hk; cases hk
  | ow => rw [hk'] at h2; obtain ⟨q, e, _, _, _, _, r⟩ := h2; exact key r.root e
  | lk => rw [hk'] at h2; obtain ⟨q, e, _, _, _, _, r⟩ := h2; exact key r.root e
theorem NoD.wipe2 (h : NoD f σ D) (vs : List Nat) : NoD (wipe f vs) (L2.wipe σ vs) D := fun i s e hk => by
  obtain ⟨e1, e2⟩ := wipe_get e
  rw [lwipe_get e2]
  exact h i s e1 hk
/-- D is written, a root elsewhere stands -/
theorem Root.write {b0 : Addr} {BB : Addr → Prop} {p : Addr} (hB : BB D) (e : H D = some u) (hm : Mut (some u)) (hp : p ≠ D) (r : Root c b0 BB H d p) : Root c b0 BB (upd H D o) d p := by
  have k : Sb BB H (upd H D o) := .upd hB e hm
  have rd : ∀ {w}, Rd H p w → Rd (upd H D o) p w := fun h => by
    rcases h with h | ⟨od, h⟩
    · exact .inl (by rw [upd_ne hp]; exact h)
    · exact .inr ⟨od, by rw [upd_ne hp]; exact h⟩
  cases d with
  | lst ds =>
    obtain ⟨vs, h1, h2⟩ := r
    exact ⟨vs, by rw [upd_ne hp]; exact h1, h2.keep k⟩
  | dct kvs =>
    obtain ⟨rows, h1, h2, h3, h4⟩ := r
    exact ⟨rows, h1, h2, h3.imp fun _ _ z => rd z, h4.keep k⟩
  | _ => exact r
theorem RootM.write {b0 : Addr} {BB : Addr → Prop} {p : Addr} (hB : BB D) (e : H D = Option.some u) (hm : Mut (Option.some u)) (hp : p ≠ D) (r : RootM c b0 BB H d p) : RootM c b0 BB (upd H D o) d p := by
  have k : Sb BB H (upd H D o) := .upd hB e hm
  cases d with
  | lst ds =>
    obtain ⟨vs, h1, h2⟩ := r
    exact ⟨vs, by rw [upd_ne hp]; exact h1, h2.keep k⟩
  | dct kvs =>
    obtain ⟨rows, h1, h2, h3, h4⟩ := r
    exact ⟨rows, h1, h2, h3.imp fun _ _ z => by rw [upd_ne hp]; exact z, h4.keep k⟩
  | _ => exact r
theorem Rb.write (hB : g.B D) (hM : g.M D) (e : H D = some u) (hm : Mut (some u)) (r : Rb c g H d v) : Rb c g (upd H D o) d v := by
  rcases r with r | ⟨q, e1, h1, h4, h2, h3, r⟩
  · exact .inl (r.keep (.upd hB e hm))
  · exact .inr ⟨q, e1, h1, h4, h2, h3, r.write hB e hm fun z => h4 (z ▸ hM)⟩
theorem Rk.write (hB : g.B D) (hM : g.M D) (hL : ¬ g.L D) (e : H D = some u) (hm : Mut (some u)) (r : Rk c g H d v) : Rk c g (upd H D o) d v := by
  rcases r with r | ⟨q, e1, h1, h4, h2, h3, r⟩
  · exact .inl (r.keep (.upd hB e hm))
  · exact .inr ⟨q, e1, h1, h4, h2, h3, r.write hB e hm fun z => hL (z ▸ h4 (z ▸ hM))⟩
theorem BoxOk.write (h : BoxOk g H) (h0 : D ≠ g.b0) (h1 : D ≠ g.c0) : BoxOk g (upd H D o) := by
  obtain ⟨cells, x, y, a, b, r⟩ := h
  exact ⟨cells, x, y, by rw [upd_ne h0.symm]; exact a, by rw [upd_ne h1.symm]; exact b, r⟩
theorem FrOk.write (F : FrOk c g f σ H) (hn : NoD f σ D) (hB : g.B D) (hM : g.M D) (h0 : D ≠ g.b0) (h1 : D ≠ g.c0) (e : H D = some u) (hm : Mut (some u)) : FrOk c g f σ (upd H D o) where
  lks := F.lks
  len := F.len
  slot := fun i s es => by
    obtain ⟨v, k1, k2⟩ := F.slot i s es
    refine ⟨v, k1, ?_⟩
    unfold SlOk at k2 ⊢
    cases hk : s.k with
    | cl => rw [hk] at k2; exact k2.keep (.upd hB e hm)
    | br => rw [hk] at k2; exact Rb.write hB hM e hm k2
    | ow =>
      rw [hk] at k2
      obtain ⟨q, e1, a1, a2, a3, a4, r⟩ := k2
      exact ⟨q, e1, a1, a2, a3, a4, r.write hB e hm fun z => hn i s es (by rw [hk]; rfl) (by rw [k1, e1, z])⟩
    | lk =>
      rw [hk] at k2
      obtain ⟨q, e1, a1, a2, a3, a4, r⟩ := k2
      exact ⟨q, e1, a1, a2, a3, a4, r.write hB e hm fun z => hn i s es (by rw [hk]; rfl) (by rw [k1, e1, z])⟩
  apart := F.apart
  box := F.box.write h0 h1
  bars := F.bars
  dom := fun a ha => by
    by_cases hd : a = D
    · subst hd; rw [upd_same]; simp
    · rw [upd_ne hd]; exact F.dom a ha
end
/-! ### a clause's turns -/
/-- what is so before the i-th item: q holds what was told -/
def Pvv (c : Cs) (g : Gh) (q : Addr) (base : Hp) (F : D → List D → Tr (List D)) (ds : List D) (Post : List D → Prop) (i : Nat) (H : Hp) : Prop :=
  ∃ (acc : List D) (as : List V), Sm g (upd base q (.lst as)) H ∧ BoxOk g H ∧ Rzs c g.b0 g.B H acc.reverse as ∧ All (eachT F (ds.drop i) acc) Post
/-- where a clause stands: the frame, its sources -/
structure At (c : Cs) (g : Gh) (q : Addr) (base : Hp) (f : Fm) (σ : L2.St) (ss : List D) (vs : List V) : Prop where
  fr : ∀ x, FrOk c g f σ (upd base q (.lst x))
  no : NoD f σ q
  src : ∀ x, Paired (Rw c g (upd base q (.lst x))) ss vs
  b : g.B q
  m : g.M q
  nl : ¬ g.L q
  n0 : q ≠ g.b0
  n1 : q ≠ g.c0
theorem paired_sm {g : Gh} {H H' : Hp} (hb : Bars g) (s : Sm g H H') : ∀ {ss : List D} {vs : List V}, Paired (Rw c g H) ss vs → Paired (Rw c g H') ss vs
  | _, _, .nil => .nil
  | _, _, .cons h t => .cons (h.sm hb s) (paired_sm hb s t)
section
variable {g : Gh} {q : Addr} {base : Hp} {f : Fm} {σ : L2.St} {ss : List D} {vs : List V} {wk : Bool} {J : L2.It} {ds : List D} {t : T} {ifs : Fm → Tr Bool} {k : Fm → List D → Tr (List D)} {Post : List D → Prop}
theorem Pvv.src (a : At c g q base f σ ss vs) {F : D → List D → Tr (List D)} {i : Nat} {H : Hp} (p : Pvv c g q base F ds Post i H) : Paired (Rw c g H) ss vs := by
  obtain ⟨acc, as, s, _⟩ := p
  exact paired_sm (a.fr []).bars s (a.src as)
theorem genF_none {x : D} {acc : List D} (e : bindT t x f = none) : genF t ifs k f x acc = .stuck := by unfold genF; rw [e]
theorem genF_some {x : D} {acc : List D} {f' : Fm} (e : bindT t x f = some f') : genF t ifs k f x acc = (ifs f').bind fun b => if b then k f' acc else .ret acc := by unfold genF; rw [e]
/-- one turn: the item is bound, the tests told, the rest runs -/
theorem turn_cl (a : At c g q base f σ ss vs) {own : List Nat} {σw : L2.St} (hσ : L2.wipe σ own = σw) (hw : wk = true → t.isTup = true) (hv : ∀ i ∈ t.names, i ∈ own) {i : Nat} (hi : i < ds.length) {H H' : Hp} {x : V}
    (p : Pvv c g q base (fun x acc => genF t ifs k f x acc) ds Post i H) (y : Same H H' ∧ ∃ d, ds[i]? = some d ∧ Yd c wk g H' d x) {KK : L2.St → Hp → Prop}
    (hk : ∀ f' σ2 H3 acc as, FrOk c g f' σ2 H3 → NoD f' σ2 q → Sm g (upd base q (.lst as)) H3 → Rzs c g.b0 g.B H3 acc.reverse as →
      All (k f' acc) (fun acc' => All (eachT (fun x acc => genF t ifs k f x acc) (ds.drop (i + 1)) acc') Post) → KK σ2 H3) :
    gT c.K t x σ H' fun σ2 H2 => L2.wipe σ2 own = σw ∧ tB' c ifs σ2 H2 fun b H3 => if b = true then KK σ2 H3 else Pvv c g q base (fun x acc => genF t ifs k f x acc) ds Post (i + 1) H3 := by
  obtain ⟨acc, as, s, bx, rz, hq⟩ := p
  obtain ⟨sm, d, ed, yd⟩ := y
  have hb := (a.fr []).bars
  have e : ds.drop i = d :: ds.drop (i + 1) := by
    rw [List.getElem?_eq_getElem hi] at ed
    cases ed
    exact List.drop_eq_getElem_cons hi
  rw [e] at hq
  have hq : All (genF t ifs k f d acc) (fun acc' => All (eachT (fun x acc => genF t ifs k f x acc) (ds.drop (i + 1)) acc') Post) := all_bind.mp hq
  cases eb : bindT t d f with
  | none => rw [genF_none eb] at hq; exact hq.elim
  | some f' =>
    rw [genF_some eb] at hq
    have s' : Sm g (upd base q (.lst as)) H' := s.trans (.of_same sm)
    have bx' := bx.same sm
    refine bind_ok c t eb ((a.fr as).sm s' bx') yd hw hv fun σ2 F2 w2 k2 => ⟨w2.trans hσ, g, f', F2, (all_bind.mp hq).mono fun b hb2 H3 s3 b3 => ?_⟩
    have rz3 := (rz.mono hb (.of_same sm)).mono hb s3
    cases b with
    | false => exact ⟨acc, as, s'.trans s3, b3, rz3, hb2⟩
    | true => exact hk f' σ2 H3 acc as (F2.sm s3 b3) (a.no.keep k2) (s'.trans s3) rz3 hb2
/-- the element -/
theorem turn_elt (hb : Bars g) (hB : g.B q) (h0 : q ≠ g.b0) (h1 : q ≠ g.c0) {elt : Fm → Tr A} {f' : Fm} {σ2 : L2.St} {H3 : Hp} {acc : List D} {as : List V} (Fr : FrOk c g f' σ2 H3) (s : Sm g (upd base q (.lst as)) H3) (rz : Rzs c g.b0 g.B H3 acc.reverse as) {F : D → List D → Tr (List D)} {i : Nat}
    (h : All (lastF elt f' acc) (fun acc' => All (eachT F (ds.drop (i + 1)) acc') Post)) : tM c elt σ2 H3 fun y H4 => ∃ acc, H4 q = some (.lst acc) ∧ acc.length < sizeLine ∧ Pvv c g q base F ds Post (i + 1) (upd H4 q (.lst (acc ++ [y]))) := by
  refine ⟨g, f', Fr, (all_bind.mp h).mono fun z hz v H4 s4 b4 r4 => ?_⟩
  cases e : z.clean with
  | none => rw [e] at hz; exact hz.elim
  | some d =>
    rw [e] at hz
    have hz : All (if acc.length < line then .ret (d :: acc) else .stuck) fun acc' => All (eachT F (ds.drop (i + 1)) acc') Post := hz
    split at hz
    · rename_i hl
      have s5 := s.trans s4
      have hq : H4 q = some (.lst as) := s5.own ⟨h0, h1⟩ hB upd_same
      have rz4 := rz.mono hb s4
      refine ⟨as, hq, ?_, d :: acc, as ++ [v], ?_, b4.write h0 h1, ?_, hz⟩
      · rw [rz.length, List.length_reverse, ← line_eq]; exact hl
      · have := s5.up (D := q) (o := .lst (as ++ [v]))
        rw [upd_upd] at this
        exact this
      · have kk : Sb g.B H4 (upd H4 q (.lst (as ++ [v]))) := .upd hB hq True.intro
        rw [List.reverse_cons]
        exact (rz4.keep kk).app (.one ((r4.clean Fr.dom e).keep kk))
    · exact hz.elim
end
/-! ### whole comprehensions -/
theorem it_run {J : L2.It} {n : Nat} {G : Hp → Prop} {Y : Nat → Hp → V → Hp → Prop} (w : Walk J n G Y) {H0 : Hp} {E : Hp → Prop} {R : (Hp → Prop) → V → Hp → Prop} (Pv : Nat → Hp → Prop) (h0 : Pv 0 H0) (hG : ∀ i H, Pv i H → G H)
    (hs : ∀ i x H H', i < n → Pv i H → Y i H x H' → R (Pv (i + 1)) x H') (hd : ∀ H, Pv n H → E H) :
    ∃ W : Nat → Nat → Hp → Prop, (∃ m, W 0 m H0) ∧ ∀ i m H, W i m H → (J.stop i H ∧ E H) ∨ (J.go i H ∧ ∃ Nx : Hp → Prop, (∀ H', Nx H' → ∃ m', m' < m ∧ W (i + 1) m' H') ∧ ∀ x H', J.yld i H x H' → R Nx x H') := by
  refine ⟨fun i m H => m = n - i ∧ i ≤ n ∧ Pv i H, ⟨n, by simp, Nat.zero_le _, h0⟩, ?_⟩
  rintro i m H ⟨rfl, hi, p⟩
  have q := hG i H p
  by_cases hlt : i < n
  · exact .inr ⟨w.goes i H hlt q, Pv (i + 1), fun H' p' => ⟨n - (i + 1), by omega, rfl, hlt, p'⟩, fun x H' y => hs i x H H' hlt p (w.yields i H x H' hlt q y)⟩
  · obtain rfl : i = n := by omega
    exact .inl ⟨w.stops H q, hd H p⟩
theorem wipe_idem {σ : L2.St} (vs : List Nat) : L2.wipe (L2.wipe σ vs) vs = L2.wipe σ vs := by
  have key : ∀ (l : List Nat), (∀ i ∈ l, i ∈ vs) → L2.wipe (L2.wipe σ l) vs = L2.wipe σ vs := fun l => by
    induction l with
    | nil => intro _; rfl
    | cons a l ih =>
      intro h
      show L2.wipe ((L2.wipe σ l).set a none) vs = _
      rw [lwipe_set (h a List.mem_cons_self)]
      exact ih fun i hi => h i (List.mem_cons_of_mem _ hi)
  exact key vs fun _ h => h
/-- a comprehension's run -/
def mComp (own : List Nat) (gens : Fm → List D → Tr (List D)) : Fm → Tr A := fun f => (gens (wipe f own) []).bind fun acc => .ret (fr (.lst acc.reverse))
section
variable {own : List Nat} {mi mi1 : Fm → Tr (List A)} {it it1 : List D → Option (List D)} {t t1 : T} {ifs ifs1 : Fm → Tr Bool} {elt : Fm → Tr A} {wk wk1 : Bool} {σ : L2.St} {H : Hp} {Q : VK}
theorem genM_out {k : Fm → List D → Tr (List D)} {f : Fm} {acc : List D} {P : List D → Prop} {b : Bool} (h : All (genM b mi it t ifs k f acc) P) : All (mi f) fun as => (b = true → as.all (fun a => decide (a.t ≠ .ow)) = true) ∧ ∃ ds, it (as.map A.d) = some ds ∧ All (eachT (fun x acc => genF t ifs k (wipe f t.names) x acc) ds acc) P := by
  unfold genM at h
  refine (all_bind.mp h).mono fun as has => ?_
  split at has
  · exact has.elim
  · rename_i hn
    obtain ⟨ds, e1, hq⟩ := all_ofO.mp (all_bind.mp has)
    refine ⟨fun hb => ?_, ds, e1, hq⟩
    subst hb
    simpa using hn
/-- the start: the list is new -/
theorem at_start {g : Gh} {f : Fm} {σ : L2.St} {H1 : Hp} {q : Addr} {as : List A} {vs : List V} (F1 : FrOk c g f σ H1) (r1 : Rns c g H1 as vs) (hq : H1 q = none) : At c (g.acc q) q H1 f σ (as.map A.d) vs where
  fr := fun x => F1.acc hq
  no := F1.noD hq
  src := fun x => by
    have key : ∀ {ss : List D} {vs : List V}, Paired (Rw c g H1) ss vs → Paired (Rw c (g.acc q) (upd H1 q (.lst x))) ss vs := fun {ss} => by
      induction ss with
      | nil => intro vs h; cases h; exact .nil
      | cons a ss ih =>
        intro vs h
        cases h with
        | cons h t => exact .cons ((Rw.acc hq h).sm (F1.bars.acc q) (.new hq)) (ih t)
    exact key r1.rw
  b := .inr rfl
  m := .inr rfl
  nl := F1.fresh hq
  n0 := fun z => F1.box.some.1 (z ▸ hq)
  n1 := fun z => F1.box.some.2 (z ▸ hq)
/-- the end: the list is told -/
theorem at_end {g : Gh} {H1 H' : Hp} {q : Addr} {F : D → List D → Tr (List D)} {ds : List D} (s1 : Sm g H H1) (b1 : BoxOk g H1) (hq : H1 q = none) (n0 : q ≠ g.b0) (n1 : q ≠ g.c0)
    (p : Pvv c (g.acc q) q H1 F ds (fun acc => ∀ v H', Sm g H H' → BoxOk g H' → Rn c g H H' (fr (.lst acc.reverse)) v → Q v H') ds.length H') : Q (.ref q) H' := by
  obtain ⟨acc, as, s, b, rz, h⟩ := p
  rw [List.drop_length] at h
  have h : ∀ v H', Sm g H H' → BoxOk g H' → Rn c g H H' (fr (.lst acc.reverse)) v → Q v H' := h
  refine h _ _ (s1.trans ((Sm.new hq).trans s.ofAcc)) b ⟨q, rfl, ?_, as, s.own ⟨n0, n1⟩ (.inr rfl) upd_same, rz⟩
  cases e : H q with
  | none => rfl
  | some o => exact absurd hq (s1.some b1.some (by rw [e]; simp))
/-- one clause -/
theorem lc1 (hw : wk = true → t.isTup = true) (hv : ∀ i ∈ t.names, i ∈ own) (h : tM c (mComp own fun f acc => genM false mi it t ifs (fun f acc => lastF elt f acc) f acc) σ H Q) : tLc (tI c wk mi it) (gT c.K t) (tB' c ifs) (tM c elt) own σ H Q := by
  obtain ⟨g, f, Fr, h⟩ := h
  have h := genM_out (all_bind.mp h)
  refine ⟨g, wipe f own, Fr.wipe1 own, h.mono fun as ⟨_, ds, e1, hq⟩ => ⟨ds, e1, fun J vs H1 s1 b1 r1 w q hq0 => ?_⟩⟩
  have F1 := ((Fr.wipe2 own).wipe1 t.names).sm s1 b1
  have a := at_start F1 r1 hq0
  refine it_run w (E := fun H' => Q (.ref q) H') (R := fun Nx x H' => gT c.K t x (L2.wipe σ own) H' fun σ2 H2 => L2.wipe σ2 own = L2.wipe σ own ∧ tB' c ifs σ2 H2 fun b H3 =>
    if b = true then tM c elt σ2 H3 fun y H4 => ∃ acc, H4 q = some (.lst acc) ∧ acc.length < sizeLine ∧ Nx (upd H4 q (.lst (acc ++ [y]))) else Nx H3)
    (Pvv c (g.acc q) q H1 (fun x acc => genF t ifs (fun f acc => lastF elt f acc) (wipe (wipe f own) t.names) x acc) ds _) ⟨[], [], .refl _ _, (a.fr []).box, .nil, hq⟩ (fun i H p => ⟨g.acc q, p.src a⟩) (fun i x H2 H' hi p y => ?_) fun H' p => at_end s1 b1 hq0 a.n0 a.n1 p
  exact turn_cl a (wipe_idem own) hw hv hi p (y _ (a.fr []).bars (p.src a)) fun f' σ2 H3 acc as F3 _ s3 rz hk => turn_elt (a.fr []).bars a.b a.n0 a.n1 F3 s3 rz hk
theorem upd_id {H : Hp} {q : Addr} {o : HO} (e : H q = some o) : upd H q o = H := funext fun a => by
  by_cases ha : a = q
  · subst ha; rw [upd_same, e]
  · rw [upd_ne ha]
/-- a second clause stands inside -/
theorem at_inner {g : Gh} {base : Hp} {f : Fm} {σ : L2.St} {q : Addr} {as : List A} {vs xs : List V} (Fr : FrOk c g f σ base) (no : NoD f σ q) (b : g.B q) (m : g.M q) (nl : ¬ g.L q) (n0 : q ≠ g.b0) (n1 : q ≠ g.c0) (e : base q = some (.lst xs)) (r : Rns c g base as vs) (hn : as.all (fun a => decide (a.t ≠ .ow)) = true) :
    At c g q base f σ (as.map A.d) vs where
  fr := fun x => Fr.write no b m n0 n1 e True.intro
  no := no
  src := fun x => by
    have key : ∀ {ss : List D} {vs : List V}, Paired (Rk c g base) ss vs → Paired (Rw c g (upd base q (.lst x))) ss vs := fun {ss} => by
      induction ss with
      | nil => intro vs h; cases h; exact .nil
      | cons a ss ih =>
        intro vs h
        cases h with
        | cons h t => exact .cons (Rk.rw (Rk.write b m nl e True.intro h)) (ih t)
    exact key (r.rk hn)
  b := b
  m := m
  nl := nl
  n0 := n0
  n1 := n1
/-- two clauses -/
theorem lc2 (hw : wk = true → t.isTup = true) (hv : ∀ i ∈ t.names, i ∈ own) (hw1 : wk1 = true → t1.isTup = true) 
    (h : tM c (mComp own fun f acc => genM false mi it t ifs (fun f acc => genM true mi1 it1 t1 ifs1 (fun f acc => lastF elt f acc) f acc) f acc) σ H Q) :
    tLc2 (tI c wk mi it) (gT c.K t) (tB' c ifs) (tI c wk1 mi1 it1) (gT c.K t1) (tB' c ifs1) (tM c elt) own t1.names σ H Q := by
  obtain ⟨g, f, Fr, h⟩ := h
  have h := genM_out (all_bind.mp h)
  refine ⟨g, wipe f own, Fr.wipe1 own, h.mono fun as ⟨_, ds, e1, hq⟩ => ⟨ds, e1, fun J vs H1 s1 b1 r1 w q hq0 => ?_⟩⟩
  have F1 := ((Fr.wipe2 own).wipe1 t.names).sm s1 b1
  have a := at_start F1 r1 hq0
  refine it_run w (E := fun H' => Q (.ref q) H') (R := fun Nx x H' => gT c.K t x (L2.wipe σ own) H' fun σ2 H2 => L2.wipe σ2 own = L2.wipe σ own ∧ tB' c ifs σ2 H2 fun b H3 =>
    if b = true then tI c wk1 mi1 it1 σ2 H3 fun J1 H4 => ∃ W1 : Nat → Nat → Hp → Prop, (∃ m, W1 0 m H4) ∧ ∀ j k H, W1 j k H →
      (J1.stop j H ∧ Nx H) ∨ (J1.go j H ∧ ∃ Nx1 : Hp → Prop, (∀ H', Nx1 H' → ∃ k', k' < k ∧ W1 (j + 1) k' H') ∧ ∀ x H', J1.yld j H x H' → gT c.K t1 x (L2.wipe σ2 t1.names) H' fun σ3 H5 => L2.wipe σ3 t1.names = L2.wipe σ2 t1.names ∧ tB' c ifs1 σ3 H5 fun b H6 =>
        if b = true then tM c elt σ3 H6 fun y H7 => ∃ acc, H7 q = some (.lst acc) ∧ acc.length < sizeLine ∧ Nx1 (upd H7 q (.lst (acc ++ [y]))) else Nx1 H6)
    else Nx H3)
    (Pvv c (g.acc q) q H1 (fun x acc => genF t ifs (fun f acc => genM true mi1 it1 t1 ifs1 (fun f acc => lastF elt f acc) f acc) (wipe (wipe f own) t.names) x acc) ds _) ⟨[], [], .refl _ _, (a.fr []).box, .nil, hq⟩ (fun i H p => ⟨g.acc q, p.src a⟩) (fun i x H2 H' hi p y => ?_) fun H' p => at_end s1 b1 hq0 a.n0 a.n1 p
  have gb := (a.fr []).bars
  refine turn_cl a (wipe_idem own) hw hv hi p (y _ gb (p.src a)) fun f' σ2 H3 acc as3 F3 no3 s3 rz hk => ?_
  have hk := genM_out hk
  refine ⟨g.acc q, f', F3, hk.mono fun as1 ⟨no, ds1, e1, hq1⟩ => ⟨ds1, e1, fun J1 vs' H4 s4 b4 r4 w1 => ?_⟩⟩
  have s34 := s3.trans s4
  have e4 : H4 q = some (.lst as3) := s34.own ⟨a.n0, a.n1⟩ a.b upd_same
  have a1 := at_inner ((F3.sm s4 b4).wipe2 t1.names) (no3.wipe2 t1.names) a.b a.m a.nl a.n0 a.n1 e4 r4 (no rfl)
  refine it_run w1 (R := fun Nx1 x H' => gT c.K t1 x (L2.wipe σ2 t1.names) H' fun σ3 H5 => L2.wipe σ3 t1.names = L2.wipe σ2 t1.names ∧ tB' c ifs1 σ3 H5 fun b H6 =>
        if b = true then tM c elt σ3 H6 fun y H7 => ∃ acc, H7 q = some (.lst acc) ∧ acc.length < sizeLine ∧ Nx1 (upd H7 q (.lst (acc ++ [y]))) else Nx1 H6)
    (Pvv c (g.acc q) q H4 (fun x acc => genF t1 ifs1 (fun f acc => lastF elt f acc) (wipe f' t1.names) x acc) ds1 _) ⟨acc, as3, by rw [upd_id e4]; exact .refl _ _, b4, rz.mono gb s4, hq1⟩ (fun i H p => ⟨g.acc q, p.src a1⟩) (fun j x5 H5 H6 hj p5 y5 => ?_) fun H' p5 => ?_
  · exact turn_cl a1 (wipe_idem _) hw1 (fun i hi => hi) hj p5 (y5 _ gb (p5.src a1)) fun f6 σ6 H7 acc7 as7 F7 _ s7 rz7 hk7 => turn_elt gb a.b a.n0 a.n1 F7 s7 rz7 hk7
  · obtain ⟨acc', as', s5, b5, rz5, hq5⟩ := p5
    rw [List.drop_length] at hq5
    refine ⟨acc', as', ?_, b5, rz5, hq5⟩
    have := s34.up (D := q) (o := .lst as')
    rw [upd_upd] at this
    exact this.trans s5
end
end Ev
/-! EvD9: a frame through statements. -/
namespace Ev
open PySem PySem.Spec PyProof.Rows L2
open Tr
variable {c : Cs}
/-- what is walked: plain values, roots -/
structure Gs where
  z : List (D × V)
  r : List (D × Addr)
/-- the frame since its entry (g0, H0): locked slots L keep their things, what is walked (gs) stands -/
structure FrS (c : Cs) (g0 : Gh) (H0 : Hp) (L : List (Nat × D × Addr)) (gs : Gs) (g : Gh) (f : Fm) (σ : L2.St) (H : Hp) : Prop where
  fr : FrOk c g f σ H
  eb : g.b0 = g0.b0
  ec : g.c0 = g0.c0
  up : ∀ a, g0.B a → g.B a
  new : ∀ a, g.B a → g0.B a ∨ H0 a = none
  sm : Sm g0 H0 H
  mine : ∀ a, g.M a → H0 a = none
  lk : ∀ x ∈ L, f[x.1]? = some (some ⟨x.2.1, .lk⟩) ∧ σ[x.1]? = some (some (.ref x.2.2)) ∧ H0 x.2.2 = none
  dom0 : ∀ a, g0.B a → H0 a ≠ none
  gz : ∀ x ∈ gs.z, Rz c g.b0 g.B H x.1 x.2
  gr : ∀ x ∈ gs.r, g.B x.2 ∧ (g.M x.2 → g.L x.2) ∧ x.2 ≠ g.b0 ∧ x.2 ≠ g.c0 ∧ Root c g.b0 g.B H x.1 x.2
section
variable {g0 g : Gh} {H0 H H1 : Hp} {L : List (Nat × D × Addr)} {gs : Gs} {f f' : Fm} {σ σ' : L2.St} {a : A} {v : V} {i : Nat} {own : Bool} {d d' : D} {p : Addr}
theorem FrS.smUp (S : FrS c g0 H0 L gs g f σ H) {A B : Hp} (h : Sm g A B) : Sm g0 A B := h.sub S.eb S.ec fun a _ z => S.up a z
theorem FrS.next (S : FrS c g0 H0 L gs g f σ H) (h : Sm g H H1) (b : BoxOk g H1) : FrS c g0 H0 L gs g f σ H1 where
  fr := S.fr.sm h b
  eb := S.eb
  ec := S.ec
  up := S.up
  new := S.new
  sm := S.sm.trans (S.smUp h)
  mine := S.mine
  lk := S.lk
  dom0 := S.dom0
  gz := fun x hx => (S.gz x hx).mono S.fr.bars h
  gr := fun x hx => by
    obtain ⟨h1, h2, h3, h4, r⟩ := S.gr x hx
    exact ⟨h1, h2, h3, h4, r.sm S.fr.bars h (fun _ z => z) (fun _ _ z => z) ⟨h3, h4⟩⟩
/-- slots renewed, nothing owned lost or won -/
theorem FrS.slots (S : FrS c g0 H0 L gs g f σ H) (F : FrOk c g f' σ' H) (k : KeepS f σ f' σ') : FrS c g0 H0 L gs g f' σ' H where
  fr := F
  eb := S.eb
  ec := S.ec
  up := S.up
  new := S.new
  sm := S.sm
  mine := S.mine
  lk := fun x hx => by
    obtain ⟨e1, e2, e3⟩ := S.lk x hx
    obtain ⟨k1, k2⟩ := k.lk _ _ e1
    exact ⟨k1, k2.trans e2, e3⟩
  dom0 := S.dom0
  gz := S.gz
  gr := S.gr
/-- a slot takes any value that isn't written -/
theorem FrOk.br (F : FrOk c g f σ H) (hi : i < f.length) {k : Kd} (hk : k.mine = false) (r : SlOk c g H ⟨d, k⟩ v) : FrOk c g (f.set i (some ⟨d, k⟩)) (σ.set i (some v)) H where
  len := by rw [List.length_set, List.length_set, F.len]
  slot := fun j s e => by
    by_cases hj : i = j
    · subst hj
      rw [List.getElem?_set_self hi] at e
      cases e
      exact ⟨v, by rw [List.getElem?_set_self (by rw [← F.len]; exact hi)], r⟩
    · rw [List.getElem?_set_ne hj] at e
      rw [List.getElem?_set_ne hj]
      exact F.slot j s e
  apart := fun j k' s t p e1 e2 m1 m2 e3 e4 => by
    have nj : i ≠ j := fun z => by subst z; rw [List.getElem?_set_self hi] at e1; cases e1; rw [hk] at m1; cases m1
    have nk : i ≠ k' := fun z => by subst z; rw [List.getElem?_set_self hi] at e2; cases e2; rw [hk] at m2; cases m2
    rw [List.getElem?_set_ne nj] at e1 e3
    rw [List.getElem?_set_ne nk] at e2 e4
    exact F.apart j k' s t p e1 e2 m1 m2 e3 e4
  box := F.box
  bars := F.bars
  dom := F.dom
  lks := F.lks
theorem KeepS.set' {k : Kd} (hi : i < f.length) (hn : ∀ d, f[i]? ≠ some (some ⟨d, .lk⟩)) : ∀ (j : Nat) (d' : D), f[j]? = some (some ⟨d', .lk⟩) → (f.set i (some ⟨d, k⟩))[j]? = some (some ⟨d', .lk⟩) ∧ (σ.set i (some v))[j]? = σ[j]? := fun j d' e => by
  have hj : i ≠ j := fun z => hn d' (z ▸ e)
  exact ⟨by rw [List.getElem?_set_ne hj]; exact e, List.getElem?_set_ne hj⟩
/-- a new thing becomes one's own -/
theorem FrOk.gain (F : FrOk c g f σ H) (hp : H p = none) {H1 : Hp} (h : Sm g H H1) (b : BoxOk g H1) (r : RootM c g.b0 (g.plus p).B H1 d p) (hi : i < f.length) :
    FrOk c (g.acc p) (f.set i (some ⟨d, .ow⟩)) (σ.set i (some (.ref p))) H1 := by
  have n0 : p ≠ g.b0 := fun z => F.box.some.1 (z ▸ hp)
  have n1 : p ≠ g.c0 := fun z => F.box.some.2 (z ▸ hp)
  have h' : Sm (g.acc p) H H1 := h.sub rfl rfl fun a ha z => z.elim id fun e => absurd (e ▸ hp) ha
  have gb := F.bars.acc p
  have old : ∀ (j : Nat) (s : Sl), f[j]? = some (some s) → ∃ v, σ[j]? = some (some v) ∧ SlOk c (g.acc p) H1 s v ∧ (s.k.mine = true → v ≠ .ref p) := fun j s e => by
    obtain ⟨v, k1, k2⟩ := F.slot j s e
    refine ⟨v, k1, SlOk.sm gb h' ?_, fun hm z => F.noD hp j s e hm (by rw [k1, z])⟩
    unfold SlOk at k2 ⊢
    cases hk : s.k with
    | cl => rw [hk] at k2; exact k2.plus (g := g) hp
    | br => rw [hk] at k2; exact Rb.acc hp k2
    | ow =>
      rw [hk] at k2
      obtain ⟨q, e, a1, a2, a3, a4, r⟩ := k2
      exact ⟨q, e, .inl a1, ⟨.inl a2.1, a2.2⟩, a3, a4, r.plus (g := g) hp⟩
    | lk =>
      rw [hk] at k2
      obtain ⟨q, e, a1, a2, a3, a4, rr⟩ := k2
      exact ⟨q, e, .inl a1, ⟨.inl a2.1, a2.2⟩, a3, a4, rr.plus (g := g) hp⟩
  have hi' : i < σ.length := by rw [← F.len]; exact hi
  refine { len := by rw [List.length_set, List.length_set, F.len], slot := fun j s e => ?_, apart := fun j k s t q e1 e2 m1 m2 e3 e4 => ?_, box := b, bars := gb, dom := fun a ha => ?_, lks := fun a ha => .inl (F.lks a ha) }
  · by_cases hj : i = j
    · subst hj
      rw [List.getElem?_set_self hi] at e
      cases e
      exact ⟨.ref p, by rw [List.getElem?_set_self hi'], p, rfl, .inr rfl, ⟨.inr rfl, F.fresh hp⟩, n0, n1, r⟩
    · rw [List.getElem?_set_ne hj] at e
      rw [List.getElem?_set_ne hj]
      obtain ⟨v, k1, k2, _⟩ := old j s e
      exact ⟨v, k1, k2⟩
  · by_cases hj : i = j
    · by_cases hk : i = k
      · rw [← hj, ← hk]
      · subst hj
        rw [List.getElem?_set_self hi'] at e3
        rw [List.getElem?_set_ne hk] at e2 e4
        cases e3
        obtain ⟨v, k1, _, k3⟩ := old k t e2
        rw [e4] at k1
        cases k1
        exact absurd rfl (k3 m2)
    · by_cases hk : i = k
      · subst hk
        rw [List.getElem?_set_self hi'] at e4
        rw [List.getElem?_set_ne hj] at e1 e3
        cases e4
        obtain ⟨v, k1, _, k3⟩ := old j s e1
        rw [e3] at k1
        cases k1
        exact absurd rfl (k3 m1)
      · rw [List.getElem?_set_ne hj] at e1 e3
        rw [List.getElem?_set_ne hk] at e2 e4
        exact F.apart j k s t q e1 e2 m1 m2 e3 e4
  · rcases ha with ha | rfl
    · exact h.some b.some (F.dom a ha)
    · obtain ⟨o, e, _⟩ := r.some
      rw [e]; simp
/-- a thing is new: what was known stays so -/
theorem FrOk.grow (F : FrOk c g f σ H) (hp : H p = none) {H1 : Hp} (h : Sm g H H1) (b : BoxOk g H1) (hq : H1 p ≠ none) : FrOk c (g.acc p) f σ H1 := by
  have h' : Sm (g.acc p) H H1 := h.sub rfl rfl fun a ha z => z.elim id fun e => absurd (e ▸ hp) ha
  have gb := F.bars.acc p
  refine { len := F.len, slot := fun j s e => ?_, apart := F.apart, box := b, bars := gb, dom := fun a ha => ?_, lks := fun a ha => .inl (F.lks a ha) }
  · obtain ⟨v, k1, k2⟩ := F.slot j s e
    refine ⟨v, k1, SlOk.sm gb h' ?_⟩
    unfold SlOk at k2 ⊢
    cases hk : s.k with
    | cl => rw [hk] at k2; exact k2.plus (g := g) hp
    | br => rw [hk] at k2; exact Rb.acc hp k2
    | ow =>
      rw [hk] at k2
      obtain ⟨q, e, a1, a2, a3, a4, r⟩ := k2
      exact ⟨q, e, .inl a1, ⟨.inl a2.1, a2.2⟩, a3, a4, r.plus (g := g) hp⟩
    | lk =>
      rw [hk] at k2
      obtain ⟨q, e, a1, a2, a3, a4, rr⟩ := k2
      exact ⟨q, e, .inl a1, ⟨.inl a2.1, a2.2⟩, a3, a4, rr.plus (g := g) hp⟩
  · rcases ha with ha | rfl
    · exact h.some b.some (F.dom a ha)
    · exact hq
/-- a value into a slot -/
theorem FrS.put2 (S : FrS c g0 H0 L gs g f σ H) (h : Sm g H H1) (b : BoxOk g H1) (r : Rn c g H H1 a v) (e : f.put own i a = some f') : ∃ g', FrS c g0 H0 L gs g' f' (σ.set i (some v)) H1 ∧ ∀ f2 σ2, FrOk c g f2 σ2 H → FrOk c g' f2 σ2 H1 := by
  unfold Fm.put at e
  split at e
  · cases e
  · rename_i o eo
    have hi := lt_of_get eo
    split at e
    · cases e
    · rename_i hnl
      have hn : ∀ d, f[i]? ≠ some (some ⟨d, .lk⟩) := fun d z => by
        rw [eo] at z
        simp only [Option.some.injEq] at z
        exact hnl d (by rw [z])
      have S1 := S.next h b
      have plain : ∀ {k : Kd}, k.mine = false → SlOk c g H1 ⟨a.d, k⟩ v → FrS c g0 H0 L gs g (f.set i (some ⟨a.d, k⟩)) (σ.set i (some v)) H1 := fun {k} hk r =>
        { S1 with
          fr := S1.fr.br hi hk r
          lk := fun x hx => by
            obtain ⟨e1, e2, e3⟩ := S.lk x hx
            obtain ⟨k1, k2⟩ := KeepS.set' (σ := σ) (v := v) (d := a.d) (k := k) hi hn _ _ e1
            exact ⟨k1, k2.trans e2, e3⟩ }
      cases ht : a.t with
      | cl =>
        rw [ht] at e
        simp only [Option.some.injEq] at e
        subst e
        unfold Rn at r
        rw [ht] at r
        exact ⟨g, plain (k := .cl) rfl r, fun f2 σ2 F2 => F2.sm h b⟩
      | br =>
        rw [ht] at e
        simp only [Option.some.injEq] at e
        subst e
        unfold Rn at r
        rw [ht] at r
        exact ⟨g, plain (k := .br) rfl r, fun f2 σ2 F2 => F2.sm h b⟩
      | ow => rw [ht] at e; cases e
      | lk => rw [ht] at e; cases e
      | fr =>
        rw [ht] at e
        simp only [Option.some.injEq] at e
        subst e
        by_cases ho : (own && a.d.mutable) = true
        · rw [if_pos ho]
          unfold Rn at r
          rw [ht] at r
          obtain ⟨p, rfl, hp, r⟩ := r
          have h0 : H0 p = none := by
            cases q : H0 p with
            | none => rfl
            | some o => exact absurd hp (S.sm.some (by rw [← S.eb, ← S.ec]; exact S.fr.box.some) (by rw [q]; simp))
          refine ⟨g.acc p, ?_, fun f2 σ2 F2 => F2.grow hp h b (by obtain ⟨o, e, _⟩ := r.some; rw [e]; simp)⟩
          exact
            { fr := S.fr.gain hp h b r hi
              eb := S.eb
              ec := S.ec
              up := fun a z => .inl (S.up a z)
              new := fun a z => z.elim (S.new a) fun z => .inr (z ▸ h0)
              sm := S1.sm
              mine := fun a z => z.elim (S.mine a) fun z => z ▸ h0
              lk := fun x hx => by
                obtain ⟨e1, e2, e3⟩ := S.lk x hx
                obtain ⟨k1, k2⟩ := KeepS.set' (σ := σ) (v := .ref p) (d := a.d) (k := .ow) hi hn _ _ e1
                exact ⟨k1, k2.trans e2, e3⟩
              dom0 := S.dom0
              gz := fun x hx => ((S.gz x hx).plus (g := g) hp).mono (g := g.acc p) (S.fr.bars.acc p) (h.sub rfl rfl fun a ha z => z.elim id fun e => absurd (e ▸ hp) ha)
              gr := fun x hx => by
                obtain ⟨h1, h2, h3, h4, rr⟩ := S.gr x hx
                refine ⟨.inl h1, fun z => z.elim h2 fun z => absurd (z ▸ rr.tracked) (by rw [hp]; simp), h3, h4, ?_⟩
                exact (rr.plus (g := g) hp).sm (g := g.acc p) (S.fr.bars.acc p) (h.sub rfl rfl fun a ha z => z.elim id fun e => absurd (e ▸ hp) ha) (fun _ z => z) (fun _ _ z => z) ⟨h3, h4⟩ }
        · rw [if_neg ho]
          exact ⟨g, plain (k := .cl) rfl (r.clean S.fr.dom (d := a.d) (by unfold A.clean; rw [ht]; simp)), fun f2 σ2 F2 => F2.sm h b⟩
theorem FrS.put (S : FrS c g0 H0 L gs g f σ H) (h : Sm g H H1) (b : BoxOk g H1) (r : Rn c g H H1 a v) (e : f.put own i a = some f') : ∃ g', FrS c g0 H0 L gs g' f' (σ.set i (some v)) H1 := by
  obtain ⟨g', S', _⟩ := S.put2 h b r e
  exact ⟨g', S'⟩
end
end Ev
/-! EvD10: own things written, locked, given away. -/
namespace Ev
open PySem PySem.Spec PyProof.Rows L2
open Tr
variable {c : Cs}
section
variable {g0 g : Gh} {H0 H H1 : Hp} {L : List (Nat × D × Addr)} {gs : Gs} {f f' : Fm} {σ σ' : L2.St} {a : A} {v : V} {i : Nat} {d d' : D} {p : Addr} {o u : HO}
theorem get_of {s : Sl} (h : f[i]? = some (some s)) : f.get i = some s := by unfold Fm.get; rw [h]
/-- an own thing is written -/
theorem FrS.write (S : FrS c g0 H0 L gs g f σ H) (e : f[i]? = some (some ⟨d, .ow⟩)) (es : σ[i]? = some (some (.ref p))) (eu : H p = some u) (hm : Mut (some u)) (r : RootM c g.b0 g.B (upd H p o) d' p) :
    FrS c g0 H0 L gs g (f.set i (some ⟨d', .ow⟩)) σ (upd H p o) := by
  have hi := lt_of_get e
  obtain ⟨v, k1, q, e1, hB, hM, n0, n1, _⟩ := S.fr.slot i _ e
  rw [es] at k1
  cases k1
  cases e1
  have kk : Sb g.B H (upd H p o) := .upd hB eu hm
  refine { fr := { len := by rw [List.length_set]; exact S.fr.len, slot := fun j s ej => ?_, apart := fun j k s t q e1 e2 m1 m2 e3 e4 => ?_, box := S.fr.box.write n0 n1, bars := S.fr.bars, dom := fun a ha => ?_, lks := S.fr.lks },
           eb := S.eb, ec := S.ec, up := S.up, new := S.new, sm := fun a w ea => ?_, mine := S.mine, lk := fun x hx => ?_, dom0 := S.dom0, gz := fun x hx => (S.gz x hx).keep kk, gr := fun x hx => ?_ }
  · by_cases hj : i = j
    · subst hj
      rw [List.getElem?_set_self hi] at ej
      cases ej
      exact ⟨.ref p, es, p, rfl, hB, hM, n0, n1, r⟩
    · rw [List.getElem?_set_ne hj] at ej
      obtain ⟨v, k1, k2⟩ := S.fr.slot j s ej
      refine ⟨v, k1, ?_⟩
      have ne : s.k.mine = true → ∀ q, v = .ref q → q ≠ p := fun hmine q ev z => by
        subst ev z
        exact hj (S.fr.apart i j _ s q e ej rfl hmine es k1)
      unfold SlOk at k2 ⊢
      cases hk : s.k with
      | cl => rw [hk] at k2; exact k2.keep kk
      | br => rw [hk] at k2; exact Rb.write hB hM.1 eu hm k2
      | ow =>
        rw [hk] at k2
        obtain ⟨q, e1, a1, a2, a3, a4, rr⟩ := k2
        exact ⟨q, e1, a1, a2, a3, a4, rr.write hB eu hm (ne (by rw [hk]; rfl) q e1)⟩
      | lk =>
        rw [hk] at k2
        obtain ⟨q, e1, a1, a2, a3, a4, rr⟩ := k2
        exact ⟨q, e1, a1, a2, a3, a4, rr.write hB eu hm (ne (by rw [hk]; rfl) q e1)⟩
  · have key : ∀ {j : Nat} {s : Sl}, (f.set i (some ⟨d', .ow⟩))[j]? = some (some s) → s.k.mine = true → ∃ s', f[j]? = some (some s') ∧ s'.k.mine = true := fun {j s} ej hs => by
      by_cases hj : i = j
      · subst hj; exact ⟨_, e, rfl⟩
      · rw [List.getElem?_set_ne hj] at ej; exact ⟨s, ej, hs⟩
    obtain ⟨s', a1, a2⟩ := key e1 m1
    obtain ⟨t', b1, b2⟩ := key e2 m2
    exact S.fr.apart j k s' t' q a1 b1 a2 b2 e3 e4
  · by_cases hd : a = p
    · subst hd; rw [upd_same]; simp
    · rw [upd_ne hd]; exact S.fr.dom a ha
  · have hp : a ≠ p := fun z => by rw [z, S.mine p hM.1] at ea; cases ea
    rcases S.sm a w ea with z | z | ⟨z1, z2, od, z3⟩
    · exact .inl z
    · exact .inr (.inl (by rw [upd_ne hp]; exact z))
    · exact .inr (.inr ⟨z1, z2, od, by rw [upd_ne hp]; exact z3⟩)
  · obtain ⟨e1, e2, e3⟩ := S.lk x hx
    have hj : i ≠ x.1 := fun z => by rw [← z, e] at e1; cases e1
    exact ⟨by rw [List.getElem?_set_ne hj]; exact e1, e2, e3⟩
  · obtain ⟨h1, h2, h3, h4, rr⟩ := S.gr x hx
    exact ⟨h1, h2, h3, h4, rr.write hB eu hm fun z => hM.2 (z ▸ h2 (z ▸ hM.1))⟩
/-- slots forgotten, the locked ones kept -/
theorem FrS.drop (S : FrS c g0 H0 L gs g f σ H) (hl : f'.length = f.length) (h : ∀ (i : Nat) (s : Sl), f'[i]? = some (some s) → f[i]? = some (some s)) (hk : ∀ (i : Nat) (d : D), f[i]? = some (some ⟨d, .lk⟩) → f'[i]? = some (some ⟨d, .lk⟩)) :
    FrS c g0 H0 L gs g f' σ H :=
  { S with
    fr := S.fr.drop (by rw [hl, S.fr.len]) fun i s e => ⟨h i s e, rfl⟩
    lk := fun x hx => by obtain ⟨e1, e2, e3⟩ := S.lk x hx; exact ⟨hk _ _ e1, e2, e3⟩ }
theorem keepOnly_get {keep : List Nat} {s : Sl} (h : (keepOnly f keep)[i]? = some (some s)) : f[i]? = some (some s) := by
  unfold keepOnly at h
  rw [List.getElem?_mapIdx] at h
  cases e : f[i]? with
  | none => rw [e] at h; cases h
  | some x =>
    rw [e] at h
    simp only [Option.map_some, Option.some.injEq] at h
    split at h
    · rw [h]
    · cases h
theorem keepOnly_lk {keep : List Nat} (h : f[i]? = some (some ⟨d, .lk⟩)) : (keepOnly f keep)[i]? = some (some ⟨d, .lk⟩) := by
  unfold keepOnly
  rw [List.getElem?_mapIdx, h]
  simp [isLk]
theorem FrS.keepOnly (S : FrS c g0 H0 L gs g f σ H) (keep : List Nat) : FrS c g0 H0 L gs g (keepOnly f keep) σ H :=
  S.drop (by unfold Ev.keepOnly; rw [List.length_mapIdx]) (fun _ _ e => keepOnly_get e) fun _ _ e => keepOnly_lk e
/-- an own thing is given away -/
theorem FrS.frz (S : FrS c g0 H0 L gs g f σ H) (e : f[i]? = some (some ⟨d, .ow⟩)) : ∃ g', FrS c g0 H0 L gs g' (f.set i (some ⟨d, .cl⟩)) σ H := by
  have hi := lt_of_get e
  obtain ⟨v, es, p, rfl, hB, hM, n0, n1, r⟩ := S.fr.slot i _ e
  let g' : Gh := { g with B := fun a => g.B a ∧ a ≠ p, M := fun a => g.M a ∧ a ≠ p }
  have sub : ∀ a, H a ≠ none → g'.B a → g.B a := fun a _ z => z.1
  have rootb : ∀ {d : D} {q : Addr}, Root c g.b0 g.B H d q → Root c g.b0 g'.B H d q := fun {d q} r => by
    cases d with
    | lst ds => obtain ⟨vs, h1, h2⟩ := r; exact ⟨vs, h1, h2.bar sub⟩
    | dct kvs => obtain ⟨rows, h1, h2, h3, h4⟩ := r; exact ⟨rows, h1, h2, h3, h4.bar sub⟩
    | _ => exact r
  have rootm : ∀ {d : D} {q : Addr}, RootM c g.b0 g.B H d q → RootM c g.b0 g'.B H d q := fun {d q} r => by
    cases d with
    | lst ds => obtain ⟨vs, h1, h2⟩ := r; exact ⟨vs, h1, h2.bar sub⟩
    | dct kvs => obtain ⟨rows, h1, h2, h3, h4⟩ := r; exact ⟨rows, h1, h2, h3, h4.bar sub⟩
    | _ => exact r
  have hi' : i < σ.length := by rw [← S.fr.len]; exact hi
  refine ⟨g', { fr := { len := by rw [List.length_set]; exact S.fr.len, slot := fun j s ej => ?_, apart := fun j k s t q e1 e2 m1 m2 e3 e4 => ?_, box := S.fr.box, bars := ⟨⟨S.fr.bars.1, n0.symm⟩, S.fr.bars.2, n1.symm⟩, dom := fun a ha => S.fr.dom a ha.1, lks := fun a ha => ⟨S.fr.lks a ha, fun z => hM.2 (z ▸ ha)⟩ }, eb := S.eb, ec := S.ec, up := fun a z => ⟨S.up a z, fun ea => S.dom0 a z (ea ▸ S.mine p hM.1)⟩, new := fun a z => S.new a z.1, sm := S.sm, mine := fun a z => S.mine a z.1, lk := fun x hx => ?_, dom0 := S.dom0, gz := fun x hx => (S.gz x hx).bar sub, gr := fun x hx => ?_ }⟩
  · by_cases hj : i = j
    · subst hj
      rw [List.getElem?_set_self hi] at ej
      cases ej
      exact ⟨.ref p, es, r.rz (fun z => z.2 rfl) fun a _ z => z.1⟩
    · rw [List.getElem?_set_ne hj] at ej
      obtain ⟨v, k1, k2⟩ := S.fr.slot j s ej
      refine ⟨v, k1, ?_⟩
      have ne : s.k.mine = true → ∀ q, v = .ref q → q ≠ p := fun hmine q ev z => by
        subst ev z
        exact hj (S.fr.apart i j _ s q e ej rfl hmine es k1)
      unfold SlOk at k2 ⊢
      cases hk : s.k with
      | cl => rw [hk] at k2; exact k2.bar sub
      | br =>
        rw [hk] at k2
        rcases k2 with k2 | ⟨q, e1, h1, h4, h2, h3, rr⟩
        · exact .inl (k2.bar sub)
        · exact .inr ⟨q, e1, ⟨h1, fun z => h4 (z ▸ hM.1)⟩, fun z => h4 z.1, h2, h3, rootb rr⟩
      | ow =>
        rw [hk] at k2
        obtain ⟨q, e1, a1, a2, a3, a4, rr⟩ := k2
        have hq := ne (by rw [hk]; rfl) q e1
        exact ⟨q, e1, ⟨a1, hq⟩, ⟨⟨a2.1, hq⟩, a2.2⟩, a3, a4, rootm rr⟩
      | lk =>
        rw [hk] at k2
        obtain ⟨q, e1, a1, a2, a3, a4, rr⟩ := k2
        have hq := ne (by rw [hk]; rfl) q e1
        exact ⟨q, e1, ⟨a1, hq⟩, ⟨⟨a2.1, hq⟩, a2.2⟩, a3, a4, rootm rr⟩
  · have key : ∀ {j : Nat} {s : Sl}, (f.set i (some ⟨d, .cl⟩))[j]? = some (some s) → s.k.mine = true → f[j]? = some (some s) := fun {j s} ej hs => by
      by_cases hj : i = j
      · subst hj; rw [List.getElem?_set_self hi] at ej; cases ej; cases hs
      · rw [List.getElem?_set_ne hj] at ej; exact ej
    exact S.fr.apart j k s t q (key e1 m1) (key e2 m2) m1 m2 e3 e4
  · obtain ⟨e1, e2, e3⟩ := S.lk x hx
    have hj : i ≠ x.1 := fun z => by rw [← z, e] at e1; cases e1
    exact ⟨by rw [List.getElem?_set_ne hj]; exact e1, e2, e3⟩
  · obtain ⟨h1, h2, h3, h4, rr⟩ := S.gr x hx
    exact ⟨⟨h1, fun z => hM.2 (z ▸ h2 (z ▸ hM.1))⟩, fun z => h2 z.1, h3, h4, rootb rr⟩
end
end Ev
/-! EvD11: locks, walked rows, statements as readings. -/
namespace Ev
open PySem PySem.Spec PyProof.Rows L2
open Tr
variable {c : Cs}
section
variable {g0 g : Gh} {H0 H H1 : Hp} {L L1 : List (Nat × D × Addr)} {gs : Gs} {f f' f1 : Fm} {σ σ' : L2.St} {i : Nat} {d : D} {p : Addr}
theorem FrS.fewer (S : FrS c g0 H0 L1 gs g f σ H) (h : ∀ x ∈ L, x ∈ L1) : FrS c g0 H0 L gs g f σ H := { S with lk := fun x hx => S.lk x (h x hx) }
theorem FrS.lock1 (S : FrS c g0 H0 L gs g f σ H) (e : f[i]? = some (some ⟨d, .ow⟩)) : ∃ p g', FrS c g0 H0 ((i, d, p) :: L) gs g' (f.set i (some ⟨d, .lk⟩)) σ H ∧ ∀ x ∈ gs.r, x.2 ≠ p := by
  have hi := lt_of_get e
  obtain ⟨v, es, p, rfl, hB, hM, n0, n1, r⟩ := S.fr.slot i _ e
  let g' : Gh := { g with L := fun a => g.L a ∨ a = p }
  refine ⟨p, g', { fr := { len := by rw [List.length_set]; exact S.fr.len, slot := fun j s ej => ?_, apart := fun j k s t q e1 e2 m1 m2 e3 e4 => ?_, box := S.fr.box, bars := S.fr.bars, dom := S.fr.dom, lks := fun a ha => ha.elim (S.fr.lks a) fun z => z ▸ hB }, eb := S.eb, ec := S.ec, up := S.up, new := S.new, sm := S.sm, mine := S.mine, lk := fun x hx => ?_, dom0 := S.dom0, gz := S.gz, gr := fun x hx => ?_ }, fun x hx z => ?_⟩
  · by_cases hj : i = j
    · subst hj
      rw [List.getElem?_set_self hi] at ej
      cases ej
      exact ⟨.ref p, es, p, rfl, hB, ⟨hM.1, .inr rfl⟩, n0, n1, r⟩
    · rw [List.getElem?_set_ne hj] at ej
      obtain ⟨v, k1, k2⟩ := S.fr.slot j s ej
      refine ⟨v, k1, ?_⟩
      unfold SlOk at k2 ⊢
      cases hk : s.k with
      | cl => rw [hk] at k2; exact k2
      | br => rw [hk] at k2; exact k2
      | ow =>
        rw [hk] at k2
        obtain ⟨q, e1, a1, a2, a3, a4, rr⟩ := k2
        refine ⟨q, e1, a1, ⟨a2.1, fun z => z.elim a2.2 fun z => ?_⟩, a3, a4, rr⟩
        subst e1 z
        exact hj (S.fr.apart i j _ s q e ej rfl (by rw [hk]; rfl) es k1)
      | lk =>
        rw [hk] at k2
        obtain ⟨q, e1, a1, a2, a3, a4, rr⟩ := k2
        exact ⟨q, e1, a1, ⟨a2.1, .inl a2.2⟩, a3, a4, rr⟩
  · have key : ∀ {j : Nat} {s : Sl}, (f.set i (some ⟨d, .lk⟩))[j]? = some (some s) → s.k.mine = true → ∃ s', f[j]? = some (some s') ∧ s'.k.mine = true := fun {j s} ej hs => by
      by_cases hj : i = j
      · subst hj; exact ⟨_, e, rfl⟩
      · rw [List.getElem?_set_ne hj] at ej; exact ⟨s, ej, hs⟩
    obtain ⟨s', a1, a2⟩ := key e1 m1
    obtain ⟨t', b1, b2⟩ := key e2 m2
    exact S.fr.apart j k s' t' q a1 b1 a2 b2 e3 e4
  · rcases List.mem_cons.mp hx with rfl | hx
    · exact ⟨by rw [List.getElem?_set_self hi], es, S.mine p hM.1⟩
    · obtain ⟨e1, e2, e3⟩ := S.lk x hx
      have hj : i ≠ x.1 := fun z => by rw [← z, e] at e1; cases e1
      exact ⟨by rw [List.getElem?_set_ne hj]; exact e1, e2, e3⟩
  · obtain ⟨h1, h2, h3, h4, rr⟩ := S.gr x hx
    exact ⟨h1, fun z => .inl (h2 z), h3, h4, rr⟩
  · obtain ⟨_, h2, _⟩ := S.gr x hx
    exact hM.2 (z ▸ h2 (z ▸ hM.1))
theorem FrS.unlock1 (S : FrS c g0 H0 L1 gs g f σ H) (hm : (i, d, p) ∈ L1) (hg : ∀ x ∈ gs.r, x.2 ≠ p) (hL : ∀ x ∈ L, x ∈ L1 ∧ x.1 ≠ i) : ∃ g', FrS c g0 H0 L gs g' (f.set i (some ⟨d, .ow⟩)) σ H := by
  obtain ⟨e, es, h0⟩ := S.lk _ hm
  have hi := lt_of_get e
  obtain ⟨v, es', q, rfl, hB, hM, n0, n1, r⟩ := S.fr.slot i _ e
  rw [es] at es'
  cases es'
  let g' : Gh := { g with L := fun a => g.L a ∧ a ≠ p }
  refine ⟨g', { fr := { len := by rw [List.length_set]; exact S.fr.len, slot := fun j s ej => ?_, apart := fun j k s t q e1 e2 m1 m2 e3 e4 => ?_, box := S.fr.box, bars := S.fr.bars, dom := S.fr.dom, lks := fun a ha => S.fr.lks a ha.1 }, eb := S.eb, ec := S.ec, up := S.up, new := S.new, sm := S.sm, mine := S.mine, lk := fun x hx => ?_, dom0 := S.dom0, gz := S.gz, gr := fun x hx => ?_ }⟩
  · by_cases hj : i = j
    · subst hj
      rw [List.getElem?_set_self hi] at ej
      cases ej
      exact ⟨.ref p, es, p, rfl, hB, ⟨hM.1, fun z => z.2 rfl⟩, n0, n1, r⟩
    · rw [List.getElem?_set_ne hj] at ej
      obtain ⟨v, k1, k2⟩ := S.fr.slot j s ej
      refine ⟨v, k1, ?_⟩
      unfold SlOk at k2 ⊢
      cases hk : s.k with
      | cl => rw [hk] at k2; exact k2
      | br => rw [hk] at k2; exact k2
      | ow =>
        rw [hk] at k2
        obtain ⟨q, e1, a1, a2, a3, a4, rr⟩ := k2
        exact ⟨q, e1, a1, ⟨a2.1, fun z => a2.2 z.1⟩, a3, a4, rr⟩
      | lk =>
        rw [hk] at k2
        obtain ⟨q, e1, a1, a2, a3, a4, rr⟩ := k2
        refine ⟨q, e1, a1, ⟨a2.1, a2.2, fun z => ?_⟩, a3, a4, rr⟩
        subst e1 z
        exact hj (S.fr.apart i j _ s q e ej rfl (by rw [hk]; rfl) es k1)
  · have key : ∀ {j : Nat} {s : Sl}, (f.set i (some ⟨d, .ow⟩))[j]? = some (some s) → s.k.mine = true → ∃ s', f[j]? = some (some s') ∧ s'.k.mine = true := fun {j s} ej hs => by
      by_cases hj : i = j
      · subst hj; exact ⟨_, e, rfl⟩
      · rw [List.getElem?_set_ne hj] at ej; exact ⟨s, ej, hs⟩
    obtain ⟨s', a1, a2⟩ := key e1 m1
    obtain ⟨t', b1, b2⟩ := key e2 m2
    exact S.fr.apart j k s' t' q a1 b1 a2 b2 e3 e4
  · obtain ⟨hx1, hj⟩ := hL x hx
    obtain ⟨e1, e2, e3⟩ := S.lk x hx1
    exact ⟨by rw [List.getElem?_set_ne (Ne.symm hj)]; exact e1, e2, e3⟩
  · obtain ⟨h1, h2, h3, h4, rr⟩ := S.gr x hx
    exact ⟨h1, fun z => ⟨h2 z, hg x hx⟩, h3, h4, rr⟩
theorem FrS.locks : ∀ (lock : List Nat) {f f1 : Fm} {g : Gh} {L : List (Nat × D × Addr)}, FrS c g0 H0 L gs g f σ H → lockAll f lock = some f1 →
    ∃ L1 g', FrS c g0 H0 L1 gs g' f1 σ H ∧ (∀ x ∈ L, x ∈ L1 ∧ x.1 ∉ lock) ∧ ∀ i ∈ lock, ∃ d p, (i, d, p) ∈ L1 ∧ ∀ x ∈ gs.r, x.2 ≠ p
  | [], f, f1, g, L, S, h => by
    simp only [lockAll, Option.some.injEq] at h
    subst h
    exact ⟨L, g, S, fun x hx => ⟨hx, by simp⟩, fun i hi => by simp at hi⟩
  | i :: r, f, f1, g, L, S, h => by
    simp only [lockAll] at h
    split at h
    · rename_i d e0
      have e := get_some e0
      obtain ⟨p, g', S', hp⟩ := S.lock1 e
      obtain ⟨L1, g2, S2, h1, h2⟩ := FrS.locks r S' h
      refine ⟨L1, g2, S2, fun x hx => ⟨(h1 x (List.mem_cons_of_mem _ hx)).1, fun z => ?_⟩, fun j hj => ?_⟩
      · rcases List.mem_cons.mp z with z | z
        · have := (S.lk x hx).1
          rw [z, e] at this
          cases this
        · exact (h1 x (List.mem_cons_of_mem _ hx)).2 z
      · rcases List.mem_cons.mp hj with rfl | hj
        · exact ⟨d, p, (h1 _ List.mem_cons_self).1, hp⟩
        · exact h2 j hj
    · cases h
theorem FrS.unlocks : ∀ (lock : List Nat) {f f1 : Fm} {g : Gh} {L1 : List (Nat × D × Addr)}, lock.Nodup → FrS c g0 H0 L1 gs g f σ H → unlockAll f lock = some f1 → (∀ x ∈ L, x ∈ L1 ∧ x.1 ∉ lock) → (∀ i ∈ lock, ∃ d p, (i, d, p) ∈ L1 ∧ ∀ x ∈ gs.r, x.2 ≠ p) →
    ∃ g', FrS c g0 H0 L gs g' f1 σ H
  | [], f, f1, g, L1, _, S, h, h1, _ => by
    simp only [unlockAll, Option.some.injEq] at h
    subst h
    exact ⟨g, S.fewer fun x hx => (h1 x hx).1⟩
  | i :: r, f, f1, g, L1, nd, S, h, h1, h2 => by
    simp only [unlockAll] at h
    split at h
    · rename_i d e0
      have e := get_some e0
      obtain ⟨d', p, hm, hp⟩ := h2 i List.mem_cons_self
      have := (S.lk _ hm).1
      rw [e] at this
      cases this
      rw [List.nodup_cons] at nd
      obtain ⟨g2, S2⟩ := S.unlock1 (L := L1.filter fun x => x.1 != i) hm hp fun x hx => by
        rw [List.mem_filter] at hx
        exact ⟨hx.1, by simpa using hx.2⟩
      refine FrS.unlocks r nd.2 S2 h (fun x hx => ⟨?_, fun z => (h1 x hx).2 (List.mem_cons_of_mem _ z)⟩) fun j hj => ?_
      · rw [List.mem_filter]
        refine ⟨(h1 x hx).1, ?_⟩
        have : x.1 ≠ i := fun z => (h1 x hx).2 (z ▸ List.mem_cons_self)
        simpa using this
      · obtain ⟨d2, p2, k1, k2⟩ := h2 j (List.mem_cons_of_mem _ hj)
        refine ⟨d2, p2, ?_, k2⟩
        rw [List.mem_filter]
        have : j ≠ i := fun z => nd.1 (z ▸ hj)
        exact ⟨k1, by simpa using this⟩
    · cases h
/-- what is walked joins -/
theorem FrS.walk (S : FrS c g0 H0 L gs g f σ H) : ∀ {ss : List D} {vs : List V}, Paired (Rk c g H) ss vs → ∃ gs' : Gs, FrS c g0 H0 L gs' g f σ H ∧ (∀ x ∈ gs.z, x ∈ gs'.z) ∧ (∀ x ∈ gs.r, x ∈ gs'.r) ∧
    ∀ {L2' : List (Nat × D × Addr)} {g2 : Gh} {f2 : Fm} {σ2 : L2.St} {H2 : Hp}, FrS c g0 H0 L2' gs' g2 f2 σ2 H2 → Paired (Rw c g2 H2) ss vs
  | _, _, .nil => ⟨gs, S, fun _ h => h, fun _ h => h, fun _ => .nil⟩
  | _, _, .cons (a := d) (b := v) h t => by
    obtain ⟨gs1, S1, k1, k2, k3⟩ := FrS.walk S t
    rcases h with h | ⟨p, rfl, h1, h2, h3, h4, r⟩
    · refine ⟨⟨(d, v) :: gs1.z, gs1.r⟩, { S1 with gz := fun x hx => ?_ }, fun x hx => List.mem_cons_of_mem _ (k1 x hx), k2, fun {L2' g2 f2 σ2 H2} S2 => ?_⟩
      · rcases List.mem_cons.mp hx with rfl | hx
        · exact h
        · exact S1.gz x hx
      · exact .cons (.inl (S2.gz (d, v) List.mem_cons_self)) (k3 (L2' := L2') { S2 with gz := fun x hx => S2.gz x (List.mem_cons_of_mem _ hx) })
    · refine ⟨⟨gs1.z, (d, p) :: gs1.r⟩, { S1 with gr := fun x hx => ?_ }, k1, fun x hx => List.mem_cons_of_mem _ (k2 x hx), fun {L2' g2 f2 σ2 H2} S2 => ?_⟩
      · rcases List.mem_cons.mp hx with rfl | hx
        · exact ⟨h1, h2, h3, h4, r⟩
        · exact S1.gr x hx
      · obtain ⟨a1, _, a3, a4, a5⟩ := S2.gr (d, p) List.mem_cons_self
        exact .cons (.inr ⟨p, rfl, a1, a3, a4, a5⟩) (k3 (L2' := L2') { S2 with gr := fun x hx => S2.gr x (List.mem_cons_of_mem _ hx) })
theorem FrS.forget {gs' : Gs} (S : FrS c g0 H0 L gs' g f σ H) (k1 : ∀ x ∈ gs.z, x ∈ gs'.z) (k2 : ∀ x ∈ gs.r, x ∈ gs'.r) : FrS c g0 H0 L gs g f σ H :=
  { S with gz := fun x hx => S.gz x (k1 x hx), gr := fun x hx => S.gr x (k2 x hx) }
end
end Ev
/-! EvD12: statements as readings. -/
namespace Ev
open PySem PySem.Spec PyProof.Rows L2
open Tr
variable {c : Cs}
/-- what a statement's end owes -/
def Ed (c : Cs) (g0 : Gh) (H0 : Hp) (L : List (Nat × D × Addr)) (gs : Gs) (D : Ends) : Fl → Prop
  | .nx f' => ∀ g' σ' H', FrS c g0 H0 L gs g' f' σ' H' → D.nx σ' H'
  | .bk f' => ∀ g' σ' H', FrS c g0 H0 L gs g' f' σ' H' → D.bk σ' H'
  | .ct f' => ∀ g' σ' H', FrS c g0 H0 L gs g' f' σ' H' → D.ct σ' H'
  | .rt a => ∀ v H', Sm g0 H0 H' → BoxOk g0 H' → Rn c g0 H0 H' a v → D.rt v H'
/-- a frame's run as a statement -/
def tS (c : Cs) (m : Fm → Tr Fl) : TS := fun D σ H => ∃ g0 H0 L gs g f, FrS c g0 H0 L gs g f σ H ∧ All (m f) (Ed c g0 H0 L gs D)
theorem PS.imp {X : Cx} {e : Stmt} {t t' : TS} (h : PS X e t) (i : ∀ D σ H, t' D σ H → t D σ H) : PS X e t' := ⟨fun pins s σ H D I q => h.run pins s σ H D I (i D σ H q)⟩
theorem PSs.imp {X : Cx} {e : List Stmt} {t t' : TS} (h : PSs X e t) (i : ∀ D σ H, t' D σ H → t D σ H) : PSs X e t' := ⟨fun pins s σ H D I q => h.run pins s σ H D I (i D σ H q)⟩
/-- one behind another -/
def seqF (m k : Fm → Tr Fl) : Fm → Tr Fl := fun f => (m f).bind fun r => match r with
  | .nx f' => k f'
  | r => .ret r
section
variable {X : Cx} {pos : Pos} {m k : Fm → Tr Fl} {st : Stmt} {rest a b : List Stmt} {e : Expr}
theorem s_nil : PSs X [] (tS c fun f => .ret (.nx f)) := PSs.imp pss_nil fun D σ H ⟨g0, H0, L, gs, g, f, S, h⟩ => h g σ H S
theorem s_cons (h1 : PS X st (tS c m)) (h2 : PSs X rest (tS c k)) : PSs X (st :: rest) (tS c (seqF m k)) := by
  refine PSs.imp (pss_cons h1 h2) fun D σ H ⟨g0, H0, L, gs, g, f, S, h⟩ => ⟨g0, H0, L, gs, g, f, S, (all_bind.mp h).mono fun r hr => ?_⟩
  cases r with
  | nx f' => exact fun g' σ' H' S' => ⟨g0, H0, L, gs, g', f', S', hr⟩
  | bk f' => exact hr
  | ct f' => exact hr
  | rt a => exact hr
/-- a ghost of a statement, ahead of the rest -/
theorem s_frz {i : Nat} (h : PSs X rest (tS c k)) : PSs X rest (tS c (seqF (fun f => match f.get i with
    | some ⟨d, .ow⟩ => .ret (.nx (f.set i (some ⟨d, .cl⟩)))
    | _ => .stuck) k)) := by
  refine PSs.imp h fun D σ H ⟨g0, H0, L, gs, g, f, S, h⟩ => ?_
  unfold seqF at h
  have h := all_bind.mp h
  dsimp only at h
  split at h
  · rename_i d e0
    obtain ⟨g', S'⟩ := S.frz (get_some e0)
    exact ⟨g0, H0, L, gs, g', _, S', h⟩
  · exact h.elim
theorem s_pass : PS X (.Pass pos) (tS c fun f => .ret (.nx f)) := PS.imp ps_pass fun D σ H ⟨g0, H0, L, gs, g, f, S, h⟩ => h g σ H S
theorem s_brk : PS X (.Break pos) (tS c fun f => .ret (.bk f)) := PS.imp ps_break fun D σ H ⟨g0, H0, L, gs, g, f, S, h⟩ => h g σ H S
theorem s_cnt : PS X (.Continue pos) (tS c fun f => .ret (.ct f)) := PS.imp ps_continue fun D σ H ⟨g0, H0, L, gs, g, f, S, h⟩ => h g σ H S
variable {me : Fm → Tr A}
theorem s_ife (hc : PT X e (tB' c (mT me))) (ha : PSs X a (tS c m)) (hb : PSs X b (tS c k)) : PS X (.If e a b pos) (tS c fun f => ((me f).bind fun x => boolT x.d).bind fun t => if t then m f else k f) := by
  refine PS.imp (ps_if hc ha hb) fun D σ H ⟨g0, H0, L, gs, g, f, S, h⟩ => ?_
  refine ⟨g, f, S.fr, ((all_bind (t := mT me f)).mp h).mono fun t ht H1 s1 b1 => ?_⟩
  cases t with
  | true => exact ⟨g0, H0, L, gs, g, f, S.next s1 b1, ht⟩
  | false => exact ⟨g0, H0, L, gs, g, f, S.next s1 b1, ht⟩
theorem rootM_bar {b0 : Addr} {B B' : Addr → Prop} {H : Hp} {d : D} {q : Addr} (r : RootM c b0 B H d q) (hB : ∀ a, H a ≠ none → B' a → B a) : RootM c b0 B' H d q := by
  cases d with
  | lst ds => obtain ⟨vs, h1, h2⟩ := r; exact ⟨vs, h1, h2.bar hB⟩
  | dct kvs => obtain ⟨rows, h1, h2, h3, h4⟩ := r; exact ⟨rows, h1, h2, h3, h4.bar hB⟩
  | _ => exact r
/-- what a value given back is, at the entry -/
theorem FrS.back {g0 g : Gh} {H0 H H1 : Hp} {L : List (Nat × D × Addr)} {gs : Gs} {f : Fm} {σ : L2.St} (S : FrS c g0 H0 L gs g f σ H) (s1 : Sm g H H1) (b1 : BoxOk g H1) {x : A} {v : V} (r : Rn c g H H1 x v) {y : A}
    (hy : (match x.t with
      | .cl => some x
      | .fr => some x
      | .ow => some ⟨x.d, .fr⟩
      | _ => none) = some y) : Rn c g0 H0 H1 y v := by
  have S1 := S.next s1 b1
  unfold Rn at r
  cases ht : x.t with
  | cl =>
    rw [ht] at hy r
    simp only [Option.some.injEq] at hy
    subst hy
    unfold Rn
    rw [ht]
    show Rz c g0.b0 g0.B H1 x.d v
    rw [← S.eb]
    exact r.bar fun a _ z => S.up a z
  | fr =>
    rw [ht] at hy r
    simp only [Option.some.injEq] at hy
    subst hy
    unfold Rn
    rw [ht]
    obtain ⟨p, e, hp, r⟩ := r
    refine ⟨p, e, ?_, ?_⟩
    · cases q : H0 p with
      | none => rfl
      | some o => exact absurd hp (S.sm.some (by rw [← S.eb, ← S.ec]; exact S.fr.box.some) (by rw [q]; simp))
    · rw [← S.eb]
      exact rootM_bar r fun a _ z => z.elim (fun z => .inl (S.up a z)) .inr
  | ow =>
    rw [ht] at hy r
    simp only [Option.some.injEq] at hy
    subst hy
    obtain ⟨p, e, hB, hM, _, _, r⟩ := r
    refine ⟨p, e, S.mine p hM.1, ?_⟩
    rw [← S.eb]
    exact rootM_bar r fun a _ z => z.elim (S.up a) fun z => z ▸ hB
  | br => rw [ht] at hy; cases hy
  | lk => rw [ht] at hy; cases hy
theorem s_ret (he : PE X e (tM c me)) : PS X (.Return (some e) pos) (tS c fun f => (me f).bind fun a => match a.t with
    | .cl => .ret (.rt a)
    | .fr => .ret (.rt a)
    | .ow => .ret (.rt ⟨a.d, .fr⟩)
    | .br => .stuck
    | .lk => .stuck) := by
  refine PS.imp (ps_ret he) fun D σ H ⟨g0, H0, L, gs, g, f, S, h⟩ => ⟨g, f, S.fr, (all_bind.mp h).mono fun x hx v H1 s1 b1 r1 => ?_⟩
  have S1 := S.next s1 b1
  have b0 : BoxOk g0 H1 := by
    obtain ⟨cells, x, y, h1, h2, h3⟩ := b1
    exact ⟨cells, x, y, by rw [← S.eb, ← S.ec]; exact h1, by rw [← S.ec]; exact h2, h3⟩
  have bk := fun y hy => S.back s1 b1 r1 (y := y) hy
  cases ht : x.t with
  | cl => rw [ht] at hx bk; exact hx v H1 S1.sm b0 (bk _ rfl)
  | fr => rw [ht] at hx bk; exact hx v H1 S1.sm b0 (bk _ rfl)
  | ow => rw [ht] at hx bk; exact hx v H1 S1.sm b0 (bk _ rfl)
  | br => rw [ht] at hx; exact hx.elim
  | lk => rw [ht] at hx; exact hx.elim
theorem s_retN : PS X (.Return none pos) (tS c fun _ => .ret (.rt (cl .non))) := PS.imp ps_retN fun D σ H ⟨g0, H0, L, gs, g, f, S, h⟩ => h .non H S.sm (by
    obtain ⟨cells, x, y, h1, h2, h3⟩ := S.fr.box
    exact ⟨cells, x, y, by rw [← S.eb, ← S.ec]; exact h1, by rw [← S.ec]; exact h2, h3⟩) (rn_cl (by rw [Rz]))
/-- a name gets a value -/
theorem asg_nm {i : Nat} {own : Bool} {D : Ends} {σ : L2.St} {H : Hp} (h : tS c (fun f => (me f).bind fun a => (ofO (f.put own i a)).bind fun f' => .ret (.nx f')) D σ H) : tAsg (tM c me) (gName i) D σ H := by
  obtain ⟨g0, H0, L, gs, g, f, S, h⟩ := h
  refine ⟨g, f, S.fr, (all_bind.mp h).mono fun x hx v H1 s1 b1 r1 => ?_⟩
  obtain ⟨f', e, k⟩ := all_ofO.mp (all_bind.mp hx)
  obtain ⟨g', S'⟩ := S.put s1 b1 r1 e
  exact k g' _ H1 S'
/-- names get the parts of a tuple -/
theorem asg_tup {ts : List T} {D : Ends} {σ : L2.St} {H : Hp} (h : tS c (fun f => (me f).bind fun a => (match a.clean with
    | some d => ofO (bindT (.tup ts) d f)
    | none => .stuck).bind fun f' => .ret (.nx f')) D σ H) : tAsg (tM c me) (gT c.K (.tup ts)) D σ H := by
  obtain ⟨g0, H0, L, gs, g, f, S, h⟩ := h
  refine ⟨g, f, S.fr, (all_bind.mp h).mono fun x hx v H1 s1 b1 r1 => ?_⟩
  have hx := all_bind.mp hx
  cases e : x.clean with
  | none => rw [e] at hx; exact hx.elim
  | some d =>
    rw [e] at hx
    obtain ⟨f', e2, k⟩ := all_ofO.mp hx
    have S1 := S.next s1 b1
    exact bind_ok c (.tup ts) e2 S1.fr (wk := false) (vs := T.names (.tup ts)) (.inl (r1.clean S.fr.dom e)) (fun z => by cases z) (fun _ z => z) fun σ' F' _ kp => k g σ' H1 (S1.slots F' kp)
end
end Ev
/-! EvD13: statements that write own things; loops. -/
namespace Ev
open PySem PySem.Spec PyProof.Rows L2
open Tr
variable {c : Cs}
section
variable {X : Cx} {pos cpos apos p1 : Pos} {e : Expr} {me : Fm → Tr A} {i : Nat} {x : Str}
/-- an own slot, from a mutation that is allowed -/
theorem mut_own {g0 g : Gh} {H0 H : Hp} {L : List (Nat × D × Addr)} {gs : Gs} {f f' : Fm} {σ : L2.St} {fn : D → Option D} (S : FrS c g0 H0 L gs g f σ H) (h : f.mut i fn = some f') :
    ∃ d d' p, f[i]? = some (some ⟨d, .ow⟩) ∧ σ[i]? = some (some (.ref p)) ∧ fn d = some d' ∧ f' = f.set i (some ⟨d', .ow⟩) ∧ g.B p ∧ p ≠ g.b0 ∧ p ≠ g.c0 ∧ RootM c g.b0 g.B H d p := by
  unfold Fm.mut at h
  split at h
  · rename_i d e0
    have e := get_some e0
    obtain ⟨v, es, p, rfl, hB, hM, n0, n1, r⟩ := S.fr.slot i _ e
    rw [Option.map_eq_some_iff] at h
    obtain ⟨d', h1, h2⟩ := h
    exact ⟨d, d', p, e, es, h1, h2.symm, hB, n0, n1, r⟩
  · cases h
theorem ty_list : TyOk X "list" (fun x H => ∃ p vs, x = .ref p ∧ H p = some (.lst vs)) := by
  intro pins σ H s x v I rx ⟨p, vs, ex, hp⟩
  subst ex
  cases rx
  obtain ⟨its, _, pl, _⟩ := I.list (SqL.of hp)
  refine ⟨pl.isList.typeIs, fun q e => ?_⟩
  cases e
  obtain ⟨o, n, e, _, hd, _⟩ := pl
  exact ⟨o, e, hd⟩
theorem all_ex {α : Type} {P : α → Prop} : ∀ {t : Tr α}, All t P → ∃ a, P a
  | .ret a, h => ⟨a, h⟩
  | .ask m k, h => all_ex (h.2 0 h.1)
  | .stuck, h => h.elim
/-- x.append(e) -/
theorem s_app (hN : X.N[i]? = some x) (hv : Vis X.env.scope x) (hd : (x == ("__debug__" : Str)) = false) (hcd : (x == ("__classdict__" : Str)) = false) (he : PE X e (tM c me)) (hst : noStar e = true) (hf : mthFit (.Name x p1) apos cpos [e] = true)
    (hs : swapsWith (.Call (.Attribute (.Name x p1) "append" apos) [e] [] cpos) none pos.line X.env = pure false) :
    PS X (.Expr (.Call (.Attribute (.Name x p1) "append" apos) [e] [] cpos) pos) (tS c fun f => (me f).bind fun a => match a.clean with
      | some d => (ofO (f.mut i (appD d))).bind fun f' => .ret (.nx f')
      | none => .stuck) := by
  have hp : PA X [e] _ := pa_cons he pa_nil (noStar_each hst _ _)
  refine PS.imp (ps_expr (pe_bmG ty_list F.plainAttrs_list PySem.F.slot_list_append PySem.F.type_list_append mt_append (pe_var hN hv hd hcd) hp hf) hs) fun D σ H ⟨g0, H0, L, gs, g, f, S, h⟩ => ?_
  have h := all_bind.mp h
  have step : ∀ a : A, All (match a.clean with
      | some d => (ofO (f.mut i (appD d))).bind fun f' => .ret (.nx f')
      | none => .stuck) (Ed c g0 H0 L gs D) → ∃ d f', a.clean = some d ∧ f.mut i (appD d) = some f' ∧ Ed c g0 H0 L gs D (.nx f') := fun a ha => by
    cases e : a.clean with
    | none => rw [e] at ha; exact ha.elim
    | some d =>
      rw [e] at ha
      obtain ⟨f', e1, k⟩ := all_ofO.mp (all_bind.mp ha)
      exact ⟨d, f', rfl, e1, k⟩
  obtain ⟨a0, h0⟩ := all_ex h
  obtain ⟨_, _, _, e0, _⟩ := step a0 h0
  obtain ⟨d, d', p, e1, es, e2, _, hB, n0, n1, r⟩ := mut_own S e0
  cases d with
  | lst xs =>
    obtain ⟨vs, hp, rz⟩ := r
    refine ⟨.ref p, es, ⟨p, vs, rfl, hp⟩, g, f, S.fr, h.mono fun a ha v H1 s1 b1 r1 => ?_⟩
    obtain ⟨d, f', ec, em, k⟩ := step a ha
    have S1 := S.next s1 b1
    obtain ⟨d2, d3, p2, a1, a2, a3, a4, _, _, _, r2⟩ := mut_own S1 em
    rw [e1] at a1
    cases a1
    rw [es] at a2
    cases a2
    obtain ⟨vs2, hp2, rz2⟩ := r2
    simp only [appD] at a3
    split at a3
    · rename_i hl
      simp only [Option.some.injEq] at a3
      subst a3 a4
      refine ⟨p, vs2, v, rfl, rfl, hp2, by rw [rz2.length, ← line_eq]; exact hl, k g σ _ (S1.write e1 es hp2 True.intro ?_)⟩
      have kk : Sb g.B H1 (upd H1 p (.lst (vs2 ++ [v]))) := .upd hB hp2 True.intro
      exact ⟨_, upd_same, (rz2.keep kk).app (.one ((r1.clean S.fr.dom ec).keep kk))⟩
    · cases a3
  | _ => simp [appD] at e2
/-- x.extend(e) -/
theorem s_ext (hN : X.N[i]? = some x) (hv : Vis X.env.scope x) (hd : (x == ("__debug__" : Str)) = false) (hcd : (x == ("__classdict__" : Str)) = false) (he : PE X e (tM c me)) (hst : noStar e = true) (hf : mthFit (.Name x p1) apos cpos [e] = true)
    (hs : swapsWith (.Call (.Attribute (.Name x p1) "extend" apos) [e] [] cpos) none pos.line X.env = pure false) :
    PS X (.Expr (.Call (.Attribute (.Name x p1) "extend" apos) [e] [] cpos) pos) (tS c fun f => (me f).bind fun a => match a.d with
      | .lst ys => (ofO (f.mut i (extD ys))).bind fun f' => .ret (.nx f')
      | _ => .stuck) := by
  have hp : PA X [e] _ := pa_cons he pa_nil (noStar_each hst _ _)
  refine PS.imp (ps_expr (pe_bmG ty_list F.plainAttrs_list PySem.F.slot_list_extend PySem.F.type_list_extend mt_extend (pe_var hN hv hd hcd) hp hf) hs) fun D σ H ⟨g0, H0, L, gs, g, f, S, h⟩ => ?_
  have h := all_bind.mp h
  have step : ∀ a : A, All (match a.d with
      | .lst ys => (ofO (f.mut i (extD ys))).bind fun f' => .ret (.nx f')
      | _ => .stuck) (Ed c g0 H0 L gs D) → ∃ ys f', a.d = .lst ys ∧ f.mut i (extD ys) = some f' ∧ Ed c g0 H0 L gs D (.nx f') := fun a ha => by
    cases e : a.d with
    | lst ys =>
      rw [e] at ha
      obtain ⟨f', e1, k⟩ := all_ofO.mp (all_bind.mp ha)
      exact ⟨ys, f', rfl, e1, k⟩
    | _ => rw [e] at ha; exact ha.elim
  obtain ⟨a0, h0⟩ := all_ex h
  obtain ⟨_, _, _, e0, _⟩ := step a0 h0
  obtain ⟨d, d', p, e1, es, e2, _, hB, n0, n1, r⟩ := mut_own S e0
  cases d with
  | lst xs =>
    obtain ⟨vs, hp, rz⟩ := r
    refine ⟨.ref p, es, ⟨p, vs, rfl, hp⟩, g, f, S.fr, h.mono fun a ha v H1 s1 b1 r1 => ?_⟩
    obtain ⟨ys, f', ed, em, k⟩ := step a ha
    have S1 := S.next s1 b1
    obtain ⟨d2, d3, p2, a1, a2, a3, a4, _, _, _, r2⟩ := mut_own S1 em
    rw [e1] at a1
    cases a1
    rw [es] at a2
    cases a2
    obtain ⟨vs2, hp2, rz2⟩ := r2
    have rw1 := r1.rw S.fr.dom
    rw [ed] at rw1
    obtain ⟨q, ws, rfl, hq, rzw⟩ := rw1.rr.lst
    simp only [extD] at a3
    split at a3
    · rename_i hl
      simp only [Option.some.injEq] at a3
      subst a3 a4
      refine ⟨p, q, vs2, ws, rfl, rfl, hp2, hq, by rw [rz2.length, rzw.length, ← line_eq]; exact hl, k g σ _ (S1.write e1 es hp2 True.intro ?_)⟩
      have kk : Sb g.B H1 (upd H1 p (.lst (vs2 ++ ws))) := .upd hB hp2 True.intro
      exact ⟨_, upd_same, (rz2.keep kk).app (rzw.keep kk)⟩
    · cases a3
  | _ => simp [extD] at e2
/-- t[k] = v, t an own slot's thing -/
theorem asg_sub {mk : Fm → Tr A} {D : Ends} {σ : L2.St} {H : Hp} (h : tS c (fun f => (me f).bind fun a => ((mk f).bind fun x => match x.clean, a.clean with
    | some kd, some d => ofO (f.mut i fun c => stD c kd d)
    | _, _ => .stuck).bind fun f' => .ret (.nx f')) D σ H) : tAsg (tM c me) (gSub (tVar i) (tM c mk) (rW c)) D σ H := by
  obtain ⟨g0, H0, L, gs, g, f, S, h⟩ := h
  refine ⟨g, f, S.fr, (all_bind.mp h).mono fun a ha v H1 s1 b1 r1 => ?_⟩
  have S1 := S.next s1 b1
  have ha := all_bind.mp (all_bind.mp ha)
  have step : ∀ x : A, All (match x.clean, a.clean with
    | some kd, some d => ofO (f.mut i fun c => stD c kd d)
    | _, _ => .stuck) (fun f' => Ed c g0 H0 L gs D (.nx f')) → ∃ kd d f', x.clean = some kd ∧ a.clean = some d ∧ f.mut i (fun c => stD c kd d) = some f' ∧ Ed c g0 H0 L gs D (.nx f') := fun x hx => by
    cases e : x.clean with
    | none => rw [e] at hx; exact hx.elim
    | some kd =>
      cases e2 : a.clean with
      | none => rw [e, e2] at hx; exact hx.elim
      | some d =>
        rw [e, e2] at hx
        obtain ⟨f', e1, k⟩ := all_ofO.mp hx
        exact ⟨kd, d, f', rfl, rfl, e1, k⟩
  obtain ⟨x0, h0⟩ := all_ex ha
  obtain ⟨_, _, _, _, _, e0, _⟩ := step x0 h0
  obtain ⟨_, _, p, e1, es, _, _, hB, n0, n1, _⟩ := mut_own S e0
  refine ⟨.ref p, es, g, f, S1.fr, ha.mono fun x hx y H2 s2 b2 r2 => ?_⟩
  obtain ⟨kd, d, f', ex, ea, em, k⟩ := step x hx
  have S2 := S1.next s2 b2
  obtain ⟨d2, d3, p2, a1, a2, a3, a4, _, _, _, rm⟩ := mut_own S2 em
  rw [es] at a2
  cases a2
  obtain ⟨u, hu, hm⟩ := rm.some
  refine ⟨g, d2, kd, d, d3, p, hB, rfl, rm, r2.clean S1.fr.dom ex, (r1.clean S.fr.dom ea).mono S.fr.bars s2, a3, fun o' H' eH r' => ?_⟩
  subst eH a4
  exact k g σ _ (S2.write a1 es hu hm r')
/-- x, y = a, b -/
theorem par_step {g0 g : Gh} {H0 H H1 : Hp} {L : List (Nat × D × Addr)} {gs : Gs} {f : Fm} {σ : L2.St} {a : A} {v : V} (S : FrS c g0 H0 L gs g f σ H) (h : Sm g H H1) (b : BoxOk g H1) (r : Rn c g H H1 a v) (hc : a.clean ≠ none) :
    (∃ d, a.clean = some d ∧ a.t = .cl ∧ Rz c g.b0 g.B H1 d v) ∨ (a.t = .fr ∧ ∃ p, v = .ref p ∧ H p = none ∧ RootM c g.b0 (g.plus p).B H1 a.d p) := by
  unfold Rn at r
  cases ht : a.t with
  | cl => rw [ht] at r; exact .inl ⟨a.d, by unfold A.clean; rw [ht]; simp, rfl, r⟩
  | fr => rw [ht] at r; exact .inr ⟨rfl, r⟩
  | _ => exact absurd (by unfold A.clean; rw [ht]; simp) hc
end
end Ev
/-! EvD14: while and for. -/
namespace Ev
open PySem PySem.Spec PyProof.Rows L2
open Tr
variable {c : Cs}
section
variable {X : Cx} {pos : Pos} {e tg : Expr} {body : List Stmt} {me : Fm → Tr A} {mb : Fm → Tr Fl}
/-- while -/
theorem s_whl (hp : PassesOwn (model X.prog X.w) X.A X.env X.xe) (hc : PT X e (tB' c (mT me))) (hb : PSs X body (tS c mb)) : PS X (.While e body [] pos) (tS c (whl (fun f => (me f).bind fun x => boolT x.d) mb WF)) := by
  refine PS.imp (ps_while hp hc hb) fun D σ H ⟨g0, H0, L, gs, g, f, S, h⟩ => ?_
  refine ⟨fun m σ H => ∃ g f, FrS c g0 H0 L gs g f σ H ∧ All (whl (fun f => (me f).bind fun x => boolT x.d) mb m f) (Ed c g0 H0 L gs D), ⟨WF, g, f, S, h⟩, ?_⟩
  rintro m σ H ⟨g, f, S, h⟩
  cases m with
  | zero => exact h.elim
  | succ m =>
    refine ⟨g, f, S.fr, ((all_bind (t := mT me f)).mp h).mono fun t ht H1 s1 b1 => ?_⟩
    have S1 := S.next s1 b1
    cases t with
    | false => exact ht g σ H1 S1
    | true =>
      refine ⟨fun σ' H' => ∃ g f, FrS c g0 H0 L gs g f σ' H' ∧ All (whl (fun f => (me f).bind fun x => boolT x.d) mb m f) (Ed c g0 H0 L gs D), fun σ' H' w => ⟨m, Nat.lt_succ_self m, w⟩, g0, H0, L, gs, g, f, S1, (all_bind.mp ht).mono fun r hr => ?_⟩
      cases r with
      | nx f' => exact fun g' σ' H' S' => ⟨g', f', S', hr⟩
      | ct f' => exact fun g' σ' H' S' => ⟨g', f', S', hr⟩
      | bk f' => exact hr
      | rt a => exact hr
/-- for -/
theorem s_forr (hp : PassesOwn (model X.prog X.w) X.A X.env X.xe) (hcalm : X.calm = true) {wk : Bool} {mi : Fm → Tr (List A)} {it : List D → Option (List D)} {t : T} {lock : List Nat} (nd : lock.Nodup) (keep : Option (List Nat)) (hw : wk = true → t.isTup = true)
    (hi : PI X tg e (tI c wk mi it)) (hg : PG X tg (gT c.K t)) (hb : PSs X body (tS c mb)) (hs : ∀ x, foldedSetIterable e X.env x = pure x) :
    PS X (.For tg e body [] pos) (tS c fun f => (ofO (lockAll f lock)).bind fun f1 => (mi f1).bind fun as =>
      if as.all (fun a => decide (a.t ≠ .ow)) then (ofO (it (as.map A.d))).bind fun xs => (forL (bindT t) keep mb xs f1).bind fun r => unlockFl lock r
      else .stuck) := by
  refine PS.imp (ps_for hp hcalm hi hg hb hs) fun D σ H ⟨g0, H0, L, gs, g, f, S, h⟩ => ?_
  obtain ⟨f1, ef, h⟩ := all_ofO.mp (all_bind.mp h)
  obtain ⟨L1, g1, S1, k1, k2⟩ := S.locks lock ef
  refine ⟨g1, f1, S1.fr, (all_bind.mp h).mono fun as has => ?_⟩
  by_cases hn : as.all (fun a => decide (a.t ≠ .ow)) = true
  · rw [if_pos hn] at has
    obtain ⟨ds, e1, hq⟩ := all_ofO.mp (all_bind.mp has)
    refine ⟨ds, e1, fun J vs H1 s1 b1 r1 w => ?_⟩
    have hq : All (forL (bindT t) keep mb ds f1) fun r => All (unlockFl lock r) (Ed c g0 H0 L gs D) := all_bind.mp hq
    obtain ⟨gs', S2, z1, z2, src⟩ := (S1.next s1 b1).walk (r1.rk hn)
    have fin : ∀ {f' : Fm}, All (unlockFl lock (.nx f')) (Ed c g0 H0 L gs D) → ∀ g' σ' H', FrS c g0 H0 L1 gs' g' f' σ' H' → D.nx σ' H' := fun {f'} hu g' σ' H' S' => by
      obtain ⟨f2, eu, k⟩ := all_ofO.mp (all_bind.mp hu)
      obtain ⟨g2, S3⟩ := FrS.unlocks lock nd (S'.forget z1 z2) eu k1 k2
      exact k g2 σ' H' S3
    refine for_it w (fun i σ H => ∃ g f, FrS c g0 H0 L1 gs' g f σ H ∧ All (forL (bindT t) keep mb (ds.drop i) f) fun r => All (unlockFl lock r) (Ed c g0 H0 L gs D)) ⟨g1, f1, S2, hq⟩ (fun i σ H _ ⟨g, f, S', _⟩ => ⟨g, src S'⟩) (fun i x σ H H' hi ⟨g, f, S3, h3⟩ y => ?_) fun σ H ⟨g, f, S3, h3⟩ => ?_
    · obtain ⟨sm, d, ed, yd⟩ := y g S3.fr.bars (src S3)
      have S4 := S3.next (.of_same sm) (S3.fr.box.same sm)
      have ee : ds.drop i = d :: ds.drop (i + 1) := by
        rw [List.getElem?_eq_getElem hi] at ed
        cases ed
        exact List.drop_eq_getElem_cons hi
      rw [ee] at h3
      unfold forL at h3
      cases eb : bindT t d f with
      | none => rw [eb] at h3; exact h3.elim
      | some f2 =>
        rw [eb] at h3
        refine bind_ok c t eb S4.fr yd hw (vs := t.names) (fun _ z => z) fun σ2 F2 _ kp => ⟨g0, H0, L1, gs', g, f2, S4.slots F2 kp, (all_bind.mp h3).mono fun r hr => ?_⟩
        have again : ∀ f', All (forL (bindT t) keep mb (ds.drop (i + 1)) (match keep with | some k => keepOnly f' k | none => f')) (fun r => All (unlockFl lock r) (Ed c g0 H0 L gs D)) → ∀ g' σ' H', FrS c g0 H0 L1 gs' g' f' σ' H' →
            ∃ g f, FrS c g0 H0 L1 gs' g f σ' H' ∧ All (forL (bindT t) keep mb (ds.drop (i + 1)) f) fun r => All (unlockFl lock r) (Ed c g0 H0 L gs D) := fun f' hr g' σ' H' S' => by
          cases keep with
          | none => exact ⟨g', f', S', hr⟩
          | some k => exact ⟨g', _, S'.keepOnly k, hr⟩
        cases r with
        | nx f' => exact again f' hr
        | ct f' => exact again f' hr
        | bk f' => exact fin hr
        | rt a => exact hr
    · rw [List.drop_length] at h3
      exact fin h3 g σ H S3
  · rw [if_neg hn] at has
    exact has.elim
end
end Ev
/-! EvD15: several names at once; pop; op=. -/
namespace Ev
open PySem PySem.Spec PyProof.Rows L2
open Tr
variable {c : Cs}
section
variable {X : Cx} {pos px py pz pt pt2 : Pos} {kt k2 : Nat} {a b d3 : Expr} {ma mb mc : Fm → Tr A} {i j l : Nat} {x y z : Str} {o1 o2 o3 : Bool}
/-- the ends of two stores -/
theorem par_end {g0 : Gh} {H0 H : Hp} {L : List (Nat × D × Addr)} {gs : Gs} {D : Ends} {g : Gh} {f : Fm} {σ : L2.St} {u v : A} {us vs : A} : True := trivial
theorem s_par2 (hc : X.calm = true) (hN : X.N.Nodup) (hi : X.N[i]? = some x) (hj : X.N[j]? = some y) (hij : i ≠ j) (hx : X.env.scope.names.lookup x = some .local) (hy : X.env.scope.names.lookup y = some .local)
    (ha : PE X a (tM c ma)) (hb : PE X b (tM c mb)) (s1 : noStar a = true) (s2 : noStar b = true)
    (hw : swappedStores [.Tuple [.Name x px, .Name y py] kt pt] (.Tuple [a, b] k2 pt2) X.env = pure (some [x, y])) (hs : swapsWithSole [.Tuple [.Name x px, .Name y py] kt pt] (.Tuple [a, b] k2 pt2) pos.line X.env = pure false) :
    PS X (.Assign [.Tuple [.Name x px, .Name y py] kt pt] (.Tuple [a, b] k2 pt2) pos) (tS c fun f => (ma f).bind fun u => (mb f).bind fun v => match cleans [u, v] with
      | some _ => (ofO (parT [(.nm i, o1), (.nm j, o2)] [u, v] f)).bind fun f' => .ret (.nx f')
      | none => .stuck) := by
  have hA : PA X [a, b] _ := pa_cons ha (pa_cons hb pa_nil (noStar_each s2 _ _)) (noStar_each s1 _ _)
  refine PS.imp (ps_par hc hN hi hj hij hx hy hA hw hs) fun D σ H ⟨g0, H0, L, gs, g, f, S, h⟩ => ?_
  have step : ∀ u v : A, All (match cleans [u, v] with
      | some _ => (ofO (parT [(.nm i, o1), (.nm j, o2)] [u, v] f)).bind fun f' => .ret (.nx f')
      | none => .stuck) (Ed c g0 H0 L gs D) → ∃ f1 f2, f.put o1 i u = some f1 ∧ f1.put o2 j v = some f2 ∧ Ed c g0 H0 L gs D (.nx f2) := fun u v hv => by
    cases e : cleans [u, v] with
    | none => rw [e] at hv; exact hv.elim
    | some _ =>
      rw [e] at hv
      obtain ⟨f2, e2, k⟩ := all_ofO.mp (all_bind.mp hv)
      simp only [parT] at e2
      cases e3 : f.put o1 i u with
      | none => rw [e3] at e2; cases e2
      | some f1 =>
        rw [e3] at e2
        simp only at e2
        cases e4 : f1.put o2 j v with
        | none => rw [e4] at e2; cases e2
        | some f3 =>
          rw [e4] at e2
          simp only [Option.some.injEq] at e2
          subst e2
          exact ⟨f1, f3, rfl, e4, k⟩
  refine ⟨g, f, S.fr, (all_bind.mp h).mono fun u hu v H1 s1 b1 r1 => ?_⟩
  have hu := all_bind.mp hu
  obtain ⟨w0, h0⟩ := all_ex hu
  obtain ⟨f1, _, e1, _, _⟩ := step u w0 h0
  obtain ⟨g1, S1, keep⟩ := S.put2 s1 b1 r1 e1
  refine ⟨g1, f, keep f σ S.fr, hu.mono fun w hw v2 H2 s2 b2 r2 => ?_⟩
  obtain ⟨f1', f2, q1, q2, k⟩ := step u w hw
  rw [e1] at q1
  cases q1
  obtain ⟨g2, S2⟩ := S1.put s2 b2 r2 q2
  exact ⟨v, v2, rfl, k g2 _ H2 S2⟩
theorem s_par3 (hc : X.calm = true) (hN : X.N.Nodup) (hi : X.N[i]? = some x) (hj : X.N[j]? = some y) (hl : X.N[l]? = some z) (hij : i ≠ j) (hil : i ≠ l) (hjl : j ≠ l) (hx : X.env.scope.names.lookup x = some .local) (hy : X.env.scope.names.lookup y = some .local) (hz : X.env.scope.names.lookup z = some .local)
    (ha : PE X a (tM c ma)) (hb : PE X b (tM c mb)) (hd : PE X d3 (tM c mc)) (s1 : noStar a = true) (s2 : noStar b = true) (s3 : noStar d3 = true)
    (hw : swappedStores [.Tuple [.Name x px, .Name y py, .Name z pz] kt pt] (.Tuple [a, b, d3] k2 pt2) X.env = pure (some [x, y, z])) (hs : swapsWithSole [.Tuple [.Name x px, .Name y py, .Name z pz] kt pt] (.Tuple [a, b, d3] k2 pt2) pos.line X.env = pure false) :
    PS X (.Assign [.Tuple [.Name x px, .Name y py, .Name z pz] kt pt] (.Tuple [a, b, d3] k2 pt2) pos) (tS c fun f => (ma f).bind fun u => (mb f).bind fun v => (mc f).bind fun w => match cleans [u, v, w] with
      | some _ => (ofO (parT [(.nm i, o1), (.nm j, o2), (.nm l, o3)] [u, v, w] f)).bind fun f' => .ret (.nx f')
      | none => .stuck) := by
  have hA : PA X [a, b, d3] _ := pa_cons ha (pa_cons hb (pa_cons hd pa_nil (noStar_each s3 _ _)) (noStar_each s2 _ _)) (noStar_each s1 _ _)
  refine PS.imp (ps_par3 hc hN hi hj hl hij hil hjl hx hy hz hA hw hs) fun D σ H ⟨g0, H0, L, gs, g, f, S, h⟩ => ?_
  have step : ∀ u v w : A, All (match cleans [u, v, w] with
      | some _ => (ofO (parT [(.nm i, o1), (.nm j, o2), (.nm l, o3)] [u, v, w] f)).bind fun f' => .ret (.nx f')
      | none => .stuck) (Ed c g0 H0 L gs D) → ∃ f1 f2 f3, f.put o1 i u = some f1 ∧ f1.put o2 j v = some f2 ∧ f2.put o3 l w = some f3 ∧ Ed c g0 H0 L gs D (.nx f3) := fun u v w hv => by
    cases e : cleans [u, v, w] with
    | none => rw [e] at hv; exact hv.elim
    | some _ =>
      rw [e] at hv
      obtain ⟨f2, e2, k⟩ := all_ofO.mp (all_bind.mp hv)
      simp only [parT] at e2
      cases e3 : f.put o1 i u with
      | none => rw [e3] at e2; cases e2
      | some f1 =>
        rw [e3] at e2
        simp only at e2
        cases e4 : f1.put o2 j v with
        | none => rw [e4] at e2; cases e2
        | some f3 =>
          rw [e4] at e2
          simp only at e2
          cases e5 : f3.put o3 l w with
          | none => rw [e5] at e2; cases e2
          | some f4 =>
            rw [e5] at e2
            simp only [Option.some.injEq] at e2
            subst e2
            exact ⟨f1, f3, f4, rfl, e4, e5, k⟩
  refine ⟨g, f, S.fr, (all_bind.mp h).mono fun u hu v H1 s1 b1 r1 => ?_⟩
  have hu := all_bind.mp hu
  obtain ⟨w0, h0⟩ := all_ex hu
  obtain ⟨z0, h00⟩ := all_ex (all_bind.mp h0)
  obtain ⟨f1, _, _, e1, _, _, _⟩ := step u w0 z0 h00
  obtain ⟨g1, S1, keep⟩ := S.put2 s1 b1 r1 e1
  refine ⟨g1, f, keep f σ S.fr, hu.mono fun w hw v2 H2 s2 b2 r2 => ?_⟩
  have hw := all_bind.mp hw
  obtain ⟨z1, h1⟩ := all_ex hw
  obtain ⟨f1', f2, _, q1, q2, _, _⟩ := step u w z1 h1
  rw [e1] at q1
  cases q1
  obtain ⟨g2, S2, keep2⟩ := S1.put2 s2 b2 r2 q2
  refine ⟨g2, f, keep2 f σ (keep f σ S.fr), hw.mono fun t ht v3 H3 s3 b3 r3 => ?_⟩
  obtain ⟨f1', f2', f3, q1', q2', q3, k⟩ := step u w t ht
  rw [e1] at q1'
  cases q1'
  rw [q2] at q2'
  cases q2'
  obtain ⟨g3, S3⟩ := S2.put s3 b3 r3 q3
  exact ⟨v, v2, v3, rfl, k g3 _ H3 S3⟩
end
end Ev
/-! EvD15b: two names at once, stored from the left. -/
namespace Ev
open PySem PySem.Spec PyProof.Rows L2
open Tr
variable {c : Cs}
section
variable {X : Cx} {pos px py pt pt2 : Pos} {kt k2 : Nat} {a b : Expr} {ma mb : Fm → Tr A} {i j : Nat} {x y : Str} {o1 o2 : Bool}
theorem s_par2n (hc : X.calm = true) (hN : X.N.Nodup) (hi : X.N[i]? = some x) (hj : X.N[j]? = some y) (hx : Loc X.env.scope x) (hfx : X.fn x = true ∨ X.env.scope.names.lookup x = some .local) (hy : Loc X.env.scope y) (hfy : X.fn y = true ∨ X.env.scope.names.lookup y = some .local)
    (ha : PE X a (tM c ma)) (hb : PE X b (tM c mb)) (s1 : noStar a = true) (s2 : noStar b = true)
    (hw : swappedStores [.Tuple [.Name x px, .Name y py] kt pt] (.Tuple [a, b] k2 pt2) X.env = pure none) :
    PS X (.Assign [.Tuple [.Name x px, .Name y py] kt pt] (.Tuple [a, b] k2 pt2) pos) (tS c fun f => (ma f).bind fun u => (mb f).bind fun v => match cleans [u, v] with
      | some _ => (ofO (parT [(.nm i, o1), (.nm j, o2)] [u, v] f)).bind fun f' => .ret (.nx f')
      | none => .stuck) := by
  have hA : PA X [a, b] _ := pa_cons ha (pa_cons hb pa_nil (noStar_each s2 _ _)) (noStar_each s1 _ _)
  have hT : PE X (.Tuple [a, b] k2 pt2) _ := pe_tup hA
  have hG : PG X (.Tuple [.Name x px, .Name y py] kt pt) (gTup X.K 2 (gCons (gName i) (gCons (gName j) gNil))) := pg_tup hc (pgs_cons (pg_name hN hi hx hfx) (pgs_cons (pg_name hN hj hy hfy) pgs_nil))
  refine PS.imp (ps_asg hT hG rfl hw) fun D σ H ⟨g0, H0, L, gs, g, f, S, h⟩ => ?_
  have step : ∀ u v : A, All (match cleans [u, v] with
      | some _ => (ofO (parT [(.nm i, o1), (.nm j, o2)] [u, v] f)).bind fun f' => .ret (.nx f')
      | none => .stuck) (Ed c g0 H0 L gs D) → ∃ f1 f2, f.put o1 i u = some f1 ∧ f1.put o2 j v = some f2 ∧ Ed c g0 H0 L gs D (.nx f2) := fun u v hv => by
    cases e : cleans [u, v] with
    | none => rw [e] at hv; exact hv.elim
    | some _ =>
      rw [e] at hv
      obtain ⟨f2, e2, k⟩ := all_ofO.mp (all_bind.mp hv)
      simp only [parT] at e2
      cases e3 : f.put o1 i u with
      | none => rw [e3] at e2; cases e2
      | some f1 =>
        rw [e3] at e2
        simp only at e2
        cases e4 : f1.put o2 j v with
        | none => rw [e4] at e2; cases e2
        | some f3 =>
          rw [e4] at e2
          simp only [Option.some.injEq] at e2
          subst e2
          exact ⟨f1, f3, rfl, e4, k⟩
  refine ⟨g, f, S.fr, (all_bind.mp h).mono fun u hu v H1 s1 b1 r1 => ?_⟩
  have hu := all_bind.mp hu
  obtain ⟨w0, h0⟩ := all_ex hu
  obtain ⟨f1, _, e1, _, _⟩ := step u w0 h0
  obtain ⟨g1, S1, keep⟩ := S.put2 s1 b1 r1 e1
  refine ⟨g1, f, keep f σ S.fr, hu.mono fun w hw v2 H2 s2 b2 r2 => ?_⟩
  obtain ⟨f1', f2, q1, q2, k⟩ := step u w hw
  rw [e1] at q1
  cases q1
  obtain ⟨g2, S2⟩ := S1.put s2 b2 r2 q2
  refine ⟨by show 2 ≤ sizeLine; decide, fun p hp => ⟨p, [v, v2], rfl, .inl (.inl upd_same), rfl, v, [v2], rfl, v2, [], rfl, rfl, ?_⟩⟩
  exact k g2 _ _ (S2.next (.of_same (same_new hp)) (S2.fr.box.same (same_new hp)))
end
end Ev
/-! EvD16: targets of statements, for plain values. -/
namespace Ev
open PySem PySem.Spec PyProof.Rows L2
open Tr
variable {c : Cs}
/-- a target takes a plain value -/
def tG (c : Cs) (m : D → Fm → Tr Fm) : TG := fun v σ H Q => ∃ g0 H0 L gs g f d, FrS c g0 H0 L gs g f σ H ∧ Rz c g.b0 g.B H d v ∧ All (m d f) fun f' => ∀ g' σ' H', FrS c g0 H0 L gs g' f' σ' H' → Q σ' H'
def tGs (c : Cs) (m : List D → Fm → Tr Fm) : TGs := fun vs σ H Q => ∃ g0 H0 L gs g f ds, FrS c g0 H0 L gs g f σ H ∧ Rzs c g.b0 g.B H ds vs ∧ All (m ds f) fun f' => ∀ g' σ' H', FrS c g0 H0 L gs g' f' σ' H' → Q σ' H'
def notStar : Expr → Bool
  | .Starred _ _ => false
  | _ => true
section
variable {X : Cx} {pos p2 : Pos} {i : Nat} {x : Str} {ts : List Expr} {t k : Expr} {m : D → Fm → Tr Fm} {ms : List D → Fm → Tr Fm} {mk : Fm → Tr A}
theorem PG.imp {e : Expr} {t t' : TG} (h : PG X e t) (i : ∀ v σ H Q, t' v σ H Q → t v σ H Q) : PG X e t' := ⟨fun pins s σ H v u Q I r q => h.run pins s σ H v u Q I r (i v σ H Q q)⟩
theorem PGs.imp {e : List Expr} {t t' : TGs} (h : PGs X e t) (i : ∀ v σ H Q, t' v σ H Q → t v σ H Q) : PGs X e t' := ⟨fun pins s σ H v u Q I r q => h.run pins s σ H v u Q I r (i v σ H Q q)⟩
theorem g_nm (hN : X.N.Nodup) (hi : X.N[i]? = some x) (hx : Loc X.env.scope x) (hf : X.fn x = true ∨ X.env.scope.names.lookup x = some .local) : PG X (.Name x pos) (tG c fun d f => ofO (f.put false i (cl d))) := by
  refine PG.imp (pg_name hN hi hx hf) fun v σ H Q ⟨g0, H0, L, gs, g, f, d, S, r, h⟩ => ?_
  obtain ⟨f', e, k⟩ := all_ofO.mp h
  obtain ⟨g', S'⟩ := S.put (.refl _ _) S.fr.box (rn_cl r) e
  exact k g' _ H S'
theorem FrS.addz {g0 g : Gh} {H0 H : Hp} {L : List (Nat × D × Addr)} {gs : Gs} {f : Fm} {σ : L2.St} {ds : List D} {vs : List V} (S : FrS c g0 H0 L gs g f σ H) (r : Rzs c g.b0 g.B H ds vs) : FrS c g0 H0 L ⟨ds.zip vs ++ gs.z, gs.r⟩ g f σ H :=
  { S with gz := fun x hx => (List.mem_append.mp hx).elim (zip_rz r x) (S.gz x) }
where
  zip_rz {b0 : Addr} {B : Addr → Prop} {H : Hp} : ∀ {ds : List D} {vs : List V}, Rzs c b0 B H ds vs → ∀ x ∈ ds.zip vs, Rz c b0 B H x.1 x.2
    | [], _, _, x, hx => by simp at hx
    | d :: ds, _, r, x, hx => by
      rw [Rzs] at r
      obtain ⟨v, q, rfl, r1, r2⟩ := r
      rw [List.zip_cons_cons] at hx
      rcases List.mem_cons.mp hx with rfl | hx
      · exact r1
      · exact zip_rz r2 x hx
theorem rzs_of {b0 : Addr} {B : Addr → Prop} {H : Hp} : ∀ {ds : List D} {vs : List V}, vs.length = ds.length → (∀ x ∈ ds.zip vs, Rz c b0 B H x.1 x.2) → Rzs c b0 B H ds vs
  | [], [], _, _ => .nil
  | d :: ds, v :: vs, hl, h => .cons (h (d, v) List.mem_cons_self) (rzs_of (by simpa using hl) fun x hx => h x (List.mem_cons_of_mem _ hx))
  | [], v :: vs, hl, _ => by simp at hl
  | d :: ds, [], hl, _ => by simp at hl
theorem g_nil : PGs X [] (tGs c fun ds f => match ds with
    | [] => .ret f
    | _ => .stuck) := by
  refine PGs.imp pgs_nil fun vs σ H Q ⟨g0, H0, L, gs, g, f, ds, S, r, h⟩ => ?_
  cases ds with
  | nil => rw [Rzs] at r; exact ⟨r, h g σ H S⟩
  | cons _ _ => exact h.elim
theorem g_cons (hs : (assignEach (t :: ts) X.env).map (·.2) = assign t X.env :: (assignEach ts X.env).map (·.2)) (h1 : PG X t (tG c m)) (h2 : PGs X ts (tGs c ms)) : PGs X (t :: ts) (tGs c fun ds f => match ds with
    | d :: ds => (m d f).bind fun f' => ms ds f'
    | [] => .stuck) := by
  refine PGs.imp (pgs_cons h1 h2 hs) fun vs σ H Q ⟨g0, H0, L, gs, g, f, ds, S, r, h⟩ => ?_
  cases ds with
  | nil => exact h.elim
  | cons d ds =>
    have hl := r.length
    rw [Rzs] at r
    obtain ⟨v, q, rfl, r1, r2⟩ := r
    refine ⟨v, q, rfl, g0, H0, L, _, g, f, d, S.addz r2, r1, (all_bind.mp h).mono fun f' hf' g' σ' H' S' => ?_⟩
    refine ⟨g0, H0, L, gs, g', f', ds, S'.forget (fun x hx => List.mem_append_right _ hx) (fun x hx => hx), rzs_of r2.length fun x hx => S'.gz x (List.mem_append_left _ hx), hf'⟩
theorem g_tup {kk : Nat} (F : Fit X c) (n : Nat) (h : PGs X ts (tGs c ms)) (hn : (assignEach ts X.env).length = n) (hst : (assignEach ts X.env).findIdx? (·.1) = none) : PG X (.Tuple ts kk pos) (tG c fun d f => match d with
    | .tup ds => if ds.length = n then ms ds f else .stuck
    | _ => .stuck) := by
  refine PG.imp (pg_tup F.calm h hn hst) fun v σ H Q ⟨g0, H0, L, gs, g, f, d, S, r, h⟩ => ?_
  cases d with
  | tup ds =>
    have h : All (if ds.length = n then ms ds f else .stuck) fun f' => ∀ g' σ' H', FrS c g0 H0 L gs g' f' σ' H' → Q σ' H' := h
    rw [Rz] at r
    obtain ⟨a, vs, e, p, rs⟩ := r
    split at h
    · rename_i hl
      exact ⟨a, vs, e, p.at F.K, by rw [rs.length]; exact hl, g0, H0, L, gs, g, f, ds, S, rs, h⟩
    · exact h.elim
  | _ => exact h.elim
theorem g_sub {o : Expr} (F : Fit X c) (hns : noSlice k = true) (ho : PE X o (tVar i)) (hk : PE X k (tM c mk)) : PG X (.Subscript o k p2) (tG c fun d f => (mk f).bind fun x => match x.clean with
    | some kd => ofO (f.mut i fun c => stD c kd d)
    | none => .stuck) := by
  refine PG.imp (pg_sub ho hk (set_all F) (by cases k <;> first | (intro v; rfl) | cases hns)) fun v σ H Q ⟨g0, H0, L, gs, g, f, d, S, r, h⟩ => ?_
  have h := all_bind.mp h
  have step : ∀ x : A, All (match x.clean with
    | some kd => ofO (f.mut i fun c => stD c kd d)
    | none => .stuck) (fun f' => ∀ g' σ' H', FrS c g0 H0 L gs g' f' σ' H' → Q σ' H') → ∃ kd f', x.clean = some kd ∧ f.mut i (fun c => stD c kd d) = some f' ∧ ∀ g' σ' H', FrS c g0 H0 L gs g' f' σ' H' → Q σ' H' := fun x hx => by
    cases e : x.clean with
    | none => rw [e] at hx; exact hx.elim
    | some kd =>
      rw [e] at hx
      obtain ⟨f', e1, k⟩ := all_ofO.mp hx
      exact ⟨kd, f', rfl, e1, k⟩
  obtain ⟨x0, h0⟩ := all_ex h
  obtain ⟨_, _, _, e0, _⟩ := step x0 h0
  obtain ⟨_, _, p, e1, es, _, _, hB, n0, n1, _⟩ := mut_own S e0
  refine ⟨.ref p, es, g, f, S.fr, h.mono fun x hx y H2 s2 b2 r2 => ?_⟩
  obtain ⟨kd, f', ex, em, k⟩ := step x hx
  have S2 := S.next s2 b2
  obtain ⟨d2, d3, p2, a1, a2, a3, a4, _, _, _, rm⟩ := mut_own S2 em
  rw [es] at a2
  cases a2
  obtain ⟨u, hu, hm⟩ := rm.some
  refine ⟨g, d2, kd, d, d3, p, hB, rfl, rm, r2.clean S.fr.dom ex, r.mono S.fr.bars s2, a3, fun o' H' eH r' => ?_⟩
  subst eH a4
  exact k g σ _ (S2.write a1 es hu hm r')
variable {me : Fm → Tr A}
theorem asg_cl {D : Ends} {σ : L2.St} {H : Hp} (h : tS c (fun f => (me f).bind fun a => (match a.clean with
    | some d => m d f
    | none => .stuck).bind fun f' => .ret (.nx f')) D σ H) : tAsg (tM c me) (tG c m) D σ H := by
  obtain ⟨g0, H0, L, gs, g, f, S, h⟩ := h
  refine ⟨g, f, S.fr, (all_bind.mp h).mono fun x hx v H1 s1 b1 r1 => ?_⟩
  have hx := all_bind.mp hx
  cases e : x.clean with
  | none => rw [e] at hx; exact hx.elim
  | some d =>
    rw [e] at hx
    exact ⟨g0, H0, L, gs, g, f, d, S.next s1 b1, r1.clean S.fr.dom e, hx⟩
end
end Ev
/-! EvD17: pop, op=. -/
namespace Ev
open PySem PySem.Spec PyProof.Rows L2
open Tr
variable {c : Cs}
section
variable {X : Cx} {pos cpos apos p1 : Pos} {tg e : Expr} {i : Nat} {x : Str} {m : D → Fm → Tr Fm} {me : Fm → Tr A}
theorem s_pop (F : Fit X c) (hN : X.N[i]? = some x) (hv : Vis X.env.scope x) (hd : (x == ("__debug__" : Str)) = false) (hcd : (x == ("__classdict__" : Str)) = false) (hline : (apos.endLine == cpos.line) = true) (hg : PG X tg (tG c m))
    (hs : swapsWithSole [tg] (.Call (.Attribute (.Name x p1) "pop" apos) [] [] cpos) pos.line X.env = pure false) (hw : swappedStores [tg] (.Call (.Attribute (.Name x p1) "pop" apos) [] [] cpos) X.env = pure none) (h1 : (assignEach [tg] X.env).map (·.2) = [assign tg X.env]) :
    PS X (.Assign [tg] (.Call (.Attribute (.Name x p1) "pop" apos) [] [] cpos) pos) (tS c fun f => match f.get i with
      | some ⟨.lst xs, .ow⟩ => match xs.getLast? with
        | some d => (m d (f.set i (some ⟨.lst xs.dropLast, .ow⟩))).bind fun f' => .ret (.nx f')
        | none => .stuck
      | _ => .stuck) := by
  refine PS.imp (ps_asg (pe_bm0 PySem.F.plainAttrs_list PySem.F.slot_list_pop PySem.F.type_list_pop mt_pop (pe_var hN hv hd hcd) (base_of rfl _ _ _) hline) hg hs hw h1) fun D σ H ⟨g0, H0, L, gs, g, f, S, h⟩ => ?_
  dsimp only at h
  split at h
  · rename_i xs e0
    have e := get_some e0
    split at h
    · rename_i d el
      obtain ⟨v, es, p, rfl, hB, hM, n0, n1, vs, hp, rz⟩ := S.fr.slot i _ e
      have el' : xs[xs.length - 1]? = some d := by rw [← List.getLast?_eq_getElem?]; exact el
      obtain ⟨y, ey, ry⟩ := rz.get el'
      have hl := rz.length
      have kk : Sb g.B H (upd H p (.lst vs.dropLast)) := .upd hB hp True.intro
      refine ⟨.ref p, es, .inl ⟨rfl, vs, SqL.of hp⟩, p, vs, y, rfl, rfl, hp, by rw [hl]; exact ey, g0, H0, L, gs, g, _, d, S.write (d' := .lst xs.dropLast) e es hp True.intro ⟨vs.dropLast, upd_same, ?_⟩, ry.keep kk, all_bind.mp h⟩
      rw [List.dropLast_eq_take, List.dropLast_eq_take, hl]
      exact (rz.take _).keep (by rw [List.dropLast_eq_take, hl] at kk; exact kk)
    · exact h.elim
  · exact h.elim
theorem iop_aug (o : BOp) (ho : augOk o = true) : OpR X (inplaceOp (opOf o)) (rB c (augD o)) := by
  intro pins s σ H x y v u Q I rx ry ⟨g, dx, dy, a, hb, hx, hy, e, q⟩
  cases o with
  | add =>
    cases dx with
    | int i =>
      cases dy with
      | int j =>
        simp only [augD, Option.some.injEq] at e
        subst e
        cases hx.int; cases hy.int
        exact iop_add pins s σ H _ _ v u Q I rx ry ⟨i, j, rfl, rfl, q _ _ (Same.refl H) rn_int⟩
      | _ => simp [augD] at e
    | str i =>
      cases dy with
      | str j =>
        simp only [augD] at e
        split at e
        · rename_i hl
          simp only [Option.some.injEq] at e
          subst e
          cases hx.str; cases hy.str
          exact iop_add_str pins s σ H _ _ v u Q I rx ry ⟨_, _, rfl, rfl, by rw [toStr_len, toStr_len, ← line_eq]; exact hl, by rw [toStr_app]; exact q _ _ (Same.refl H) rn_str⟩
        · simp at e
      | _ => simp [augD] at e
    | _ => simp [augD] at e
  | sub =>
    cases dx with
    | int i =>
      cases dy with
      | int j =>
        simp only [augD, Option.some.injEq] at e
        subst e
        cases hx.int; cases hy.int
        exact iop_sub pins s σ H _ _ v u Q I rx ry ⟨i, j, rfl, rfl, q _ _ (Same.refl H) rn_int⟩
      | _ => simp [augD] at e
    | _ => simp [augD] at e
  | _ => simp [augOk] at ho
theorem s_aug (o : BOp) (ho : augOk o = true) (hN : X.N.Nodup) (hi : X.N[i]? = some x) (hx : Loc X.env.scope x) (hf : X.fn x = true ∨ X.env.scope.names.lookup x = some .local) (he : PE X e (tM c me)) :
    PS X (.AugAssign (.Name x p1) (opOf o) e pos) (tS c fun f => match f.get i with
      | some s => (me f).bind fun y => (ofO (augD o s.d y.d)).bind fun a => (ofO (f.put false i a)).bind fun f' => .ret (.nx f')
      | none => .stuck) := by
  refine PS.imp (ps_aug hN hi hx he (iop_aug (c := c) o ho) hf) fun D σ H ⟨g0, H0, L, gs, g, f, S, h⟩ => ?_
  dsimp only at h
  split at h
  · rename_i s e0
    have e := get_some e0
    obtain ⟨v, es, sl⟩ := S.fr.slot i s e
    refine ⟨v, es, g, f, S.fr, (all_bind.mp h).mono fun y hy w H1 s1 b1 r1 => ?_⟩
    obtain ⟨a, e2, k2⟩ := all_ofO.mp (all_bind.mp hy)
    obtain ⟨f', e3, k3⟩ := all_ofO.mp (all_bind.mp k2)
    have S1 := S.next s1 b1
    obtain ⟨v', es', sl'⟩ := S1.fr.slot i s e
    rw [es] at es'
    cases es'
    have rr : Rr c g.b0 g.B H1 s.d v := by
      unfold SlOk at sl'
      cases hk : s.k with
      | cl => rw [hk] at sl'; exact .inl sl'
      | br => rw [hk] at sl'; exact (Rb.rw sl').rr
      | ow => rw [hk] at sl'; exact (Ro.rw sl').rr
      | lk => rw [hk] at sl'; exact (Rl.rw sl').rr
    refine ⟨g, s.d, y.d, a, S.fr.bars, rr, (r1.rw S.fr.dom).rr, e2, fun z H2 sm rn => ?_⟩
    have b2 := b1.same sm
    obtain ⟨g', S'⟩ := S1.put (.of_same sm) b2 rn e3
    exact k3 g' _ H2 S'
  · exact h.elim
end
end Ev
/-! EvD18: dict displays. -/
namespace Ev
open PySem PySem.Spec PyProof.Rows L2
open Tr
variable {c : Cs}
/-- pairs, each clean -/
def mPs : List ((Fm → Tr A) × (Fm → Tr A)) → Fm → Tr (List (D × D))
  | [], _ => .ret []
  | p :: r, f => (p.1 f).bind fun k => (p.2 f).bind fun v => match k.clean, v.clean with
    | some k, some v => (mPs r f).bind fun ps => .ret ((k, v) :: ps)
    | _, _ => .stuck
def trsOf (c : Cs) (ms : List ((Fm → Tr A) × (Fm → Tr A))) : List (TE × TE) := ms.map fun p => (tM c p.1, tM c p.2)
theorem t_pairs {g : Gh} {f : Fm} {σ : L2.St} : ∀ (ms : List ((Fm → Tr A) × (Fm → Tr A))) {H : Hp} {Q : List (V × V) → Hp → Prop}, FrOk c g f σ H →
    All (mPs ms f) (fun ps => ∀ rows H', Sm g H H' → BoxOk g H' → Rzd c g.b0 g.B H' ps rows → Q rows H') → tPairs (trsOf c ms) σ H Q
  | [], H, Q, F, h => h [] H (.refl _ _) F.box (by rw [Rzd])
  | p :: r, H, Q, F, h => by
    refine ⟨g, f, F, (all_bind.mp h).mono fun k hk x H1 s1 b1 r1 => ?_⟩
    have F1 := F.sm s1 b1
    refine ⟨g, f, F1, (all_bind.mp hk).mono fun v hv y H2 s2 b2 r2 => ?_⟩
    have F2 := F1.sm s2 b2
    cases ek : k.clean with
    | none => rw [ek] at hv; exact hv.elim
    | some kd =>
      cases ev : v.clean with
      | none => rw [ek, ev] at hv; exact hv.elim
      | some vd =>
        rw [ek, ev] at hv
        have hv := all_bind.mp hv
        refine t_pairs r F2 (hv.mono fun ps hps rows H3 s3 b3 rz => hps ((x, y) :: rows) H3 ((s1.trans s2).trans s3) b3 ?_)
        rw [Rzd]
        exact ⟨x, y, rows, rfl, ((r1.clean F.dom ek).mono F.bars s2).mono F.bars s3, (r2.clean F1.dom ev).mono F.bars s3, rz⟩
def NoSys (H : Hp) : Prop := ∀ p kk, H p = some (.dK kk) → (p == sysModules) = false
theorem PE.noSys {X : Cx} {e : Expr} {t : TE} (h : PE X e t) : PE X e (fun σ H Q => t σ H fun v H' => NoSys H' → Q v H') :=
  ⟨fun pins s σ H Q I q => thn (h.run pins s σ H _ I q) fun u s1 ⟨v, H1, I1, r, k⟩ => ⟨v, H1, I1, r, k fun p kk e => (I1.hok p _ e).2.1⟩⟩
section
variable {X : Cx} {pos : Pos}
/-- {} -/
theorem e_dct0 : PE X (.Dict [] [] pos) (tM c fun _ => .ret (fr (.dct []))) := by
  refine PE.imp (PE.noSys pe_dnewK) fun σ H Q ⟨g, f, F, h⟩ p hp ns => ?_
  exact h (.ref p) _ (.new hp) (F.box.same (same_new hp)) ⟨p, rfl, hp, [], ns p [] upd_same, Nat.zero_le _, .inl ⟨[], upd_same, rfl, fun _ z => nomatch z⟩, by rw [Rzd]⟩
theorem leaf_kv {b0 : Addr} {B : Addr → Prop} {H : Hp} {k : D} {x : V} (hk : k.leaf = true) (r : Rz c b0 B H k x) : x = kV (toK k) := by
  cases k with
  | int i => rw [Rz] at r; exact r
  | str z => rw [Rz] at r; exact r
  | _ => simp [D.leaf] at hk
/-- rows of leaf keys, merged -/
theorem rows_leaf {b0 : Addr} {B : Addr → Prop} {H : Hp} : ∀ {ps : List (D × D)} {rows : List (V × V)} {kvs : List (D × D)} {kk : List (Key × V)}, Rzd c b0 B H ps rows → (∀ p ∈ ps, p.1.leaf = true) → Rzd c b0 B H kvs (kk.map (fun p => (kV p.1, p.2))) → (∀ p ∈ kvs, p.1.leaf = true) → (kk.map (·.1)).Nodup →
    ∃ more : List (Key × V), rows = more.map (fun p => (kV p.1, p.2)) ∧ more.length = ps.length ∧ Rzd c b0 B H (ps.foldl (fun acc p => putD p.1 p.2 acc) kvs) ((mergeK kk more).map (fun p => (kV p.1, p.2))) ∧ (∀ p ∈ ps.foldl (fun acc p => putD p.1 p.2 acc) kvs, p.1.leaf = true)
  | [], _, kvs, kk, h, _, r, hl, _ => by rw [Rzd] at h; subst h; exact ⟨[], rfl, rfl, r, hl⟩
  | p :: ps, _, kvs, kk, h, hk, r, hl, nd => by
    rw [Rzd] at h
    obtain ⟨k, v, q, rfl, r1, r2, r3⟩ := h
    have hk1 := hk p List.mem_cons_self
    obtain ⟨i1, i2⟩ := put_leaf hk1 r1 r2 r hl
    obtain ⟨more, m1, m2, m3, m4⟩ := rows_leaf r3 (fun z hz => hk z (List.mem_cons_of_mem _ hz)) i1 i2 (stK_nodup _ _ nd).1
    refine ⟨(toK p.1, v) :: more, by rw [m1, leaf_kv hk1 r1]; rfl, by rw [List.length_cons, List.length_cons, m2], ?_, m4⟩
    have e : mergeK kk ((toK p.1, v) :: more) = mergeK (stK (toK p.1) v kk) more := by
      show mergeK (putK kk (toK p.1) v) more = _
      rw [stK_putK nd]
    rw [e]
    exact m3
/-- {k: v, ..} -/
theorem e_dct {keys : List (Option Expr)} {values : List Expr} {ms : List ((Fm → Tr A) × (Fm → Tr A))} (h : PPs X pos keys values (trsOf c ms)) (hall : keys.all (·.isSome) = true) (hl : keys.length = values.length) (h0 : keys ≠ []) (h15 : keys.length ≤ 15) :
    PE X (.Dict keys values pos) (tM c fun f => (mPs ms f).bind fun ps => if (ps.all fun p => p.1.leaf) && decide (ps.length ≤ 15) then .ret (fr (.dct (ps.foldl (fun acc p => putD p.1 p.2 acc) []))) else .stuck) := by
  refine PE.imp (PE.noSys (pe_disp h hall hl h0 h15)) fun σ H Q ⟨g, f, F, hq⟩ p hp => ?_
  refine t_pairs ms (F.acc hp) ((all_bind.mp hq).mono fun ps hps rows H2 s2 b2 rz => ?_)
  have n0 : p ≠ g.b0 := fun z => F.box.some.1 (z ▸ hp)
  have n1 : p ≠ g.c0 := fun z => F.box.some.2 (z ▸ hp)
  have e2 : H2 p = some (.dK []) := s2.own ⟨n0, n1⟩ (.inr rfl) upd_same
  split at hps
  · rename_i hc
    simp only [Bool.and_eq_true, List.all_eq_true, decide_eq_true_eq] at hc
    obtain ⟨more, m1, m2, m3, m4⟩ := rows_leaf (kvs := []) (kk := []) rz hc.1 (by rw [List.map_nil, Rzd]) (fun _ z => nomatch z) List.nodup_nil
    refine ⟨e2, more, m1, by rw [m2]; exact hc.2, fun ns => ?_⟩
    have kk : Sb (g.acc p).B H2 (upd H2 p (.dK (mergeK [] more))) := .upd (.inr rfl) e2 True.intro
    have s3 : Sm g H (upd H2 p (.dK (mergeK [] more))) := by
      have := s2.up (D := p) (o := .dK (mergeK [] more))
      rw [upd_upd] at this
      exact (Sm.new hp).trans this.ofAcc
    refine hps (.ref p) _ s3 (b2.write n0 n1) ⟨p, rfl, hp, _, ns p _ upd_same, ?_, .inl ⟨_, upd_same, rfl, m4⟩, m3.keep kk⟩
    have := foldl_len ps []
    simp only [List.length_nil] at this
    have := hc.2
    have : (15 : Nat) ≤ sizeLine := by decide
    show (ps.foldl (fun acc p => putD p.1 p.2 acc) []).length ≤ sizeLine
    omega
  · exact hps.elim
end
end Ev
/-! EvS1: sets of nested keys: questions asked of a key. -/
namespace Ev
open PySem PySem.Spec PyProof.Rows L2
variable {P : Program} {w : World}
/-- the tuple at x is the key k -/
abbrev Nk (P : Program) (w : World) (h : Heap) (k : NestedKey) (x : Addr) : Prop := (nestedKind P w).is h k x
section
variable {A : Around} {E : Value → Shared → Prop} {s : Shared}
/-- a tuple whose items hold no class statement -/
theorem noStmt_tup {b : Addr} {ob : Obj} {its : Array Value} {m n : Nat} {Q : Bool → Shared → Prop} (h1 : s.heap.get? b = some ob) (h2 : ob.cls = .type "tuple") (h3 : ob.data = .seq its m) (hi : ∀ v ∈ its.toList, ∀ R : Bool → Shared → Prop, R false s → wpAny (model P w) A (ofAClassStatement n v) R E s) (q : Q false s) :
    wpAny (model P w) A (ofAClassStatement (n + 1) (.ref b)) Q E s := by
  unfold ofAClassStatement
  refine wpAny_bind (wpAny_typeOf (⟨ob, h1, h2⟩ : s.TypeIs (.ref b) "tuple") ?_)
  dsimp only
  have et : (("tuple" : String) == "tuple") = true := rfl
  simp only [et, if_true, Bool.not_true, Bool.false_eq_true, if_false, pure_bind]
  refine wpAny_bind (wpAny_seqItems h1 h3 ?_)
  dsimp only
  refine wpAny_bind (?_ : wpAny _ _ (forIn its _ _) _ _ s)
  rw [← Array.forIn_toList]
  refine wpAny_forIn_list _ (fun left acc s' => acc.1 = none ∧ s' = s ∧ ∀ v ∈ left, v ∈ its.toList) _ (fun v left acc s' ⟨c1, c2, c3⟩ => ?_) (fun acc s' ⟨c1, c2, _⟩ => ?_) _ _ ⟨rfl, rfl, fun v hv => hv⟩
  · subst c2
    refine wpAny_bind (hi v (c3 v List.mem_cons_self) _ ?_)
    simp only [Bool.false_eq_true, if_false]
    exact wpAny_pure ⟨rfl, rfl, fun u hu => c3 u (List.mem_cons_of_mem _ hu)⟩
  · obtain ⟨a1, a2⟩ := acc
    simp only at c1
    subst c1 c2
    exact wpAny_pure q
/-- a tuple's hash: by value or not -/
theorem someHash_tup {b : Addr} {ob : Obj} {its : Array Value} {m n : Nat} {Q : Bool → Shared → Prop} (h1 : s.heap.get? b = some ob) (h2 : ob.cls = .type "tuple") (h3 : ob.data = .seq its m) (hi : ∀ v ∈ its.toList, ∀ R : Bool → Shared → Prop, (∀ c, R c s) → wpAny (model P w) A (hashByValue n v) R E s) (q : ∀ c, Q c s) :
    wpAny (model P w) A (hashByValue (n + 1) (.ref b)) Q E s := by
  unfold hashByValue
  refine wpAny_bind (wpAny_specialOf (⟨ob, h1, h2⟩ : s.TypeIs (.ref b) "tuple") PySem.F.slot_tuple_hash.lookup ?_)
  dsimp only
  refine wpAny_bind (wpAny_seqItems h1 h3 ?_)
  dsimp only [Option.getD_some]
  refine wpAny_bind (?_ : wpAny _ _ (forIn its _ _) _ _ s)
  rw [← Array.forIn_toList]
  refine wpAny_forIn_list _ (fun left _ s' => s' = s ∧ ∀ v ∈ left, v ∈ its.toList) _ (fun v left acc s' ⟨c2, c3⟩ => ?_) (fun acc s' ⟨c2, _⟩ => ?_) _ _ ⟨rfl, fun v hv => hv⟩
  · subst c2
    refine wpAny_bind (hi v (c3 v List.mem_cons_self) _ fun c => ?_)
    cases c with
    | true =>
      simp only [Bool.not_true, Bool.false_eq_true, if_false]
      exact wpAny_pure ⟨rfl, fun u hu => c3 u (List.mem_cons_of_mem _ hu)⟩
    | false =>
      simp only [Bool.not_false, if_true]
      refine wpAny_pure ?_
      first
        | exact ⟨rfl, fun u hu => c3 u (List.mem_cons_of_mem _ hu)⟩
        | exact ⟨rfl, by intro u hu; cases hu⟩
        | (show wpAny _ _ _ _ _ _; exact wpAny_pure (q _))
  · obtain ⟨a1, a2⟩ := acc
    subst c2
    cases a1 with
    | none => exact wpAny_pure (q _)
    | some c => exact wpAny_pure (q _)
mutual
theorem noStmt_key : ∀ (k : NestedKey) (v : Value) (n : Nat), NestedIs s.heap k v → k.depth ≤ n → ∀ R : Bool → Shared → Prop, R false s → wpAny (model P w) A (ofAClassStatement n v) R E s
  | .none, _, n, x, _, R, q => by cases x; cases n <;> exact wpAny_pure q
  | .num i, _, n, x, _, R, q => by cases x <;> cases n <;> exact wpAny_pure q
  | .text y, _, n, x, _, R, q => by cases x; cases n <;> exact wpAny_pure q
  | .tup ks, _, n, x, hd, R, q => by
    cases x with
    | tup a1 a2 a3 a4 =>
      simp only [NestedKey.depth] at hd
      cases n with
      | zero => omega
      | succ n => exact noStmt_tup a1 a2 a3 (noStmt_keys ks _ n a4 (by omega)) q
theorem noStmt_keys : ∀ (ks : List NestedKey) (vs : List Value) (n : Nat), NestedAll s.heap ks vs → NestedKey.depthAll ks ≤ n → ∀ v ∈ vs, ∀ R : Bool → Shared → Prop, R false s → wpAny (model P w) A (ofAClassStatement n v) R E s
  | [], _, n, x, _, v, hv, R, q => by cases x; cases hv
  | k :: ks, _, n, x, hd, v, hv, R, q => by
    cases x with
    | cons a1 a2 =>
      simp only [NestedKey.depthAll] at hd
      rw [List.mem_cons] at hv
      exact hv.elim (fun e => e ▸ noStmt_key k _ n a1 (by omega) R q) fun hv => noStmt_keys ks _ n a2 (by omega) v hv R q
end
mutual
theorem someHash_key : ∀ (k : NestedKey) (v : Value) (n : Nat), NestedIs s.heap k v → k.depth ≤ n → ∀ R : Bool → Shared → Prop, (∀ c, R c s) → wpAny (model P w) A (hashByValue n v) R E s
  | .none, _, n, x, _, R, q => by cases x; cases n <;> exact wpAny_pure (q _)
  | .num i, _, n, x, _, R, q => by cases x <;> cases n <;> exact wpAny_pure (q _)
  | .text y, _, n, x, _, R, q => by cases x; cases n <;> exact wpAny_pure (q _)
  | .tup ks, _, n, x, hd, R, q => by
    cases x with
    | tup a1 a2 a3 a4 =>
      simp only [NestedKey.depth] at hd
      cases n with
      | zero => omega
      | succ n => exact someHash_tup a1 a2 a3 (someHash_keys ks _ n a4 (by omega)) q
theorem someHash_keys : ∀ (ks : List NestedKey) (vs : List Value) (n : Nat), NestedAll s.heap ks vs → NestedKey.depthAll ks ≤ n → ∀ v ∈ vs, ∀ R : Bool → Shared → Prop, (∀ c, R c s) → wpAny (model P w) A (hashByValue n v) R E s
  | [], _, n, x, _, v, hv, R, q => by cases x; cases hv
  | k :: ks, _, n, x, hd, v, hv, R, q => by
    cases x with
    | cons a1 a2 =>
      simp only [NestedKey.depthAll] at hd
      rw [List.mem_cons] at hv
      exact hv.elim (fun e => e ▸ someHash_key k _ n a1 (by omega) R q) fun hv => someHash_keys ks _ n a2 (by omega) v hv R q
end
theorem Nk.quiet {k : NestedKey} {x : Addr} {Q : Bool → Shared → Prop} (h : Nk P w s.heap k x) (q : Q true s) : wpAny (model P w) A (eqIsQuiet 8 (.ref x)) Q E s := (nestedKind P w).quiet h q
theorem Nk.stmt {k : NestedKey} {x : Addr} {Q : Bool → Shared → Prop} (h : Nk P w s.heap k x) (q : Q false s) : wpAny (model P w) A (ofAClassStatement 8 (.ref x)) Q E s := noStmt_key k _ 8 h.1 h.2 Q q
theorem Nk.byv {k : NestedKey} {x : Addr} {Q : Bool → Shared → Prop} (h : Nk P w s.heap k x) (q : ∀ c, Q c s) : wpAny (model P w) A (hashByValue 8 (.ref x)) Q E s := someHash_key k _ 8 h.1 h.2 Q q
/-- nobody sees a search among keys -/
theorem unseen {k : NestedKey} {x : Addr} {ys : List Value} {Q : Bool → Shared → Prop} (h : Nk P w s.heap k x) (hy : ∀ y ∈ ys, ∃ k' y', y = Value.ref y' ∧ Nk P w s.heap k' y') (q : Q false s) : wpAny (model P w) A (searchCouldBeSeen (.ref x) ys) Q E s := by
  unfold searchCouldBeSeen
  refine wpAny_bind (wpAny_forIn_list _ (fun left acc s' => acc.1 = none ∧ s' = s ∧ ∀ y ∈ left, y ∈ ys) _ (fun v left acc s' ⟨c1, c2, c3⟩ => ?_) (fun acc s' ⟨c1, c2, _⟩ => ?_) _ _ ⟨rfl, rfl, fun y hy => hy⟩)
  · subst c2
    obtain ⟨k', y', rfl, h'⟩ := hy v (c3 v List.mem_cons_self)
    have next : ∀ u ∈ left, u ∈ ys := fun u hu => c3 u (List.mem_cons_of_mem _ hu)
    dsimp only
    split
    · exact wpAny_pure ⟨rfl, rfl, next⟩
    · refine wpAny_bind (h.quiet ?_)
      simp only [Bool.not_true, Bool.false_eq_true, if_false]
      refine wpAny_bind (h'.quiet ?_)
      simp only [Bool.not_true, Bool.false_eq_true, if_false]
      refine wpAny_bind (h.stmt ?_)
      simp only [Bool.false_eq_true, if_false]
      refine wpAny_bind (h'.stmt ?_)
      simp only [Bool.false_eq_true, if_false]
      exact wpAny_pure ⟨rfl, rfl, next⟩
  · obtain ⟨a1, a2⟩ := acc
    simp only at c1
    subst c1 c2
    exact wpAny_pure q
end
end Ev
/-! EvS2: a set of nested keys: a key is looked for. -/
namespace Ev
open PySem PySem.Spec PyProof.Rows L2
variable {P : Program} {w : World}
abbrev Row : Type := Addr × NestedKey
/-- at a stands a set of the keys of L -/
structure Ns (P : Program) (w : World) (h : Heap) (a : Addr) (L : List Row) (es : Array (Int × Value)) (ep : Nat) (t : SetTable) : Prop where
  ob : ∃ o, h.get? a = some o ∧ o.ExactSet ∧ o.data = .set es ep t
  rows : es.toList = L.map fun r => (r.2.hash w, Value.ref r.1)
  tab : TabOk t (L.map fun r => r.2.hash w)
  nd : (L.map (·.2)).Nodup
  key : ∀ r ∈ L, Nk P w h r.2 r.1
  led : w.params.followText "set-order" = true ∨ t.led = true
  room : L.length * 5 < t.mask * 3
  few : L.length < 64
section
variable {A : Around} {E : Value → Shared → Prop} {s : Shared} {a : Addr} {L : List Row} {es : Array (Int × Value)} {ep : Nat} {t : SetTable}
theorem rows_size (e : es.toList = L.map fun r => (r.2.hash w, Value.ref r.1)) : es.size = L.length := by
  rw [← Array.length_toList, e, List.length_map]
theorem fits_of {n : Nat} (e1 : t.place.size = n) (e2 : t.dummies = #[]) (e3 : n ≤ t.mask) : t.fits n = true := by
  unfold SetTable.fits SetTable.fill
  rw [e2, Bool.and_eq_true, beq_iff_eq, decide_eq_true_eq]
  exact ⟨e1, by show t.place.size + 0 ≤ t.mask; omega⟩
theorem Ns.fits (N : Ns P w s.heap a L es ep t) : t.fits es.size = true := by
  have h1 := N.tab.sz
  rw [List.length_map] at h1
  have h2 := N.room
  rw [rows_size N.rows]
  exact fits_of h1 N.tab.dm (by omega)
theorem Ns.row (N : Ns P w s.heap a L es ep t) {i : Nat} {r : Row} (h : L[i]? = some r) : es[i]? = some (r.2.hash w, Value.ref r.1) := by
  rw [← Array.getElem?_toList, N.rows, List.getElem?_map, h]
  rfl
/-- the probe behind c steps -/
abbrev pb (t : SetTable) (h : Int) (c : Nat) : SetTable.Probe := nth t.mask (runAt t.mask (SetTable.bits h % (t.mask + 1)) (SetTable.bits h)) c
theorem pb_dummy (t : SetTable) (h : Int) (c : Nat) : (pb t h c).dummy = none := by
  have gen : ∀ (n : Nat) (p : SetTable.Probe), p.dummy = none → (nth t.mask p n).dummy = none := fun n => by
    induction n with
    | zero => exact fun p e => e
    | succ n ih =>
      intro p e
      show (nth t.mask (adv t.mask p) n).dummy = none
      apply ih
      unfold adv
      split <;> exact e
  exact gen c _ rfl
theorem pb_add (t : SetTable) (h : Int) (c q : Nat) : nth t.mask (pb t h c) q = pb t h (c + q) := (nth_add t.mask c _ q).symm
/-- from the c-th step on, K being the first empty one -/
theorem seek (N : Ns P w s.heap a L es ep t) {x : Addr} {k : NestedKey} (hx : Nk P w s.heap k x) (hu : A.units + 8 < cLine) {K : Nat} (hK1 : K < 10 * SetTable.turns t.mask) (hK2 : way t.mask (k.hash w) K ∉ t.place.toList) (hK3 : ∀ c, c < K → way t.mask (k.hash w) c ∈ t.place.toList) {Q : SetFound → Shared → Prop}
    (yes : k ∈ L.map (·.2) → Q (.there none) s) (no : k ∉ L.map (·.2) → Q (.free (way t.mask (k.hash w) K) false) s) :
    ∀ (fuel c : Nat) (from? : Option SetTable.Probe), from?.getD (t.probeStart (k.hash w)) = pb t (k.hash w) c → c ≤ K → K - c < fuel → (∀ (i : Nat) (r : Row), L[i]? = some r → r.2 = k → ∃ c', c ≤ c' ∧ c' < K ∧ t.place.toList[i]? = some (way t.mask (k.hash w) c')) →
      wpAny (model P w) A (setSearchFrom a (.ref x) (k.hash w) true fuel from?) Q E s := by
  obtain ⟨ob, o1, o2, o3⟩ := N.ob
  intro fuel
  induction fuel with
  | zero => intro c from? _ _ hf; exact absurd hf (Nat.not_lt_zero _)
  | succ fuel ih =>
    intro c from? hst hc hf hre
    rw [setSearchFrom_succ]
    refine wpAny_bind (wpAny_setState_of o1 o3 N.fits ?_)
    have hgw : ¬ t.gaveWay = true := by
      unfold SetTable.gaveWay
      rw [mask_odd N.tab.mok]
      decide
    dsimp only
    refine wp_if_neg hgw ?_
    try simp only [pure_bind]
    have hash_i : ∀ (i : Nat) (r : Row), L[i]? = some r → ((es[i]?.map (·.1)).getD 0) = r.2.hash w := fun i r hr => by rw [N.row hr]; rfl
    have jj : ∀ q, (nth t.mask (pb t (k.hash w) c) q).j = way t.mask (k.hash w) (c + q) := fun q => congrArg SetTable.Probe.j (pb_add t _ c q)
    rcases go_spec t N.tab.ris N.tab.dm (fun i => (es[i]?.map (·.1)).getD 0) (k.hash w) (10 * SetTable.turns t.mask) (K - c) (pb t (k.hash w) c) (pb_dummy t _ c) (by omega) (fun q hq => jj q ▸ hK3 (c + q) (by omega)) (by rw [jj, Nat.add_sub_cancel' hc]; exact hK2) with ⟨q, i, hq, hi, hh, hno, hgo⟩ | ⟨hno, hgo⟩
    · have hgo' : t.probe (fun i => (es[i]?.map (·.1)).getD 0) (k.hash w) (from?.getD (t.probeStart (k.hash w))) = some (.candidate (way t.mask (k.hash w) (c + q)) i (pb t (k.hash w) (c + (q + 1)))) := by
        rw [hst, ← jj, ← pb_add]
        exact hgo
      rw [hgo']
      dsimp only
      rw [jj] at hi
      have hil : i < L.length := by
        have h1 := (List.getElem?_eq_some_iff.mp hi).1
        have h2 := N.tab.sz
        rw [List.length_map] at h2
        rw [Array.length_toList, h2] at h1
        exact h1
      obtain ⟨r, hr⟩ : ∃ r, L[i]? = some r := ⟨_, List.getElem?_eq_getElem hil⟩
      have rest : wpAny (model P w) A (searchRest a (.ref x) (k.hash w) true fuel es t (way t.mask (k.hash w) (c + q)) i (pb t (k.hash w) (c + (q + 1)))) Q E s := by
        unfold searchRest
        rw [N.row hr]
        dsimp only
        refine wpAny_bind (wpAny_holding ((nestedKind P w).eqBool hu (N.key r (List.mem_of_getElem? hr)) hx ?_))
        refine wpAny_bind (wpAny_setState_of o1 o3 N.fits ?_)
        dsimp only
        by_cases same : r.2 = k
        · refine wp_if_pos (by simp [same]) (wpAny_pure (yes ?_))
          exact same ▸ List.mem_map_of_mem (List.mem_of_getElem? hr)
        · refine wp_if_neg (by simp [same]) ?_
          have live : t.slot (way t.mask (k.hash w) (c + q)) = .live i := slot_live N.tab.ris hi
          simp only [pure_bind, sameMem, if_true, live, N.row hr]
          refine wpAny_bind (wpAny_isSame_ref_self ?_)
          simp only [if_true, pure_bind]
          refine wp_if_neg (by simp [same]) (ih (c + (q + 1)) _ rfl (by omega) (by omega) fun i' r' hr' hk' => ?_)
          obtain ⟨c', b1, b2, b3⟩ := hre i' r' hr' hk'
          refine ⟨c', ?_, b2, b3⟩
          rcases Nat.lt_trichotomy c' (c + q) with z | z | z
          · exact absurd ((hash_i i' r' hr').trans (congrArg (NestedKey.hash w) hk')) (hno (c' - c) i' (by omega) (by rw [jj, Nat.add_sub_cancel' b1]; exact b3))
          · subst z
            have live' := slot_live N.tab.ris b3
            rw [live] at live'
            cases live'
            rw [hr] at hr'
            cases hr'
            exact absurd hk' same
          · omega
      by_cases hl : t.led = true
      · refine wp_if_neg (by simp [hl]) ?_
        try simp only [pure_bind]
        exact rest
      · refine wp_if_pos (by simp [hl]) (wpAny_bind (unseen hx (fun y hy => ?_) ?_))
        · obtain ⟨e, he, rfl⟩ := List.mem_map.mp hy
          have he : e ∈ es.toList := by
            have : e ∈ es ∧ e.1 = k.hash w := by simpa using he
            simpa using this.1
          rw [N.rows] at he
          obtain ⟨r', hr', rfl⟩ := List.mem_map.mp he
          exact ⟨r'.2, r'.1, rfl, N.key r' hr'⟩
        · simp only [Bool.false_eq_true, if_false, pure_bind]
          exact rest
    · have hgo' : t.probe (fun i => (es[i]?.map (·.1)).getD 0) (k.hash w) (from?.getD (t.probeStart (k.hash w))) = some (.empty (way t.mask (k.hash w) K) none) := by
        have e : way t.mask (k.hash w) K = (nth t.mask (pb t (k.hash w) c) (K - c)).j := by rw [jj, Nat.add_sub_cancel' hc]
        rw [hst, e]
        exact hgo
      rw [hgo']
      dsimp only
      refine wpAny_pure (no fun hm => ?_)
      obtain ⟨r', hr', hk'⟩ := List.mem_map.mp hm
      obtain ⟨i', hi'⟩ := List.mem_iff_getElem?.mp hr'
      obtain ⟨c', b1, b2, b3⟩ := hre i' r' hi' hk'
      exact hno (c' - c) i' (by omega) (by rw [jj, Nat.add_sub_cancel' b1]; exact b3) ((hash_i i' r' hi').trans (congrArg (NestedKey.hash w) hk'))
/-- the search for adding -/
theorem seek0 (N : Ns P w s.heap a L es ep t) {x : Addr} {k : NestedKey} (hx : Nk P w s.heap k x) (hu : A.units + 8 < cLine) {Q : SetFound → Shared → Prop} (yes : k ∈ L.map (·.2) → Q (.there none) s)
    (no : ∀ K, k ∉ L.map (·.2) → way t.mask (k.hash w) K ∉ t.place.toList → (∀ c, c < K → way t.mask (k.hash w) c ∈ t.place.toList) → Q (.free (way t.mask (k.hash w) K) false) s) :
    wpAny (model P w) A (setSearch a (.ref x) (k.hash w) true) Q E s := by
  have hroom := N.room
  have hsz := N.tab.sz
  rw [List.length_map] at hsz
  obtain ⟨K, f1, f2, f3⟩ := N.tab.first (by rw [List.length_map]; omega) (k.hash w)
  have hK : K < 100000 := by
    have : SetTable.turns t.mask ≤ 142 := by
      unfold SetTable.turns
      rcases N.tab.mok with e | e | e <;> omega
    omega
  unfold setSearch
  refine seek N hx hu f1 f2 f3 yes (fun hn => no K hn f2 f3) 100000 0 none rfl (Nat.zero_le _) (by omega) fun i r hr hk => ?_
  have hj : i < t.place.toList.length := by
    have := (List.getElem?_eq_some_iff.mp hr).1
    rw [Array.length_toList]
    omega
  obtain ⟨c, g1, g2⟩ := N.tab.before f2 (i := i) (h := k.hash w) (by rw [List.getElem?_map, hr, ← hk]; rfl) (List.getElem?_eq_getElem hj)
  exact ⟨c, Nat.zero_le _, g1, by rw [List.getElem?_eq_getElem hj, g2]⟩
end
end Ev
/-! EvS3: a set of nested keys: a key is put in. -/
namespace Ev
open PySem PySem.Spec PyProof.Rows L2
variable {P : Program} {w : World}
theorem Nk.beside {h h' : Heap} {k : NestedKey} {x a : Addr} {ob : Obj} {es : Array (Int × Value)} {ep : Nat} {t : SetTable} (hk : Nk P w h k x) (o1 : h.get? a = some ob) (o2 : ob.data = .set es ep t) (sb : Heap.SameBut a h h') : Nk P w h' k x :=
  nestedKind_stays.stays (fun b u its n e1 e2 => by
    refine (sb.2 b fun e => ?_).trans e1
    subst e
    rw [o1] at e1
    cases e1
    rw [o2] at e2
    cases e2) hk
theorem Nk.later {h h' : Heap} {k : NestedKey} {x : Addr} (hk : Nk P w h k x) (st : ∀ b o, h.get? b = some o → h'.get? b = some o) : Nk P w h' k x := nestedKind_stays.stays (fun b u its n e1 _ => st b u e1) hk
/-- what a new order makes of the rows -/
theorem rows_order (L : List Row) (es : Array (Int × Value)) (order : Array Nat) (hr : es.toList = L.map fun r => (r.2.hash w, Value.ref r.1)) (hp : order.toList.Perm (List.range L.length)) :
    ∃ M : List Row, (order.filterMap (es[·]?)).toList = M.map (fun r => (r.2.hash w, Value.ref r.1)) ∧ M.Perm L ∧ (M.map fun r => r.2.hash w) = order.toList.map fun i => (es.map (·.1)).getD i 0 := by
  have at_ : ∀ i : Nat, es[i]? = (L[i]?).map fun r => (r.2.hash w, Value.ref r.1) := fun i => by rw [← Array.getElem?_toList, hr, List.getElem?_map]
  have gen : ∀ l : List Nat, (∀ i ∈ l, i < L.length) → l.filterMap (fun i => es[i]?) = (l.filterMap fun i => L[i]?).map (fun r => (r.2.hash w, Value.ref r.1)) ∧ ((l.filterMap fun i => L[i]?).map fun r => r.2.hash w) = l.map fun i => (es.map (·.1)).getD i 0 := by
    intro l
    induction l with
    | nil => exact fun _ => ⟨rfl, rfl⟩
    | cons i l ih =>
      intro hl
      obtain ⟨g1, g2⟩ := ih fun j hj => hl j (List.mem_cons_of_mem _ hj)
      have hi := hl i List.mem_cons_self
      have eL : L[i]? = some (L[i]'hi) := List.getElem?_eq_getElem hi
      have eE := at_ i
      rw [eL] at eE
      have eH : (es.map (·.1)).getD i 0 = (L[i]'hi).2.hash w := by
        rw [Array.getD_eq_getD_getElem?, Array.getElem?_map, eE]
        rfl
      refine ⟨?_, ?_⟩
      · rw [List.filterMap_cons_some eE, List.filterMap_cons_some eL, List.map_cons, g1]
      · rw [List.filterMap_cons_some eL, List.map_cons, List.map_cons, g2, eH]
  have whole : ∀ n, n ≤ L.length → (List.range n).filterMap (fun i => L[i]?) = L.take n := fun n => by
    induction n with
    | zero => exact fun _ => rfl
    | succ n ih =>
      intro hn
      have e : L[n]? = some (L[n]'hn) := List.getElem?_eq_getElem hn
      rw [List.range_succ, List.filterMap_append, ih (by omega), List.take_succ, e, List.filterMap_cons_some e]
      rfl
  obtain ⟨g1, g2⟩ := gen order.toList fun i hi => List.mem_range.mp (hp.mem_iff.mp hi)
  refine ⟨_, ?_, ?_, g2⟩
  · rw [← g1, Array.toList_filterMap]
  · have := hp.filterMap fun i => L[i]?
    rw [whole L.length (Nat.le_refl _), List.take_length] at this
    exact this
section
variable {A : Around} {E : Value → Shared → Prop} {s : Shared} {a : Addr} {L : List Row} {es : Array (Int × Value)} {ep : Nat} {t : SetTable}
/-- the table is laid anew -/
theorem relaid {ob : Obj} (o1 : s.heap.get? a = some ob) (o2 : ob.ExactSet) (o3 : ob.data = .set es ep t) (hr : es.toList = L.map fun r => (r.2.hash w, Value.ref r.1)) (hp : t.place.size = es.size) (hd : t.dummies = #[]) (hm : es.size ≤ t.mask) (nd : (L.map (·.2)).Nodup)
    (key : ∀ r ∈ L, Nk P w s.heap r.2 r.1) (led : w.params.followText "set-order" = true ∨ t.led = true) (few : L.length < 64) {want M : Nat} (m1 : SetTable.sizeAbove want - 1 = M) (m2 : MaskOk M) (m3 : SetTable.sizeAbove want ≤ 128) (m4 : L.length * 5 < M * 3) {Q : Unit → Shared → Prop}
    (q : ∀ h' L' es' ep' t', Heap.SameBut a s.heap h' → Ns P w h' a L' es' ep' t' → L'.Perm L → Q () { s with heap := h' }) : wpAny (model P w) A (setRelay a want) Q E s := by
  have sz := rows_size hr
  obtain ⟨t', order, e, pm, T, e1, e2, e3, e4⟩ := relaid_ok t (hs := es.map (·.1)) (wanted := want) m1 m2 (by rw [Array.size_map, sz]; omega)
  rw [Array.size_map, sz] at pm
  obtain ⟨M', r1, r2, r3⟩ := rows_order L es order hr pm
  rw [← r3] at T
  have sz2 := (rows_size r1).trans r2.length_eq
  rw [setRelay_eq]
  refine wpAny_bind (wpAny_setState_of o1 o3 (fits_of hp hd hm) ?_)
  dsimp only
  refine wp_if_neg (by rw [sizeLine_eq]; omega) ?_
  try simp only [pure_bind]
  rw [e]
  dsimp only
  refine wpAny_bind ?_
  refine wp_if_neg (by rw [sz2, sz]; simp) ?_
  try simp only [pure_bind]
  refine wpAny_pure ?_
  dsimp only
  refine wpAny_storeSet_of o1 o3 ?_ (by rw [sz2, sizeLine_eq]; omega)
  have sb : Heap.SameBut a s.heap (s.heap.update a (Obj.putSet (order.filterMap (es[·]?)) t')) := Heap.SameBut.update ..
  exact q _ M' _ (ep + 1) t' sb ⟨⟨_, store_at o1 o3, ⟨o2.1, o2.2.1, o2.2.2⟩, rfl⟩, r1, T, (r2.map (·.2)).nodup_iff.mpr nd, fun r hr' => (key r (r2.mem_iff.mp hr')).beside o1 o3 sb, by rw [e2]; exact led, by rw [r2.length_eq, e1]; exact m4, by rw [r2.length_eq]; exact few⟩ r2
/-- the set behind one more key -/
theorem put1 (N : Ns P w s.heap a L es ep t) {x : Addr} {k : NestedKey} (hx : Nk P w s.heap k x) (hu : A.units + 8 < cLine) (few : L.length + 1 < 64) {Q : Bool → Shared → Prop}
    (q : ∀ b h' L' es' ep' t', Heap.SameBut a s.heap h' → Ns P w h' a L' es' ep' t' → (k ∈ L.map (·.2) → L' = L) → (k ∉ L.map (·.2) → L'.Perm ((x, k) :: L)) → Q b { s with heap := h' }) :
    wpAny (model P w) A (setAddHashed a (.ref x) (k.hash w)) Q E s := by
  obtain ⟨ob, o1, o2, o3⟩ := N.ob
  have sz := rows_size N.rows
  have room := N.room
  unfold setAddHashed
  refine wpAny_holding ?_
  rw [show (100000 : Nat) = 99999 + 1 from rfl, setAddHashedIn_succ]
  refine wpAny_bind (wpAny_setState_of o1 o3 N.fits ?_)
  dsimp only
  refine wp_if_neg (by simp [byScan, Value.scannable]) ?_
  try simp only [pure_bind]
  refine wpAny_bind (seek0 N hx hu (fun hm => ?_) fun K hm f2 f3 => ?_)
  · exact wpAny_pure (q false s.heap L es ep t (Heap.SameBut.refl a s.heap) N (fun _ => rfl) fun z => absurd hm z)
  dsimp only
  refine wpAny_bind (wpAny_setState_of o1 o3 N.fits ?_)
  dsimp only
  obtain ⟨u1, u2, u3, u4, u5, u6, u7, u8, u9⟩ := N.tab.put f2 f3
  generalize hpt : t.put (way t.mask (k.hash w) K) = pt at u1 u3 u4 u5 u6 u7 u8 u9 ⊢
  obtain ⟨t1, p⟩ := pt
  dsimp only at u1 u3 u4 u5 u6 u7 u8 u9 ⊢
  subst u1
  generalize hp0 : SetTable.below t.place (way t.mask (k.hash w) K) = p at u2 u3 ⊢
  have hin : (SetTable.insertAt es p (k.hash w, Value.ref x)).toList = (L.take p ++ (x, k) :: L.drop p).map fun r => (r.2.hash w, Value.ref r.1) := by
    rw [SetTable.toList_insertAt, N.rows, List.map_append, List.map_cons, List.map_take, List.map_drop]
  have pm := put_perm L p (x, k)
  have tab1 : TabOk t1 ((L.take p ++ (x, k) :: L.drop p).map fun r => r.2.hash w) := by
    rw [List.map_append, List.map_cons, List.map_take, List.map_drop]
    exact u3
  have nd1 : ((L.take p ++ (x, k) :: L.drop p).map (·.2)).Nodup := (pm.map (·.2)).nodup_iff.mpr (by rw [List.map_cons]; exact List.nodup_cons.mpr ⟨hm, N.nd⟩)
  have len1 : (L.take p ++ (x, k) :: L.drop p).length = L.length + 1 := pm.length_eq
  have sz1 := (rows_size hin).trans len1
  generalize SetTable.insertAt es p (k.hash w, Value.ref x) = es1 at hin sz1 ⊢
  generalize L.take p ++ (x, k) :: L.drop p = L1 at pm len1 tab1 nd1 hin
  -- behind the question by value the table is t1, or t1 marked
  have go : ∀ t2 : SetTable, t2.mask = t1.mask → t2.place = t1.place → t2.dummies = t1.dummies → t2.led = t1.led → TabOk t2 (L1.map fun r => r.2.hash w) → t2.fill = L.length + 1 →
      wpAny (model P w) A (do
        storeSet a es1 t2
        if !false && t2.tooFull then setRelay a (SetTable.grown (es.size + 1))
        return true) Q E s := fun t2 v1 v2 v3 v4 v5 v6 => by
    have sb : Heap.SameBut a s.heap (s.heap.update a (Obj.putSet es1 t2)) := Heap.SameBut.update ..
    have o1' := store_at (es' := es1) (t' := t2) o1 o3
    refine wpAny_bind (wpAny_storeSet_of o1 o3 ?_ (by rw [sz1, sizeLine_eq]; omega))
    generalize s.heap.update a (Obj.putSet es1 t2) = h1 at sb o1' ⊢
    have key1 : ∀ r ∈ L1, Nk P w h1 r.2 r.1 := fun r hr => by
      rw [pm.mem_iff, List.mem_cons] at hr
      rcases hr with rfl | hr
      · exact hx.beside o1 o3 sb
      · exact (N.key r hr).beside o1 o3 sb
    have led1 : w.params.followText "set-order" = true ∨ t2.led = true := by rw [v4, u5]; exact N.led
    by_cases hf : t2.tooFull = true
    · have full : (L.length + 1) * 5 ≥ t2.mask * 3 := by
        have := hf
        unfold SetTable.tooFull at this
        rw [decide_eq_true_eq, v6] at this
        exact this
      have sizes : (t.mask = 7 ∧ L.length = 4) ∨ (t.mask = 31 ∧ L.length = 18) := by
        rw [v1, u4] at full
        rcases N.tab.mok with e | e | e <;> rw [e] at full room
        · exact .inl ⟨e, by omega⟩
        · exact .inr ⟨e, by omega⟩
        · have := N.few
          omega
      have lay : ∀ M, SetTable.sizeAbove (SetTable.grown (L.length + 1)) - 1 = M → MaskOk M → SetTable.sizeAbove (SetTable.grown (L.length + 1)) ≤ 128 → (L.length + 1) * 5 < M * 3 →
          wpAny (model P w) A (setRelay a (SetTable.grown (es.size + 1)) >>= fun _ => pure true) Q E { s with heap := h1 } := fun M m1 m2 m3 m4 => by
        rw [sz]
        refine wpAny_bind (relaid (s := { s with heap := h1 }) (t := t2) o1' ⟨o2.1, o2.2.1, o2.2.2⟩ rfl hin (by have := v5.sz; rw [List.length_map, len1] at this; rw [this, sz1]) v5.dm (by rw [sz1, v1, u4]; rcases sizes with ⟨e, e'⟩ | ⟨e, e'⟩ <;> omega) nd1 key1 led1 (by omega) m1 m2 m3 (by rw [len1]; exact m4) fun h2 L2 es2 ep2 t3 sb2 N2 pm2 => ?_)
        exact wpAny_pure (q true h2 L2 es2 ep2 t3 (sb.trans sb2) N2 (fun z => absurd z hm) fun _ => pm2.trans pm)
      simp only [hf, Bool.not_false, Bool.and_self, if_true]
      rcases sizes with ⟨_, e⟩ | ⟨_, e⟩
      · exact lay 31 (by rw [e, size_20]) (.inr (.inl rfl)) (by rw [e, size_20]; decide) (by omega)
      · exact lay 127 (by rw [e, size_76]) (.inr (.inr rfl)) (by rw [e, size_76]; decide) (by omega)
    · have room1 : L1.length * 5 < t2.mask * 3 := by
        have := hf
        unfold SetTable.tooFull at this
        rw [decide_eq_true_eq, v6] at this
        omega
      simp only [hf, Bool.and_false, Bool.false_eq_true, if_false, pure_bind]
      exact wpAny_pure (q true h1 L1 es1 (ep + 1) t2 sb ⟨⟨_, o1', ⟨o2.1, o2.2.1, o2.2.2⟩, rfl⟩, hin, v5, nd1, key1, led1, room1, by omega⟩ (fun z => absurd z hm) fun _ => pm)
  have fill1 : t1.fill = L.length + 1 := by rw [u9, List.length_map]
  have g1 := go t1 rfl rfl rfl rfl tab1 fill1
  have g2 := go { t1 with plain := false } rfl rfl rfl rfl ⟨tab1.ris, tab1.dm, tab1.sz, tab1.mok, tab1.bd, tab1.reach⟩ fill1
  by_cases pl : t1.plain = true
  · simp only [pl, if_true]
    refine wpAny_bind (hx.byv fun c => ?_)
    cases c with
    | true => simpa using g1
    | false => simpa using g2
  · simp only [pl, if_false, pure_bind]
    simpa using g1
end
end Ev
/-! EvS4: a set of ints and texts: one more. -/
namespace Ev
open PySem PySem.Spec PyProof.Rows L2
variable {P : Program} {w : World}
abbrev LRow : Type := Value × Key
/-- at a stands a set of the ints and texts of L -/
structure Ms (P : Program) (w : World) (h : Heap) (a : Addr) (L : List LRow) (es : Array (Int × Value)) (ep : Nat) (t : SetTable) : Prop where
  ob : ∃ o, h.get? a = some o ∧ o.ExactSet ∧ o.data = .set es ep t
  rows : es.toList.Perm (L.map fun r => ((mixKind P w).hash r.2, r.1))
  nd : (L.map (·.2)).Nodup
  key : ∀ r ∈ L, (mixKind P w).is r.2 r.1 = true ∧ r.1.scannable = true
  fits : t.fits es.size = true
  ris : Ris t.place.toList
  led : w.params.followText "set-order" = true ∨ t.led = true
  few : L.length < 64
section
variable {A : Around} {E : Value → Shared → Prop} {s : Shared} {a : Addr} {L : List LRow} {es : Array (Int × Value)} {ep : Nat} {t : SetTable}
theorem Ms.size (M : Ms P w s.heap a L es ep t) : es.size = L.length := by
  rw [← Array.length_toList, M.rows.length_eq, List.length_map]
theorem Ms.elems (M : Ms P w s.heap a L es ep t) : ElemsOf (mixKind P w) es.toList := fun e he => by
  obtain ⟨r, hr, rfl⟩ := List.mem_map.mp (M.rows.mem_iff.mp he)
  exact ⟨⟨r.2, (M.key r hr).1, rfl⟩, (M.key r hr).2⟩
theorem gave_any (b : Bool) {s₁ : Shared} {R : Unit → Shared → Prop} (q : R () s₁) : wpAny (model P w) A (match b with
    | true => rule "set.scan.the-table-gave-way"
    | false => pure ()) R E s₁ := by
  cases b
  · exact wpAny_pure q
  · exact wpAny_rule q
/-- the rows are laid, and laid anew where the table is too full -/
theorem lay2 {g : Bool → Sem Unit} (hg : ∀ (b : Bool) (s₁ : Shared) (R : Unit → Shared → Prop), R () s₁ → wpAny (model P w) A (g b) R E s₁) {ob : Obj} (o1 : s.heap.get? a = some ob) (o2 : ob.ExactSet) (o3 : ob.data = .set es ep t) {es1 : Array (Int × Value)} {M1 : List LRow}
    (rows1 : es1.toList.Perm (M1.map fun r => ((mixKind P w).hash r.2, r.1))) (nd1 : (M1.map (·.2)).Nodup) (key1 : ∀ r ∈ M1, (mixKind P w).is r.2 r.1 = true ∧ r.1.scannable = true) (few : M1.length < 64) {t2 : SetTable} (v1 : t2.fits es1.size = true) (v2 : Ris t2.place.toList) (v3 : w.params.followText "set-order" = true ∨ t2.led = true) {was : Bool} {R : Option Bool → Shared → Prop}
    (hR : ∀ h' es' ep' t', Heap.SameBut a s.heap h' → Ms P w h' a M1 es' ep' t' → R (some true) { s with heap := h' }) :
    wpAny (model P w) A (do
      storeSet a es1 t2
      if (!was && t2.tooFull) = true then do
          g (relayAll t2 es1 (SetTable.grown es1.size)).2.2
          storeSet a (relayAll t2 es1 (SetTable.grown es1.size)).1 (relayAll t2 es1 (SetTable.grown es1.size)).2.1
          pure (some true)
        else pure (some true)) R E s := by
  have sz1 : es1.size = M1.length := by rw [← Array.length_toList, rows1.length_eq, List.length_map]
  refine wpAny_bind (wpAny_storeSet_of o1 o3 ?_ (by rw [sz1, sizeLine_eq]; omega))
  have sb := Heap.SameBut.update s.heap a (Obj.putSet es1 t2)
  have o1' := store_at (es' := es1) (t' := t2) o1 o3
  split
  · have p2 := relayAll_perm t2 es1 (SetTable.grown es1.size)
    have f2 := relayAll_fits t2 es1 (SetTable.grown es1.size)
    have r2 := relayAll_ris t2 es1 (SetTable.grown es1.size)
    have l2 := relayAll_led t2 es1 (SetTable.grown es1.size)
    generalize relayAll t2 es1 (SetTable.grown es1.size) = Z at p2 f2 r2 l2 ⊢
    obtain ⟨es2, t3, g3⟩ := Z
    dsimp only at p2 f2 r2 l2 ⊢
    have sz2 : es2.size = M1.length := by rw [← Array.length_toList, p2.length_eq, Array.length_toList, sz1]
    refine wpAny_bind (hg _ _ _ (wpAny_bind (wpAny_storeSet_of o1' rfl ?_ (by rw [sz2, sizeLine_eq]; omega))))
    have o2' := store_at (es' := es2) (t' := t3) o1' rfl
    exact wpAny_pure (hR _ es2 _ t3 (sb.trans (Heap.SameBut.update _ a _)) ⟨⟨_, o2', ⟨o2.1, o2.2.1, o2.2.2⟩, rfl⟩, p2.trans rows1, nd1, key1, f2, r2, v3.imp id fun z => by rw [l2]; exact z, few⟩)
  · exact wpAny_pure (hR _ es1 _ t2 sb ⟨⟨_, o1', ⟨o2.1, o2.2.1, o2.2.2⟩, rfl⟩, rows1, nd1, key1, v1, v2, v3, few⟩)
theorem put2 (M : Ms P w s.heap a L es ep t) {x : Value} {k : Key} (hx : (mixKind P w).is k x = true) (hsc : x.scannable = true) (few : L.length + 1 < 64) {Q : Bool → Shared → Prop}
    (q : ∀ b h' L' es' ep' t', Heap.SameBut a s.heap h' → Ms P w h' a L' es' ep' t' → (k ∈ L.map (·.2) → L' = L) → (k ∉ L.map (·.2) → L' = (x, k) :: L) → Q b { s with heap := h' }) :
    wpAny (model P w) A (setAddHashed a x ((mixKind P w).hash k)) Q E s := by
  obtain ⟨ob, o1, o2, o3⟩ := M.ob
  have sz := M.size
  have hel := M.elems
  unfold setAddHashed setAddHashedIn
  refine wpAny_holding (wpAny_bind (wpAny_setState_of o1 o3 M.fits ?_))
  dsimp only
  rw [byScan_of hsc (by rw [sz]; unfold scanBound; omega) hel]
  simp only [↓reduceIte]
  unfold setAddByScan
  refine wpAny_bind (wpAny_bind (wpAny_rule (wpAny_bind (wpAny_setScan_of hx o1 o3 M.fits hel ?_))))
  cases hfi : es.toList.findIdx? (fun e => (mixKind P w).is k e.2) with
  | some j =>
    dsimp only
    obtain ⟨hj, pj, _⟩ := List.findIdx?_eq_some_iff_getElem.mp hfi
    have hm : k ∈ L.map (·.2) := by
      obtain ⟨r, hr, e⟩ := List.mem_map.mp (M.rows.mem_iff.mp (List.getElem_mem hj))
      rw [← e] at pj
      exact List.mem_map.mpr ⟨r, hr, (mixKind P w).inj _ _ _ (M.key r hr).1 pj⟩
    exact wpAny_pure (wpAny_pure (q false s.heap L es ep t (Heap.SameBut.refl a s.heap) M (fun _ => rfl) fun z => absurd hm z))
  | none =>
    dsimp only
    have hm : k ∉ L.map (·.2) := fun z => by
      obtain ⟨r, hr, rfl⟩ := List.mem_map.mp z
      have := List.findIdx?_eq_none_iff.mp hfi _ (M.rows.mem_iff.mpr (List.mem_map_of_mem hr))
      rw [(M.key r hr).1] at this
      cases this
    have pm := layNew_perm t es ((mixKind P w).hash k) x
    have f1 := layNew_fits t es ((mixKind P w).hash k) x
    have r1 := layNew_ris t es ((mixKind P w).hash k) x M.ris
    have l1 := layNew_led t es ((mixKind P w).hash k) x
    generalize layNew t es ((mixKind P w).hash k) x = Z at pm f1 r1 l1 ⊢
    obtain ⟨es1, t1, was, gave⟩ := Z
    dsimp only at pm f1 r1 l1 ⊢
    have rows1 : es1.toList.Perm (((x, k) :: L).map fun r => ((mixKind P w).hash r.2, r.1)) := by
      rw [Array.toList_push] at pm
      exact (pm.trans (List.perm_append_singleton _ _)).trans (M.rows.cons _)
    have sz1 : es1.size = L.length + 1 := by rw [← Array.length_toList, rows1.length_eq, List.length_map, List.length_cons]
    have nd1 : (((x, k) :: L).map (·.2)).Nodup := List.nodup_cons.mpr ⟨hm, M.nd⟩
    have key1 : ∀ r ∈ (x, k) :: L, (mixKind P w).is r.2 r.1 = true ∧ r.1.scannable = true := fun r hr => by
      rw [List.mem_cons] at hr
      rcases hr with rfl | hr
      · exact ⟨hx, hsc⟩
      · exact M.key r hr
    have led1 : w.params.followText "set-order" = true ∨ t1.led = true := M.led.imp id fun z => by rw [l1]; exact z
    have few1 : ((x, k) :: L).length < 64 := by rw [List.length_cons]; omega
    have fin : ∀ h' es' ep' t', Heap.SameBut a s.heap h' → Ms P w h' a ((x, k) :: L) es' ep' t' → Q true { s with heap := h' } := fun h' es' ep' t' sb N => q true h' _ es' ep' t' sb N (fun z => absurd z hm) fun _ => rfl
    refine wpAny_bind (gave_any _ ?_)
    split
    · rw [hashByValue_scannable 8 hsc]
      refine wpAny_bind (wpAny_pure ?_)
      refine lay2 ?_ o1 o2 o3 rows1 nd1 key1 few1 ?_ ?_ ?_ fun h' es' ep' t' sb N => wpAny_pure (fin h' es' ep' t' sb N)
      · intro b s₁ R q; cases b <;> first | exact wpAny_pure q | exact wpAny_rule q
      · split <;> first | exact f1 | exact SetTable.fits_plain_off f1
      · split <;> exact r1
      · split <;> exact led1
    · refine wpAny_bind (wpAny_pure ?_)
      simp only [↓reduceIte]
      refine lay2 ?_ o1 o2 o3 rows1 nd1 key1 few1 f1 r1 led1 fun h' es' ep' t' sb N => wpAny_pure (fin h' es' ep' t' sb N)
      intro b s₁ R q; cases b <;> first | exact wpAny_pure q | exact wpAny_rule q
end
end Ev
/-! EvS5: set(..) of a row of keys. -/
namespace Ev
open PySem PySem.Spec PyProof.Rows L2
variable {P : Program} {w : World}
inductive UK where
  | l (k : Key)
  | n (k : NestedKey)
abbrev URow : Type := Value × UK
/-- the value is that key -/
def IsU (P : Program) (w : World) (h : Heap) (tup : Bool) (v : Value) : UK → Prop
  | .l k => tup = false ∧ (mixKind P w).is k v = true ∧ v.scannable = true
  | .n k => tup = true ∧ ∃ x, v = .ref x ∧ Nk P w h k x
/-- at a stands a set of these -/
def SetU (P : Program) (w : World) (h : Heap) (a : Addr) (tup : Bool) (L : List URow) : Prop := match tup with
  | false => ∃ L0 es ep t, Ms P w h a L0 es ep t ∧ L = L0.map fun r => (r.1, .l r.2)
  | true => ∃ L0 es ep t, Ns P w h a L0 es ep t ∧ L = L0.map fun r => (.ref r.1, .n r.2)
theorem IsU.later {h h' : Heap} {tup : Bool} {v : Value} {u : UK} (i : IsU P w h tup v u) (st : ∀ b o, h.get? b = some o → h'.get? b = some o) : IsU P w h' tup v u := by
  cases u with
  | l k => exact i
  | n k =>
    obtain ⟨e, x, rfl, hk⟩ := i
    exact ⟨e, x, rfl, hk.later st⟩
theorem SetU.later {h h' : Heap} {a : Addr} {tup : Bool} {L : List URow} (S : SetU P w h a tup L) (st : ∀ b o, h.get? b = some o → h'.get? b = some o) : SetU P w h' a tup L := by
  cases tup with
  | false =>
    obtain ⟨L0, es, ep, t, M, e⟩ := S
    obtain ⟨ob, o1, o2⟩ := M.ob
    exact ⟨L0, es, ep, t, ⟨⟨ob, st _ _ o1, o2⟩, M.rows, M.nd, M.key, M.fits, M.ris, M.led, M.few⟩, e⟩
  | true =>
    obtain ⟨L0, es, ep, t, M, e⟩ := S
    obtain ⟨ob, o1, o2⟩ := M.ob
    exact ⟨L0, es, ep, t, ⟨⟨ob, st _ _ o1, o2⟩, M.rows, M.tab, M.nd, fun r hr => (M.key r hr).later st, M.led, M.room, M.few⟩, e⟩
/-- the set moved with what is at a, and its keys, as they were -/
theorem SetU.moved {h h' : Heap} {a : Addr} {tup : Bool} {L : List URow} (S : SetU P w h a tup L) (sa : ∀ o, h.get? a = some o → h'.get? a = some o) (sk : ∀ r ∈ L, IsU P w h' tup r.1 r.2) : SetU P w h' a tup L := by
  cases tup with
  | false =>
    obtain ⟨L0, es, ep, t, M, e⟩ := S
    obtain ⟨ob, o1, o2⟩ := M.ob
    exact ⟨L0, es, ep, t, ⟨⟨ob, sa _ o1, o2⟩, M.rows, M.nd, M.key, M.fits, M.ris, M.led, M.few⟩, e⟩
  | true =>
    obtain ⟨L0, es, ep, t, M, rfl⟩ := S
    obtain ⟨ob, o1, o2⟩ := M.ob
    refine ⟨L0, es, ep, t, ⟨⟨ob, sa _ o1, o2⟩, M.rows, M.tab, M.nd, fun r hr => ?_, M.led, M.room, M.few⟩, rfl⟩
    obtain ⟨_, x, e, hk⟩ := sk _ (List.mem_map_of_mem hr)
    cases e
    exact hk
theorem SetU.new {h : Heap} {a : Addr} (tup : Bool) (o1 : h.get? a = some { cls := .type "set", dict := none, data := .set #[] 0 (.fresh 0 0 (!w.params.followText "set-order")) }) : SetU P w h a tup [] := by
  have led : w.params.followText "set-order" = true ∨ (SetTable.fresh 0 0 (!w.params.followText "set-order")).led = true := by
    show _ ∨ (!w.params.followText "set-order") = true
    cases w.params.followText "set-order"
    · exact .inr rfl
    · exact .inl rfl
  cases tup with
  | false => exact ⟨[], #[], 0, _, ⟨⟨_, o1, ⟨rfl, rfl, rfl⟩, rfl⟩, .nil, List.nodup_nil, fun r hr => (by cases hr), rfl, List.Pairwise.nil, led, by decide⟩, rfl⟩
  | true => exact ⟨[], #[], 0, _, ⟨⟨_, o1, ⟨rfl, rfl, rfl⟩, rfl⟩, rfl, ⟨List.Pairwise.nil, rfl, rfl, .inl rfl, fun x hx => (by cases hx), fun i u j hi => (by simp at hi)⟩, List.nodup_nil, fun r hr => (by cases hr), led, by show 0 * 5 < 7 * 3; decide, by decide⟩, rfl⟩
section
variable {A : Around} {E : Value → Shared → Prop} {s : Shared}
theorem addU {a : Addr} {tup : Bool} {L : List URow} {v : Value} {u : UK} (S : SetU P w s.heap a tup L) (i : IsU P w s.heap tup v u) (hu : A.units + 8 < cLine) (few : L.length + 1 < 64) {Q : Bool → Shared → Prop}
    (q : ∀ b h' tk L', Heap.SameBut a s.heap h' → s.toks ≤ tk → SetU P w h' a tup L' → (u ∈ L.map (·.2) → L' = L) → (u ∉ L.map (·.2) → L'.Perm ((v, u) :: L)) → Q b { s with heap := h', toks := tk }) : wpAny (model P w) A (setAdd a v) Q E s := by
  unfold setAdd
  refine wpAny_holding (wpAny_bind ?_)
  cases u with
  | l k =>
    obtain ⟨rfl, i1, i2⟩ := i
    obtain ⟨L0, es, ep, t, M, rfl⟩ := S
    rw [List.length_map] at few
    have em : (UK.l k ∈ (L0.map fun r => ((r.1, .l r.2) : URow)).map (·.2)) ↔ k ∈ L0.map (·.2) := by
      rw [List.map_map]
      simp [List.mem_map]
    refine (mixKind P w).pyHash i1 (put2 (s := { s with toks := s.toks + 1 }) M i1 i2 few fun b h' L' es' ep' t' sb M' c1 c2 => ?_)
    refine q b h' (s.toks + 1) _ sb (Nat.le_add_right _ _) ⟨L', es', ep', t', M', rfl⟩ (fun z => ?_) fun z => ?_
    · rw [c1 (em.mp z)]
    · rw [c2 fun y => z (em.mpr y)]
      exact .refl _
  | n k =>
    obtain ⟨rfl, x, rfl, i1⟩ := i
    obtain ⟨L0, es, ep, t, M, rfl⟩ := S
    rw [List.length_map] at few
    have em : (UK.n k ∈ (L0.map fun r => ((.ref r.1, .n r.2) : URow)).map (·.2)) ↔ k ∈ L0.map (·.2) := by
      rw [List.map_map]
      simp [List.mem_map]
    refine (nestedKind P w).pyHash hu i1 (put1 (s := { s with toks := s.toks + k.draws }) M i1 hu few fun b h' L' es' ep' t' sb M' c1 c2 => ?_)
    refine q b h' (s.toks + k.draws) _ sb (Nat.le_add_right _ _) ⟨L', es', ep', t', M', rfl⟩ (fun z => ?_) fun z => ?_
    · rw [c1 (em.mp z)]
    · exact (c2 fun y => z (em.mpr y)).map _
/-- what a set has got of the first i rows -/
structure Have (rs : List URow) (i : Nat) (L : List URow) : Prop where
  of : ∀ r ∈ L, r ∈ rs.take i
  got : ∀ r ∈ rs.take i, r.2 ∈ L.map (·.2)
  len : L.length ≤ i
theorem Have.next {rs L L' : List URow} {i : Nat} {r : URow} (g : Have rs i L) (hr : rs[i]? = some r) (c1 : r.2 ∈ L.map (·.2) → L' = L) (c2 : r.2 ∉ L.map (·.2) → L'.Perm (r :: L)) : Have rs (i + 1) L' := by
  have tk : rs.take (i + 1) = rs.take i ++ [r] := by rw [List.take_succ, hr]; rfl
  by_cases c : r.2 ∈ L.map (·.2)
  · rw [c1 c]
    refine ⟨fun x hx => by rw [tk]; exact List.mem_append_left _ (g.of x hx), fun x hx => ?_, Nat.le_succ_of_le g.len⟩
    rw [tk, List.mem_append, List.mem_singleton] at hx
    exact hx.elim (g.got x) fun e => e ▸ c
  · have pm := c2 c
    refine ⟨fun x hx => ?_, fun x hx => ?_, by rw [pm.length_eq, List.length_cons]; exact Nat.succ_le_succ g.len⟩
    · rw [tk, List.mem_append, List.mem_singleton]
      rw [pm.mem_iff, List.mem_cons] at hx
      exact hx.elim .inr fun z => .inl (g.of x z)
    · rw [(pm.map (·.2)).mem_iff, List.map_cons, List.mem_cons]
      rw [tk, List.mem_append, List.mem_singleton] at hx
      exact hx.elim (fun z => .inr (g.got x z)) fun e => .inl (e ▸ rfl)
/-- the loop of set.update -/
theorem updateU {I : Addr} {fp wr : List Addr} {G : Array GenState → Array GenState → Prop} {n : Nat} {Pv : Nat → Value → Prop} {St : Nat → Shared → Prop} {R : Result → Shared → Prop} (W : WalksS P w A.in1 I fp wr G n Pv St) (S : Addr) (hSf : S ∉ fp) (tup : Bool) (rs : List URow) (hn : n = rs.length) (few : rs.length < 64)
    (hv : ∀ i v, Pv i v → ∃ r, rs[i]? = some r ∧ v = r.1) (h0 : Heap) (hk : ∀ r ∈ rs, IsU P w h0 tup r.1 r.2) (hS0 : h0.get? S = none) (hw0 : ∀ b ∈ wr, h0.get? b = none) (hu : A.in1.units + 8 < cLine) :
    ∀ (left i : Nat) (s : Shared), n - i = left → i ≤ n → St i s → (∀ b o, h0.get? b = some o → s.heap.get? b = some o) → (∃ L, SetU P w s.heap S tup L ∧ Have rs i L) →
      (∀ s' L, Moved (S :: wr) G s s' → SetU P w s'.heap S tup L → Have rs n L → (∀ b o, h0.get? b = some o → s'.heap.get? b = some o) → R (.ok (.ret .none)) s') → codeAny (model P w) A (.builtin "set.update.loop" ⟨[.ref S, .ref I], []⟩) R s := by
  have hSw : S ∉ wr := fun z => hSf (W.sub _ z)
  have more : ∀ b ∈ wr, b ∈ S :: wr := fun b hb => List.mem_cons_of_mem _ hb
  have stays : ∀ {s s' : Shared}, Moved wr G s s' → (∀ b o, h0.get? b = some o → s.heap.get? b = some o) → ∀ b o, h0.get? b = some o → s'.heap.get? b = some o := fun m st b o e => m.heap b o (fun hb => by rw [hw0 b hb] at e; cases e) (st b o e)
  have keys : ∀ {L : List URow} {i : Nat} {h : Heap}, Have rs i L → (∀ b o, h0.get? b = some o → h.get? b = some o) → ∀ r ∈ L, IsU P w h tup r.1 r.2 := fun g st r hr => (hk r (List.mem_of_mem_take (g.of r hr))).later st
  intro left
  induction left with
  | zero =>
    intro i s e hi hst st ⟨L, hS, g⟩ hR
    obtain rfl : i = n := by omega
    refine codeAny_builtin F.entry_set_update_loop ?_
    rw [Around.under_plainId F.plain_set_update_loop _]
    show wpAny _ A.in1 (pyNext (.ref I) >>= _) _ _ s
    refine wpAny_bind (W.done s _ _ hst fun s' m => ?_)
    exact wpAny_pure (hR s' L (m.mono more) (hS.moved (fun o z => m.heap S o hSw z) (keys g (stays m st))) g (stays m st))
  | succ left ih =>
    intro i s e hi hst st ⟨L, hS, g⟩ hR
    have hlt : i < n := by omega
    refine codeAny_builtin F.entry_set_update_loop ?_
    rw [Around.under_plainId F.plain_set_update_loop _]
    show wpAny _ A.in1 (pyNext (.ref I) >>= _) _ _ s
    refine wpAny_bind (W.item i s _ _ hlt hst fun v s' hP hst' m => ?_)
    obtain ⟨r, hr, rfl⟩ := hv i v hP
    have st' := stays m st
    show wpAny _ A.in1 (holding [r.1] (setAdd S r.1) >>= _) _ _ s'
    refine wpAny_bind (wpAny_holding (addU (hS.moved (fun o z => m.heap S o hSw z) (keys g st')) ((hk r (List.mem_of_getElem? hr)).later st') hu (by have := g.len; omega) fun b h' tk L' sb ht S' c1 c2 => ?_))
    have st2 : ∀ b o, h0.get? b = some o → h'.get? b = some o := fun b o z => (sb.2 b fun y => by rw [y, hS0] at z; cases z).trans (st' b o z)
    refine wpAny_pure ⟨plainId_quiet F.plain_set_update_loop _, ih (i + 1) _ (by omega) hlt (W.frame _ s' _ _ hst' ht fun b hb o z => (sb.2 b fun y => hSf (y ▸ hb)).trans z) st2 ⟨L', S', g.next hr c1 c2⟩ fun s'' L2 m2 S2 g2 st3 => ?_⟩
    exact hR s'' L2 (Moved.trans W.gtrans ((m.mono more).then_heap ht fun b o hb z => (sb.2 b fun y => hb (y ▸ List.mem_cons_self)).trans z) m2) S2 g2 st3
/-- set(xs), xs a list -/
theorem call_setU_list {l : Addr} {items : Array Value} (tup : Bool) (rs : List URow) {Q : Value → Shared → Prop} (hh : A.handled = none) (hl : s.heap.IsList l items) (hit : items.toList = rs.map (·.1)) (hk : ∀ r ∈ rs, IsU P w s.heap tup r.1 r.2) (few : rs.length < 64) (hu : A.units + 16 < cLine)
    (q : ∀ (h' : Heap) (tk : Nat) L, SetU P w h' s.heap.objs.size tup L → Have rs rs.length L → (∀ b o, s.heap.get? b = some o → h'.get? b = some o) → Q (.ref s.heap.objs.size) { s with heap := h', toks := tk }) : wpAny (model P w) A (call (.type "set") [.ref l]) Q E s := by
  have isz : items.size = rs.length := by rw [← Array.length_toList, hit, List.length_map]
  obtain ⟨_, _, hmro⟩ := PySem.F.called_set.mro
  have b1 := PySem.F.called_set.made
  have b2 := PySem.F.called_set.sub
  refine wpAny_call (codeAny_of_tree (?_ : wpAny _ _ (callAny (.type "set") _) _ _ _))
  refine wpAny_pure ⟨Code.quiet_builtin _ (by decide +kernel), codeAny_builtin PySem.F.entry_type_call ?_⟩
  rw [Around.under_plain (weight_type_call_type "set" [.ref l] []) rfl]
  have b3 := PySem.F.called_set.notType
  have b4 := PySem.F.called_set.canCreate
  have b5 := PySem.F.typeCall_set_1 (.ref l)
  repeat (any_goals (first | assumption | wp_step))
  generalize hnew : ({ cls := .type "set", dict := none, data := .set #[] 0 (.fresh 0 0 (!w.params.followText "set-order")) } : Obj) = new
  refine codeAny_mono (code_set_led1 (.ref l) (E := E) (Q₁ := fun obj s₁ => obj = .ref s.heap.objs.size ∧ s₁ = { s with heap := s.heap.push new }) ⟨rfl, by rw [← hnew]⟩) fun r s₁ hr => ?_
  cases r with
  | error e => exact hr
  | ok fl =>
    cases fl with
    | ret obj =>
      obtain ⟨rfl, rfl⟩ := hr
      have hS : (s.heap.push new).get? s.heap.objs.size = some new := Heap.get?_push_size _ (by rw [← hnew]; rfl)
      have hT : Shared.TypeIs { s with heap := s.heap.push new } (.ref s.heap.objs.size) "set" := ⟨_, hS, by rw [← hnew]⟩
      have c1 := PySem.F.called_set.init.lookup
      have c2 := PySem.F.called_set.init.bind (.ref s.heap.objs.size)
      repeat (any_goals (first | assumption | wp_step))
      refine codeAny_mono (codeAny_call_builtin (R := wants (fun r s₂ => r = .none ∧ ∃ h' tk L, s₂ = { s with heap := h', toks := tk } ∧ SetU P w h' s.heap.objs.size tup L ∧ Have rs rs.length L ∧ (∀ b o, s.heap.get? b = some o → h'.get? b = some o)) E) PySem.F.called_set.init.plain PySem.F.entry_set_init (check_set_init_1 hT ?_)) fun r₂ s₂ hr₂ => ?_
      · obtain ⟨⟨ocls, odict, odata, oslots⟩, hol, hcl, nl, hdl⟩ := hl
        simp only at hcl hdl
        subst hcl hdl
        have hol' : (s.heap.push new).get? l = some { cls := .type "list", dict := odict, data := .seq items nl, slots := oslots } := Heap.get?_push_of_some _ hol
        have d1 := PySem.F.sub_list_set
        have d2 := PySem.F.sub_list_frozenset
        have d3 : (Value.type "list" == Value.type "dict") = false := by decide
        have d4 : (s.heap.push new).IsList l items := ⟨_, hol', rfl, nl, rfl⟩
        subst hnew
        unfold Builtin.«set.__init__» noKeywords Builtin.Frozenset.updateFrom
        generalize hPI : pyIter = PI
        wp_walk
        subst hPI
        refine wpAny_pyIter_list d4 ?_
        refine wpAny_bind (wpAny_runValue ?_)
        have lt : l < s.heap.objs.size := Heap.lt_size hol
        have hz : ∀ o : Obj, (s.heap.push o).objs.size = s.heap.objs.size + 1 := fun o => Heap.size_push ..
        have gone : ∀ b, s.heap.objs.size ≤ b → s.heap.get? b = none := fun b hb => by
          cases z : s.heap.get? b with
          | none => rfl
          | some o => exact absurd (Heap.lt_size z) (Nat.not_lt.mpr hb)
        have nf : ∀ o : Obj, s.heap.objs.size ∉ [(s.heap.push o).objs.size, l] := by
          intro o
          rw [hz]
          simp only [List.mem_cons, List.not_mem_nil, or_false, not_or]
          exact ⟨Nat.ne_of_lt (Nat.lt_succ_self _), Nat.ne_of_gt lt⟩
        refine updateU ((Walks.list (by simp [hh] : A.in1.in1.in1.handled = none) _ l (by rw [hz]; exact Nat.ne_of_lt (Nat.lt_succ_of_lt lt)) items).toS) s.heap.objs.size (nf _) tup rs isz few (fun i v hv => ?_) s.heap hk (gone _ (Nat.le_refl _)) (fun b hb => gone b (by rw [List.mem_singleton.mp hb, hz]; exact Nat.le_succ _)) (by show A.units + 1 + 1 + 1 + 8 < cLine; omega) (items.size - 0) 0 _ (by omega) (Nat.zero_le _) ⟨⟨_, Heap.get?_push_size _ rfl, rfl, rfl⟩, (d4.push _)⟩ (fun b o e => Heap.get?_push_of_some _ (Heap.get?_push_of_some _ e)) ⟨[], .new tup (Heap.get?_push_of_some _ hS), ⟨fun r hr => (by cases hr), fun r hr => (by simp at hr), Nat.le_refl _⟩⟩ fun s' L m S' g st => ?_
        · have z : items.toList[i]? = some v := by rw [Array.getElem?_toList]; exact hv
          rw [hit, List.getElem?_map] at z
          cases hr : rs[i]? with
          | none => rw [hr] at z; cases z
          | some r => rw [hr] at z; exact ⟨r, rfl, (Option.some.inj z).symm⟩
        · obtain ⟨h', g', d', tk, os'⟩ := s'
          obtain rfl : g' = s.gens := m.gens
          obtain rfl : d' = s.drawn := m.drawn
          obtain rfl : os' = s.os := m.os
          rw [isz] at g
          exact wpAny_pure (wpAny_pure ⟨rfl, h', tk, L, rfl, S', g, st⟩)
      · cases r₂ with
        | error e => exact hr₂
        | ok fl₂ =>
          cases fl₂ with
          | ret r =>
            obtain ⟨rfl, h', tk, L, rfl, S', g, st⟩ := hr₂
            repeat (any_goals (first | assumption | wp_step))
            exact q _ _ _ S' g st
          | _ => exact hr₂.elim
    | _ => exact hr.elim
/-- set(xs), xs a tuple -/
theorem call_setU_tuple {l : Addr} {items : Array Value} (tup : Bool) (rs : List URow) {Q : Value → Shared → Prop} (hh : A.handled = none) (hl : s.heap.IsTuple l items) (hit : items.toList = rs.map (·.1)) (hk : ∀ r ∈ rs, IsU P w s.heap tup r.1 r.2) (few : rs.length < 64) (hu : A.units + 16 < cLine)
    (q : ∀ (h' : Heap) (tk : Nat) L, SetU P w h' s.heap.objs.size tup L → Have rs rs.length L → (∀ b o, s.heap.get? b = some o → h'.get? b = some o) → Q (.ref s.heap.objs.size) { s with heap := h', toks := tk }) : wpAny (model P w) A (call (.type "set") [.ref l]) Q E s := by
  have isz : items.size = rs.length := by rw [← Array.length_toList, hit, List.length_map]
  obtain ⟨_, _, hmro⟩ := PySem.F.called_set.mro
  have b1 := PySem.F.called_set.made
  have b2 := PySem.F.called_set.sub
  refine wpAny_call (codeAny_of_tree (?_ : wpAny _ _ (callAny (.type "set") _) _ _ _))
  refine wpAny_pure ⟨Code.quiet_builtin _ (by decide +kernel), codeAny_builtin PySem.F.entry_type_call ?_⟩
  rw [Around.under_plain (weight_type_call_type "set" [.ref l] []) rfl]
  have b3 := PySem.F.called_set.notType
  have b4 := PySem.F.called_set.canCreate
  have b5 := PySem.F.typeCall_set_1 (.ref l)
  repeat (any_goals (first | assumption | wp_step))
  generalize hnew : ({ cls := .type "set", dict := none, data := .set #[] 0 (.fresh 0 0 (!w.params.followText "set-order")) } : Obj) = new
  refine codeAny_mono (code_set_led1 (.ref l) (E := E) (Q₁ := fun obj s₁ => obj = .ref s.heap.objs.size ∧ s₁ = { s with heap := s.heap.push new }) ⟨rfl, by rw [← hnew]⟩) fun r s₁ hr => ?_
  cases r with
  | error e => exact hr
  | ok fl =>
    cases fl with
    | ret obj =>
      obtain ⟨rfl, rfl⟩ := hr
      have hS : (s.heap.push new).get? s.heap.objs.size = some new := Heap.get?_push_size _ (by rw [← hnew]; rfl)
      have hT : Shared.TypeIs { s with heap := s.heap.push new } (.ref s.heap.objs.size) "set" := ⟨_, hS, by rw [← hnew]⟩
      have c1 := PySem.F.called_set.init.lookup
      have c2 := PySem.F.called_set.init.bind (.ref s.heap.objs.size)
      repeat (any_goals (first | assumption | wp_step))
      refine codeAny_mono (codeAny_call_builtin (R := wants (fun r s₂ => r = .none ∧ ∃ h' tk L, s₂ = { s with heap := h', toks := tk } ∧ SetU P w h' s.heap.objs.size tup L ∧ Have rs rs.length L ∧ (∀ b o, s.heap.get? b = some o → h'.get? b = some o)) E) PySem.F.called_set.init.plain PySem.F.entry_set_init (check_set_init_1 hT ?_)) fun r₂ s₂ hr₂ => ?_
      · obtain ⟨⟨ocls, odict, odata, oslots⟩, hol, hcl, nl, hdl⟩ := hl
        simp only at hcl hdl
        subst hcl hdl
        have hol' : (s.heap.push new).get? l = some { cls := .type "tuple", dict := odict, data := .seq items nl, slots := oslots } := Heap.get?_push_of_some _ hol
        have d1 := PySem.F.sub_tuple_set
        have d2 := PySem.F.sub_tuple_frozenset
        have d3 : (Value.type "tuple" == Value.type "dict") = false := by decide
        have d4 : (s.heap.push new).IsTuple l items := ⟨_, hol', rfl, nl, rfl⟩
        subst hnew
        unfold Builtin.«set.__init__» noKeywords Builtin.Frozenset.updateFrom
        generalize hPI : pyIter = PI
        wp_walk
        subst hPI
        refine wpAny_pyIter_tuple d4 ?_
        refine wpAny_bind (wpAny_runValue ?_)
        have lt : l < s.heap.objs.size := Heap.lt_size hol
        have hz : ∀ o : Obj, (s.heap.push o).objs.size = s.heap.objs.size + 1 := fun o => Heap.size_push ..
        have gone : ∀ b, s.heap.objs.size ≤ b → s.heap.get? b = none := fun b hb => by
          cases z : s.heap.get? b with
          | none => rfl
          | some o => exact absurd (Heap.lt_size z) (Nat.not_lt.mpr hb)
        have nf : ∀ o : Obj, s.heap.objs.size ∉ [(s.heap.push o).objs.size, l] := by
          intro o
          rw [hz]
          simp only [List.mem_cons, List.not_mem_nil, or_false, not_or]
          exact ⟨Nat.ne_of_lt (Nat.lt_succ_self _), Nat.ne_of_gt lt⟩
        refine updateU ((Walks.tuple (by simp [hh] : A.in1.in1.in1.handled = none) _ l (by rw [hz]; exact Nat.ne_of_lt (Nat.lt_succ_of_lt lt)) items).toS) s.heap.objs.size (nf _) tup rs isz few (fun i v hv => ?_) s.heap hk (gone _ (Nat.le_refl _)) (fun b hb => gone b (by rw [List.mem_singleton.mp hb, hz]; exact Nat.le_succ _)) (by show A.units + 1 + 1 + 1 + 8 < cLine; omega) (items.size - 0) 0 _ (by omega) (Nat.zero_le _) ⟨⟨_, Heap.get?_push_size _ rfl, rfl, rfl⟩, (d4.push _)⟩ (fun b o e => Heap.get?_push_of_some _ (Heap.get?_push_of_some _ e)) ⟨[], .new tup (Heap.get?_push_of_some _ hS), ⟨fun r hr => (by cases hr), fun r hr => (by simp at hr), Nat.le_refl _⟩⟩ fun s' L m S' g st => ?_
        · have z : items.toList[i]? = some v := by rw [Array.getElem?_toList]; exact hv
          rw [hit, List.getElem?_map] at z
          cases hr : rs[i]? with
          | none => rw [hr] at z; cases z
          | some r => rw [hr] at z; exact ⟨r, rfl, (Option.some.inj z).symm⟩
        · obtain ⟨h', g', d', tk, os'⟩ := s'
          obtain rfl : g' = s.gens := m.gens
          obtain rfl : d' = s.drawn := m.drawn
          obtain rfl : os' = s.os := m.os
          rw [isz] at g
          exact wpAny_pure (wpAny_pure ⟨rfl, h', tk, L, rfl, S', g, st⟩)
      · cases r₂ with
        | error e => exact hr₂
        | ok fl₂ =>
          cases fl₂ with
          | ret r =>
            obtain ⟨rfl, h', tk, L, rfl, S', g, st⟩ := hr₂
            repeat (any_goals (first | assumption | wp_step))
            exact q _ _ _ S' g st
          | _ => exact hr₂.elim
    | _ => exact hr.elim
end
end Ev
/-! EvS6: each once, sorted: the same whatever the order. -/
namespace Ev
open PySem PySem.Spec PyProof.Rows L2
mutual
theorem D.eq_refl' : ∀ a : D, a.plain = true → D.eq a a = true
  | .non, _ => rfl
  | .bl _, _ => by simp [D.eq]
  | .int _, _ => by simp [D.eq]
  | .str x, _ => by rw [D.eq]; exact (eqNats_iff x x).mpr rfl
  | .lst xs, h => by rw [D.eq]; exact D.eqs_refl' xs (by simpa [D.plain] using h)
  | .tup xs, h => by rw [D.eq]; exact D.eqs_refl' xs (by simpa [D.plain] using h)
  | .dct _, h => by simp [D.plain] at h
  | .fn _, h => by simp [D.plain] at h
  | .box, h => by simp [D.plain] at h
theorem D.eqs_refl' : ∀ xs : List D, D.plains xs = true → D.eqs xs xs = true
  | [], _ => rfl
  | x :: xs, h => by
    simp only [D.plains, Bool.and_eq_true] at h
    rw [D.eqs, D.eq_refl' x h.1, D.eqs_refl' xs h.2]
    rfl
end
mutual
/-- alike and equal: the same -/
theorem alike_eq : ∀ (a b : D), D.alike a b = true → D.eq a b = true → a = b
  | .non, b, h, e => by cases b <;> simp [D.alike] at h; rfl
  | .bl x, b, h, e => by cases b <;> simp [D.alike] at h; simp [D.eq] at e; rw [e]
  | .int x, b, h, e => by cases b <;> simp [D.alike] at h; simp [D.eq] at e; rw [e]
  | .str x, b, h, e => by cases b <;> simp [D.alike] at h; rw [D.eq, eqNats_iff] at e; rw [e]
  | .lst xs, b, h, e => by cases b <;> simp [D.alike] at h; rw [D.eq] at e; rw [alikes_eq xs _ h e]
  | .tup xs, b, h, e => by cases b <;> simp [D.alike] at h; rw [D.eq] at e; rw [alikes_eq xs _ h e]
  | .dct _, b, h, e => by cases b <;> simp [D.alike] at h
  | .fn _, b, h, e => by cases b <;> simp [D.alike] at h
  | .box, b, h, e => by cases b <;> simp [D.alike] at h
theorem alikes_eq : ∀ (xs ys : List D), D.alikes xs ys = true → D.eqs xs ys = true → xs = ys
  | [], ys, _, e => by cases ys <;> simp [D.eqs] at e; rfl
  | x :: xs, [], _, e => by simp [D.eqs] at e
  | x :: xs, y :: ys, h, e => by
    simp only [D.alikes, D.eqs, Bool.and_eq_true] at h e
    rw [alike_eq x y h.1 e.1, alikes_eq xs ys h.2 e.2]
end
theorem ltNats_tri : ∀ (a b : List Nat), ltNats a b = false → ltNats b a = false → a = b
  | [], [], _, _ => rfl
  | [], _ :: _, h, _ => by simp [ltNats] at h
  | _ :: _, [], _, h => by simp [ltNats] at h
  | a :: as, b :: bs, h1, h2 => by
    simp only [ltNats] at h1 h2
    split at h1
    · cases h1
    · split at h2
      · cases h2
      · have e : a = b := by omega
        subst e
        simp at h1 h2
        rw [ltNats_tri as bs h1 h2]
mutual
theorem lt_tri : ∀ (a b : D), a.plain = true → D.alike a b = true → D.lt a b = false → D.lt b a = false → a = b
  | .non, b, _, h, _, _ => by cases b <;> simp [D.alike] at h; rfl
  | .bl x, b, _, h, h1, h2 => by cases b <;> simp [D.alike] at h; rename_i y; cases x <;> cases y <;> simp [D.lt] at h1 h2 <;> rfl
  | .int x, b, _, h, h1, h2 => by cases b <;> simp [D.alike] at h; simp [D.lt] at h1 h2; rw [Int.le_antisymm h2 h1]
  | .str x, b, _, h, h1, h2 => by cases b <;> simp [D.alike] at h; rw [D.lt] at h1 h2; rw [ltNats_tri _ _ h1 h2]
  | .lst xs, b, p, h, h1, h2 => by cases b <;> simp [D.alike] at h; rw [D.lt] at h1 h2; rw [lts_tri xs _ (by simpa [D.plain] using p) h h1 h2]
  | .tup xs, b, p, h, h1, h2 => by cases b <;> simp [D.alike] at h; rw [D.lt] at h1 h2; rw [lts_tri xs _ (by simpa [D.plain] using p) h h1 h2]
  | .dct _, b, _, h, _, _ => by cases b <;> simp [D.alike] at h
  | .fn _, b, _, h, _, _ => by cases b <;> simp [D.alike] at h
  | .box, b, _, h, _, _ => by cases b <;> simp [D.alike] at h
theorem lts_tri : ∀ (xs ys : List D), D.plains xs = true → D.alikes xs ys = true → D.lts xs ys = false → D.lts ys xs = false → xs = ys
  | [], [], _, _, _, _ => rfl
  | [], _ :: _, _, _, h, _ => by simp [D.lts] at h
  | _ :: _, [], _, _, _, h => by simp [D.lts] at h
  | x :: xs, y :: ys, p, h, h1, h2 => by
    simp only [D.plains, D.alikes, Bool.and_eq_true] at p h
    rw [D.lts] at h1 h2
    by_cases e : D.eq x y = true
    · have exy := alike_eq x y h.1 e
      subst exy
      rw [if_pos e] at h1
      rw [if_pos e] at h2
      rw [lts_tri xs ys p.2 h.2 h1 h2]
    · rw [if_neg e] at h1
      by_cases e2 : D.eq y x = true
      · exfalso
        -- == is asked the other way round
        have a2 := alike_sym x y h.1
        have := alike_eq y x a2 e2
        subst this
        exact e (D.eq_refl' y p.1)
      · rw [if_neg e2] at h2
        have := lt_tri x y p.1 h.1 h1 h2
        subst this
        exact absurd (D.eq_refl' x p.1) e
theorem alike_sym : ∀ (a b : D), D.alike a b = true → D.alike b a = true
  | .non, b, h => by cases b <;> simp [D.alike] at h ⊢
  | .bl x, b, h => by cases b <;> simp [D.alike] at h ⊢
  | .int x, b, h => by cases b <;> simp [D.alike] at h ⊢
  | .str x, b, h => by cases b <;> simp [D.alike] at h ⊢
  | .lst xs, b, h => by cases b <;> simp [D.alike] at h ⊢; exact alikes_sym xs _ h
  | .tup xs, b, h => by cases b <;> simp [D.alike] at h ⊢; exact alikes_sym xs _ h
  | .dct _, b, h => by cases b <;> simp [D.alike] at h
  | .fn _, b, h => by cases b <;> simp [D.alike] at h
  | .box, b, h => by cases b <;> simp [D.alike] at h
theorem alikes_sym : ∀ (xs ys : List D), D.alikes xs ys = true → D.alikes ys xs = true
  | [], ys, _ => by cases ys <;> simp [D.alikes]
  | x :: xs, [], _ => by simp [D.alikes]
  | x :: xs, y :: ys, h => by
    simp only [D.alikes, Bool.and_eq_true] at h ⊢
    exact ⟨alike_sym x y h.1, alikes_sym xs ys h.2⟩
end
theorem sortable_sub {xs ys : List D} (h : sortable xs = true) (hl : ys.length ≤ xs.length) (hm : ∀ y ∈ ys, y ∈ xs) : sortable ys = true := by
  unfold sortable at h ⊢
  simp only [Bool.and_eq_true, Bool.or_eq_true, decide_eq_true_eq, List.all_eq_true] at h ⊢
  obtain ⟨⟨⟨h1, h2⟩, h3⟩, h4⟩ := h
  exact ⟨⟨⟨Nat.le_trans hl h1, fun y hy => h2 y (hm y hy)⟩, h3.imp (fun z y hy => z y (hm y hy)) fun z y hy => z y (hm y hy)⟩, fun y hy z hz => h4 y (hm y hy) z (hm z hz)⟩
/-- rows that are permuted are sorted alike -/
theorem sortD_perm {xs ys : List D} (h : sortable xs = true) (p : ys.Perm xs) : sortD ys = sortD xs := by
  have hy : sortable ys = true := sortable_sub h (Nat.le_of_eq p.length_eq) fun y hy => p.mem_iff.mp hy
  rw [← sortD_merge h, ← sortD_merge hy]
  have t : PySem.W.TotalLe (PySem.W.dataLe false toPy) := PySem.W.sortLe_total _ _ _
  have al : ∀ a ∈ xs, ∀ b ∈ xs, PySem.W.dataLe false toPy a b = !D.lt b a := (sortable_of h).2.2.2.2
  have px := List.mergeSort_perm xs (PySem.W.dataLe false toPy)
  have py := List.mergeSort_perm ys (PySem.W.dataLe false toPy)
  refine List.Perm.eq_of_pairwise (le := fun a b => PySem.W.dataLe false toPy a b = true) (fun a b ha hb h1 h2 => ?_) (List.pairwise_mergeSort t.trans (fun a b => by rw [Bool.or_eq_true]; exact t.total a b) ys) (List.pairwise_mergeSort t.trans (fun a b => by rw [Bool.or_eq_true]; exact t.total a b) xs) (py.trans (p.trans px.symm))
  have ma : a ∈ xs := p.mem_iff.mp (py.mem_iff.mp ha)
  have mb : b ∈ xs := px.mem_iff.mp hb
  rw [al a ma b mb] at h1
  rw [al b mb a ma] at h2
  have q : D.alike a b = true ∧ a.plain = true := by
    unfold sortable at h
    simp only [Bool.and_eq_true, List.all_eq_true] at h
    exact ⟨h.2 a ma b mb, (ok_of (h.1.1.2 a ma)).1⟩
  exact lt_tri a b q.2 q.1 (by simpa using h2) (by simpa using h1)
section
variable {κ : Type} {f : D → κ} {S : List D}
theorem memD_iff {x : D} : ∀ {ys : List D}, memD x ys = true ↔ ∃ y ∈ ys, D.eq y x = true
  | [] => by simp [memD]
  | y :: ys => by simp [memD, memD_iff (ys := ys)]
theorem distinct_facts (hf : ∀ a ∈ S, ∀ b ∈ S, D.eq a b = true ↔ f a = f b) : ∀ (xs acc : List D), (∀ d ∈ xs, d ∈ S) → (∀ d ∈ acc, d ∈ S) → (acc.map f).Nodup →
    ((distinct acc xs).map f).Nodup ∧ (∀ d ∈ distinct acc xs, d ∈ acc ∨ d ∈ xs) ∧ ∀ d, d ∈ acc ∨ d ∈ xs → f d ∈ (distinct acc xs).map f
  | [], acc, _, _, nd => by
    rw [distinct]
    refine ⟨by rw [List.map_reverse]; exact (List.reverse_perm _).nodup_iff.mpr nd, fun d hd => .inl (List.mem_reverse.mp hd), fun d hd => ?_⟩
    rcases hd with hd | hd
    · exact List.mem_map_of_mem (List.mem_reverse.mpr hd)
    · cases hd
  | x :: xs, acc, h1, h2, nd => by
    have hx := h1 x List.mem_cons_self
    have h1' : ∀ d ∈ xs, d ∈ S := fun d hd => h1 d (List.mem_cons_of_mem _ hd)
    rw [distinct]
    split
    · rename_i hm
      obtain ⟨y, hy, e⟩ := memD_iff.mp hm
      obtain ⟨a1, a2, a3⟩ := distinct_facts hf xs acc h1' h2 nd
      refine ⟨a1, fun d hd => (a2 d hd).imp id fun z => List.mem_cons_of_mem _ z, fun d hd => ?_⟩
      rcases hd with hd | hd
      · exact a3 d (.inl hd)
      · rcases List.mem_cons.mp hd with rfl | hd
        · rw [← (hf y (h2 y hy) _ hx).mp e]
          exact a3 y (.inl hy)
        · exact a3 d (.inr hd)
    · rename_i hm
      have h2' : ∀ d ∈ x :: acc, d ∈ S := fun d hd => (List.mem_cons.mp hd).elim (fun e => e ▸ hx) (h2 d)
      have nd' : ((x :: acc).map f).Nodup := by
        rw [List.map_cons, List.nodup_cons]
        refine ⟨fun z => hm ?_, nd⟩
        obtain ⟨y, hy, e⟩ := List.mem_map.mp z
        exact memD_iff.mpr ⟨y, hy, (hf y (h2 y hy) x hx).mpr e⟩
      obtain ⟨a1, a2, a3⟩ := distinct_facts hf xs (x :: acc) h1' h2' nd'
      refine ⟨a1, fun d hd => ?_, fun d hd => ?_⟩
      · rcases a2 d hd with z | z
        · rcases List.mem_cons.mp z with rfl | z
          · exact .inr List.mem_cons_self
          · exact .inl z
        · exact .inr (List.mem_cons_of_mem _ z)
      · rcases hd with hd | hd
        · exact a3 d (.inl (List.mem_cons_of_mem _ hd))
        · rcases List.mem_cons.mp hd with rfl | hd
          · exact a3 _ (.inl List.mem_cons_self)
          · exact a3 d (.inr hd)
/-- what has each key once -/
theorem distinct_len {E : List D} (hf : ∀ a ∈ S, ∀ b ∈ S, D.eq a b = true ↔ f a = f b) (nd : (E.map f).Nodup) (h1 : ∀ d ∈ E, d ∈ S) (h2 : ∀ d ∈ S, f d ∈ E.map f) : E.length = (distinct [] S).length := by
  obtain ⟨a1, a2, a3⟩ := distinct_facts hf S [] (fun d hd => hd) (fun d hd => (by cases hd)) List.nodup_nil
  have p : (E.map f).Perm ((distinct [] S).map f) := (List.perm_ext_iff_of_nodup nd a1).mpr fun k => ⟨fun hk => by
    obtain ⟨d, hd, rfl⟩ := List.mem_map.mp hk
    exact a3 d (.inr (h1 d hd)), fun hk => by
    obtain ⟨d, hd, rfl⟩ := List.mem_map.mp hk
    rcases a2 d hd with z | z
    · cases z
    · exact h2 d z⟩
  have := p.length_eq
  rwa [List.length_map, List.length_map] at this
theorem distinct_perm {E : List D} (hf : ∀ a ∈ S, ∀ b ∈ S, D.eq a b = true ↔ f a = f b) (al : ∀ a ∈ S, ∀ b ∈ S, D.alike a b = true) (nd : (E.map f).Nodup) (h1 : ∀ d ∈ E, d ∈ S) (h2 : ∀ d ∈ S, f d ∈ E.map f) : E.Perm (distinct [] S) := by
  obtain ⟨a1, a2, a3⟩ := distinct_facts hf S [] (fun d hd => hd) (fun d hd => (by cases hd)) List.nodup_nil
  have un : ∀ a ∈ S, ∀ b ∈ S, f a = f b → a = b := fun a ha b hb e => alike_eq a b (al a ha b hb) ((hf a ha b hb).mpr e)
  have a2' : ∀ d ∈ distinct [] S, d ∈ S := fun d hd => (a2 d hd).elim (fun z => by cases z) id
  refine (List.perm_ext_iff_of_nodup (nodup_of_map nd) (nodup_of_map a1)).mpr fun d => ⟨fun hd => ?_, fun hd => ?_⟩
  · obtain ⟨y, hy, e⟩ := List.mem_map.mp (a3 d (.inr (h1 d hd)))
    rw [← un y (a2' y hy) d (h1 d hd) e]
    exact hy
  · obtain ⟨y, hy, e⟩ := List.mem_map.mp (h2 d (a2' d hd))
    rw [← un y (h1 y hy) d (a2' d hd) e]
    exact hy
end
end Ev
/-! EvS7: sorted(set(..)), len(set(..)). -/
namespace Ev
open PySem PySem.Spec PyProof.Rows L2
open Tr
variable {c : Cs}
def ukOf (tup : Bool) (d : D) : UK := if tup then .n (toKey d) else .l (toK d)
theorem ukOf_eq {tup : Bool} {a b : D} (ha : if tup then a.tkey = true else a.leaf = true) (hb : if tup then b.tkey = true else b.leaf = true) : D.eq a b = true ↔ ukOf tup a = ukOf tup b := by
  cases tup with
  | true =>
    simp only [if_true] at ha hb
    rw [tkey_eq ha hb, decide_eq_true_eq]
    unfold ukOf
    simp
  | false =>
    simp only [Bool.false_eq_true, if_false] at ha hb
    unfold ukOf
    simp only [Bool.false_eq_true, if_false, UK.l.injEq]
    cases a <;> simp [D.leaf] at ha <;> cases b <;> simp [D.leaf] at hb <;> simp [D.eq, toK, eqNats_iff, toStr_inj]
theorem perm_lift {α β : Type} {f : α → β} : ∀ {l : List β} {m : List α}, l.Perm (m.map f) → ∃ m' : List α, m'.Perm m ∧ l = m'.map f
  | [], m, p => by
    have := p.symm.eq_nil
    rw [List.map_eq_nil_iff] at this
    subst this
    exact ⟨[], .nil, rfl⟩
  | b :: l, m, p => by
    obtain ⟨x, hx, rfl⟩ := List.mem_map.mp (p.mem_iff.mp List.mem_cons_self)
    obtain ⟨s, t, rfl⟩ := List.append_of_mem hx
    have q : ((s ++ x :: t).map f).Perm (f x :: (s ++ t).map f) := by
      rw [← List.map_cons]
      exact List.perm_middle.map f
    obtain ⟨m', p1, rfl⟩ := perm_lift (f := f) (m := s ++ t) (List.Perm.cons_inv (p.trans q))
    exact ⟨x :: m', (p1.cons x).trans List.perm_middle.symm, rfl⟩
/-- a row of a set is a datum's -/
def RowD (c : Cs) (b0 : Addr) (B : Addr → Prop) (H : Hp) (tup : Bool) (xs : List D) (r : URow) (d : D) : Prop := d ∈ xs ∧ r.2 = ukOf tup d ∧ ∃ v, Rz c b0 B H d v ∧ RelV v r.1
section
variable {b0 : Addr} {B : Addr → Prop} {H : Hp} {tup : Bool} {xs : List D}
theorem rows_data : ∀ {L : List URow}, (∀ r ∈ L, ∃ d, RowD c b0 B H tup xs r d) → ∃ E : List D, Paired (RowD c b0 B H tup xs) L E
  | [], _ => ⟨[], .nil⟩
  | r :: L, h => by
    obtain ⟨d, hd⟩ := h r List.mem_cons_self
    obtain ⟨E, hE⟩ := rows_data fun r' hr' => h r' (List.mem_cons_of_mem _ hr')
    exact ⟨d :: E, .cons hd hE⟩
theorem paired_keys : ∀ {L : List URow} {E : List D}, Paired (RowD c b0 B H tup xs) L E → E.map (ukOf tup) = L.map (·.2) ∧ (∀ d ∈ E, d ∈ xs) ∧ ∃ vs, Vals vs (L.map (·.1)) ∧ Rzs c b0 B H E vs
  | _, _, .nil => ⟨rfl, fun d hd => (by cases hd), [], .nil, by rw [Rzs]⟩
  | r :: L, d :: E, .cons ⟨h1, h2, v, h3, h4⟩ t => by
    obtain ⟨k1, k2, vs, k3, k4⟩ := paired_keys t
    refine ⟨by rw [List.map_cons, List.map_cons, h2, k1], fun e he => (List.mem_cons.mp he).elim (fun z => z ▸ h1) (k2 e), v :: vs, .cons h4 k3, ?_⟩
    rw [Rzs]
    exact ⟨v, vs, rfl, h3, k4⟩
/-- the rows of a list of data -/
theorem rows_of : ∀ {ds : List D} {vs : List V} {us : List Value}, Rzs c b0 B H ds vs → Vals vs us → ∃ rs : List URow, rs.map (·.1) = us ∧ rs.map (·.2) = ds.map (ukOf tup) ∧ ∀ r ∈ rs, ∃ d, RowD c b0 B H tup ds r d
  | [], _, _, r, rv => by
    rw [Rzs] at r
    subst r
    cases rv
    exact ⟨[], rfl, rfl, fun r hr => (by cases hr)⟩
  | d :: ds, _, _, r, rv => by
    rw [Rzs] at r
    obtain ⟨v, q, rfl, r1, r2⟩ := r
    cases rv with
    | @cons _ u _ us k1 k2 =>
      obtain ⟨rs, e1, e2, e3⟩ := rows_of r2 k2
      refine ⟨(u, ukOf tup d) :: rs, by rw [List.map_cons, e1], by rw [List.map_cons, List.map_cons, e2], fun r hr => ?_⟩
      rcases List.mem_cons.mp hr with rfl | hr
      · exact ⟨d, List.mem_cons_self, rfl, v, r1, k1⟩
      · obtain ⟨d', h1, h2⟩ := e3 r hr
        exact ⟨d', List.mem_cons_of_mem _ h1, h2⟩
end
theorem SetU.out {P : Program} {w : World} {h : Heap} {a : Addr} {tup : Bool} {L : List URow} (S : SetU P w h a tup L) :
    ∃ o es ep t, h.get? a = some o ∧ o.ExactSet ∧ o.data = .set es ep t ∧ (es.toList.map (·.2)).Perm (L.map (·.1)) ∧ (L.map (·.2)).Nodup ∧ es.size = L.length ∧ t.fits es.size = true ∧ Ris t.place.toList ∧ (w.params.followText "set-order" = true ∨ t.led = true) ∧ L.length < 64 := by
  cases tup with
  | false =>
    obtain ⟨L0, es, ep, t, M, rfl⟩ := S
    obtain ⟨o, o1, o2, o3⟩ := M.ob
    refine ⟨o, es, ep, t, o1, o2, o3, ?_, ?_, by rw [← Array.length_toList, M.rows.length_eq, List.length_map, List.length_map], M.fits, M.ris, M.led, by rw [List.length_map]; exact M.few⟩
    · have := M.rows.map (·.2)
      rw [List.map_map] at this ⊢
      exact this
    · rw [List.map_map]
      have : (L0.map ((fun r : URow => r.2) ∘ fun r : LRow => ((r.1, UK.l r.2) : URow))) = (L0.map (·.2)).map UK.l := by rw [List.map_map]; rfl
      rw [this]
      exact List.Pairwise.map _ (fun a b n e => n (by cases e; rfl)) M.nd
  | true =>
    obtain ⟨L0, es, ep, t, M, rfl⟩ := S
    obtain ⟨o, o1, o2, o3⟩ := M.ob
    have fit : t.fits es.size = true := by
      have h1 := M.tab.sz
      rw [List.length_map] at h1
      have h2 := M.room
      rw [rows_size M.rows]
      exact fits_of h1 M.tab.dm (by omega)
    refine ⟨o, es, ep, t, o1, o2, o3, ?_, ?_, by rw [rows_size M.rows, List.length_map], fit, M.tab.ris, M.led, by rw [List.length_map]; exact M.few⟩
    · rw [M.rows, List.map_map, List.map_map]
      exact .refl _
    · rw [List.map_map]
      have : (L0.map ((fun r : URow => r.2) ∘ fun r : Row => ((Value.ref r.1, UK.n r.2) : URow))) = (L0.map (·.2)).map UK.n := by rw [List.map_map]; rfl
      rw [this]
      exact List.Pairwise.map _ (fun a b n e => n (by cases e; rfl)) M.nd
section
variable {X : Cx} {e : Expr} {me : Fm → Tr A} {p p2 pos pos2 : Pos}
/-- the set is made: what it holds -/
theorem set_made (F : Fit X c) {pins : List (Addr × Obj)} {s : Shared} {σ : L2.St} {H : Hp} (I : Inv X pins σ H s) {b0 : Addr} {B : Addr → Prop} {d : D} {v : V} {u : Value} (r : Rr c b0 B H d v) (rv : RelV v u) {xs : List D} (hx : setXs d = some xs) (hk : keysOk xs = true) {Q : Value → Shared → Prop} {E : Value → Shared → Prop}
    (q : ∀ (h' : Heap) (tk : Nat) (L : List URow) (D0 : List D) (tup : Bool), Inv X pins σ H { s with heap := h', toks := tk } → SetU X.prog X.w h' s.heap.objs.size tup L → Paired (RowD c b0 B H tup xs) L D0 → (∀ a ∈ xs, ∀ b ∈ xs, D.eq a b = true ↔ ukOf tup a = ukOf tup b) → (∀ a ∈ xs, ukOf tup a ∈ D0.map (ukOf tup)) → Q (.ref s.heap.objs.size) { s with heap := h', toks := tk }) :
    wpAny (model X.prog X.w) X.A (call (.type "set") [u]) Q E s := by
  unfold keysOk at hk
  rw [Bool.and_eq_true, Bool.or_eq_true, decide_eq_true_eq, List.all_eq_true, List.all_eq_true] at hk
  obtain ⟨hk, hl⟩ := hk
  have un := F.un
  -- which kind
  obtain ⟨tup, ht⟩ : ∃ tup : Bool, ∀ a ∈ xs, if tup then a.tkey = true else a.leaf = true := by
    rcases hk with hk | hk
    · exact ⟨false, fun a ha => by simpa using hk a ha⟩
    · exact ⟨true, fun a ha => by simpa using hk a ha⟩
  have isU : ∀ {r : URow}, (∃ d, RowD c b0 B H tup xs r d) → IsU X.prog X.w s.heap tup r.1 r.2 := fun {r} ⟨d, h1, h2, v, h3, h4⟩ => by
    rw [h2]
    have hd := ht d h1
    cases tup with
    | true =>
      simp only [if_true] at hd
      obtain ⟨b, e1, e2⟩ := tkey_is F I hd (.inl h3) h4
      exact ⟨rfl, b, e1, e2⟩
    | false =>
      simp only [Bool.false_eq_true, if_false] at hd
      have e1 := leaf_is (prog := X.prog) (w := X.w) hd (.inl h3) h4
      refine ⟨rfl, e1, ?_⟩
      rcases keyIs_shape e1 with ⟨i, t, _, e2⟩ | ⟨x, t, _, e2⟩ <;> rw [e2] <;> rfl
  have fin : ∀ {us : List Value} {vs : List V} {items : Array Value}, items.toList = us → Vals vs us → Rzs c b0 B H xs vs → ∃ rs : List URow, items.toList = rs.map (·.1) ∧ (∀ r ∈ rs, IsU X.prog X.w s.heap tup r.1 r.2) ∧ rs.length < 64 ∧
      ∀ (h' : Heap) (tk : Nat) L, SetU X.prog X.w h' s.heap.objs.size tup L → Have rs rs.length L → (∀ b o, s.heap.get? b = some o → h'.get? b = some o) → Q (.ref s.heap.objs.size) { s with heap := h', toks := tk } := fun {us vs items} e1 r1 r2 => by
    obtain ⟨rs, f1, f2, f3⟩ := rows_of (tup := tup) r2 r1
    have len : rs.length = xs.length := by
      have := congrArg List.length f2
      rwa [List.length_map, List.length_map] at this
    refine ⟨rs, by rw [e1, f1], fun r hr => isU (f3 r hr), by omega, fun h' tk L S g st => ?_⟩
    have gof : ∀ r ∈ L, r ∈ rs := fun r hr => List.mem_of_mem_take (g.of r hr)
    have gall : ∀ r ∈ rs, r.2 ∈ L.map (·.2) := fun r hr => g.got r (by rw [List.take_length]; exact hr)
    obtain ⟨D0, hD⟩ := rows_data fun r hr => f3 r (gof r hr)
    refine q h' tk L D0 tup (I.kept st) S hD (fun a ha b hb => ukOf_eq (ht a ha) (ht b hb)) fun a ha => ?_
    rw [(paired_keys hD).1]
    have : ukOf tup a ∈ rs.map (·.2) := by rw [f2]; exact List.mem_map_of_mem ha
    obtain ⟨r, hr, e⟩ := List.mem_map.mp this
    rw [← e]
    exact gall r hr
  cases d with
  | lst ys =>
    simp only [setXs, Option.some.injEq] at hx
    subst hx
    obtain ⟨a, vs, rfl, h, rs⟩ := r.lst
    cases rv
    obtain ⟨its, r1, pl, hz⟩ := I.list (SqL.of h)
    obtain ⟨rs', g1, g2, g3, g4⟩ := fin (items := its.toArray) (by simp) r1 rs
    exact call_setU_list tup rs' (I.ok.hd F.calm) pl.isList g1 g2 g3 (by omega) g4
  | tup ys =>
    simp only [setXs, Option.some.injEq] at hx
    subst hx
    obtain ⟨a, vs, rfl, h, rs⟩ := r.tup
    cases rv
    obtain ⟨its, r1, pl, hz⟩ := I.tuple (h.at F.K)
    obtain ⟨rs', g1, g2, g3, g4⟩ := fin (items := its.toArray) (by simp) r1 rs
    exact call_setU_tuple tup rs' (I.ok.hd F.calm) pl g1 g2 g3 (by omega) g4
  | _ => simp [setXs] at hx
end
end Ev
/-! EvS8: sorted(set(..)), len(set(..)) as expressions. -/
namespace Ev
open PySem PySem.Spec PyProof.Rows L2
open Tr
variable {c : Cs}
theorem distinct_le : ∀ (xs acc : List D), (distinct acc xs).length ≤ acc.length + xs.length
  | [], acc => by rw [distinct, List.length_reverse]; exact Nat.le_refl _
  | x :: xs, acc => by
    rw [distinct]
    split
    · have := distinct_le xs acc
      rw [List.length_cons]
      omega
    · have := distinct_le xs (x :: acc)
      rw [List.length_cons] at this ⊢
      omega
section
variable {X : Cx} {e : Expr} {me : Fm → Tr A} {p p2 pos pos2 : Pos}
/-- what is measured, what is sorted -/
theorem set_len {pins : List (Addr × Obj)} {σ : L2.St} {H : Hp} {g : Gh} {s : Shared} {h' : Heap} {tk : Nat} {a : Addr} {L : List URow} {D0 xs : List D} {tup : Bool} (I : Inv X pins σ H { s with heap := h', toks := tk }) (S : SetU X.prog X.w h' a tup L) (hD : Paired (RowD c g.b0 g.B H tup xs) L D0)
    (he : ∀ a ∈ xs, ∀ b ∈ xs, D.eq a b = true ↔ ukOf tup a = ukOf tup b) (hc : ∀ a ∈ xs, ukOf tup a ∈ D0.map (ukOf tup)) {Q : VK} (q : ∀ v H', Same H H' → Rn c g H H' (cl (.int (distinct [] xs).length)) v → Q v H') :
    wpAny (model X.prog X.w) X.A (call (.builtin "len") [.ref a]) (EP X pins σ Q) X.xe { s with heap := h', toks := tk } := by
  obtain ⟨o, es, ep, t, o1, o2, o3, pm, nd, sz, fit, ris, led, few⟩ := S.out
  obtain ⟨k1, k2, _⟩ := paired_keys hD
  have len : D0.length = (distinct [] xs).length := distinct_len he (by rw [k1]; exact nd) k2 hc
  have len2 : L.length = D0.length := by
    have := congrArg List.length k1
    rw [List.length_map, List.length_map] at this
    exact this.symm
  refine call_len_set o1 o2 o3 fit (by omega) ⟨.int (distinct [] xs).length, H, I.tok _, ⟨_, by rw [sz, len2, len]⟩, q _ _ (Same.refl H) rn_int⟩
theorem set_sorted (F : Fit X c) {pins : List (Addr × Obj)} {σ : L2.St} {H : Hp} {g : Gh} (hb : Bars g) {s : Shared} {h' : Heap} {tk : Nat} {a : Addr} {L : List URow} {D0 xs : List D} {tup : Bool} (I : Inv X pins σ H { s with heap := h', toks := tk }) (S : SetU X.prog X.w h' a tup L) (hD : Paired (RowD c g.b0 g.B H tup xs) L D0)
    (he : ∀ a ∈ xs, ∀ b ∈ xs, D.eq a b = true ↔ ukOf tup a = ukOf tup b) (hc : ∀ a ∈ xs, ukOf tup a ∈ D0.map (ukOf tup)) (hs : sortable xs = true) {Q : VK} (q : ∀ v H', Same H H' → Rn c g H H' (fr (.lst (sortD (distinct [] xs)))) v → Q v H') :
    wpAny (model X.prog X.w) X.A (call (.builtin "sorted") [.ref a]) (EP X pins σ Q) X.xe { s with heap := h', toks := tk } := by
  obtain ⟨o, es, ep, t, o1, o2, o3, pm, nd, sz, fit, ris, led, few⟩ := S.out
  refine Calls.call_function_entry kind_sorted plain_sorted entry_sorted (args_sorted1 _) ?_
  unfold Builtin.«sorted»
  refine wpAny_bind (m := checkCount "sorted" 1 1 _) (wpAny_pure ?_)
  refine wpAny_bind (collect_set (A := X.A.in1) (I.ok.hd F.calm) ⟨o, o1, o2.1, o3⟩ fit (by unfold scanBound; omega) ris led fun s1 vs kp hz hg ho pv => ?_)
  have I1 : Inv X pins σ H s1 := I.call' (ch := []) ho (Un.kept kp) (I.kept (t' := tk) kp).hok (by rw [hg]; exact I.bare) fun _ z => nomatch z
  obtain ⟨L', pL, rfl⟩ := perm_lift (pv.trans pm)
  have hrow : ∀ {L : List URow} {E : List D}, Paired (RowD c g.b0 g.B H tup xs) L E → ∀ r ∈ L, ∃ d, RowD c g.b0 g.B H tup xs r d := fun h => by
    induction h with
    | nil => intro r hr; cases hr
    | cons h1 _ ih => exact fun r hr => (List.mem_cons.mp hr).elim (fun e => e ▸ ⟨_, h1⟩) (ih r)
  obtain ⟨E, hE⟩ := rows_data fun r hr => hrow hD r (pL.mem_iff.mp hr)
  obtain ⟨k1, k2, vs, k3, k4⟩ := paired_keys hE
  have kD := (paired_keys hD).1
  have pk : (E.map (ukOf tup)).Perm (D0.map (ukOf tup)) := by rw [k1, kD]; exact pL.map _
  have al : ∀ a ∈ xs, ∀ b ∈ xs, D.alike a b = true := fun a ha b hb => by
    unfold sortable at hs
    simp only [Bool.and_eq_true, List.all_eq_true] at hs
    exact hs.2 a ha b hb
  have pE : E.Perm (distinct [] xs) := distinct_perm he al (pk.nodup_iff.mpr (by rw [kD]; exact nd)) k2 fun d hd => pk.mem_iff.mpr (hc d hd)
  obtain ⟨_, d2, _⟩ := distinct_facts he xs [] (fun d hd => hd) (fun d hd => (by cases hd)) List.nodup_nil
  have dl : (distinct [] xs).length ≤ xs.length := by
    have := distinct_le xs []
    simpa using this
  have sd : sortable (distinct [] xs) = true := sortable_sub hs dl fun d hd => (d2 d hd).elim (fun z => by cases z) id
  have sE : sortable E = true := sortable_sub sd (Nat.le_of_eq pE.length_eq) fun d hd => pE.mem_iff.mp hd
  have eq := sortD_perm sd pE
  refine wpAny_bind (wpAny_newList ?_ (by rw [List.length_map, pL.length_eq, sizeLine_eq]; omega))
  refine wpAny_bind (wpAny_holding (thn (sort_new F hb I1 k4 k3 sE (Q := Q) fun v H' hsm hn => q v H' hsm (by rw [← eq]; exact hn)) fun _ s2 hq => ?_))
  exact wpAny_pure ⟨_, rfl, hq⟩
/-- sorted(set(e)), len(set(e)) -/
theorem e_set (F : Fit X c) {k : Bi} {s : Str} (hk : (k = .sortedSet ∧ s = "sorted") ∨ (k = .lenSet ∧ s = "len")) (hg : Gl X s) (hm : X.mg s = none) (hg2 : Gl X "set") (hm2 : X.mg "set" = none) (hst : noStar e = true) (he : PE X e (tM c me)) :
    PE X (.Call (.Name s p) [.Call (.Name "set" p2) [e] [] pos2] [] pos) (tM c fun f => (me f).bind fun x => ofO (biD k [x.d])) := by
  have na : starEach [e] X.env = (false, eval e X.env) :: starEach [] X.env := noStar_each hst _ _
  have key : ∀ {id : String}, bootBuiltins s = some (.builtin id) → (s == ("__debug__" : Str)) = false → s ≠ "__name__" → (∀ {pins : List (Addr × Obj)} {σ : L2.St} {H : Hp} {g : Gh} {s1 : Shared} {h' : Heap} {tk : Nat} {a : Addr} {L : List URow} {D0 xs : List D} {tup : Bool} {z : A} {d : D}, Bars g → Inv X pins σ H { s1 with heap := h', toks := tk } → SetU X.prog X.w h' a tup L → Paired (RowD c g.b0 g.B H tup xs) L D0 →
      (∀ a ∈ xs, ∀ b ∈ xs, D.eq a b = true ↔ ukOf tup a = ukOf tup b) → (∀ a ∈ xs, ukOf tup a ∈ D0.map (ukOf tup)) → setXs d = some xs → biD k [d] = some z → ∀ {Q : VK}, (∀ v H', Same H H' → Rn c g H H' z v → Q v H') → wpAny (model X.prog X.w) X.A (call (.builtin id) [.ref a]) (EP X pins σ Q) X.xe { s1 with heap := h', toks := tk }) →
      (∀ d z, biD k [d] = some z → ∃ xs, setXs d = some xs ∧ keysOk xs = true) → PE X (.Call (.Name s p) [.Call (.Name "set" p2) [e] [] pos2] [] pos) (tM c fun f => (me f).bind fun x => ofO (biD k [x.d])) := fun {id} hb hdb hn run dom => by
    refine ⟨fun pins s0 σ H Q I ⟨g, f, Fr, h⟩ => ?_⟩
    have hme : tM c me σ H fun v H1 => ∃ (x z : A), biD k [x.d] = some z ∧ Rr c g.b0 g.B H1 x.d v ∧ ∀ v' H', Same H1 H' → Rn c g H1 H' z v' → Q v' H' := ⟨g, f, Fr, (all_bind.mp h).mono fun x hx v H1 s1 b1 r1 => by
      obtain ⟨z, ez, q⟩ := all_ofO.mp hx
      exact ⟨x, z, ez, (r1.rw Fr.dom).rr, fun v' H' sm rn => q v' H' (s1.trans (.of_same sm)) (b1.same sm) (rn.early b1 s1)⟩⟩
    refine Call_ (ld_blt I hg hm hb ?_ hn hdb)
    refine PyProof.Rows.callWith_builtin1 (PyProof.Rows.args_cons ?_ rfl) rfl rfl
    refine Call_ (ld_blt I hg2 hm2 boot_set ?_)
    refine PyProof.Rows.callWith_type1 (PyProof.Rows.args_cons (thn (he.run pins s0 σ H _ I hme) fun u s1 ⟨v, H1, I1, r1, x, z, ez, rr, q1⟩ => PyProof.Rows.args_nil ?_) na) na rfl
    obtain ⟨xs, e1, e2⟩ := dom _ _ ez
    refine set_made F I1 rr r1 e1 e2 fun h' tk L D0 tup I2 S hD h1 h2 => ?_
    exact PyProof.Rows.args_nil (run Fr.bars I2 S hD h1 h2 e1 ez q1)
  rcases hk with ⟨rfl, rfl⟩ | ⟨rfl, rfl⟩
  · refine key (id := "sorted") rfl (by decide) (by decide) (fun {pins σ H g s1 h' tk a L D0 xs tup z d} hb I2 S hD h1 h2 e1 ez {Q} q => ?_) fun d z hz => ?_
    · simp only [biD, e1] at ez
      split at ez
      · rename_i hks
        simp only [Option.some.injEq] at ez
        subst ez
        rw [Bool.and_eq_true] at hks
        exact set_sorted F hb I2 S hD h1 h2 hks.2 q
      · cases ez
    · simp only [biD] at hz
      split at hz
      · rename_i xs hx
        split at hz
        · rename_i hks
          rw [Bool.and_eq_true] at hks
          exact ⟨xs, hx, hks.1⟩
        · cases hz
      · cases hz
  · refine key (id := "len") rfl (by decide) (by decide) (fun {pins σ H g s1 h' tk a L D0 xs tup z d} hb I2 S hD h1 h2 e1 ez {Q} q => ?_) fun d z hz => ?_
    · simp only [biD, e1] at ez
      split at ez
      · simp only [Option.some.injEq] at ez
        subst ez
        exact set_len I2 S hD h1 h2 q
      · cases ez
    · simp only [biD] at hz
      split at hz
      · rename_i xs hx
        split at hz
        · rename_i hks
          exact ⟨xs, hx, hks⟩
        · cases hz
      · cases hz
end
end Ev
/-! EvZ1: a zip whose last tuple is still held (any two sources), and its items gathered in a list. -/
namespace Ev
open PySem PySem.Spec PyProof.Rows
open PySem (codeAny_builtin)
section
variable {prog : Program} {w : World} {A : Around} {E : Value → Shared → Prop} {s : Shared} {z TI TO T i1 i2 : Addr} {fp1 fp2 : List Addr} {n1 n2 i : Nat} {P1 P2 : Nat → Value → Prop} {St1 St2 : Nat → Heap → Prop} {f : Bool} {oT : Obj}
theorem zh_item {Q : Value → Shared → Prop} (S : ZipSep2 z TI TO i1 i2 fp1 fp2) (D1 : Draws prog w A i1 fp1 n1 P1 St1) (D2 : Draws prog w A i2 fp2 n2 P2 St2)
    (hz : IsZipHeld s.heap z TI TO T f) (hT : s.heap.get? T = some oT) (hTI : IsTupOf2 s.heap TI (.ref i1) (.ref i2)) (st1 : St1 i s.heap) (st2 : St2 i s.heap) (l1 : i < n1) (l2 : i < n2)
    (q : ∀ x y h' tk, P1 i x → P2 i y → IsZipHeld h' z TI TO T true → St1 (i + 1) h' → St2 (i + 1) h' → IsTupOf2 h' s.heap.objs.size x y → h'.objs.size = s.heap.objs.size + 1 →
      (∀ b o, b ≠ z → b ≠ i1 → b ≠ i2 → s.heap.get? b = some o → h'.get? b = some o) → Q (.ref s.heap.objs.size) { s with heap := h', toks := tk }) :
    wpAny (model prog w) A (Builtin.«zip.__next__» ⟨[.ref z], []⟩) (fun fin s' => ∃ v, fin = .done (.ret v) ∧ Q v s') E s := by
  obtain ⟨hp, ge, dr, t0, os⟩ := s
  dsimp only at *
  show wpAny _ _ (field (.ref z) 2 >>= _) _ _ _
  refine wpAny_bind (wpAny_field hz rfl (x := .bool false) rfl ?_)
  show wpAny _ _ (field (.ref z) 3 >>= _) _ _ _
  refine wpAny_bind (wpAny_field hz rfl (x := .ref TI) rfl ?_)
  refine wpAny_bind (wpAny_seqItems hTI rfl ?_)
  show wpAny _ _ (Builtin.SmallTypes.ownedTupleIsFree (.ref z) >>= _) _ _ _
  refine wpAny_bind (wpAny_tupleHeld_zip hz hT fun g0 z0 b0 => ?_)
  dsimp only at b0
  simp only [Bool.false_eq_true, if_false]
  refine wpAny_bind ?_
  rw [← Array.forIn_toList]
  simp only [List.forIn_cons, List.forIn_nil]
  refine wpAny_bind (wpAny_bind (wpAny_holding ?_))
  show wpAny _ _ (Builtin.SmallTypes.nextOf (.ref i1) >>= _) _ _ ⟨g0, ge, dr, t0, os⟩
  refine wpAny_bind (D1.item i ⟨g0, ge, dr, t0, os⟩ _ _ l1 (D1.over st1 b0 S.zf1) fun x g1 t1 p1 s1 b1 => wpAny_pure ?_)
  dsimp only at b1
  refine wpAny_pure ?_
  refine wpAny_bind (wpAny_bind (wpAny_holding ?_))
  show wpAny _ _ (Builtin.SmallTypes.nextOf (.ref i2) >>= _) _ _ ⟨g1, ge, dr, t1, os⟩
  refine wpAny_bind (D2.item i ⟨g1, ge, dr, t1, os⟩ _ _ l2 (D2.over (D2.over st2 b0 S.zf2) b1 S.sep1_2) fun y g2 t2 p2 s2 b2 => wpAny_pure ?_)
  dsimp only at b2
  refine wpAny_pure (wpAny_pure ?_)
  show wpAny _ _ (newTuple [x, y] >>= _) _ _ _
  refine wpAny_bind (wpAny_newTuple ?_)
  have same : g2.objs.size = hp.objs.size := by rw [b2.1, b1.1, b0.1]
  have old : ∀ b o, b ≠ z → b ≠ i1 → b ≠ i2 → hp.get? b = some o → g2.get? b = some o := fun b o c0 c1 c2 e => b2.extBut _ _ c2 (b1.extBut _ _ c1 (b0.extBut _ _ c0 e))
  have z2 : IsZipHeld g2 z TI TO T true := b2.extBut _ _ S.zi2 (b1.extBut _ _ S.zi1 z0)
  have up : ∀ b o, g2.get? b = some o → (g2.push { cls := .type "tuple", data := .seq #[x, y] }).get? b = some o := fun b o e => Heap.get?_push_of_some _ e
  have new : IsTupOf2 (g2.push { cls := .type "tuple", data := .seq #[x, y] }) g2.objs.size x y := Heap.get?_push_size _ rfl
  have cnt : (g2.push { cls := .type "tuple", data := .seq #[x, y] }).objs.size = g2.objs.size + 1 := Heap.size_push ..
  refine wpAny_pure ⟨_, rfl, ?_⟩
  show Q (.ref g2.objs.size) _
  rw [same] at new cnt ⊢
  exact q x y _ t2 p1 p2 (up _ _ z2) (D1.frame _ _ _ (D1.over s1 b2 S.sep2_1) fun b _ o e => up b o e) (D2.frame _ _ _ s2 fun b _ o e => up b o e) new cnt fun b o c0 c1 c2 e => up b o (old b o c0 c1 c2 e)
theorem zh_end {Q : Fin → Shared → Prop} (S : ZipSep2 z TI TO i1 i2 fp1 fp2) (D1 : Draws prog w A i1 fp1 n1 P1 St1) (D2 : Draws prog w A i2 fp2 n2 P2 St2)
    (hz : IsZipHeld s.heap z TI TO T f) (hT : s.heap.get? T = some oT) (hTI : IsTupOf2 s.heap TI (.ref i1) (.ref i2)) (st1 : St1 i s.heap) (st2 : St2 i s.heap) (l1 : i ≤ n1) (l2 : i ≤ n2) (last : i = n1 ∨ i = n2)
    (q : ∀ h' tk e, (∀ b o, b ≠ z → b ≠ i1 → b ≠ i2 → s.heap.get? b = some o → h'.get? b = some o) → (∃ o, h'.get? e = some o ∧ o.cls = .type "StopIteration") → E (.ref e) { s with heap := h', toks := tk }) :
    wpAny (model prog w) A (Builtin.«zip.__next__» ⟨[.ref z], []⟩) Q E s := by
  obtain ⟨hp, ge, dr, t0, os⟩ := s
  dsimp only at *
  show wpAny _ _ (field (.ref z) 2 >>= _) _ _ _
  refine wpAny_bind (wpAny_field hz rfl (x := .bool false) rfl ?_)
  show wpAny _ _ (field (.ref z) 3 >>= _) _ _ _
  refine wpAny_bind (wpAny_field hz rfl (x := .ref TI) rfl ?_)
  refine wpAny_bind (wpAny_seqItems hTI rfl ?_)
  show wpAny _ _ (Builtin.SmallTypes.ownedTupleIsFree (.ref z) >>= _) _ _ _
  refine wpAny_bind (wpAny_tupleHeld_zip hz hT fun g0 z0 b0 => ?_)
  dsimp only at b0
  simp only [Bool.false_eq_true, if_false]
  refine wpAny_bind ?_
  rw [← Array.forIn_toList]
  simp only [List.forIn_cons, List.forIn_nil]
  refine wpAny_bind (wpAny_bind (wpAny_holding ?_))
  show wpAny _ _ (Builtin.SmallTypes.nextOf (.ref i1) >>= _) _ _ ⟨g0, ge, dr, t0, os⟩
  by_cases lt : i < n1
  · refine wpAny_bind (D1.item i ⟨g0, ge, dr, t0, os⟩ _ _ lt (D1.over st1 b0 S.zf1) fun x g1 t1 p1 s1 b1 => wpAny_pure ?_)
    dsimp only at b1
    refine wpAny_pure ?_
    refine wpAny_bind (wpAny_bind (wpAny_holding ?_))
    show wpAny _ _ (Builtin.SmallTypes.nextOf (.ref i2) >>= _) _ _ ⟨g1, ge, dr, t1, os⟩
    have e2 : i = n2 := by omega
    refine wpAny_bind (D2.done ⟨g1, ge, dr, t1, os⟩ _ _ (by rw [← e2]; exact D2.over (D2.over st2 b0 S.zf2) b1 S.sep1_2) fun g2 e b2 he => ?_)
    dsimp only at b2
    exact q g2 t1 e (fun b o c0 c1 c2 e => b2 _ _ c2 (b1.extBut _ _ c1 (b0.extBut _ _ c0 e))) he
  · have e1 : i = n1 := by omega
    refine wpAny_bind (D1.done ⟨g0, ge, dr, t0, os⟩ _ _ (by rw [← e1]; exact D1.over st1 b0 S.zf1) fun g1 e b1 he => ?_)
    dsimp only at b1
    exact q g1 t0 e (fun b o c0 c1 c2 e => b1 _ _ c1 (b0.extBut _ _ c0 e)) he
theorem zh_next {Q : Option Value → Shared → Prop} (S : ZipSep2 z TI TO i1 i2 fp1 fp2) (D1 : Draws prog w A.in1 i1 fp1 n1 P1 St1) (D2 : Draws prog w A.in1 i2 fp2 n2 P2 St2)
    (hz : IsZipHeld s.heap z TI TO T f) (hT : s.heap.get? T = some oT) (hTI : IsTupOf2 s.heap TI (.ref i1) (.ref i2)) (st1 : St1 i s.heap) (st2 : St2 i s.heap) (l1 : i < n1) (l2 : i < n2)
    (q : ∀ x y h' tk, P1 i x → P2 i y → IsZipHeld h' z TI TO T true → St1 (i + 1) h' → St2 (i + 1) h' → IsTupOf2 h' s.heap.objs.size x y → h'.objs.size = s.heap.objs.size + 1 →
      (∀ b o, b ≠ z → b ≠ i1 → b ≠ i2 → s.heap.get? b = some o → h'.get? b = some o) → Q (some (.ref s.heap.objs.size)) { s with heap := h', toks := tk }) :
    wpAny (model prog w) A (pyNext (.ref z)) Q E s := by
  have ty : s.TypeIs (.ref z) "zip" := ⟨_, hz, rfl⟩
  unfold pyNext
  refine wpAny_bind (wpAny_attempt (wpAny_callSpecial?_slot (name := Str.ofString "__next__") ty F.slot_zip_next (wpAny_call_entry F.slot_zip_next ty F.entry_zip_next ?_ (F.args_zip_next_1 _))))
  exact zh_item S D1 D2 hz hT hTI st1 st2 l1 l2 fun x y h' tk a1 a2 a3 a4 a5 a6 a7 a8 => wpAny_pure (q x y h' tk a1 a2 a3 a4 a5 a6 a7 a8)
theorem zh_stop {Q : Option Value → Shared → Prop} (S : ZipSep2 z TI TO i1 i2 fp1 fp2) (D1 : Draws prog w A.in1 i1 fp1 n1 P1 St1) (D2 : Draws prog w A.in1 i2 fp2 n2 P2 St2)
    (hz : IsZipHeld s.heap z TI TO T f) (hT : s.heap.get? T = some oT) (hTI : IsTupOf2 s.heap TI (.ref i1) (.ref i2)) (st1 : St1 i s.heap) (st2 : St2 i s.heap) (l1 : i ≤ n1) (l2 : i ≤ n2) (last : i = n1 ∨ i = n2)
    (q : ∀ h' tk, (∀ b o, b ≠ z → b ≠ i1 → b ≠ i2 → s.heap.get? b = some o → h'.get? b = some o) → Q none { s with heap := h', toks := tk }) :
    wpAny (model prog w) A (pyNext (.ref z)) Q E s := by
  have ty : s.TypeIs (.ref z) "zip" := ⟨_, hz, rfl⟩
  unfold pyNext
  refine wpAny_bind (wpAny_attempt (wpAny_callSpecial?_slot (name := Str.ofString "__next__") ty F.slot_zip_next (wpAny_call_entry F.slot_zip_next ty F.entry_zip_next (zh_end S D1 D2 hz hT hTI st1 st2 l1 l2 last fun h' tk e k he => ?_) (F.args_zip_next_1 _))))
  obtain ⟨o, ho, hc⟩ := he
  exact wpAny_bind (wpAny_isInstance (T := "StopIteration") (b := true) ⟨o, ho, hc⟩ isSubtype_stop (wpAny_pure (q _ _ k)))
end
/-! ### gathered -/
/-- where a zip stands in the midst of being gathered: none told yet, or the first tuple is still held -/
def ZSt (z TI TO i1 i2 S : Addr) (St1 St2 : Nat → Heap → Prop) (i : Nat) (h : Heap) : Prop :=
  IsTupOf2 h TI (.ref i1) (.ref i2) ∧ St1 i h ∧ St2 i h ∧ ((IsZip h z TI TO .none ∧ ∃ x y, IsTupOf2 h TO x y) ∨ ∃ T f o, IsZipHeld h z TI TO T f ∧ h.get? T = some o ∧ T ≠ z ∧ T ≠ i1 ∧ T ≠ i2 ∧ T ≠ S)
/-- the tuples that were given out: their addresses and what they hold -/
structure ZGot (P1 P2 : Nat → Value → Prop) (lo : Addr) (h : Heap) (as : List Addr) (ps : List (Value × Value)) : Prop where
  dist : as.Nodup
  low : ∀ a ∈ as, lo ≤ a
  at' : Paired (fun (a : Addr) (p : Value × Value) => IsTupOf2 h a p.1 p.2) as ps
  of1 : ∀ j p, ps[j]? = some p → P1 j p.1 ∧ P2 j p.2
theorem paired_app {α β : Type} {R : α → β → Prop} : ∀ {as : List α} {bs : List β} {a : α} {b : β}, Paired R as bs → R a b → Paired R (as ++ [a]) (bs ++ [b])
  | _, _, _, _, .nil, r => .cons r .nil
  | _, _, _, _, .cons h t, r => .cons h (paired_app t r)
theorem paired_memL {α β : Type} {R : α → β → Prop} {a : α} : ∀ {as : List α} {bs : List β}, Paired R as bs → a ∈ as → ∃ b, b ∈ bs ∧ R a b
  | _, _, .cons h t, m => by
    rcases List.mem_cons.mp m with rfl | m
    · exact ⟨_, List.mem_cons_self, h⟩
    · obtain ⟨b, h1, h2⟩ := paired_memL t m
      exact ⟨b, List.mem_cons_of_mem _ h1, h2⟩
theorem paired_monoL {α β : Type} {R R' : α → β → Prop} : ∀ {as : List α} {bs : List β}, Paired R as bs → (∀ a ∈ as, ∀ b, R a b → R' a b) → Paired R' as bs
  | _, _, .nil, _ => .nil
  | _, _, .cons h t, k => .cons (k _ List.mem_cons_self _ h) (paired_monoL t fun a m b r => k a (List.mem_cons_of_mem _ m) b r)
theorem push_obj (l : List Value) (cap : Nat) (v : Value) : ∃ cap2, Obj.mapSeq (·.push v) ({ cls := .type "list", dict := none, data := .seq l.toArray cap, slots := #[] } : Obj) = { cls := .type "list", dict := none, data := .seq (l ++ [v]).toArray cap2, slots := #[] } := by
  refine ⟨if (l.toArray.push v).size == l.toArray.size then cap else cap + 1, ?_⟩
  simp only [Obj.mapSeq, List.push_toArray]
section
variable {prog : Program} {w : World} {A : Around} {s : Shared} {R : Result → Shared → Prop} {z TI TO i1 i2 : Addr} {fp1 fp2 : List Addr} {n1 n2 : Nat} {P1 P2 : Nat → Value → Prop} {St1 St2 : Nat → Heap → Prop}
theorem zg_loop {S lo : Addr} (Z : ZipSep2 z TI TO i1 i2 fp1 fp2) (D1 : Draws prog w A.in1.in1 i1 fp1 n1 P1 St1) (D2 : Draws prog w A.in1.in1 i2 fp2 n2 P2 St2)
    (Sz : S ≠ z) (STO : S ≠ TO) (Si1 : S ≠ i1) (Si2 : S ≠ i2) (STI : S ≠ TI) (Sf1 : S ∉ fp1) (Sf2 : S ∉ fp2) (lz : z < lo) (lT : TO < lo) (l1 : i1 < lo) (l2 : i2 < lo) (lS : S < lo) (hn : min n1 n2 ≤ sizeLine) (res : Value) {h0 : Heap} (h00 : h0.objs.size ≤ lo)
    (hR : ∀ h' tk as ps cap, (∀ b o, b ≠ S → b ≠ z → b ≠ TO → b ≠ i1 → b ≠ i2 → h0.get? b = some o → h'.get? b = some o) → h'.get? S = some { cls := .type "list", dict := none, data := .seq (as.map Value.ref).toArray cap, slots := #[] } →
      ps.length = min n1 n2 → ZGot P1 P2 lo h' as ps → R (.ok (.ret res)) { s with heap := h', toks := tk }) :
    ∀ (k i : Nat) (h : Heap) (tk cap : Nat) (as : List Addr) (ps : List (Value × Value)), min n1 n2 - i = k → i ≤ min n1 n2 → ps.length = i → lo ≤ h.objs.size → ZSt z TI TO i1 i2 S St1 St2 i h →
      (∀ b o, b ≠ S → b ≠ z → b ≠ TO → b ≠ i1 → b ≠ i2 → h0.get? b = some o → h.get? b = some o) → h.get? S = some { cls := .type "list", dict := none, data := .seq (as.map Value.ref).toArray cap, slots := #[] } → ZGot P1 P2 lo h as ps →
      codeAny (model prog w) A (.builtin "list.extend.loop" ⟨[.ref S, .ref z, res], []⟩) R { s with heap := h, toks := tk } := by
  intro k
  induction k with
  | zero =>
    intro i h tk cap as ps hk hi hl hlo hst hkeep hS hG
    have fin : i = n1 ∨ i = n2 := by omega
    refine codeAny_builtin PySem.F.entry_extend_loop ?_
    rw [Around.under_plainId PySem.F.plain_extend_loop _]
    show wpAny _ A.in1 (pyNext (.ref z) >>= _) _ _ _
    have last : ∀ (h' : Heap) (tk' : Nat), (∀ b o, b ≠ z → b ≠ TO → b ≠ i1 → b ≠ i2 → h.get? b = some o → h'.get? b = some o) → R (.ok (.ret res)) { s with heap := h', toks := tk' } := fun h' tk' k => by
      have ak : ∀ a ∈ as, ∀ o, h.get? a = some o → h'.get? a = some o := fun a ha o e => by
        have far : ∀ {b : Addr}, b < lo → a ≠ b := fun hb => Nat.ne_of_gt (Nat.lt_of_lt_of_le hb (hG.low a ha))
        exact k a o (far lz) (far lT) (far l1) (far l2) e
      exact hR h' tk' as ps cap (fun b o c c0 cT c1 c2 e => k b o c0 cT c1 c2 (hkeep b o c c0 cT c1 c2 e)) (k S _ Sz STO Si1 Si2 hS) (by omega)
        ⟨hG.dist, hG.low, paired_monoL hG.at' fun a ha p e => ak a ha _ e, hG.of1⟩
    obtain ⟨hTI, st1, st2, hz | ⟨T, f, o, hz, hT, t1, t2, t3, t4⟩⟩ := hst
    · obtain ⟨hz, x, y, hTO⟩ := hz
      refine wpAny_bind (wpAny_pyNext_zipD2_end (s := { s with heap := h, toks := tk }) Z D1 D2 hz hTI hTO st1 st2 (by omega) (by omega) fin fun h' tk' k => ?_)
      exact wpAny_pure (last h' tk' k)
    · refine wpAny_bind (zh_stop (s := { s with heap := h, toks := tk }) Z D1 D2 hz hT hTI st1 st2 (by omega) (by omega) fin fun h' tk' k => ?_)
      exact wpAny_pure (last h' tk' fun b o c0 _ c1 c2 e => k b o c0 c1 c2 e)
  | succ k ih =>
    intro i h tk cap as ps hk hi hl hlo hst hkeep hS hG
    have m1 : i < n1 := by omega
    have m2 : i < n2 := by omega
    have al : as.length = i := by rw [Paired.length hG.at', hl]
    refine codeAny_builtin PySem.F.entry_extend_loop ?_
    rw [Around.under_plainId PySem.F.plain_extend_loop _]
    show wpAny _ A.in1 (pyNext (.ref z) >>= _) _ _ _
    have sS : S < h.objs.size := Heap.lt_size hS
    have turn : ∀ (x y : Value) (h' : Heap) (tk' : Nat), P1 i x → P2 i y → IsTupOf2 h' h.objs.size x y → h'.objs.size = h.objs.size + 1 → (∀ b o, b ≠ z → b ≠ TO → b ≠ i1 → b ≠ i2 → h.get? b = some o → h'.get? b = some o) →
        IsTupOf2 h' TI (.ref i1) (.ref i2) → St1 (i + 1) h' → St2 (i + 1) h' → (∃ T f o, IsZipHeld h' z TI TO T f ∧ h'.get? T = some o ∧ T ≠ z ∧ T ≠ i1 ∧ T ≠ i2 ∧ T ≠ S) →
        wpAny (model prog w) A.in1 (updateSeq S (·.push (Value.ref h.objs.size)) >>= fun _ => again (.builtin "list.extend.loop" ⟨[.ref S, .ref z, res], []⟩))
          (fun fin s' => match fin with | .done f => R (.ok f) s' | .again c' => c'.quiet = true ∧ codeAny (model prog w) A c' R s') (fun e s' => R (.error e) s') { s with heap := h', toks := tk' } := fun x y h' tk' p1 p2 ht hsz kp hTI st1 st2 hz => by
      have hS' := kp S _ Sz STO Si1 Si2 hS
      have up : ∀ b o, b ≠ S → h'.get? b = some o → (h'.update S (Obj.mapSeq (·.push (Value.ref h.objs.size)))).get? b = some o := fun b o hb e => (Heap.get?_update_other _ _ (Ne.symm hb)).trans e
      obtain ⟨cap2, uS⟩ : ∃ cap2, (h'.update S (Obj.mapSeq (·.push (Value.ref h.objs.size)))).get? S = some { cls := .type "list", dict := none, data := .seq ((as ++ [h.objs.size]).map Value.ref).toArray cap2, slots := #[] } := by
        obtain ⟨cap2, e⟩ := push_obj (as.map Value.ref) cap (Value.ref h.objs.size)
        refine ⟨cap2, (Heap.get?_update_self (Obj.mapSeq (·.push (Value.ref h.objs.size))) hS' rfl).trans ?_⟩
        rw [e, List.map_append]
        rfl
      have usz : (h'.update S (Obj.mapSeq (·.push (Value.ref h.objs.size)))).objs.size = h.objs.size + 1 := by rw [(Heap.SameBut.update ..).1, hsz]
      have asz : ((as.map Value.ref).toArray : Array Value).size = i := by simp [al]
      refine wpAny_bind (wpAny_updateSeq hS' rfl (wpAny_pure ⟨plainId_quiet PySem.F.plain_extend_loop _, ih (i + 1) _ tk' _ (as ++ [h.objs.size]) (ps ++ [(x, y)]) (by omega) (by omega) (by rw [List.length_append, hl]; rfl) (by rw [usz]; exact Nat.le_succ_of_le hlo) ?_ (fun b o c c0 cT c1 c2 e => up b o c (kp b o c0 cT c1 c2 (hkeep b o c c0 cT c1 c2 e))) uS ?_⟩) (by rw [asz]; omega) (by show (((as.map Value.ref).toArray : Array Value).push (Value.ref h.objs.size)).size ≤ sizeLine + 1; rw [Array.size_push, asz]; omega))
      · obtain ⟨T, f, o, h1, h2, h3, h4, h5, h6⟩ := hz
        exact ⟨up _ _ STI.symm hTI, D1.frame _ _ _ st1 fun b hb o e => up b o (fun q => Sf1 (q ▸ hb)) e, D2.frame _ _ _ st2 fun b hb o e => up b o (fun q => Sf2 (q ▸ hb)) e, .inr ⟨T, f, o, up _ _ Sz.symm h1, up _ _ h6 h2, h3, h4, h5, h6⟩⟩
      · refine ⟨?_, fun a ha => ?_, ?_, fun j p hj => ?_⟩
        · refine List.nodup_append.mpr ⟨hG.dist, by simp, fun a ha b hb => ?_⟩
          rw [List.mem_singleton.mp hb]
          obtain ⟨p, _, e⟩ := paired_memL hG.at' ha
          exact Nat.ne_of_lt (Heap.lt_size e)
        · rcases List.mem_append.mp ha with ha | ha
          · exact hG.low a ha
          · rw [List.mem_singleton.mp ha]; exact hlo
        · refine paired_app (paired_monoL hG.at' fun a ha p e => ?_) (up _ _ (Nat.ne_of_gt sS) ht)
          have far : ∀ {b : Addr}, b < lo → a ≠ b := fun hb => Nat.ne_of_gt (Nat.lt_of_lt_of_le hb (hG.low a ha))
          exact up a _ (far lS) (kp a _ (far lz) (far lT) (far l1) (far l2) e)
        · rcases Nat.lt_trichotomy j ps.length with c | c | c
          · rw [List.getElem?_append_left c] at hj
            exact hG.of1 j p hj
          · subst c
            have : p = (x, y) := by simpa using hj.symm
            rw [this, hl]
            exact ⟨p1, p2⟩
          · rw [List.getElem?_eq_none (by rw [List.length_append, List.length_singleton]; omega)] at hj
            cases hj
    obtain ⟨hTI, st1, st2, hz | ⟨T, f, o, hz, hT, t1, t2, t3, t4⟩⟩ := hst
    · obtain ⟨hz, x, y, hTO⟩ := hz
      have nz : ∀ {b o}, h.get? b = some o → h.objs.size ≠ b := fun e => Nat.ne_of_gt (Heap.lt_size e)
      refine wpAny_bind (wpAny_pyNext_zipD2_item (s := { s with heap := h, toks := tk }) Z D1 D2 hz hTI hTO st1 st2 m1 m2 fun x y h' tk' a1 a2 a3 a4 a5 a6 a7 a8 a9 => ?_)
      obtain ⟨_, e1⟩ := D1.live _ _ st1
      obtain ⟨_, e2⟩ := D2.live _ _ st2
      exact turn x y h' tk' a1 a2 a7 a8 a9 (a9 _ _ Z.TIz Z.TITO Z.TIi1 Z.TIi2 hTI) a5 a6 ⟨h.objs.size, false, _, a3, a7, nz hz, nz e1, nz e2, Nat.ne_of_gt sS⟩
    · refine wpAny_bind (zh_next (s := { s with heap := h, toks := tk }) Z D1 D2 hz hT hTI st1 st2 m1 m2 fun x y h' tk' a1 a2 a3 a4 a5 a6 a7 a8 => ?_)
      exact turn x y h' tk' a1 a2 a6 a7 (fun b o c0 _ c1 c2 e => a8 b o c0 c1 c2 e) (a8 _ _ Z.TIz Z.TIi1 Z.TIi2 hTI) a4 a5 ⟨T, true, o, a3, a8 _ _ t1 t2 t3 hT, t1, t2, t3, t4⟩
end
end Ev
/-! EvZ2: several new objects tracked at once; list(a zip). -/
namespace Ev
open PySem PySem.Spec PyProof.Rows L2
variable {c : Cs}
theorem lookup_mem {α : Type} : ∀ {rows : List (Addr × α)} {b : Addr} {o : α}, rows.lookup b = some o → (b, o) ∈ rows
  | [], _, _, h => by simp at h
  | (a, u) :: rows, b, o, h => by
    rw [List.lookup_cons] at h
    by_cases e : b = a
    · subst e
      simp only [beq_self_eq_true, Option.some.injEq] at h
      subst h
      exact List.mem_cons_self
    · have : (b == a) = false := by simpa using e
      rw [this] at h
      exact List.mem_cons_of_mem _ (lookup_mem h)
theorem lookup_of_mem {α : Type} : ∀ {rows : List (Addr × α)} {b : Addr} {o : α}, (rows.map (·.1)).Nodup → (b, o) ∈ rows → rows.lookup b = some o
  | [], _, _, _, h => by cases h
  | (a, u) :: rows, b, o, nd, h => by
    rw [List.map_cons, List.nodup_cons] at nd
    rw [List.lookup_cons]
    rcases List.mem_cons.mp h with e | h
    · cases e
      simp
    · have : b ≠ a := fun e => nd.1 (e ▸ List.mem_map_of_mem (f := (·.1)) h)
      have : (b == a) = false := by simpa using this
      rw [this]
      exact lookup_of_mem nd.2 h
/-- new objects, tracked -/
def withRows (H : Hp) (n : Nat) (rows : List (Addr × HO)) : Hp := fun b => if b < n then H b else rows.lookup b
section
variable {X : Cx} {pins : List (Addr × Obj)} {σ : L2.St} {H : Hp} {s : Shared} {h' : Heap} {tk : Nat} {rows : List (Addr × HO)}
theorem rows_laid (I : Inv X pins σ H s) (k : ∀ b u, s.heap.get? b = some u → h'.get? b = some u) (nd : (rows.map (·.1)).Nodup) (hlo : ∀ r ∈ rows, s.heap.objs.size ≤ r.1) (ok : ∀ r ∈ rows, ∀ G : Hp, ObjOk X.prog X.w G h' r.1 r.2) :
    ∃ Ht : Hp, Inv X pins σ Ht { s with heap := h', toks := tk } ∧ Same H Ht ∧ ∀ r ∈ rows, Ht r.1 = some r.2 := by
  have lt : ∀ {b : Addr} {o : HO}, H b = some o → b < s.heap.objs.size := fun e => I.hok.lt e
  have old : ∀ {b : Addr}, b < s.heap.objs.size → withRows H s.heap.objs.size rows b = H b := fun h => if_pos h
  have sm : Same H (withRows H s.heap.objs.size rows) := fun b u e => by rw [old (lt e)]; exact e
  refine ⟨withRows H s.heap.objs.size rows, I.un ⟨fun b u q _ _ _ => k b u q, fun b u q _ _ _ => ⟨u.slots, k b u q⟩, fun b u q n _ => by rw [old (Heap.lt_size q)]; exact n, fun b u q _ => ⟨u, k b u q⟩, fun b xs q => sm _ _ q, fun b u xs q => sm _ _ q, fun b ps q => ⟨#[], by rw [sm _ _ q]; simp⟩⟩ fun b o e => ?_, sm, fun r hr => ?_⟩
  · by_cases hb : b < s.heap.objs.size
    · rw [old hb] at e
      exact (I.hok b o e).stay (fun c v _ q => k c v q) (fun c q => sm _ _ q) fun c xs q => sm _ _ q
    · have e : rows.lookup b = some o := by
        have e2 : withRows H s.heap.objs.size rows b = rows.lookup b := if_neg hb
        rw [← e2]; exact e
      exact ok _ (lookup_mem e) _
  · show (if r.1 < s.heap.objs.size then H r.1 else rows.lookup r.1) = _
    rw [if_neg (Nat.not_lt.mpr (hlo r hr))]
    exact lookup_of_mem nd hr
end
/-- a pair of values as its tuple's object -/
def pairObj (p : Value × Value) : Obj := { cls := .type "tuple", data := .seq #[p.1, p.2] }
def Rel2 (v : V × V) (p : Value × Value) : Prop := RelV v.1 p.1 ∧ RelV v.2 p.2
def pairRows : List Addr → List (Value × Value) → List (V × V) → List (Addr × HO)
  | a :: as, p :: ps, v :: vs => (a, .frz (pairObj p) (.tup [v.1, v.2])) :: pairRows as ps vs
  | _, _, _ => []
section
variable {P : Program} {w : World} {h' : Heap}
theorem pairRows_as : ∀ {as : List Addr} {ps : List (Value × Value)} {vs : List (V × V)}, as.length = ps.length → vs.length = ps.length → (pairRows as ps vs).map (·.1) = as
  | [], [], [], _, _ => rfl
  | a :: as, p :: ps, v :: vs, h1, h2 => by
    show a :: _ = _
    rw [pairRows_as (by simpa using h1) (by simpa using h2)]
  | [], _ :: _, _, h, _ => by simp at h
  | _ :: _, [], _, h, _ => by simp at h
  | [], [], _ :: _, _, h => by simp at h
  | _ :: _, _ :: _, [], _, h => by simp at h
theorem pairRows_ok : ∀ {as : List Addr} {ps : List (Value × Value)} {vs : List (V × V)}, Paired (fun (a : Addr) (p : Value × Value) => h'.get? a = some (pairObj p)) as ps → Paired Rel2 vs ps → ∀ r ∈ pairRows as ps vs, ∀ G : Hp, ObjOk P w G h' r.1 r.2
  | _, _, _, .cons h t, .cons q t2, r, hr, G => by
    rcases List.mem_cons.mp hr with rfl | hr
    · refine ⟨h, by show 2 ≤ sizeLine; rw [sizeLine_eq]; decide, _, .cons q.1 (.cons q.2 .nil), _, h, rfl, _, rfl⟩
    · exact pairRows_ok t t2 r hr G
theorem pairRows_at : ∀ {as : List Addr} {ps : List (Value × Value)} {vs : List (V × V)} {Ht : Hp}, as.length = ps.length → vs.length = ps.length → (∀ r ∈ pairRows as ps vs, Ht r.1 = some r.2) → Paired (fun (a : Addr) (v : V × V) => ∃ o : Obj, Ht a = some (.frz o (.tup [v.1, v.2])) ∧ o.dict = none) as vs
  | [], [], [], _, _, _, _ => .nil
  | a :: as, p :: ps, v :: vs, Ht, h1, h2, h => .cons ⟨_, h _ List.mem_cons_self, rfl⟩ (pairRows_at (by simpa using h1) (by simpa using h2) fun r hr => h r (List.mem_cons_of_mem _ hr))
  | [], _ :: _, _, _, h, _, _ => by simp at h
  | _ :: _, [], _, _, h, _, _ => by simp at h
  | [], [], _ :: _, _, _, h, _ => by simp at h
  | _ :: _, _ :: _, [], _, _, h, _ => by simp at h
theorem vals_refs : ∀ as : List Addr, Vals (as.map V.ref) (as.map Value.ref)
  | [] => .nil
  | _ :: as => .cons rfl (vals_refs as)
/-- the tuples as data -/
theorem pair_rzs {b0 : Addr} {B : Addr → Prop} {Ht : Hp} : ∀ {as : List Addr} {vs : List (V × V)} {ds : List (D × D)}, Paired (fun (a : Addr) (v : V × V) => ∃ o : Obj, Ht a = some (.frz o (.tup [v.1, v.2])) ∧ o.dict = none) as vs → Paired (fun (v : V × V) (d : D × D) => Rz c b0 B Ht d.1 v.1 ∧ Rz c b0 B Ht d.2 v.2) vs ds →
    Rzs c b0 B Ht (ds.map fun d => .tup [d.1, d.2]) (as.map V.ref)
  | _, _, _, .nil, .nil => .nil
  | _, _, _, .cons ⟨o, h1, h2⟩ t, .cons ⟨r1, r2⟩ t2 => by
    refine .cons ?_ (pair_rzs t t2)
    rw [Rz]
    exact ⟨_, _, rfl, .inl ⟨o, h1, h2⟩, .cons r1 (.one r2)⟩
end
end Ev
/-! EvZ3: list(a zip), called. -/
namespace Ev
open PySem PySem.Spec PyProof.Rows
theorem zip_no_len : typeLookup (.type "zip") "__len__" = pure none := by rw [typeLookup_type, builtinLookup_eq_fast]; kernel_rfl
theorem zip_no_hint : typeLookup (.type "zip") "__length_hint__" = pure none := by rw [typeLookup_type, builtinLookup_eq_fast]; kernel_rfl
section
variable {prog : Program} {w : World} {A : Around} {E : Value → Shared → Prop} {s : Shared} {z TI TO i1 i2 : Addr} {fp1 fp2 : List Addr} {n1 n2 : Nat} {P1 P2 : Nat → Value → Prop} {St1 St2 : Nat → Heap → Prop}
/-- the zip as it stands at its beginning -/
def ZBeg (z TI TO i1 i2 : Addr) (St1 St2 : Nat → Heap → Prop) (h : Heap) : Prop := IsZip h z TI TO .none ∧ IsTupOf2 h TI (.ref i1) (.ref i2) ∧ (∃ x y, IsTupOf2 h TO x y) ∧ St1 0 h ∧ St2 0 h
theorem ZBeg.kept {h h' : Heap} {S : Addr} (Z : ZipSep2 z TI TO i1 i2 fp1 fp2) (D1 : Draws prog w A i1 fp1 n1 P1 St1) (D2 : Draws prog w A i2 fp2 n2 P2 St2) (b : ZBeg z TI TO i1 i2 St1 St2 h) (Sz : S ≠ z) (STO : S ≠ TO) (STI : S ≠ TI) (Sf1 : S ∉ fp1) (Sf2 : S ∉ fp2) (k : ∀ b o, b ≠ S → h.get? b = some o → h'.get? b = some o) : ZBeg z TI TO i1 i2 St1 St2 h' :=
  let ⟨b1, b2, ⟨x, y, b3⟩, b4, b5⟩ := b
  ⟨k _ _ Sz.symm b1, k _ _ STI.symm b2, ⟨x, y, k _ _ STO.symm b3⟩, D1.frame _ _ _ b4 fun b hb o e => k b o (fun q => Sf1 (q ▸ hb)) e, D2.frame _ _ _ b5 fun b hb o e => k b o (fun q => Sf2 (q ▸ hb)) e⟩
theorem zl_extend {R : Result → Shared → Prop} {S : Addr} {c0 : Nat} (Z : ZipSep2 z TI TO i1 i2 fp1 fp2) (D1 : Draws prog w A.in1.in1 i1 fp1 n1 P1 St1) (D2 : Draws prog w A.in1.in1 i2 fp2 n2 P2 St2)
    (Sz : S ≠ z) (STO : S ≠ TO) (STI : S ≠ TI) (Sf1 : S ∉ fp1) (Sf2 : S ∉ fp2) (hn : min n1 n2 ≤ sizeLine) (beg : ZBeg z TI TO i1 i2 St1 St2 s.heap) (hS : s.heap.get? S = some { cls := .type "list", data := .seq #[] c0 }) (res : Value)
    (hR : ∀ h' tk as ps cap, (∀ b o, b ≠ S → b ≠ z → b ≠ TO → b ≠ i1 → b ≠ i2 → s.heap.get? b = some o → h'.get? b = some o) → h'.get? S = some { cls := .type "list", dict := none, data := .seq (as.map Value.ref).toArray cap, slots := #[] } →
      ps.length = min n1 n2 → ZGot P1 P2 s.heap.objs.size h' as ps → R (.ok (.ret res)) { s with heap := h', toks := tk }) :
    wpAny (model prog w) A.in1 (Builtin.List.listExtendWith (.ref S) (.ref z) res)
      (fun fin s' => match fin with | .done f => R (.ok f) s' | .again c' => c'.quiet = true ∧ codeAny (model prog w) A c' R s') (fun e s' => R (.error e) s') s := by
  have ty : s.TypeIs (.ref z) "zip" := ⟨_, beg.1, rfl⟩
  have Si1 : S ≠ i1 := fun e => Sf1 (e ▸ Z.mem1)
  have Si2 : S ≠ i2 := fun e => Sf2 (e ▸ Z.mem2)
  obtain ⟨hp, ge, dr, t0, os⟩ := s
  dsimp only at *
  unfold Builtin.List.listExtendWith
  refine wpAny_bind (wpAny_typeOf ty ?_)
  have e1 : Builtin.List.listSameRef (.ref S) (.ref z) = false := by simp [Builtin.List.listSameRef, Sz]
  have e2 : (Value.type "zip" == Value.type "list") = false := by decide
  have e3 : (Value.type "zip" == Value.type "tuple") = false := by decide
  simp only [e1, e2, e3, Bool.or_false, Bool.false_eq_true, if_false]
  refine wpAny_bind (wpAny_pyIter_zip beg.1 ?_)
  refine wpAny_bind (wpAny_holding ?_)
  unfold Builtin.List.listLengthHint
  refine wpAny_bind (wpAny_specialOf ty zip_no_len ?_)
  show wpAny _ A.in1 (specialOf (Value.ref z) (Str.ofString "__length_hint__") >>= _) _ _ _
  refine wpAny_bind (wpAny_specialOf ty zip_no_hint ?_)
  refine wpAny_pure ?_
  show wpAny _ A.in1 (rule "list.extend.makes-room" >>= fun _ => Builtin.List.listTouch (.ref S) >>= fun _ => again (.builtin "list.extend.loop" ⟨[.ref S, .ref z, res], []⟩)) _ _ _
  refine wpAny_bind (wpAny_rule ?_)
  refine wpAny_bind ?_
  show wpAny _ A.in1 (updateSeq S (·.push .none) >>= fun _ => updateSeq S (·.pop)) _ _ _
  refine wpAny_bind (wpAny_updateSeq hS rfl ?_)
  have g1 := Heap.get?_update_self (Obj.mapSeq (·.push Value.none)) hS rfl
  refine wpAny_updateSeq (hz := by seq_fits) g1 rfl ?_
  have g2 := Heap.get?_update_self (Obj.mapSeq (·.pop)) g1 rfl
  have k : ∀ b o, b ≠ S → hp.get? b = some o → ((hp.update S (Obj.mapSeq (·.push Value.none))).update S (Obj.mapSeq (·.pop))).get? b = some o := fun b o hb e => (Heap.get?_update_other _ _ (Ne.symm hb)).trans ((Heap.get?_update_other _ _ (Ne.symm hb)).trans e)
  have beg2 := beg.kept Z D1 D2 Sz STO STI Sf1 Sf2 k
  have sz2 : ((hp.update S (Obj.mapSeq (·.push Value.none))).update S (Obj.mapSeq (·.pop))).objs.size = hp.objs.size := by rw [(Heap.SameBut.update ..).1, (Heap.SameBut.update ..).1]
  have lt : ∀ {b o}, hp.get? b = some o → b < hp.objs.size := fun e => Heap.lt_size e
  obtain ⟨b1, b2, ⟨x, y, b3⟩, b4, b5⟩ := beg
  obtain ⟨_, v1⟩ := D1.live _ _ b4
  obtain ⟨_, v2⟩ := D2.live _ _ b5
  obtain ⟨c1, c2, ⟨x2, y2, c3⟩, c4, c5⟩ := beg2
  refine wpAny_pure ⟨plainId_quiet PySem.F.plain_extend_loop _, zg_loop (lo := hp.objs.size) (s := ⟨hp, ge, dr, t0, os⟩) Z D1 D2 Sz STO Si1 Si2 STI Sf1 Sf2 (lt b1) (lt b3) (lt v1) (lt v2) (lt hS) hn res (h0 := hp) (Nat.le_refl _) hR _ 0 _ _ _ [] [] rfl (Nat.zero_le _) rfl (by rw [sz2]; exact Nat.le_refl _) ⟨c2, c4, c5, .inl ⟨c1, x2, y2, c3⟩⟩ (fun b o c _ _ _ _ e => k b o c e) g2 ⟨.nil, (fun a ha => nomatch ha), .nil, fun j p h => by simp at h⟩⟩
theorem zl_init {R : Result → Shared → Prop} {S : Addr} (Z : ZipSep2 z TI TO i1 i2 fp1 fp2) (D1 : Draws prog w A.in1.in1 i1 fp1 n1 P1 St1) (D2 : Draws prog w A.in1.in1 i2 fp2 n2 P2 St2)
    (Sz : S ≠ z) (STO : S ≠ TO) (STI : S ≠ TI) (Sf1 : S ∉ fp1) (Sf2 : S ∉ fp2) (hn : min n1 n2 ≤ sizeLine) (beg : ZBeg z TI TO i1 i2 St1 St2 s.heap) (hS : s.heap.get? S = some { cls := .type "list", data := .seq #[] })
    (hR : ∀ h' tk as ps cap, (∀ b o, b ≠ S → b ≠ z → b ≠ TO → b ≠ i1 → b ≠ i2 → s.heap.get? b = some o → h'.get? b = some o) → h'.get? S = some { cls := .type "list", dict := none, data := .seq (as.map Value.ref).toArray cap, slots := #[] } →
      ps.length = min n1 n2 → ZGot P1 P2 s.heap.objs.size h' as ps → R (.ok (.ret .none)) { s with heap := h', toks := tk }) :
    wpAny (model prog w) A.in1 (Builtin.«list.__init__» ⟨[.ref S, .ref z], []⟩)
      (fun fin s' => match fin with | .done f => R (.ok f) s' | .again c' => c'.quiet = true ∧ codeAny (model prog w) A c' R s') (fun e s' => R (.error e) s') s := by
  obtain ⟨hp, ge, dr, t0, os⟩ := s
  dsimp only at *
  show wpAny _ _ (do let old ← Builtin.List.listItems (.ref S); Builtin.List.listUpdate (.ref S) (fun _ => #[]); letGo old.toList.reverse; Builtin.List.listExtendWith (.ref S) (.ref z) .none) _ _ _
  refine wpAny_bind ?_
  unfold Builtin.List.listItems
  refine wpAny_bind (wpAny_seqItems hS rfl (wpAny_pure ?_))
  show wpAny _ _ (updateSeq S (fun _ => #[]) >>= fun _ => letGo (#[] : Array Value).toList.reverse >>= fun _ => Builtin.List.listExtendWith (.ref S) (.ref z) .none) _ _ _
  refine wpAny_bind (wpAny_updateSeq hS rfl ?_)
  have g1 := Heap.get?_update_self (Obj.mapSeq (fun _ => (#[] : Array Value))) hS rfl
  have k : ∀ b o, b ≠ S → hp.get? b = some o → (hp.update S (Obj.mapSeq (fun _ => (#[] : Array Value)))).get? b = some o := fun b o hb e => (Heap.get?_update_other _ _ (Ne.symm hb)).trans e
  have sz : (hp.update S (Obj.mapSeq (fun _ => (#[] : Array Value)))).objs.size = hp.objs.size := (Heap.SameBut.update ..).1
  refine wpAny_bind (wpAny_letGo ?_)
  refine zl_extend (s := ⟨hp.update S (Obj.mapSeq (fun _ => (#[] : Array Value))), ge, dr, t0, os⟩) Z D1 D2 Sz STO STI Sf1 Sf2 hn (beg.kept Z D1 D2 Sz STO STI Sf1 Sf2 k) g1 .none fun h' tk as ps cap h1 h2 h3 h4 => ?_
  dsimp only at h1 h4
  rw [sz] at h4
  exact hR h' tk as ps cap (fun b o c c0 c1 c2 c3 e => h1 b o c c0 c1 c2 c3 (k b o c e)) h2 h3 h4
theorem zl_call {Q : Value → Shared → Prop} (Z : ZipSep2 z TI TO i1 i2 fp1 fp2) (D1 : Draws prog w A.in1.in1.in1 i1 fp1 n1 P1 St1) (D2 : Draws prog w A.in1.in1.in1 i2 fp2 n2 P2 St2)
    (f1 : ∀ b ∈ fp1, b < s.heap.objs.size) (f2 : ∀ b ∈ fp2, b < s.heap.objs.size) (hn : min n1 n2 ≤ sizeLine) (beg : ZBeg z TI TO i1 i2 St1 St2 s.heap)
    (q : ∀ h' tk as ps cap, (∀ b o, b ≠ z → b ≠ TO → b ≠ i1 → b ≠ i2 → s.heap.get? b = some o → h'.get? b = some o) → h'.get? s.heap.objs.size = some { cls := .type "list", dict := none, data := .seq (as.map Value.ref).toArray cap, slots := #[] } →
      ps.length = min n1 n2 → ZGot P1 P2 (s.heap.objs.size + 1) h' as ps → Q (.ref s.heap.objs.size) { s with heap := h', toks := tk }) :
    wpAny (model prog w) A (call (.type "list") [.ref z]) Q E s := by
  refine callType_codes (Q₁ := fun obj s₁ => obj = .ref s.heap.objs.size ∧ s₁ = { s with heap := s.heap.push { cls := .type "list", data := .seq #[] } }) PySem.F.called_list (PySem.F.typeCall_list_1 _) PySem.F.entry_list_init
    (code_list_new _ ⟨rfl, rfl⟩) fun obj s₁ h₁ => ?_
  obtain ⟨rfl, rfl⟩ := h₁
  have hS : (s.heap.push { cls := .type "list", data := .seq #[] }).get? s.heap.objs.size = some { cls := .type "list", data := .seq #[] } := Heap.get?_push_size _ rfl
  have k : ∀ b o, s.heap.get? b = some o → (s.heap.push { cls := .type "list", data := .seq #[] }).get? b = some o := fun b o e => Heap.get?_push_of_some _ e
  have ne : ∀ {b o}, s.heap.get? b = some o → s.heap.objs.size ≠ b := fun e => Nat.ne_of_gt (Heap.lt_size e)
  have nf : ∀ {fp : List Addr}, (∀ b ∈ fp, b < s.heap.objs.size) → s.heap.objs.size ∉ fp := fun h m => Nat.lt_irrefl _ (h _ m)
  have sz : (s.heap.push { cls := .type "list", data := .seq #[] }).objs.size = s.heap.objs.size + 1 := Heap.size_push ..
  have beg0 := beg
  obtain ⟨b1, b2, ⟨x, y, b3⟩, b4, b5⟩ := beg
  refine ⟨⟨_, hS, rfl⟩, PySem.F.args_list_init_2 _ _, zl_init (A := A.in1) (s := { s with heap := s.heap.push { cls := .type "list", data := .seq #[] } }) Z D1 D2 (ne b1) (ne b3) (ne b2) (nf f1) (nf f2) hn (beg0.kept Z D1 D2 (ne b1) (ne b3) (ne b2) (nf f1) (nf f2) fun b o _ e => k b o e) hS fun h' tk as ps cap h1 h2 h3 h4 => ⟨rfl, ?_⟩⟩
  dsimp only at h1 h4
  rw [sz] at h4
  exact q h' tk as ps cap (fun b o c0 c1 c2 c3 e => h1 b o (ne e).symm c0 c1 c2 c3 (k b o e)) h2 h3 h4
end
end Ev
/-! EvZ4: list(zip(a, b)) as an expression. -/
namespace Ev
open PySem PySem.Spec PyProof.Rows L2
open Tr
variable {c : Cs}
theorem paired_get {α β : Type} {R : α → β → Prop} : ∀ {as : List α} {bs : List β}, as.length = bs.length → (∀ (j : Nat) (b : β), bs[j]? = some b → ∃ a, as[j]? = some a ∧ R a b) → Paired R as bs
  | [], [], _, _ => .nil
  | a :: as, b :: bs, h, k => by
    obtain ⟨a', e, r⟩ := k 0 b rfl
    have e : a = a' := by simpa using e
    subst e
    exact .cons r (paired_get (by simpa using h) fun j b e => by simpa using k (j + 1) b (by simpa using e))
  | [], _ :: _, h, _ => by simp at h
  | _ :: _, [], h, _ => by simp at h
theorem zip_rzs {b0 : Addr} {B : Addr → Prop} {H : Hp} : ∀ {xs ys : List D} {us ws : List V}, Rzs c b0 B H xs us → Rzs c b0 B H ys ws → Paired (fun (v : V × V) (d : D × D) => Rz c b0 B H d.1 v.1 ∧ Rz c b0 B H d.2 v.2) (us.zip ws) (xs.zip ys)
  | [], ys, us, ws, r, _ => by
    rw [Rzs] at r
    subst r
    simp only [List.zip_nil_left]
    exact .nil
  | x :: xs, [], us, ws, _, r => by
    rw [Rzs] at r
    subst r
    simp only [List.zip_nil_right]
    exact .nil
  | x :: xs, y :: ys, us, ws, r1, r2 => by
    rw [Rzs] at r1 r2
    obtain ⟨u, us, rfl, a1, a2⟩ := r1
    obtain ⟨w, ws, rfl, b1, b2⟩ := r2
    rw [List.zip_cons_cons, List.zip_cons_cons]
    exact .cons ⟨a1, b1⟩ (zip_rzs a2 b2)
section
variable {X : Cx} {pins : List (Addr × Obj)} {σ : L2.St} {H : Hp} {s : Shared} {it : Addr} {i : Nat} {xs : List V}
/-- a source's items, drawn one by one -/
theorem Sr.draws (I : Inv X pins σ H s) {A : Around} (hc : A.handled = none) : ∀ {S : Sr}, SrV X.K H S xs → SrIt s.heap it i S → it ∉ S.src → ∃ (P : Nat → Value → Prop) (St : Nat → Heap → Prop),
    Draws X.prog X.w A it (it :: S.src) xs.length P St ∧ St i s.heap ∧ ∀ j v, P j v → ∃ x, xs[j]? = some x ∧ RelV x v
  | .lst a, hs, st, hn => by
    obtain ⟨its, r, pl, _⟩ := I.list hs
    have d := Draws.list (prog := X.prog) (w := X.w) (A := A) hc it a (fun e => hn (by simp [Sr.src, e])) its.toArray
    rw [List.size_toArray, ← Vals.length r] at d
    exact ⟨_, _, d, ⟨st, pl.isList⟩, fun j v hy => vals_back r (by simpa using hy)⟩
  | .tup a, hs, st, hn => by
    obtain ⟨its, r, pl, _⟩ := I.tuple hs
    have d := Draws.tuple (prog := X.prog) (w := X.w) (A := A) hc it a (fun e => hn (by simp [Sr.src, e])) its.toArray
    rw [List.size_toArray, ← Vals.length r] at d
    exact ⟨_, _, d, ⟨st, pl⟩, fun j v hy => vals_back r (by simpa using hy)⟩
  | .str z, hs, ⟨t, st⟩, hn => by
    have hs : xs = signsV z := hs
    have d := Draws.text (prog := X.prog) (w := X.w) (A := A) hc it (toStr z) t
    rw [show (toStr z).cps.size = xs.length by rw [hs]; unfold signsV; rw [List.length_map]; exact toStr_len z] at d
    exact ⟨_, _, d, st, fun j v hy => by rw [hs]; exact signsV_get hy⟩
end
section
variable {X : Cx} {ms : Fm → Tr (List A)} {p p2 pos pos2 : Pos} {a b : Expr}
/-- a list of new tuples of two -/
theorem pairs_list {pins : List (Addr × Obj)} {σ : L2.St} {H : Hp} {s : Shared} {g : Gh} (hb : Bars g) (I : Inv X pins σ H s) {h' : Heap} {tk : Nat} {S : Addr} {as : List Addr} {ps : List (Value × Value)} {vs : List (V × V)} {ds : List (D × D)} {cap : Nat}
    (k : ∀ b u, s.heap.get? b = some u → h'.get? b = some u) (hS : s.heap.objs.size ≤ S) (lo : ∀ a ∈ as, S < a) (nd : as.Nodup) (hl : h'.get? S = some { cls := .type "list", dict := none, data := .seq (as.map Value.ref).toArray cap, slots := #[] })
    (ht : Paired (fun (a : Addr) (p : Value × Value) => h'.get? a = some (pairObj p)) as ps) (hv : Paired Rel2 vs ps) (hd : Paired (fun (v : V × V) (d : D × D) => Rz c g.b0 g.B H d.1 v.1 ∧ Rz c g.b0 g.B H d.2 v.2) vs ds) (sz : as.length ≤ sizeLine) :
    ∃ Ht : Hp, Inv X pins σ Ht { s with heap := h', toks := tk } ∧ Same H Ht ∧ Rn c g H Ht (fr (.lst (ds.map fun d => .tup [d.1, d.2]))) (.ref S) := by
  have l1 : as.length = ps.length := Paired.length ht
  have l2 : vs.length = ps.length := Paired.length hv
  have fst : ((S, HO.lst (as.map V.ref)) :: pairRows as ps vs).map (·.1) = S :: as := by rw [List.map_cons, pairRows_as l1 l2]
  obtain ⟨Ht, I2, sm, at'⟩ := rows_laid (tk := tk) I k (rows := (S, .lst (as.map V.ref)) :: pairRows as ps vs) (by rw [fst, List.nodup_cons]; exact ⟨fun m => Nat.lt_irrefl _ (lo S m), nd⟩) (fun r hr => by
      have m : r.1 ∈ S :: as := by rw [← fst]; exact List.mem_map_of_mem hr
      rcases List.mem_cons.mp m with e | m
      · rw [e]; exact hS
      · exact Nat.le_trans hS (Nat.le_of_lt (lo _ m))) (fun r hr G => by
      rcases List.mem_cons.mp hr with rfl | hr
      · refine ⟨by rw [List.length_map]; exact sz, as.map Value.ref, cap, vals_refs as, hl⟩
      · exact pairRows_ok ht hv r hr G)
  have hp : H S = none := I.hok.fresh hS
  refine ⟨Ht, I2, sm, S, rfl, hp, as.map V.ref, at' _ List.mem_cons_self, pair_rzs (pairRows_at l1 l2 fun r hr => at' r (List.mem_cons_of_mem _ hr)) ?_⟩
  have up : ∀ {d : D} {v : V}, Rz c g.b0 g.B H d v → Rz c g.b0 (g.plus S).B Ht d v := fun {d v} r => by
    have r1 : Rzs c g.b0 (g.plus S).B H [d] [v] := Rzs.plus hp (.one r)
    have r2 := Rzs.same (g := g.plus S) (hb.plus S) sm r1
    rw [Rzs] at r2
    obtain ⟨v2, q, e, r3, _⟩ := r2
    cases e
    exact r3
  exact paired_map hd fun v d r => ⟨up r.1, up r.2⟩
where paired_map {α β : Type} {R R' : α → β → Prop} : ∀ {as : List α} {bs : List β}, Paired R as bs → (∀ a b, R a b → R' a b) → Paired R' as bs
  | _, _, .nil, _ => .nil
  | _, _, .cons h t, k => .cons (k _ _ h) (paired_map t k)
theorem e_listZip (F : Fit X c) (hg : Gl X "list") (hm : X.mg "list" = none) (hg2 : Gl X "zip") (hm2 : X.mg "zip" = none) (hst : noStar a = true) (hst2 : noStar b = true) (he : PA X [a, b] (tAs c ms)) (h2 : ∀ f P, All (ms f) P → All (ms f) fun as => P as ∧ as.length = 2) :
    PE X (.Call (.Name "list" p) [.Call (.Name "zip" p2) [a, b] [] pos2] [] pos) (tM c fun f => (ms f).bind fun as => (ofO (zipD (as.map A.d))).bind fun xs => if xs.length ≤ line then .ret (fr (.lst xs)) else .stuck) := by
  refine ⟨fun pins s σ H Q I ⟨g, f, Fr, h⟩ => ?_⟩
  have hA : tAs c ms σ H fun vs H1 => ∃ (as : List A) (ds : List D), zipD (as.map A.d) = some ds ∧ (as.map A.d).length = 2 ∧ ds.length ≤ line ∧ Rns c g H1 as vs ∧ ∀ v H', Same H1 H' → Rn c g H1 H' (fr (.lst ds)) v → Q v H' := by
    refine ⟨g, f, Fr, (h2 _ _ (all_bind.mp h)).mono fun as ⟨hq, l2⟩ vs H1 s1 b1 r1 => ?_⟩
    have hq := all_bind.mp hq
    cases hz : zipD (as.map A.d) with
    | none => rw [hz] at hq; exact hq.elim
    | some ds =>
      rw [hz] at hq
      have hq : All (if ds.length ≤ line then .ret (fr (.lst ds)) else .stuck) _ := hq
      by_cases hl : ds.length ≤ line
      · rw [if_pos hl] at hq
        exact ⟨as, ds, hz, by rw [List.length_map]; exact l2, hl, r1, fun v H' sm rn => hq v H' (s1.trans (.of_same sm)) (b1.same sm) (rn.early b1 s1)⟩
      · rw [if_neg hl] at hq
        exact hq.elim
  have na := noStar_each (e := .Call (.Name "zip" p2) [a, b] [] pos2) (by rfl) [] X.env
  refine Call_ (ld_blt I hg hm PyProof.Rows.boot_list (PyProof.Rows.callWith_type1 (PyProof.Rows.args_cons ?_ na) na rfl))
  refine Call_ (ld_blt I hg2 hm2 PyProof.Rows.boot_zip (PyProof.Rows.callWith_type1 (thn (he.run pos2 pins s σ H _ I hA) fun us s1 ⟨vs, H1, I1, r1, as, ds, e1, h2, hl, rs, q⟩ => ?_) (noStar_each hst _ _) (noStar_back (by rw [List.all_cons, hst2]; rfl))))
  obtain ⟨a1, a2, v1, v2, rfl, rfl, rw1, rw2⟩ := rs.two h2
  obtain ⟨u1, u2, rfl, rv1, rv2⟩ := vals2 r1
  simp only [List.map_cons, List.map_nil, zipD] at e1
  cases q1 : seqD a1.d with
  | none => rw [q1] at e1; simp at e1
  | some xs =>
    cases q2 : seqD a2.d with
    | none => rw [q1, q2] at e1; simp at e1
    | some ys =>
      rw [q1, q2] at e1
      simp only [Option.some.injEq] at e1
      subst e1
      obtain ⟨o1, Hb1, B1, hb1, hi1, hl1⟩ := sr_begins F I1 q1 rw1.rr rv1
      obtain ⟨o2, Hb2, B2, hb2, hi2, hl2⟩ := sr_begins F I1 q2 rw2.rr rv2
      obtain ⟨us, w1, d1⟩ := srV_of F q1 rw1.rr
      obtain ⟨ws, w2, d2⟩ := srV_of F q2 rw2.rr
      refine zip_begins2 B1 B2 hb1 hb2 fun h' hz hTI hTO g1 g2 hsz hk => PyProof.Rows.args_nil ?_
      have I2 : Inv X pins σ H1 { s1 with heap := h' } := I1.kept (t' := s1.toks) hk
      have hh : X.A.handled = none := I1.ok.hd F.calm
      obtain ⟨P1, St1, D1, b1, y1⟩ := Sr.draws I2 (A := X.A.in1.in1.in1) hh w1 (hi1 _ _ g1) (not_src hl1 (Nat.le_refl _))
      obtain ⟨P2, St2, D2, b2, y2⟩ := Sr.draws I2 (A := X.A.in1.in1.in1) hh w2 (hi2 _ _ g2) (not_src hl2 (Nat.le_add_right _ _))
      have ZS := zip_sep2 hl1 hl2
      have n1 : us.length = xs.length := d1.length
      have n2 : ws.length = ys.length := d2.length
      have nl : min us.length ws.length ≤ sizeLine := by
        rw [List.length_zipWith, line_eq] at hl
        omega
      have far : ∀ {b o j}, s1.heap.get? b = some o → b ≠ s1.heap.objs.size + j := fun e => Nat.ne_of_lt (Nat.lt_of_lt_of_le (Heap.lt_size e) (Nat.le_add_right _ _))
      have in1 : ∀ b ∈ s1.heap.objs.size :: (srOf a1.d v1).src, b < h'.objs.size := fun b hb => by
        rw [hsz]
        rcases List.mem_cons.mp hb with rfl | hb
        · omega
        · exact Nat.lt_of_lt_of_le (hl1 b hb) (Nat.le_add_right _ _)
      have in2 : ∀ b ∈ (s1.heap.objs.size + 1) :: (srOf a2.d v2).src, b < h'.objs.size := fun b hb => by
        rw [hsz]
        rcases List.mem_cons.mp hb with rfl | hb
        · omega
        · exact Nat.lt_of_lt_of_le (hl2 b hb) (Nat.le_add_right _ _)
      refine zl_call (A := X.A) (s := { s1 with heap := h' }) ZS D1 D2 in1 in2 nl ⟨hz, hTI, ⟨_, _, hTO⟩, b1, b2⟩ fun h2 tk as ps cap k hS hl' G => ?_
      dsimp only at hS G k ⊢
      have kk : ∀ b o, s1.heap.get? b = some o → h2.get? b = some o := fun b o e => k b o (far e) (far e) (far (j := 0) e) (far e) (hk b o e)
      have hv : Paired Rel2 (us.zip ws) ps := paired_get (by rw [List.length_zip, hl']) fun j p e => by
        obtain ⟨p1, p2⟩ := G.of1 j p e
        obtain ⟨x, e1, t1⟩ := y1 _ _ p1
        obtain ⟨y, e2, t2⟩ := y2 _ _ p2
        exact ⟨(x, y), by rw [List.getElem?_zip_eq_some]; exact ⟨e1, e2⟩, t1, t2⟩
      obtain ⟨Ht, I3, sm, rn⟩ := pairs_list (g := g) (tk := tk) Fr.bars I1 kk (by rw [hsz]; exact Nat.le_add_right _ _) (fun a ha => G.low a ha) G.dist hS G.at' hv (zip_rzs d1 d2) (by rw [Paired.length G.at', hl']; exact nl)
      have ez : List.zipWith (fun x y => D.tup [x, y]) xs ys = (xs.zip ys).map fun d => .tup [d.1, d.2] := by rw [List.zip, List.map_zipWith]
      rw [← ez] at rn
      exact ⟨.ref h'.objs.size, Ht, I3, rfl, q _ _ sm rn⟩
end
end Ev
/-! EvZ5: sorted(d.items()), list(range(n)). -/
namespace Ev
open PySem PySem.Spec PyProof.Rows L2
open Tr
variable {c : Cs}
theorem entries_vals {b0 : Addr} {B : Addr → Prop} {H : Hp} : ∀ {kvs : List (D × D)} {es : List DictEntry}, Paired (PairE c b0 B H) kvs es →
    ∃ vs : List (V × V), Paired Rel2 vs (es.map fun e => (e.key, e.val)) ∧ Paired (fun (v : V × V) (d : D × D) => Rz c b0 B H d.1 v.1 ∧ Rz c b0 B H d.2 v.2) vs kvs
  | _, _, .nil => ⟨[], .nil, .nil⟩
  | _, _, .cons ⟨k, v, r1, r2, r3, r4⟩ t => by
    obtain ⟨vs, h1, h2⟩ := entries_vals t
    exact ⟨(k, v) :: vs, .cons ⟨r2, r4⟩ h1, .cons ⟨r1, r3⟩ h2⟩
section
variable {X : Cx} {e : Expr} {me : Fm → Tr A} {p p2 pos pos2 : Pos}
/-- new tuples of two -/
theorem pairs_laid {pins : List (Addr × Obj)} {σ : L2.St} {H : Hp} {s : Shared} {g : Gh} (hb : Bars g) (I : Inv X pins σ H s) {h' : Heap} {tk : Nat} {as : List Addr} {ps : List (Value × Value)} {vs : List (V × V)} {ds : List (D × D)}
    (k : ∀ b u, s.heap.get? b = some u → h'.get? b = some u) (lo : ∀ a ∈ as, s.heap.objs.size ≤ a) (nd : as.Nodup)
    (ht : Paired (fun (a : Addr) (p : Value × Value) => h'.get? a = some (pairObj p)) as ps) (hv : Paired Rel2 vs ps) (hd : Paired (fun (v : V × V) (d : D × D) => Rz c g.b0 g.B H d.1 v.1 ∧ Rz c g.b0 g.B H d.2 v.2) vs ds) :
    ∃ Ht : Hp, Inv X pins σ Ht { s with heap := h', toks := tk } ∧ Same H Ht ∧ Rzs c g.b0 g.B Ht (ds.map fun d => .tup [d.1, d.2]) (as.map V.ref) := by
  have l1 : as.length = ps.length := Paired.length ht
  have l2 : vs.length = ps.length := Paired.length hv
  obtain ⟨Ht, I2, sm, at'⟩ := rows_laid (tk := tk) I k (rows := pairRows as ps vs) (by rw [pairRows_as l1 l2]; exact nd) (fun r hr => lo _ (by rw [← pairRows_as l1 l2]; exact List.mem_map_of_mem hr)) (pairRows_ok ht hv)
  exact ⟨Ht, I2, sm, pair_rzs (pairRows_at l1 l2 at') (pairs_list.paired_map hd fun v d r => ⟨r.1.mono hb (.of_same sm), r.2.mono hb (.of_same sm)⟩)⟩
theorem e_sortedItems (F : Fit X c) {apos cpos : Pos} (hg : Gl X "sorted") (hm : X.mg "sorted" = none) (hf : mthFit e apos cpos [] = true) (he : PE X e (tM c me)) :
    PE X (.Call (.Name "sorted" p) [.Call (.Attribute e "items" apos) [] [] cpos] [] pos) (tM c fun f => (me f).bind fun x => (ofO (itemsA (.items (.var 0)) [x.d])).bind fun xs => if sortable xs then .ret (fr (.lst (sortD xs))) else .stuck) := by
  unfold mthFit at hf
  simp only [Bool.and_eq_true, decide_eq_true_eq] at hf
  obtain ⟨⟨⟨h1, h2⟩, _⟩, _⟩ := hf
  refine ⟨fun pins s σ H Q I ⟨g, f, Fr, h⟩ => ?_⟩
  have hme : tM c me σ H fun v H1 => ∃ kvs : List (D × D), Rr c g.b0 g.B H1 (.dct kvs) v ∧ sortable (kvs.map fun p => .tup [p.1, p.2]) = true ∧ ∀ v' H', Same H1 H' → Rn c g H1 H' (fr (.lst (sortD (kvs.map fun p => .tup [p.1, p.2])))) v' → Q v' H' := by
    refine ⟨g, f, Fr, (all_bind.mp h).mono fun x hx v H1 s1 b1 r1 => ?_⟩
    have hx := all_bind.mp hx
    have rw1 := (r1.rw Fr.dom).rr
    cases hd : x.d with
    | dct kvs =>
      rw [hd] at hx rw1
      have hx : All (if sortable (kvs.map fun p => D.tup [p.1, p.2]) then Tr.ret (fr (.lst (sortD (kvs.map fun p => D.tup [p.1, p.2])))) else .stuck) _ := hx
      by_cases hs : sortable (kvs.map fun p => D.tup [p.1, p.2]) = true
      · rw [if_pos hs] at hx
        exact ⟨kvs, rw1, hs, fun v' H' sm rn => hx v' H' (s1.trans (.of_same sm)) (b1.same sm) (rn.early b1 s1)⟩
      · rw [if_neg hs] at hx
        exact hx.elim
    | _ => rw [hd] at hx; exact hx.elim
  refine Call_ (ld_blt I hg hm boot_sorted (PyProof.Rows.callWith_builtin1 (PyProof.Rows.args_cons ?_ rfl) rfl rfl))
  refine wpAny_Call_method_late (base_of h1 _ _ _) rfl h2 rfl (thn (he.run pins s σ H _ I hme) fun v s1 ⟨x, H1, I1, r1, kvs, rr, hs, q⟩ => ?_)
  obtain ⟨k1, k2⟩ := ty_dict F pins σ H1 s1 x v I1 r1 ⟨_, _, kvs, rr⟩
  refine ⟨"dict", "dict.items", PySem.F.plainAttrs_dict, PySem.F.slot_dict_items, PySem.F.type_dict_items, k1, k2, ?_⟩
  refine Calls.callWith_builtin rfl (PyProof.Rows.evalArgs_nil3 ?_)
  obtain ⟨d, rfl, hS, hz, dh⟩ := dct_heap F I1 rr
  cases r1
  obtain ⟨es, ep, hr, pr⟩ := dh.raw
  refine call_meetsIn PySem.F.slot_dict_items k1 PySem.F.entry_dict_items (PySem.F.args_dict_items_1 _) (meets_dict_items_raw d hS) ⟨⟨es, ep, hr⟩, PyProof.Rows.args_nil ?_⟩
  have hp : ∀ b u, s1.heap.get? b = some u → (s1.heap.push { cls := .type "dict_items", data := .fields #[.ref d] }).get? b = some u := fun b u e => Heap.get?_push_of_some _ e
  refine Calls.call_function_entry kind_sorted plain_sorted entry_sorted (args_sorted1 _) ?_
  unfold Builtin.«sorted»
  refine wpAny_bind (m := checkCount "sorted" 1 1 _) (wpAny_pure ?_)
  have hl : kvs.length = es.size := by rw [Paired.length pr, Array.length_toList]
  refine wpAny_bind (PySem.W.dil_collect (A := X.A.in1) (s := { s1 with heap := s1.heap.push { cls := .type "dict_items", data := .fields #[.ref d] } }) (I1.ok.hd F.calm) ⟨_, Heap.get?_push_size _ rfl, rfl, rfl⟩ (hr.at fun o e => hp d o e) (by rw [← hl]; exact hz) fun h' tk as k la G => ?_)
  dsimp only at k G ⊢
  obtain ⟨vs, v1, v2⟩ := entries_vals pr
  have ht : Paired (fun (a : Addr) (p : Value × Value) => h'.get? a = some (pairObj p)) as (es.toList.map fun e => (e.key, e.val)) := paired_get (by rw [la, List.length_map, Array.length_toList]) fun j b eb => by
    rw [List.getElem?_map, Option.map_eq_some_iff] at eb
    obtain ⟨en, e1, rfl⟩ := eb
    have hj : j < as.length := by
      have := (List.getElem?_eq_some_iff.mp e1).1
      rw [Array.length_toList] at this
      omega
    obtain ⟨hj2, e2⟩ := G.pairs j as[j] (List.getElem?_eq_getElem hj)
    have : en = es[j] := by
      rw [Array.getElem?_toList, Array.getElem?_eq_getElem hj2] at e1
      exact (Option.some.inj e1).symm
    subst this
    exact ⟨as[j], List.getElem?_eq_getElem hj, e2⟩
  obtain ⟨Ht, I2, sm, rz⟩ := pairs_laid (g := g) (tk := tk) Fr.bars I1 (fun b u e => k b u (hp b u e)) (fun a ha => Nat.le_of_lt (Nat.lt_of_le_of_lt (by rw [Heap.size_push]; exact Nat.le_succ _) (G.above a ha))) (G.rise.imp fun h => Nat.ne_of_lt h) ht v1 v2
  refine wpAny_bind (wpAny_newList ?_ (by rw [List.length_map, la, ← hl]; exact hz))
  refine wpAny_bind (wpAny_holding (thn (sort_new F Fr.bars I2 rz (vals_refs as) hs (Q := Q) fun v' H' sm2 rn => q v' H' (fun a o e => sm2 a o (sm a o e)) ?_) fun _ s2 hq => ?_))
  · obtain ⟨w, e, hw, r⟩ := rn
    refine ⟨w, e, ?_, r⟩
    cases hq : H1 w with
    | none => rfl
    | some u => rw [sm _ _ hq] at hw; cases hw
  · exact wpAny_pure ⟨_, rfl, hq⟩
/-- list(range(e)) -/
theorem e_listRg (F : Fit X c) (hg : Gl X "list") (hm : X.mg "list" = none) (hg2 : Gl X "range") (hm2 : X.mg "range" = none) (hst : noStar e = true) (he : PE X e (tM c me)) :
    PE X (.Call (.Name "list" p) [.Call (.Name "range" p2) [e] [] pos2] [] pos) (tM c fun f => (me f).bind fun x => (ofO (rangeD [x.d])).bind fun xs => if xs.length ≤ line then .ret (fr (.lst xs)) else .stuck) := by
  refine PE.imp (pe_listRg F.calm hg hm (prg_1 hg2 hm2 he (noStar_each hst _ _)) (noStar_each (e := .Call (.Name "range" p2) [e] [] pos2) (by rfl) _ _)) fun σ H Q ⟨g, f, Fr, h⟩ => ?_
  refine ⟨g, f, Fr, (all_bind.mp h).mono fun x hx v H1 s1 b1 r1 => ?_⟩
  have hx := all_bind.mp hx
  cases hd : x.d with
  | int j =>
    have rw1 := (r1.rw Fr.dom).rr
    rw [hd] at hx rw1
    refine ⟨j, rw1.int, ?_⟩
    simp only [rangeD] at hx
    by_cases hb : j < 2 ^ 62 ∧ -(2 ^ 62) ≤ j
    · rw [if_pos hb] at hx
      have hx : All (if ((List.range j.toNat).map fun (k : Nat) => D.int (k : Int)).length ≤ line then Tr.ret (fr (.lst ((List.range j.toNat).map fun (k : Nat) => D.int (k : Int)))) else .stuck) _ := hx
      by_cases hl : ((List.range j.toNat).map fun (k : Nat) => D.int (k : Int)).length ≤ line
      · rw [if_pos hl] at hx
        rw [List.length_map, List.length_range, line_eq, sizeLine_eq] at hl
        refine ⟨⟨by omega, by omega, hb.2, hb.1, by omega⟩, fun q hq => hx _ _ (s1.trans (.of_same (same_new hq))) (b1.same (same_new hq)) (Rn.early b1 s1 (new_lst Fr.bars hq ?_))⟩
        unfold rgV
        have e0 : (j - 0).toNat = j.toNat := by omega
        rw [e0]
        exact ints_rzs _
      · rw [if_neg hl] at hx
        exact hx.elim
    · rw [if_neg hb] at hx
      exact hx.elim
  | _ => rw [hd] at hx; exact hx.elim
where ints_rzs {b0 : Addr} {B : Addr → Prop} {H : Hp} : ∀ l : List Nat, Rzs c b0 B H (l.map fun (k : Nat) => D.int (k : Int)) (l.map fun i => V.int (0 + (i : Nat)))
  | [] => .nil
  | k :: l => .cons (by rw [Rz]; show V.int (0 + (k : Int)) = _; rw [Int.zero_add]) (ints_rzs l)
end
end Ev
/-! EvE1: the context of a def, its tables. -/
namespace Ev
open PySem PySem.Spec PyProof.Rows L2
open Tr
/-- the module's names, by their numbers -/
structure Tb where
  fns : List Str
  glb : List Str
def drawName : Str := "_law_draw"
/-- what a context owes -/
structure Ct (X : Cx) (c : Cs) (G : Pg) (tb : Tb) (n : Nat) (N : List Str) (sc : Scope) (fn : Str → Bool) : Prop where
  fit : Fit X c
  N : X.N = N
  nd : X.N.Nodup
  sc : X.env.scope = sc
  fn : X.fn = fn
  fns : ∀ (k : Nat) (x : Str), tb.fns[k]? = some x → ∃ q, c.fa k = some q ∧ X.mg x = some (.ref q)
  fall : ∀ k q, c.fa k = some q → FnS X c (spF c G n k) q
  glb : ∀ (j : Nat) (x : Str), tb.glb[j]? = some x → ∃ d v u, G.glb[j]? = some d ∧ X.mg x = some u ∧ RelV v u ∧ ∀ (g : Gh) H, BoxOk g H → Rz c g.b0 g.B H d v
  blt : ∀ x ∈ bltNames, X.mg x = none
  draw : ∃ q, X.mg drawName = some (.ref q) ∧ FnS X c spDraw q
theorem Ct.blk {X : Cx} {c : Cs} {G : Pg} {tb : Tb} {n : Nat} {N : List Str} {sc : Scope} {fn : Str → Bool} (K : Ct X c G tb n N sc fn) (s : Shared) (H : Hp) (scope : Scope) (C : Addr) (cl : List (Str × Addr)) (fp : List Addr) :
    Ct (X.blk s H scope (compEnvC scope cl C X.env) fp) c G tb n N (relS scope sc) (fun x => scope.names.lookup x == some .cell) where
  fit := ⟨K.fit.K, K.fit.w, K.fit.calm, K.fit.un⟩
  N := K.N
  nd := K.nd
  sc := by rw [← K.sc]; rfl
  fn := rfl
  fns := K.fns
  fall := fun k q h => ⟨(K.fall k q h).ok, (K.fall k q h).kp⟩
  glb := K.glb
  blt := K.blt
  draw := let ⟨q, h1, h2⟩ := K.draw; ⟨q, h1, h2.ok, h2.kp⟩
/-- a name's place in a scope -/
def isG (sc : Scope) (x : Str) : Bool := (sc.names.lookup x == some .globalImplicit) && !(x == ("__debug__" : Str)) && !(x == ("__name__" : Str))
def isV (sc : Scope) (x : Str) : Bool := ((sc.names.lookup x == some .local) || (sc.names.lookup x == some .cell) || (sc.names.lookup x == some .free)) && !(x == ("__debug__" : Str)) && !(x == ("__classdict__" : Str))
theorem isG_of {X : Cx} {sc : Scope} {x : Str} (h : isG sc x = true) (e : X.env.scope = sc) : Gl X x ∧ (x == ("__debug__" : Str)) = false ∧ x ≠ "__name__" := by
  unfold isG at h
  simp only [Bool.and_eq_true, Bool.not_eq_true'] at h
  obtain ⟨⟨h1, h2⟩, h3⟩ := h
  refine ⟨?_, h2, fun z => ?_⟩
  · show X.env.scope.names.lookup x = _
    rw [e]
    exact eq_of_beq h1
  · rw [z] at h3
    simp at h3
theorem isV_of {X : Cx} {sc : Scope} {x : Str} (h : isV sc x = true) (e : X.env.scope = sc) : Vis X.env.scope x ∧ (x == ("__debug__" : Str)) = false ∧ (x == ("__classdict__" : Str)) = false := by
  unfold isV at h
  simp only [Bool.and_eq_true, Bool.not_eq_true', Bool.or_eq_true] at h
  obtain ⟨⟨h1, h2⟩, h3⟩ := h
  refine ⟨?_, h2, h3⟩
  rw [e]
  rcases h1 with (h1 | h1) | h1
  · exact .inl (eq_of_beq h1)
  · exact .inr (.inl (eq_of_beq h1))
  · exact .inr (.inr (eq_of_beq h1))
/-- a name that is bound here -/
def isT (sc : Scope) (fn : Str → Bool) (x : Str) : Bool := (sc.names.lookup x == some .local) || ((sc.names.lookup x == some .cell) && fn x)
theorem isT_of {X : Cx} {sc : Scope} {fn : Str → Bool} {x : Str} (h : isT sc fn x = true) (e : X.env.scope = sc) (ef : X.fn = fn) : Loc X.env.scope x ∧ (X.fn x = true ∨ X.env.scope.names.lookup x = some .local) := by
  unfold isT at h
  simp only [Bool.and_eq_true, Bool.or_eq_true] at h
  rw [e, ef]
  rcases h with h | ⟨h, h2⟩
  · exact ⟨.inl (eq_of_beq h), .inr (eq_of_beq h)⟩
  · exact ⟨.inr (eq_of_beq h), .inl h2⟩
end Ev
/-! EvE2: the checker: a text of the program is that of the compact syntax. -/
namespace Ev
open PySem PySem.Spec PyProof.Rows L2
open Tr
def isNm (N : List Str) (sc : Scope) (i : Nat) : Expr → Bool
  | .Name x _ => decide (N[i]? = some x) && isV sc x
  | _ => false
/-- a built-in's name -/
def isBlt (sc : Scope) (s : Str) : Expr → Bool
  | .Name x _ => decide (x = s) && isG sc x
  | _ => false
def isFn (tb : Tb) (sc : Scope) (k : Nat) : Expr → Bool
  | .Name x _ => decide (tb.fns[k]? = some x) && isG sc x
  | _ => false
def isGlb (tb : Tb) (sc : Scope) (k : Nat) : Expr → Bool
  | .Name x _ => decide (tb.glb[k]? = some x) && isG sc x
  | _ => false
def cNon : Expr → Bool
  | .Constant .none _ _ => true
  | _ => false
def cBl (b : Bool) : Expr → Bool
  | .Constant (.bool a) _ _ => a == b
  | _ => false
def cInt (j : Int) : Expr → Bool
  | .Constant (.int i) _ _ => decide (i = j)
  | _ => false
def cStr (z : List Nat) : Expr → Bool
  | .Constant (.str s) _ _ => decide (s = toStr z)
  | _ => false
def isCst (tb : Tb) (sc : Scope) : D → Expr → Bool
  | .fn k, x => isFn tb sc k x
  | .non, x => cNon x
  | .bl b, x => cBl b x
  | .int j, x => cInt j x
  | .str z, x => cStr z x
  | _, _ => false
/-- the built-ins that are called by name: a type? its name -/
def biK : Bi → Option (Bool × Str)
  | .len => some (false, "len")
  | .sorted => some (false, "sorted")
  | .all => some (false, "all")
  | .any => some (false, "any")
  | .sum => some (false, "sum")
  | .max => some (false, "max")
  | .min => some (false, "min")
  | .abs => some (false, "abs")
  | .tuple => some (true, "tuple")
  | .list => some (true, "list")
  | .dict => some (true, "dict")
  | .int => some (true, "int")
  | _ => none
/-- a set of something, sorted or measured -/
def biS : Bi → Option Str
  | .sortedSet => some "sorted"
  | .lenSet => some "len"
  | _ => none
def tyN : Ty → Str
  | .tuple => "tuple"
  | .list => "list"
  | .str => "str"
  | .int => "int"
  | .bool => "bool"
def noComp : Expr → Bool
  | .ListComp .. => false
  | .SetComp .. => false
  | .DictComp .. => false
  | _ => true
def noTuple : Expr → Bool
  | .Tuple .. => false
  | _ => true
def ownOf (N : List Str) (own : List Nat) : List (Str × Nat) := own.map fun i => ((N[i]?).getD "", i)
mutual
/-- targets: names, tuples of them -/
def mTg (N : List Str) (sc : Scope) (fn : Str → Bool) : T → Expr → Bool
  | .nm i, x => match x with
    | .Name y _ => decide (N[i]? = some y) && isT sc fn y
    | _ => false
  | .tup ts, x => match x with
    | .Tuple xs _ _ => mTgs N sc fn ts xs
    | _ => false
  | .sub _ _, _ => false
def mTgs (N : List Str) (sc : Scope) (fn : Str → Bool) : List T → List Expr → Bool
  | [], xs => match xs with
    | [] => true
    | _ => false
  | t :: ts, xs => match xs with
    | x :: xs => mTg N sc fn t x && mTgs N sc fn ts xs
    | [] => false
end
/-- own of a block -/
def cellOf (scope : Scope) : Str → Bool := fun x => scope.names.lookup x == some .cell
def tupTg : T → Expr → Bool
  | .tup _, .Tuple _ _ _ => true
  | _, _ => false
section
variable (tb : Tb) (N : List Str)
mutual
def mE : E → Scope → Expr → Bool
  | .var i, sc, x => isNm N sc i x
  | .cst d, sc, x => isCst tb sc d x
  | .glb k, sc, x => isGlb tb sc k x
  | .tup es, sc, x => match x with
    | .Tuple xs _ _ => mEs es sc xs
    | _ => false
  | .lst es, sc, x => match x with
    | .List xs _ => mEs es sc xs
    | _ => false
  | .dct es, sc, x => match x with
    | .Dict ks vs _ => decide (ks.length ≤ 15) && mPr es sc ks vs
    | _ => false
  | .bin o a b, sc, x => match x with
    | .BinOp l p r _ => decide (p = opOf o) && mE a sc l && mE b sc r
    | _ => false
  | .neg a, sc, x => match x with
    | .UnaryOp .USub y _ => mE a sc y
    | _ => false
  | .not a, sc, x => match x with
    | .UnaryOp .Not y _ => mE a sc y
    | _ => false
  | .and es, sc, x => match x with
    | .BoolOp .And xs _ => decide (xs ≠ []) && mEs es sc xs
    | _ => false
  | .or es, sc, x => match x with
    | .BoolOp .Or xs _ => decide (xs ≠ []) && mEs es sc xs
    | _ => false
  | .ife cc a b, sc, x => match x with
    | .IfExp t y z _ => mE cc sc t && mE a sc y && mE b sc z
    | _ => false
  | .cmp a ops bs, sc, x => match x with
    | .Compare l ps rs _ => decide (ps = ops.map copOf) && mE a sc l && mEs bs sc rs && (match ops, rs with
      | [_], [r] => noSet r
      | [_, _], [_, r] => noSet r
      | _, _ => false)
    | _ => false
  | .idx a b, sc, x => match x with
    | .Subscript l r _ => noSlice r && mE a sc l && mE b sc r
    | _ => false
  | .slc a lo hi, sc, x => match x with
    | .Subscript l (.Slice lo' hi' none _) _ => mE a sc l && mO lo sc lo' && mO hi sc hi'
    | _ => false
  | .rev a, sc, x => match x with
    | .Subscript l (.Slice none none (some (.UnaryOp .USub (.Constant (.int 1) _ _) _)) _) _ => mE a sc l
    | _ => false
  | .call k es, sc, x => match x with
    | .Call g xs [] _ => isFn tb sc k g && mEs es sc xs
    | _ => false
  | .callv e es, sc, x => match x with
    | .Call g xs [] _ => notAttr g && mE e sc g && decide (xs ≠ []) && mEs es sc xs
    | _ => false
  | .draw a b, sc, x => match x with
    | .Call g [y, z] [] _ => isBlt sc drawName g && noStar y && noStar z && mE a sc y && mE b sc z
    | _ => false
  | .bi k es, sc, x => match biK k with
    | some (_, s) => match x with
      | .Call g xs [] _ => isBlt sc s g && decide (xs ≠ []) && mEs es sc xs
      | _ => false
    | none => match biS k with
      | some s => match x with
        | .Call g [.Call g2 xs [] _] [] _ => isBlt sc s g && isBlt sc "set" g2 && decide (xs.length = 1) && mEs es sc xs
        | _ => false
      | none => false
  | .bit b it, sc, x => match b, it with
    | .list, .rng es => match x with
      | .Call g [.Call g2 xs [] _] [] _ => isBlt sc "list" g && isBlt sc "range" g2 && decide (xs.length = 1) && mEs es sc xs
      | _ => false
    | .list, .zip es => match x with
      | .Call g [.Call g2 xs [] _] [] _ => isBlt sc "list" g && isBlt sc "zip" g2 && decide (xs.length = 2) && mEs es sc xs
      | _ => false
    | .sorted, .items e => match x with
      | .Call g [.Call (.Attribute o m apos) [] [] cpos] [] _ => isBlt sc "sorted" g && decide (m = "items") && mthFit o apos cpos [] && mE e sc o
      | _ => false
    | _, _ => false
  | .isi a t, sc, x => match x with
    | .Call g [y, z] [] _ => isBlt sc "isinstance" g && isBlt sc (tyN t) z && noStar y && mE a sc y
    | _ => false
  | .mth m o es, sc, x => match x with
    | .Call (.Attribute y nm apos) xs [] pos => mthFit y apos pos xs && mE o sc y && mEs es sc xs && (match m with
      | .get => decide (nm = "get") && decide (xs ≠ [])
      | .join => decide (nm = "join") && decide (xs.length = 1)
      | _ => false)
    | _ => false
  | .comp own gs elt, sc, x => match x with
    | .ListComp el gens scope _ => blkC N sc scope (ownOf N own) && decide (gs.length = 1 ∨ gs.length = 2) && mGs own gs true sc (relS scope sc) (cellOf scope) gens && mE elt (relS scope sc) el
    | _ => false
def mEs : List E → Scope → List Expr → Bool
  | [], _, xs => match xs with
    | [] => true
    | _ => false
  | e :: es, sc, xs => match xs with
    | x :: xs => noStar x && mE e sc x && mEs es sc xs
    | [] => false
def mO : Option E → Scope → Option Expr → Bool
  | none, _, x => match x with
    | none => true
    | _ => false
  | some e, sc, x => match x with
    | some y => mE e sc y
    | none => false
/-- a dict display -/
def mPr : List E → Scope → List (Option Expr) → List Expr → Bool
  | [], _, ks, vs => match ks, vs with
    | [], [] => true
    | _, _ => false
  | k :: es, sc, ks, vs => match es with
    | [] => false
    | v :: r => match ks, vs with
      | some y :: ks, z :: vs => mE k sc y && mE v sc z && mPr r sc ks vs
      | _, _ => false
/-- a source; the target's form is asked for where parts are walked -/
def mIt : It → T → Scope → Expr → Expr → Bool
  | .of e, _, sc, _, x => noSet x && mE e sc x
  | .rng es, _, sc, _, x => match x with
    | .Call g xs [] _ => isBlt sc "range" g && decide (xs.length = 1 ∨ xs.length = 2 ∨ xs.length = 3) && mEs es sc xs
    | _ => false
  | .enm e, t, sc, tg, x => match x with
    | .Call g [y] [] _ => isBlt sc "enumerate" g && tupTg t tg && noStar y && mE e sc y
    | _ => false
  | .zip es, t, sc, tg, x => match x with
    | .Call g xs [] _ => isBlt sc "zip" g && tupTg t tg && decide (xs.length = 2 ∨ xs.length = 3) && mEs es sc xs
    | _ => false
  | _, _, _, _, _ => false
def mIfs : List E → Scope → List Expr → Bool
  | [], _, xs => match xs with
    | [] => true
    | _ => false
  | e :: es, sc, xs => match es with
    | [] => match xs with
      | [x] => mE e sc x
      | _ => false
    | _ :: _ => false
/-- the clauses: the first source is of the scope outside -/
def mGs (own : List Nat) : List Gen → Bool → Scope → Scope → (Str → Bool) → List Comprehension → Bool
  | [], first, _, _, _, gens => !first && (match gens with
    | [] => true
    | _ => false)
  | .mk t it ifs :: gs, first, sco, sc, fn, gens => match gens with
    | ⟨tg, iter, ix, a⟩ :: gens => decide (a = 0) && mTg N sc fn t tg && mIt it t (if first then sco else sc) tg iter && mIfs ifs sc ix && (T.names t).all (fun i => decide (i ∈ own)) && mGs own gs false sco sc fn gens
    | [] => false
end
end
end Ev
/-! EvE3: what the checker's looks say. -/
namespace Ev
open PySem PySem.Spec PyProof.Rows L2
open Tr
variable {c : Cs}
theorem tM_le {m m' : Fm → Tr A} (h : ∀ f P, All (m' f) P → All (m f) P) {σ : L2.St} {H : Hp} {Q : VK} (q : tM c m' σ H Q) : tM c m σ H Q := by
  obtain ⟨g, f, Fr, k⟩ := q
  exact ⟨g, f, Fr, h _ _ k⟩
theorem tI_le {wk : Bool} {m : Fm → Tr (List A)} {it it' : List D → Option (List D)} (h : ∀ f P, All (m f) P → All (m f) fun as => P as ∧ it (as.map A.d) = it' (as.map A.d)) {σ : L2.St} {H : Hp} {R : L2.It → Hp → Prop} (q : tI c wk m it σ H R) : tI c wk m it' σ H R := by
  obtain ⟨g, f, Fr, k⟩ := q
  refine ⟨g, f, Fr, (h f _ k).mono fun as ⟨⟨ds, e, q⟩, e2⟩ => ⟨ds, by rw [← e2]; exact e, q⟩⟩
theorem isNm_of {N : List Str} {sc : Scope} {i : Nat} {x : Expr} (h : isNm N sc i x = true) : ∃ y p, x = .Name y p ∧ N[i]? = some y ∧ isV sc y = true := by
  unfold isNm at h
  split at h
  · simp only [Bool.and_eq_true, decide_eq_true_eq] at h
    exact ⟨_, _, rfl, h.1, h.2⟩
  · cases h
theorem isBlt_of {sc : Scope} {s : Str} {x : Expr} (h : isBlt sc s x = true) : ∃ p, x = .Name s p ∧ isG sc s = true := by
  unfold isBlt at h
  split at h
  · simp only [Bool.and_eq_true, decide_eq_true_eq] at h
    obtain ⟨rfl, h⟩ := h
    exact ⟨_, rfl, h⟩
  · cases h
theorem isFn_of {tb : Tb} {sc : Scope} {k : Nat} {x : Expr} (h : isFn tb sc k x = true) : ∃ y p, x = .Name y p ∧ tb.fns[k]? = some y ∧ isG sc y = true := by
  unfold isFn at h
  split at h
  · simp only [Bool.and_eq_true, decide_eq_true_eq] at h
    exact ⟨_, _, rfl, h.1, h.2⟩
  · cases h
theorem isGlb_of {tb : Tb} {sc : Scope} {k : Nat} {x : Expr} (h : isGlb tb sc k x = true) : ∃ y p, x = .Name y p ∧ tb.glb[k]? = some y ∧ isG sc y = true := by
  unfold isGlb at h
  split at h
  · simp only [Bool.and_eq_true, decide_eq_true_eq] at h
    exact ⟨_, _, rfl, h.1, h.2⟩
  · cases h
/-- a name, called for its truth, is nothing odd -/
def plainT : Expr → Bool
  | .UnaryOp .Not _ _ => false
  | .BoolOp _ _ _ => false
  | .Compare _ _ _ _ => false
  | .IfExp _ _ _ _ => false
  | .NamedExpr _ _ _ => false
  | _ => true
theorem plain_ok {x : Expr} (h : plainT x = true) (env : Env) : ∀ whole, isTrue x env whole = (do let v ← whole; standAt x.pos; holding [v] (truthy v)) := by
  intro w
  cases x with
  | UnaryOp op a p => cases op <;> first | rfl | cases h
  | _ => first | rfl | cases h
section
variable {X : Cx} {G : Pg} {tb : Tb} {n : Nat} {N : List Str} {sc : Scope} {fn : Str → Bool}
theorem k_g (K : Ct X c G tb n N sc fn) {x : Str} (h : isG sc x = true) : Gl X x ∧ (x == ("__debug__" : Str)) = false ∧ x ≠ "__name__" := isG_of h K.sc
theorem k_cst (K : Ct X c G tb n N sc fn) {d : D} {x : Expr} (h : isCst tb sc d x = true) : PE X x (tM c fun _ => .ret (cl d)) ∧ plainT x = true := by
  cases d with
  | fn k =>
    have h : isFn tb sc k x = true := h
    obtain ⟨y, p, rfl, e, hg⟩ := isFn_of h
    obtain ⟨h1, h2, h3⟩ := k_g K hg
    obtain ⟨q, e1, e2⟩ := K.fns k y e
    refine ⟨e_cst (pe_glob (v := .ref q) h1 e2 rfl h2) fun g H b => ?_, rfl⟩
    rw [Rz]
    exact ⟨q, e1, rfl⟩
  | non =>
    have h : cNon x = true := h
    unfold cNon at h
    split at h
    · exact ⟨e_cst pe_non fun g H b => by rw [Rz], rfl⟩
    · cases h
  | bl b =>
    have h : cBl b x = true := h
    unfold cBl at h
    split at h
    · have := eq_of_beq h
      subst this
      exact ⟨e_cst pe_bl fun g H b => by rw [Rz], rfl⟩
    · cases h
  | int b =>
    have h : cInt b x = true := h
    unfold cInt at h
    split at h
    · have := of_decide_eq_true h
      subst this
      exact ⟨e_cst pe_int fun g H b => by rw [Rz], rfl⟩
    · cases h
  | str b =>
    have h : cStr b x = true := h
    unfold cStr at h
    split at h
    · have := of_decide_eq_true h
      subst this
      exact ⟨e_cst pe_str fun g H b => by rw [Rz], rfl⟩
    · cases h
  | _ => cases h
theorem k_var (K : Ct X c G tb n N sc fn) {i : Nat} {x : Expr} (h : isNm N sc i x = true) (call : Nat → List A → Tr A) : PE X x (tM c (fun f => evE G call (.var i) f)) ∧ plainT x = true := by
  obtain ⟨y, p, rfl, e, hv⟩ := isNm_of h
  obtain ⟨h1, h2, h3⟩ := isV_of hv K.sc
  refine ⟨?_, rfl⟩
  simp only [evE]
  exact e_var (by rw [K.N]; exact e) h1 h2 h3
theorem k_glb (K : Ct X c G tb n N sc fn) {i : Nat} {x : Expr} (h : isGlb tb sc i x = true) (call : Nat → List A → Tr A) : PE X x (tM c (fun f => evE G call (.glb i) f)) ∧ plainT x = true := by
  obtain ⟨y, p, rfl, e, hg⟩ := isGlb_of h
  obtain ⟨h1, h2, h3⟩ := k_g K hg
  obtain ⟨d, v, u, e1, e2, r, hr⟩ := K.glb i y e
  refine ⟨?_, rfl⟩
  simp only [evE, e1]
  exact e_cst (pe_glob h1 e2 r h2) hr
theorem biK_mem : ∀ {k : Bi} {b : Bool} {s : Str}, biK k = some (b, s) → s ∈ bltNames := by
  intro k b s h
  cases k <;> simp only [biK, Option.some.injEq, Prod.mk.injEq, reduceCtorEq] at h <;> obtain ⟨_, rfl⟩ := h <;> simp [bltNames]
theorem ca_bi (F : Fit X c) : ∀ {k : Bi} {s : Str}, biK k = some (false, s) → ∃ id : String, bootBuiltins s = some (.builtin id) ∧ CallR X (.builtin id) (rCa c (biD k)) := by
  intro k s h
  cases k <;> simp only [biK, Option.some.injEq, Prod.mk.injEq, reduceCtorEq, false_and, true_and, Bool.true_eq_false] at h <;> subst h
  · exact ⟨"len", rfl, ca_len F⟩
  · exact ⟨"sorted", rfl, ca_sorted F⟩
  · exact ⟨"all", rfl, ca_all F⟩
  · exact ⟨"any", rfl, ca_any F⟩
  · exact ⟨"sum", rfl, ca_sum F⟩
  · exact ⟨"max", rfl, ca_max F⟩
  · exact ⟨"min", rfl, ca_min F⟩
  · exact ⟨"abs", rfl, ca_abs⟩
theorem ca_biT (F : Fit X c) : ∀ {k : Bi} {s : Str}, biK k = some (true, s) → ∃ id : String, bootBuiltins s = some (.type id) ∧ CallR X (.type id) (rCa c (biD k)) := by
  intro k s h
  cases k <;> simp only [biK, Option.some.injEq, Prod.mk.injEq, reduceCtorEq, false_and, true_and, Bool.false_eq_true] at h <;> subst h
  · exact ⟨"tuple", rfl, ca_tuple F⟩
  · exact ⟨"list", rfl, ca_list F⟩
  · exact ⟨"dict", rfl, ca_dict F⟩
  · exact ⟨"int", rfl, ca_int⟩
theorem k_bi (K : Ct X c G tb n N sc fn) {k : Bi} {b : Bool} {s : Str} (hk : biK k = some (b, s)) {g e : Expr} {xs : List Expr} {pos : Pos} (hg : isBlt sc s g = true) (hst : noStar e = true) (hst2 : xs.all noStar = true) {ms : Fm → Tr (List A)} (ha : PA X (e :: xs) (tAs c ms)) :
    PE X (.Call g (e :: xs) [] pos) (tM c fun f => (ms f).bind fun as => ofO (biD k (as.map A.d))) := by
  obtain ⟨p, rfl, hg'⟩ := isBlt_of hg
  obtain ⟨h1, h2, h3⟩ := k_g K hg'
  have hm := K.blt s (biK_mem hk)
  cases b with
  | false =>
    obtain ⟨id, hb, hc⟩ := ca_bi K.fit hk
    exact e_bi hc h1 hm hb h3 h2 hst hst2 ha
  | true =>
    obtain ⟨id, hb, hc⟩ := ca_biT K.fit hk
    exact e_ty hc h1 hm hb h3 h2 hst hst2 ha
theorem k_isi (K : Ct X c G tb n N sc fn) {t : Ty} {g y z : Expr} {pos : Pos} {me : Fm → Tr A} (hg : isBlt sc "isinstance" g = true) (hz : isBlt sc (tyN t) z = true) (hst : noStar y = true) (ha : PE X y (tM c me)) :
    PE X (.Call g [y, z] [] pos) (tM c fun f => (me f).bind fun x => (ofO (isiD x.d t)).bind fun b => .ret (cl (.bl b))) := by
  obtain ⟨p, rfl, hg'⟩ := isBlt_of hg
  obtain ⟨p2, rfl, hz'⟩ := isBlt_of hz
  obtain ⟨h1, h2, h3⟩ := k_g K hg'
  obtain ⟨z1, z2, z3⟩ := k_g K hz'
  have hm := K.blt "isinstance" (by simp [bltNames])
  have hm2 : X.mg (tyN t) = none := K.blt _ (by cases t <;> simp [bltNames, tyN])
  exact e_isi K.fit t h1 hm rfl h3 h2 hst z1 hm2 (by cases t <;> rfl) z3 z2 ha
theorem k_draw (K : Ct X c G tb n N sc fn) {g y z : Expr} {pos : Pos} {ma mb : Fm → Tr A} (hg : isBlt sc drawName g = true) (hst : noStar y = true) (hst2 : noStar z = true) (ha : PE X y (tM c ma)) (hb : PE X z (tM c mb)) :
    PE X (.Call g [y, z] [] pos) (tM c fun f => (ma f).bind fun x => (mb f).bind fun y => match x.d, y.d with
      | .box, .int n => if 0 < n ∧ n < 1000000 then .ask n.toNat fun d => .ret (cl (.int d)) else .stuck
      | _, _ => .stuck) := by
  obtain ⟨p, rfl, hg'⟩ := isBlt_of hg
  obtain ⟨h1, h2, h3⟩ := k_g K hg'
  obtain ⟨q, e, S⟩ := K.draw
  exact e_draw h1 e S h2 hst hst2 ha hb
/-- targets of names -/
theorem assignEach_tup {es : List Expr} {env : Env} (h : es.all notStar = true) : (assignEach es env).map (·.2) = es.map (fun e => assign e env) ∧ (assignEach es env).length = es.length ∧ (assignEach es env).findIdx? (·.1) = none := by
  induction es with
  | nil => exact ⟨rfl, rfl, rfl⟩
  | cons e es ih =>
    rw [List.all_cons, Bool.and_eq_true] at h
    obtain ⟨i1, i2, i3⟩ := ih h.2
    have e0 : assignEach (e :: es) env = (false, assign e env) :: assignEach es env := by cases e <;> first | rfl | cases h.1
    rw [e0]
    refine ⟨by rw [List.map_cons, i1]; rfl, by rw [List.length_cons, i2]; rfl, ?_⟩
    rw [List.findIdx?_cons, i3]
    rfl
end
end Ev
/-! EvE3s: what the checker's word for a set's built-in says. -/
namespace Ev
open PySem PySem.Spec PyProof.Rows L2
theorem biS_or {k : Bi} {s : Str} (hk : biS k = some s) : (k = .sortedSet ∧ s = "sorted") ∨ (k = .lenSet ∧ s = "len") := by
  cases k <;> simp only [biS, reduceCtorEq, Option.some.injEq] at hk
  · exact .inl ⟨rfl, hk.symm⟩
  · exact .inr ⟨rfl, hk.symm⟩
end Ev
/-! EvE4: the checker is right about expressions. -/
namespace Ev
open PySem PySem.Spec PyProof.Rows L2
open Tr
variable {c : Cs}
section
variable {X : Cx} {pos : Pos}
theorem e_one {op : PySem.BoolOp} {a : Expr} {m : Fm → Tr A} (h : PE X a (tM c m)) : PE X (.BoolOp op [a] pos) (tM c m) := by
  refine ⟨fun pins s σ H Q I q => ?_⟩
  have e : eval (.BoolOp op [a] pos) X.env = eval a X.env := by cases op <;> rfl
  rw [e]
  exact h.run pins s σ H Q I q
theorem evEs_len {G : Pg} {call : Nat → List A → Tr A} : ∀ (es : List E) {f : Fm} {P : List A → Prop}, All (evEs G call es f) P → All (evEs G call es f) fun as => P as ∧ as.length = es.length
  | [], f, P, h => by rw [evEs] at h ⊢; exact ⟨h, rfl⟩
  | e :: es, f, P, h => by
    rw [evEs] at h ⊢
    refine all_bind.mpr ((all_bind.mp h).mono fun a ha => ?_)
    refine all_bind.mpr ((evEs_len es (all_bind.mp ha)).mono fun as ⟨h1, h2⟩ => ⟨h1, by rw [List.length_cons, h2]; rfl⟩)
/-- d.get(..) as the evaluator tells it -/
theorem k_get (F : Fit X c) {apos : Pos} {o e : Expr} {es : List Expr} {mo : Fm → Tr A} {ms : Fm → Tr (List A)} (ho : PE X o (tM c mo)) (ha : PA X (e :: es) (tAs c ms)) (hf : mthFit o apos pos (e :: es) = true) :
    PE X (.Call (.Attribute o "get" apos) (e :: es) [] pos) (tM c fun f => (mo f).bind fun x => if mthRecv .get x.d then (ms f).bind fun as => match cleans as with
        | some ds => ofO (mthD .get x.d ds)
        | none => .stuck else .stuck) := by
  refine PE.imp (e_get F ho ha hf) fun σ H Q => tM_le fun f P h => ?_
  refine all_bind.mpr ((all_bind.mp h).mono fun x hx => ?_)
  cases hd : x.d with
  | dct kvs => rw [hd] at hx; exact hx
  | _ => rw [hd] at hx; exact hx.elim
theorem k_join (F : Fit X c) {apos : Pos} {o e : Expr} {mo : Fm → Tr A} {me : Fm → Tr A} (ho : PE X o (tM c mo)) (ha : PE X e (tM c me)) (hf : mthFit o apos pos [e] = true) (hst : noStar e = true) :
    PE X (.Call (.Attribute o "join" apos) [e] [] pos) (tM c fun f => (mo f).bind fun x => if mthRecv .join x.d then ((me f).bind fun a => (Tr.ret []).bind fun as => .ret (a :: as)).bind fun as => match cleans as with
        | some ds => ofO (mthD .join x.d ds)
        | none => .stuck else .stuck) := by
  refine PE.imp (e_join F ho ha hf hst) fun σ H Q => tM_le fun f P h => ?_
  refine all_bind.mpr ((all_bind.mp h).mono fun x hx => ?_)
  cases hd : x.d with
  | str z =>
    rw [hd] at hx
    refine all_bind.mpr ((all_bind.mp (all_bind.mp hx)).mono fun y hy => ?_)
    have hy : All (match cleans [y] with
        | some ds => ofO (mthD .join (.str z) ds)
        | none => .stuck) P := hy
    show All (ofO (mthD .join (.str z) [y.d])) P
    cases hc : y.clean with
    | none => simp only [cleans, hc] at hy; exact hy.elim
    | some d =>
      simp only [cleans, hc] at hy
      have e : d = y.d := by
        unfold A.clean at hc
        split at hc <;> cases hc
        rfl
      rw [← e]
      exact hy
  | _ => rw [hd] at hx; exact hx.elim
end
section
variable {X : Cx} {G : Pg} {tb : Tb} {n : Nat} {N : List Str} {sc : Scope} {fn : Str → Bool}
mutual
theorem k_tg (K : Ct X c G tb n N sc fn) : ∀ {t : T} {x : Expr}, mTg N sc fn t x = true → PG X x (gT c.K t) ∧ notStar x = true
  | .nm i, x, h => by
    simp only [mTg] at h
    split at h
    · simp only [Bool.and_eq_true, decide_eq_true_eq] at h
      obtain ⟨h1, h2⟩ := isT_of h.2 K.sc K.fn
      exact ⟨by rw [gT]; exact pg_name K.nd (by rw [K.N]; exact h.1) h1 h2, rfl⟩
    · cases h
  | .tup ts, x, h => by
    simp only [mTg] at h
    split at h
    · obtain ⟨h1, h2, h3⟩ := k_tgs K h
      obtain ⟨a1, a2, a3⟩ := assignEach_tup (env := X.env) h2
      refine ⟨?_, rfl⟩
      rw [gT, K.fit.K]
      refine pg_tup K.fit.calm (by rw [← K.fit.K]; exact h1) (by rw [a2, h3]) a3
    · cases h
  | .sub _ _, x, h => by simp only [mTg] at h; cases h
theorem k_tgs (K : Ct X c G tb n N sc fn) : ∀ {ts : List T} {xs : List Expr}, mTgs N sc fn ts xs = true → PGs X xs (gTs c.K ts) ∧ xs.all notStar = true ∧ xs.length = ts.length
  | [], xs, h => by
    simp only [mTgs] at h
    split at h
    · exact ⟨by rw [gTs]; exact pgs_nil, rfl, rfl⟩
    · cases h
  | t :: ts, xs, h => by
    simp only [mTgs] at h
    split at h
    · rename_i x xs
      simp only [Bool.and_eq_true] at h
      obtain ⟨h1, h2⟩ := k_tg K h.1
      obtain ⟨i1, i2, i3⟩ := k_tgs K h.2
      have h4 : (x :: xs).all notStar = true := by rw [List.all_cons, h2, i2]; rfl
      refine ⟨?_, h4, by rw [List.length_cons, i3]; rfl⟩
      rw [gTs]
      refine pgs_cons h1 i1 ?_
      rw [(assignEach_tup h4).1, List.map_cons, (assignEach_tup i2).1]
    · cases h
end
theorem noSet_fold {e : Expr} (h : noSet e = true) : ∀ env v, foldedSetIterable e env v = pure v := by
  intro env v
  cases e <;> first | rfl | cases h
theorem tupTg_of {t : T} {x : Expr} (h : tupTg t x = true) : t.isTup = true ∧ ∃ es k p, x = .Tuple es k p := by
  unfold tupTg at h
  split at h
  · exact ⟨rfl, _, _, _, rfl⟩
  · cases h
def wkOf : It → Bool
  | .enm _ => true
  | .zip _ => true
  | _ => false
end
end Ev
/-! EvE5: the checker is right about expressions: all of them. -/
namespace Ev
open PySem PySem.Spec PyProof.Rows L2
open Tr
variable {c : Cs}
section
variable {X : Cx}
/-- a value and its truth -/
def Both (X : Cx) (c : Cs) (x : Expr) (m : Fm → Tr A) : Prop := PE X x (tM c m) ∧ PT X x (tB' c (mT m))
theorem both_pl (F : Fit X c) {x : Expr} {m : Fm → Tr A} (h : PE X x (tM c m)) (hp : plainT x = true) : Both X c x m := ⟨h, t_val F h (plain_ok hp X.env)⟩
theorem pts_none : PTs X [] (tB' c fun _ => .ret true) := by
  refine ⟨fun pins s σ H Q I ⟨g, f, Fr, h⟩ => pts_nil.run pins s σ H Q I ?_⟩
  exact h H (.refl _ _) Fr.box
end
variable {G : Pg} {tb : Tb} {n : Nat} {N : List Str}
theorem itemsA_of (e : E) : ∀ ds, itemsA (.of e) ds = match ds with
    | [d] => seqD d
    | _ => none
  | [] => rfl
  | [_] => rfl
  | _ :: _ :: _ => rfl
theorem itemsA_enm (e : E) : ∀ ds, itemsA (.enm e) ds = match ds with
    | [d] => (seqD d).map fun xs => enumD xs 0
    | _ => none
  | [] => rfl
  | [_] => rfl
  | _ :: _ :: _ => rfl
theorem own_map {own : List Nat} : (ownOf N own).map (·.2) = own := by
  unfold ownOf
  rw [List.map_map]
  exact List.map_id' own
theorem mEs_len : ∀ {es : List E} {sc : Scope} {xs : List Expr}, mEs tb N es sc xs = true → es.length = xs.length
  | [], sc, xs, h => by
    simp only [mEs] at h
    split at h
    · rfl
    · cases h
  | e :: es, sc, xs, h => by
    simp only [mEs] at h
    split at h
    · simp only [Bool.and_eq_true] at h
      rw [List.length_cons, List.length_cons, mEs_len h.2]
    · cases h
theorem mGs_nil {own : List Nat} {sco sc : Scope} {fn : Str → Bool} {gens : List Comprehension} (h : mGs tb N own [] false sco sc fn gens = true) : gens = [] := by
  cases gens with
  | nil => rfl
  | cons _ _ => simp [mGs] at h
theorem mGs_of {own : List Nat} {t : T} {it : It} {ifs : List E} {gs : List Gen} {first : Bool} {sco sc : Scope} {fn : Str → Bool} {gens : List Comprehension} (h : mGs tb N own (.mk t it ifs :: gs) first sco sc fn gens = true) :
    ∃ tg iter ix rest, gens = ⟨tg, iter, ix, 0⟩ :: rest ∧ mTg N sc fn t tg = true ∧ mIt tb N it t (if first then sco else sc) tg iter = true ∧ mIfs tb N ifs sc ix = true ∧ (∀ i ∈ t.names, i ∈ own) ∧ mGs tb N own gs false sco sc fn rest = true := by
  simp only [mGs] at h
  split at h
  · simp only [Bool.and_eq_true, decide_eq_true_eq, List.all_eq_true] at h
    obtain ⟨⟨⟨⟨⟨rfl, h1⟩, h2⟩, h3⟩, h4⟩, h5⟩ := h
    exact ⟨_, _, _, _, rfl, h1, h2, h3, h4, h5⟩
  · cases h
theorem mIt_noSet {it : It} {t : T} {sc : Scope} {tg x : Expr} (h : mIt tb N it t sc tg x = true) : noSet x = true := by
  cases it with
  | of e => simp only [mIt, Bool.and_eq_true] at h; exact h.1
  | items _ => simp [mIt] at h
  | values _ => simp [mIt] at h
  | _ => simp only [mIt] at h; split at h <;> first | rfl | cases h
theorem wk_tup {it : It} {t : T} {sc : Scope} {tg x : Expr} (h : mIt tb N it t sc tg x = true) : wkOf it = true → t.isTup = true := by
  cases it with
  | enm e =>
    intro _
    simp only [mIt] at h
    split at h
    · simp only [Bool.and_eq_true] at h
      exact (tupTg_of h.1.1.2).1
    · cases h
  | zip e =>
    intro _
    simp only [mIt] at h
    split at h
    · simp only [Bool.and_eq_true] at h
      exact (tupTg_of h.1.1.2).1
    · cases h
  | _ => intro z; cases z
mutual
theorem kE : ∀ (e : E) {sc : Scope} {fn : Str → Bool} {X : Cx} {x : Expr}, Ct X c G tb n N sc fn → mE tb N e sc x = true → Both X c x (fun f => evE G (callF G n) e f)
  | .var i, sc, fn, X, x, K, h => by
    simp only [mE] at h
    obtain ⟨h1, h2⟩ := k_var K h (callF G n)
    exact both_pl K.fit h1 h2
  | .cst d, sc, fn, X, x, K, h => by
    simp only [mE] at h
    obtain ⟨h1, h2⟩ := k_cst K h
    simp only [evE]
    exact both_pl K.fit h1 h2
  | .glb i, sc, fn, X, x, K, h => by
    simp only [mE] at h
    obtain ⟨h1, h2⟩ := k_glb K h (callF G n)
    exact both_pl K.fit h1 h2
  | .tup es, sc, fn, X, x, K, h => by
    simp only [mE] at h
    split at h
    · simp only [evE]
      exact both_pl K.fit (e_tup (kEs es K h).1) rfl
    · cases h
  | .lst es, sc, fn, X, x, K, h => by
    simp only [mE] at h
    split at h
    · simp only [evE]
      exact both_pl K.fit (e_lst (kEs es K h).1) rfl
    · cases h
  | .dct es, sc, fn, X, x, K, h => by
    simp only [mE] at h
    split at h
    · rename_i ks vs pos
      simp only [Bool.and_eq_true, decide_eq_true_eq] at h
      simp only [evE]
      obtain ⟨ms, h1, h2, h3, h4, h5⟩ := kPr es (pos := pos) K h.2
      refine both_pl K.fit ?_ rfl
      by_cases h0 : ks = []
      · subst h0
        have : vs = [] := by cases vs with
          | nil => rfl
          | cons _ _ => cases h3
        subst this
        refine PE.imp e_dct0 fun σ H Q => tM_le fun f P hq => ?_
        have e := h4 rfl
        subst e
        simp only [evPs] at hq
        exact hq
      · refine PE.imp (e_dct h1 h2 h3 h0 h.1) fun σ H Q => tM_le fun f P hq => ?_
        rw [← show evPs G (callF G n) es f = mPs ms f from congrFun h5 f]
        exact hq
    · cases h
  | .bin o a b, sc, fn, X, x, K, h => by
    simp only [mE] at h
    split at h
    · simp only [Bool.and_eq_true, decide_eq_true_eq] at h
      obtain ⟨⟨rfl, h1⟩, h2⟩ := h
      simp only [evE]
      exact both_pl K.fit (e_bin K.fit o (kE a K h1).1 (kE b K h2).1) rfl
    · cases h
  | .neg a, sc, fn, X, x, K, h => by
    simp only [mE] at h
    split at h
    · simp only [evE]
      exact both_pl K.fit (e_neg (kE a K h).1) rfl
    · cases h
  | .not a, sc, fn, X, x, K, h => by
    simp only [mE] at h
    split at h
    · simp only [evE]
      exact ⟨e_not K.fit (kE a K h).1, t_not (kE a K h).2⟩
    · cases h
  | .and es, sc, fn, X, x, K, h => by
    simp only [mE] at h
    split at h
    · simp only [Bool.and_eq_true, decide_eq_true_eq] at h
      simp only [evE]
      obtain ⟨h1, h2⟩ := kAnd es K h.2 h.1
      exact ⟨h1, h2.pt⟩
    · cases h
  | .or es, sc, fn, X, x, K, h => by
    simp only [mE] at h
    split at h
    · simp only [Bool.and_eq_true, decide_eq_true_eq] at h
      simp only [evE]
      obtain ⟨h1, h2⟩ := kOr es K h.2 h.1
      exact ⟨h1, h2.pt⟩
    · cases h
  | .ife cc a b, sc, fn, X, x, K, h => by
    simp only [mE] at h
    split at h
    · simp only [Bool.and_eq_true] at h
      simp only [evE]
      exact ⟨e_ife (kE cc K h.1.1).2 (kE a K h.1.2).1 (kE b K h.2).1, t_ife (kE cc K h.1.1).2 (kE a K h.1.2).2 (kE b K h.2).2⟩
    · cases h
  | .cmp a ops bs, sc, fn, X, x, K, h => by
    simp only [mE] at h
    split at h
    · simp only [Bool.and_eq_true, decide_eq_true_eq] at h
      obtain ⟨⟨⟨rfl, h1⟩, h2⟩, h3⟩ := h
      have ha := (kE a K h1).1
      have hb := kCs bs K h2
      simp only [evE]
      split at h3
      · rename_i o r
        match bs, h2, hb with
        | [b], h2, hb =>
          have hb := hb.1 (x := r) b rfl rfl
          simp only [evCmp]
          exact ⟨e_cmp1 K.fit o ha hb h3, t_cmp1 K.fit o ha hb h3⟩
        | [], h2, hb => simp [mEs] at h2
        | _ :: _ :: _, h2, hb => simp [mEs] at h2
      · rename_i o o2 r r2
        match bs, h2, hb with
        | [b, b2], h2, hb =>
          have hb := hb.2 (x := r) (x2 := r2) b b2 rfl rfl
          simp only [evCmp]
          exact ⟨e_cmp2 K.fit o o2 ha hb.1 hb.2 h3, t_cmp2 K.fit o o2 ha hb.1 hb.2 h3⟩
        | [], h2, hb => simp [mEs] at h2
        | [_], h2, hb => simp [mEs] at h2
        | _ :: _ :: _ :: _, h2, hb => simp [mEs] at h2
      · cases h3
    · cases h
  | .idx a b, sc, fn, X, x, K, h => by
    simp only [mE] at h
    split at h
    · simp only [Bool.and_eq_true] at h
      simp only [evE]
      exact both_pl K.fit (e_idx K.fit (kE a K h.1.2).1 (kE b K h.2).1 h.1.1) rfl
    · cases h
  | .slc a lo hi, sc, fn, X, x, K, h => by
    simp only [mE] at h
    split at h
    · simp only [Bool.and_eq_true] at h
      simp only [evE]
      exact both_pl K.fit (e_slc K.fit (kE a K h.1.1).1 (kO lo K h.1.2) (kO hi K h.2)) rfl
    · cases h
  | .rev a, sc, fn, X, x, K, h => by
    simp only [mE] at h
    split at h
    · simp only [evE]
      exact both_pl K.fit (e_rev (kE a K h).1) rfl
    · cases h
  | .call k es, sc, fn, X, x, K, h => by
    simp only [mE] at h
    split at h
    · rename_i g xs pos
      simp only [Bool.and_eq_true] at h
      obtain ⟨y, p, rfl, e, hg⟩ := isFn_of h.1
      obtain ⟨h1, h2, h3⟩ := k_g K hg
      obtain ⟨q, e1, e2⟩ := K.fns k y e
      have S := K.fall k q e1
      obtain ⟨ha, hs⟩ := kEs es K h.2
      simp only [evE]
      refine both_pl K.fit ?_ rfl
      cases xs with
      | nil =>
        cases es with
        | nil => simp only [evEs]; exact e_call0 h1 e2 S h2
        | cons _ _ => have := h.2; simp [mEs] at this
      | cons x xs =>
        rw [List.all_cons, Bool.and_eq_true] at hs
        exact e_call h1 e2 S h2 hs.1 hs.2 ha
    · cases h
  | .callv e es, sc, fn, X, x, K, h => by
    simp only [mE] at h
    split at h
    · rename_i g xs pos
      simp only [Bool.and_eq_true, decide_eq_true_eq] at h
      obtain ⟨⟨⟨h1, h2⟩, h3⟩, h4⟩ := h
      obtain ⟨ha, hs⟩ := kEs es K h4
      simp only [evE]
      refine both_pl K.fit ?_ rfl
      cases xs with
      | nil => exact absurd rfl h3
      | cons x xs =>
        rw [List.all_cons, Bool.and_eq_true] at hs
        refine PE.imp (e_callv (kE e K h2).1 h1 K.fall hs.1 hs.2 ha) fun σ H Q => tM_le fun f P hq => ?_
        refine all_bind.mpr ((all_bind.mp hq).mono fun x hx => ?_)
        cases hd : x.d with
        | fn k => rw [hd] at hx; exact hx
        | _ => rw [hd] at hx; exact (all_ex (all_bind.mp hx)).elim fun _ z => z.elim
    · cases h
  | .draw a b, sc, fn, X, x, K, h => by
    simp only [mE] at h
    split at h
    · simp only [Bool.and_eq_true] at h
      obtain ⟨⟨⟨⟨h1, h2⟩, h3⟩, h4⟩, h5⟩ := h
      simp only [evE]
      exact both_pl K.fit (k_draw K h1 h2 h3 (kE a K h4).1 (kE b K h5).1) rfl
    · cases h
  | .bi k es, sc, fn, X, x, K, h => by
    simp only [mE] at h
    split at h
    · rename_i s hk
      split at h
      · rename_i g xs pos
        simp only [Bool.and_eq_true, decide_eq_true_eq] at h
        obtain ⟨⟨h1, h2⟩, h3⟩ := h
        obtain ⟨ha, hs⟩ := kEs es K h3
        simp only [evE]
        refine both_pl K.fit ?_ rfl
        cases xs with
        | nil => exact absurd rfl h2
        | cons x xs =>
          rw [List.all_cons, Bool.and_eq_true] at hs
          exact k_bi K hk h1 hs.1 hs.2 ha
      · cases h
    · split at h
      · rename_i s hk
        split at h
        · rename_i g g2 xs pos2 pos
          simp only [Bool.and_eq_true, decide_eq_true_eq] at h
          obtain ⟨⟨⟨h1, h2⟩, h3⟩, h4⟩ := h
          obtain ⟨p, rfl, hg⟩ := isBlt_of h1
          obtain ⟨p2, rfl, hg2⟩ := isBlt_of h2
          obtain ⟨a1, a2, a3⟩ := k_g K hg
          obtain ⟨b1, b2, b3⟩ := k_g K hg2
          have hm : X.mg s = none := K.blt _ (by cases k <;> simp only [biS, Option.some.injEq, reduceCtorEq] at hk <;> subst hk <;> simp [bltNames])
          have hm2 : X.mg "set" = none := K.blt _ (by simp [bltNames])
          match es, xs, h3, h4 with
          | [e], [x], h3, h4 =>
            simp only [mEs, Bool.and_eq_true] at h4
            simp only [evE, evEs]
            refine both_pl K.fit (PE.imp (e_set K.fit (biS_or hk) a1 hm b1 hm2 h4.1.1 (kE e K h4.1.2).1) fun σ H Q => tM_le fun f P hq => ?_) rfl
            refine all_bind.mpr ((all_bind.mp (all_bind.mp hq)).mono fun x hx => hx)
          | [], [x], h3, h4 => simp [mEs] at h4
          | _ :: _ :: _, [x], h3, h4 => simp [mEs] at h4
        · cases h
      · cases h
  | .bit b (.rng es), sc, fn, X, x, K, h => by
    cases b <;> simp only [mE, Bool.false_eq_true] at h
    split at h
    · rename_i g g2 xs pos2 pos
      simp only [Bool.and_eq_true, decide_eq_true_eq] at h
      obtain ⟨⟨⟨h1, h2⟩, h3⟩, h4⟩ := h
      obtain ⟨p, rfl, hg⟩ := isBlt_of h1
      obtain ⟨p2, rfl, hg2⟩ := isBlt_of h2
      obtain ⟨a1, a2, a3⟩ := k_g K hg
      obtain ⟨b1, b2, b3⟩ := k_g K hg2
      have hm : X.mg "list" = none := K.blt _ (by simp [bltNames])
      have hm2 : X.mg "range" = none := K.blt _ (by simp [bltNames])
      match es, xs, h3, h4 with
      | [e], [x], h3, h4 =>
        simp only [mEs, Bool.and_eq_true] at h4
        simp only [evE, evItA, evEs, itT]
        refine both_pl K.fit (PE.imp (e_listRg K.fit a1 hm b1 hm2 h4.1.1 (kE e K h4.1.2).1) fun σ H Q => tM_le fun f P hq => ?_) rfl
        exact all_bind.mpr ((all_bind.mp (all_bind.mp (all_bind.mp hq))).mono fun x hx => all_bind.mpr hx)
      | [], [x], h3, h4 => simp [mEs] at h4
      | _ :: _ :: _, [x], h3, h4 => simp [mEs] at h4
    · cases h
  | .bit b (.zip es), sc, fn, X, x, K, h => by
    cases b <;> simp only [mE, Bool.false_eq_true] at h
    split at h
    · rename_i g g2 xs pos2 pos
      simp only [Bool.and_eq_true, decide_eq_true_eq] at h
      obtain ⟨⟨⟨h1, h2⟩, h3⟩, h4⟩ := h
      obtain ⟨p, rfl, hg⟩ := isBlt_of h1
      obtain ⟨p2, rfl, hg2⟩ := isBlt_of h2
      obtain ⟨a1, a2, a3⟩ := k_g K hg
      obtain ⟨b1, b2, b3⟩ := k_g K hg2
      have hm : X.mg "list" = none := K.blt _ (by simp [bltNames])
      have hm2 : X.mg "zip" = none := K.blt _ (by simp [bltNames])
      obtain ⟨ha, hs⟩ := kEs es K h4
      have hlen := mEs_len h4
      match xs, h3, ha, hs, hlen with
      | [x, y], h3, ha, hs, hlen =>
        simp only [List.all_cons, List.all_nil, Bool.and_eq_true] at hs
        simp only [evE, evItA, itT]
        refine both_pl K.fit (PE.imp (e_listZip K.fit a1 hm b1 hm2 hs.1 hs.2.1 ha fun f P h => (evEs_len es h).mono fun as ⟨h1, h2⟩ => ⟨h1, h2.trans hlen⟩) fun σ H Q => tM_le fun f P hq => ?_) rfl
        exact all_bind.mpr ((all_bind.mp (all_bind.mp hq)).mono fun x hx => all_bind.mpr hx)
    · cases h
  | .bit b (.items e), sc, fn, X, x, K, h => by
    cases b <;> simp only [mE, Bool.false_eq_true] at h
    split at h
    · rename_i g o m apos cpos pos
      simp only [Bool.and_eq_true, decide_eq_true_eq] at h
      obtain ⟨⟨⟨h1, rfl⟩, h3⟩, h4⟩ := h
      obtain ⟨p, rfl, hg⟩ := isBlt_of h1
      obtain ⟨a1, a2, a3⟩ := k_g K hg
      have hm : X.mg "sorted" = none := K.blt _ (by simp [bltNames])
      simp only [evE, evItA, itT]
      refine both_pl K.fit (PE.imp (e_sortedItems K.fit a1 hm h3 (kE e K h4).1) fun σ H Q => tM_le fun f P hq => ?_) rfl
      refine all_bind.mpr ((all_bind.mp (all_bind.mp (all_bind.mp hq))).mono fun x hx => all_bind.mpr ?_)
      have e : ∀ ds, itemsA (.items (.var 0)) ds = itemsA (.items e) ds := fun ds => by
        match ds with
        | [.dct _] => rfl
        | [] => rfl
        | [.non] => rfl
        | [.bl _] => rfl
        | [.int _] => rfl
        | [.str _] => rfl
        | [.lst _] => rfl
        | [.tup _] => rfl
        | [.fn _] => rfl
        | [.box] => rfl
        | .dct _ :: _ :: _ => rfl
        | .non :: _ :: _ => rfl
        | .bl _ :: _ :: _ => rfl
        | .int _ :: _ :: _ => rfl
        | .str _ :: _ :: _ => rfl
        | .lst _ :: _ :: _ => rfl
        | .tup _ :: _ :: _ => rfl
        | .fn _ :: _ :: _ => rfl
        | .box :: _ :: _ => rfl
      rw [e]
      exact hx
    · cases h
  | .bit b (.of _), sc, fn, X, x, K, h => by cases b <;> simp [mE] at h
  | .bit b (.enm _), sc, fn, X, x, K, h => by cases b <;> simp [mE] at h
  | .bit b (.values _), sc, fn, X, x, K, h => by cases b <;> simp [mE] at h
  | .isi a t, sc, fn, X, x, K, h => by
    simp only [mE] at h
    split at h
    · simp only [Bool.and_eq_true] at h
      obtain ⟨⟨⟨h1, h2⟩, h3⟩, h4⟩ := h
      simp only [evE]
      exact both_pl K.fit (k_isi K h1 h2 h3 (kE a K h4).1) rfl
    · cases h
  | .mth m o es, sc, fn, X, x, K, h => by
    simp only [mE] at h
    split at h
    · rename_i y nm apos xs pos
      simp only [Bool.and_eq_true] at h
      obtain ⟨⟨⟨h1, h2⟩, h3⟩, h4⟩ := h
      have ho := (kE o K h2).1
      obtain ⟨ha, hs⟩ := kEs es K h3
      simp only [evE]
      refine both_pl K.fit ?_ rfl
      split at h4
      · simp only [Bool.and_eq_true, decide_eq_true_eq] at h4
        obtain ⟨rfl, h4⟩ := h4
        cases xs with
        | nil => exact absurd rfl h4
        | cons x xs => exact k_get K.fit ho ha h1
      · simp only [Bool.and_eq_true, decide_eq_true_eq] at h4
        obtain ⟨rfl, h4⟩ := h4
        match es, xs, h4, h3, h1, hs with
        | [e], [x], h4, h3, h1, hs =>
          simp only [mEs, Bool.and_eq_true] at h3
          simp only [evEs]
          exact k_join K.fit ho (kE e K h3.1.2).1 h1 h3.1.1
        | [], [x], h4, h3, h1, hs => simp [mEs] at h3
        | _ :: _ :: _, [x], h4, h3, h1, hs => simp [mEs] at h3
      · cases h4
    · cases h
  | .comp own [] elt, sc, fn, X, x, K, h => by
    simp only [mE] at h
    split at h
    · simp at h
    · cases h
  | .comp own [.mk t it ifs] elt, sc, fn, X, x, K, h => by
    simp only [mE] at h
    split at h
    · rename_i el gens scope pos
      simp only [Bool.and_eq_true] at h
      obtain ⟨⟨⟨h1, _⟩, h2⟩, h3⟩ := h
      obtain ⟨tg, iter, ix, rest, rfl, a1, a2, a3, a4, a5⟩ := mGs_of h2
      have := mGs_nil a5
      subst this
      simp only [if_true] at a2
      obtain ⟨b1, b2, b3⟩ := kIt it t K a2
      have ok : BlkOk X.N X.env.scope scope (ownOf N own) := by rw [K.N, K.sc]; exact blkOk_by h1
      refine both_pl K.fit ?_ rfl
      refine PE.imp (pe_lc K.fit.calm K.nd b1 ok (fun s H C cl fp => (k_tg (K.blk s H scope C cl fp) a1).1) (fun s H C cl fp => kIfs ifs (K.blk s H scope C cl fp) a3) (fun s H C cl fp => (kE elt (K.blk s H scope C cl fp) h3).1) (fun v => b3 _ v)) fun σ H Q q => ?_
      rw [own_map]
      refine lc1 b2 a4 ?_
      simp only [evE, evGens] at q
      exact q
    · cases h
  | .comp own [.mk t it ifs, .mk t1 it1 ifs1] elt, sc, fn, X, x, K, h => by
    simp only [mE] at h
    split at h
    · rename_i el gens scope pos
      simp only [Bool.and_eq_true] at h
      obtain ⟨⟨⟨h1, _⟩, h2⟩, h3⟩ := h
      obtain ⟨tg, iter, ix, rest, rfl, a1, a2, a3, a4, a5⟩ := mGs_of h2
      obtain ⟨tg1, iter1, ix1, rest1, rfl, c1, c2, c3, c4, c5⟩ := mGs_of a5
      have := mGs_nil c5
      subst this
      simp only [if_true] at a2
      simp only [Bool.false_eq_true, if_false] at c2
      obtain ⟨b1, b2, b3⟩ := kIt it t K a2
      have ok : BlkOk X.N X.env.scope scope (ownOf N own) := by rw [K.N, K.sc]; exact blkOk_by h1
      have d3 : ∀ env v, foldedSetIterable iter1 env v = pure v := noSet_fold (mIt_noSet c2)
      refine both_pl K.fit ?_ rfl
      refine PE.imp (pe_lc2 (vs1 := t1.names) K.fit.calm K.nd b1 ok (by rw [own_map]; exact c4) (fun s H C cl fp => (k_tg (K.blk s H scope C cl fp) a1).1) (fun s H C cl fp => kIfs ifs (K.blk s H scope C cl fp) a3)
        (fun s H C cl fp => (kIt it1 t1 (K.blk s H scope C cl fp) c2).1) (fun s H C cl fp => (k_tg (K.blk s H scope C cl fp) c1).1) (fun s H C cl fp => kIfs ifs1 (K.blk s H scope C cl fp) c3)
        (fun s H C cl fp => (kE elt (K.blk s H scope C cl fp) h3).1) (fun v => b3 _ v) d3) fun σ H Q q => ?_
      rw [own_map]
      refine lc2 b2 a4 (wk_tup c2) ?_
      simp only [evE, evGens] at q
      exact q
    · cases h
  | .comp own (_ :: _ :: _ :: _) elt, sc, fn, X, x, K, h => by
    simp only [mE] at h
    split at h
    · simp at h
    · cases h
theorem kEs : ∀ (es : List E) {sc : Scope} {fn : Str → Bool} {X : Cx} {xs : List Expr}, Ct X c G tb n N sc fn → mEs tb N es sc xs = true → PA X xs (tAs c (fun f => evEs G (callF G n) es f)) ∧ xs.all noStar = true
  | [], sc, fn, X, xs, K, h => by
    simp only [mEs] at h
    split at h
    · simp only [evEs]
      exact ⟨a_nil, rfl⟩
    · cases h
  | e :: es, sc, fn, X, xs, K, h => by
    simp only [mEs] at h
    split at h
    · simp only [Bool.and_eq_true] at h
      obtain ⟨⟨h1, h2⟩, h3⟩ := h
      obtain ⟨i1, i2⟩ := kEs es K h3
      simp only [evEs]
      exact ⟨a_cons h1 (kE e K h2).1 i1, by rw [List.all_cons, h1, i2]; rfl⟩
    · cases h
/-- what is compared -/
theorem kCs : ∀ (es : List E) {sc : Scope} {fn : Str → Bool} {X : Cx} {xs : List Expr}, Ct X c G tb n N sc fn → mEs tb N es sc xs = true →
    (∀ {x : Expr} (b : E), es = [b] → xs = [x] → PE X x (tM c (fun f => evE G (callF G n) b f))) ∧ (∀ {x x2 : Expr} (b b2 : E), es = [b, b2] → xs = [x, x2] → PE X x (tM c (fun f => evE G (callF G n) b f)) ∧ PE X x2 (tM c (fun f => evE G (callF G n) b2 f)))
  | [], sc, fn, X, xs, K, h => ⟨(fun _ e => by cases e), (fun _ _ e => by cases e)⟩
  | e :: es, sc, fn, X, xs, K, h => by
    simp only [mEs] at h
    split at h
    · simp only [Bool.and_eq_true] at h
      have h1 := (kE e K h.1.2).1
      have h2 := kCs es K h.2
      refine ⟨fun b e1 e2 => ?_, fun b b2 e1 e2 => ?_⟩
      · cases e1; cases e2
        exact h1
      · cases e1; cases e2
        exact ⟨h1, h2.1 b2 rfl rfl⟩
    · cases h
theorem kIt : ∀ (it : It) (t : T) {sc : Scope} {fn : Str → Bool} {X : Cx} {tg x : Expr}, Ct X c G tb n N sc fn → mIt tb N it t sc tg x = true →
    PI X tg x (tI c (wkOf it) (fun f => evItA G (callF G n) it f) (itemsA it)) ∧ (wkOf it = true → t.isTup = true) ∧ (∀ env v, foldedSetIterable x env v = pure v)
  | .of e, t, sc, fn, X, tg, x, K, h => by
    have hf := noSet_fold (mIt_noSet h)
    have hw := wk_tup h
    simp only [mIt, Bool.and_eq_true] at h
    refine ⟨?_, hw, hf⟩
    simp only [evItA]
    exact PI.imp (i_of K.fit (kE e K h.2).1) fun σ H R => tI_le fun f P hq => hq.mono fun as ha => ⟨ha, itemsA_of e _⟩
  | .rng es, t, sc, fn, X, tg, x, K, h => by
    have hf := noSet_fold (mIt_noSet h)
    have hw := wk_tup h
    refine ⟨?_, hw, hf⟩
    simp only [mIt] at h
    split at h
    · rename_i g xs pos
      simp only [Bool.and_eq_true, decide_eq_true_eq] at h
      obtain ⟨⟨h1, h2⟩, h3⟩ := h
      obtain ⟨p, rfl, hg⟩ := isBlt_of h1
      obtain ⟨a1, a2, a3⟩ := k_g K hg
      have hm : X.mg "range" = none := K.blt _ (by simp [bltNames])
      obtain ⟨ha, hs⟩ := kEs es K h3
      have hlen := mEs_len h3
      simp only [evItA]
      have fin : ∀ (k : Nat), xs.length = k → ∀ σ H R, tI c false (fun f => evEs G (callF G n) es f) (itemsA (.rng es)) σ H R → tI c false (fun f => evEs G (callF G n) es f) (fun ds => if ds.length = k then rangeD ds else none) σ H R := fun k hk σ H R => tI_le fun f P hq => (evEs_len es hq).mono fun as ⟨h1, h2⟩ => ⟨h1, by
        show rangeD _ = if (as.map A.d).length = k then rangeD (as.map A.d) else none
        rw [if_pos (by rw [List.length_map, h2, hlen, hk])]⟩
      match xs, h2, hs, ha, fin with
      | [x], h2, hs, ha, fin =>
        simp only [List.all_cons, List.all_nil, Bool.and_eq_true] at hs
        exact PI.imp (i_rng1 a1 hm hs.1 ha) (fin 1 rfl)
      | [x, y], h2, hs, ha, fin =>
        simp only [List.all_cons, List.all_nil, Bool.and_eq_true] at hs
        exact PI.imp (i_rng2 a1 hm hs.1 hs.2.1 ha) (fin 2 rfl)
      | [x, y, z], h2, hs, ha, fin =>
        simp only [List.all_cons, List.all_nil, Bool.and_eq_true] at hs
        exact PI.imp (i_rng3 a1 hm hs.1 hs.2.1 hs.2.2.1 ha) (fin 3 rfl)
      | [], h2, hs, ha, fin => simp at h2
      | _ :: _ :: _ :: _ :: _, h2, hs, ha, fin => simp at h2
    · cases h
  | .enm e, t, sc, fn, X, tg, x, K, h => by
    have hf := noSet_fold (mIt_noSet h)
    have hw := wk_tup h
    refine ⟨?_, hw, hf⟩
    simp only [mIt] at h
    split at h
    · rename_i g y pos
      simp only [Bool.and_eq_true] at h
      obtain ⟨⟨⟨h1, h2⟩, h3⟩, h4⟩ := h
      obtain ⟨p, rfl, hg⟩ := isBlt_of h1
      obtain ⟨a1, a2, a3⟩ := k_g K hg
      have hm : X.mg "enumerate" = none := K.blt _ (by simp [bltNames])
      obtain ⟨ht, es, k, tp, rfl⟩ := tupTg_of h2
      simp only [evItA]
      exact PI.imp (i_enm K.fit a1 hm h3 (a_cons h3 (kE e K h4).1 a_nil)) fun σ H R => tI_le fun f P hq => hq.mono fun as ha => ⟨ha, itemsA_enm e _⟩
    · cases h
  | .zip es, t, sc, fn, X, tg, x, K, h => by
    have hf := noSet_fold (mIt_noSet h)
    have hw := wk_tup h
    refine ⟨?_, hw, hf⟩
    simp only [mIt] at h
    split at h
    · rename_i g xs pos
      simp only [Bool.and_eq_true, decide_eq_true_eq] at h
      obtain ⟨⟨⟨h1, h0⟩, h2⟩, h3⟩ := h
      obtain ⟨p, rfl, hg⟩ := isBlt_of h1
      obtain ⟨a1, a2, a3⟩ := k_g K hg
      obtain ⟨ht, els, k, tp, rfl⟩ := tupTg_of h0
      have hm : X.mg "zip" = none := K.blt _ (by simp [bltNames])
      obtain ⟨ha, hs⟩ := kEs es K h3
      have hlen := mEs_len h3
      simp only [evItA]
      have fin : ∀ (k : Nat), xs.length = k → ∀ σ H R, tI c true (fun f => evEs G (callF G n) es f) (itemsA (.zip es)) σ H R → tI c true (fun f => evEs G (callF G n) es f) (fun ds => if ds.length = k then zipD ds else none) σ H R := fun k hk σ H R => tI_le fun f P hq => (evEs_len es hq).mono fun as ⟨h1, h2⟩ => ⟨h1, by
        show zipD _ = if (as.map A.d).length = k then zipD (as.map A.d) else none
        rw [if_pos (by rw [List.length_map, h2, hlen, hk])]⟩
      match xs, h2, hs, ha, fin with
      | [x, y], h2, hs, ha, fin =>
        simp only [List.all_cons, List.all_nil, Bool.and_eq_true] at hs
        exact PI.imp (i_zip2 K.fit a1 hm hs.1 hs.2.1 ha) (fin 2 rfl)
      | [x, y, z], h2, hs, ha, fin =>
        simp only [List.all_cons, List.all_nil, Bool.and_eq_true] at hs
        exact PI.imp (i_zip3 K.fit a1 hm hs.1 hs.2.1 hs.2.2.1 ha) (fin 3 rfl)
      | [], h2, hs, ha, fin => simp at h2
      | [_], h2, hs, ha, fin => simp at h2
      | _ :: _ :: _ :: _ :: _, h2, hs, ha, fin => simp at h2
    · cases h
  | .items _, t, sc, fn, X, tg, x, K, h => by simp [mIt] at h
  | .values _, t, sc, fn, X, tg, x, K, h => by simp [mIt] at h
theorem kIfs : ∀ (es : List E) {sc : Scope} {fn : Str → Bool} {X : Cx} {xs : List Expr}, Ct X c G tb n N sc fn → mIfs tb N es sc xs = true → PTs X xs (tB' c (fun f => evIfs G (callF G n) es f))
  | [], sc, fn, X, xs, K, h => by
    simp only [mIfs] at h
    split at h
    · simp only [evIfs]
      exact pts_none
    · cases h
  | [e], sc, fn, X, xs, K, h => by
    simp only [mIfs] at h
    split at h
    · simp only [evIfs]
      exact pts_one (kE e K h).2
    · cases h
  | _ :: _ :: _, sc, fn, X, xs, K, h => by simp [mIfs] at h
theorem kO : ∀ (o : Option E) {sc : Scope} {fn : Str → Bool} {X : Cx} {x : Option Expr}, Ct X c G tb n N sc fn → mO tb N o sc x = true → PO X x (tO c (fun f => evO G (callF G n) o f))
  | none, sc, fn, X, x, K, h => by
    simp only [mO] at h
    split at h
    · simp only [evO]
      exact o_none
    · cases h
  | some e, sc, fn, X, x, K, h => by
    simp only [mO] at h
    split at h
    · simp only [evO]
      exact o_some (kE e K h).1
    · cases h
theorem kPr : ∀ (es : List E) {sc : Scope} {fn : Str → Bool} {X : Cx} {pos : Pos} {ks : List (Option Expr)} {vs : List Expr}, Ct X c G tb n N sc fn → mPr tb N es sc ks vs = true →
    ∃ ms, PPs X pos ks vs (trsOf c ms) ∧ ks.all (·.isSome) = true ∧ ks.length = vs.length ∧ (ks = [] → es = []) ∧ (fun f => evPs G (callF G n) es f) = mPs ms
  | [], sc, fn, X, pos, ks, vs, K, h => by
    simp only [mPr] at h
    split at h
    · exact ⟨[], pps_nil, rfl, rfl, fun _ => rfl, by funext f; simp only [evPs, mPs]⟩
    · cases h
  | [_], sc, fn, X, pos, ks, vs, K, h => by
    simp only [mPr] at h
    cases h
  | k :: v :: r, sc, fn, X, pos, ks, vs, K, h => by
    simp only [mPr] at h
    split at h
    · simp only [Bool.and_eq_true] at h
      obtain ⟨ms, h1, h2, h3, h4, h5⟩ := kPr r (pos := pos) K h.2
      refine ⟨((fun f => evE G (callF G n) k f), (fun f => evE G (callF G n) v f)) :: ms, pps_cons (kE k K h.1.1).1 (kE v K h.1.2).1 h1, by rw [List.all_cons, h2]; rfl, by rw [List.length_cons, h3]; rfl, (fun z => by cases z), ?_⟩
      funext f
      simp only [evPs, mPs, ← h5]
      try rfl
    · cases h
theorem kAnd : ∀ (es : List E) {sc : Scope} {fn : Str → Bool} {X : Cx} {pos : Pos} {xs : List Expr}, Ct X c G tb n N sc fn → mEs tb N es sc xs = true → xs ≠ [] →
    PE X (.BoolOp .And xs pos) (tM c (fun f => evAnd G (callF G n) es f)) ∧ PW X (.BoolOp .And xs pos) (tB' c (mT fun f => evAnd G (callF G n) es f))
  | [], sc, fn, X, pos, xs, K, h, hn => by
    cases xs with
    | nil => exact absurd rfl hn
    | cons _ _ => simp [mEs] at h
  | e :: es, sc, fn, X, pos, xs, K, h, hn => by
    simp only [mEs] at h
    split at h
    · rename_i x xs
      simp only [Bool.and_eq_true] at h
      obtain ⟨h1, h2⟩ := kE e K h.1.2
      cases es with
      | nil =>
        cases xs with
        | nil => simp only [evAnd]; exact ⟨e_one h1, w_one h2⟩
        | cons _ _ => have := h.2; simp [mEs] at this
      | cons e2 es2 =>
        cases xs with
        | nil => have := h.2; simp [mEs] at this
        | cons x2 xs2 =>
          obtain ⟨i1, i2⟩ := kAnd (e2 :: es2) (pos := pos) K h.2 (by simp)
          have eq : (fun f => evAnd G (callF G n) (e :: e2 :: es2) f) = mAnd (fun f => evE G (callF G n) e f) (fun f => evAnd G (callF G n) (e2 :: es2) f) := by
            funext f; rw [evAnd]; rfl
          rw [eq]
          exact ⟨e_and K.fit h1 i1, w_and h2 i2⟩
    · cases h
theorem kOr : ∀ (es : List E) {sc : Scope} {fn : Str → Bool} {X : Cx} {pos : Pos} {xs : List Expr}, Ct X c G tb n N sc fn → mEs tb N es sc xs = true → xs ≠ [] →
    PE X (.BoolOp .Or xs pos) (tM c (fun f => evOr G (callF G n) es f)) ∧ PW X (.BoolOp .Or xs pos) (tB' c (mT fun f => evOr G (callF G n) es f))
  | [], sc, fn, X, pos, xs, K, h, hn => by
    cases xs with
    | nil => exact absurd rfl hn
    | cons _ _ => simp [mEs] at h
  | e :: es, sc, fn, X, pos, xs, K, h, hn => by
    simp only [mEs] at h
    split at h
    · rename_i x xs
      simp only [Bool.and_eq_true] at h
      obtain ⟨h1, h2⟩ := kE e K h.1.2
      cases es with
      | nil =>
        cases xs with
        | nil => simp only [evOr]; exact ⟨e_one h1, w_one h2⟩
        | cons _ _ => have := h.2; simp [mEs] at this
      | cons e2 es2 =>
        cases xs with
        | nil => have := h.2; simp [mEs] at this
        | cons x2 xs2 =>
          obtain ⟨i1, i2⟩ := kOr (e2 :: es2) (pos := pos) K h.2 (by simp)
          have eq : (fun f => evOr G (callF G n) (e :: e2 :: es2) f) = mOr (fun f => evE G (callF G n) e f) (fun f => evOr G (callF G n) (e2 :: es2) f) := by
            funext f; rw [evOr]; rfl
          rw [eq]
          exact ⟨e_or K.fit h1 i1, w_or h2 i2⟩
    · cases h
end
end Ev
/-! EvE6: the checker for statements. -/
namespace Ev
open PySem PySem.Spec PyProof.Rows L2
open Tr
def isComp : E → Bool
  | .comp _ _ _ => true
  | _ => false
def isNmT : T → Bool
  | .nm _ => true
  | _ => false
/-- name = [..]: are the stores exchanged? -/
def swB (sc : Scope) : Expr → Expr → Bool
  | .Name y py, .ListComp _ _ s p => decide (sc.names.lookup y = some .local) && (py.line == p.line) && !(s.names.any fun (n, k) => n == y && (k == .local || k == .cell))
  | _, _ => false
def isName : Expr → Bool
  | .Name _ _ => true
  | _ => false
/-- a, b = x, y with exchanged stores -/
def parL (sc : Scope) (line : Nat) : List Expr → Bool
  | [] => true
  | .Name x p :: r => decide (sc.names.lookup x = some .local) && (p.line == line) && parL sc line r
  | _ :: _ => false
def nmOf : List Expr → List Str
  | [] => []
  | .Name x _ :: r => x :: nmOf r
  | _ :: r => nmOf r
def lineOf : List Expr → Nat
  | e :: _ => e.pos.line
  | [] => 0
def parC (sc : Scope) (ts vs : List Expr) : Bool := parL sc (lineOf ts) ts && decide ((nmOf ts).Nodup) && !(vs.all (foldedForSure 8)) && !(vs.all (constantsAlone 8))
/-- .. not exchanged: some target is not a local name of the first's line -/
def parN (sc : Scope) (ts : List Expr) : Bool := !parL sc (lineOf ts) ts
section
variable (tb : Tb) (N : List Str)
mutual
/-- targets of statements -/
def mTS (sc : Scope) (fn : Str → Bool) : T → Expr → Bool
  | .nm i, x => match x with
    | .Name y _ => decide (N[i]? = some y) && isT sc fn y
    | _ => false
  | .tup ts, x => match x with
    | .Tuple xs _ _ => mTSs sc fn ts xs
    | _ => false
  | .sub i k, x => match x with
    | .Subscript o ix _ => isNm N sc i o && noSlice ix && mE tb N k sc ix
    | _ => false
def mTSs (sc : Scope) (fn : Str → Bool) : List T → List Expr → Bool
  | [], xs => match xs with
    | [] => true
    | _ => false
  | t :: ts, xs => match xs with
    | x :: xs => mTS sc fn t x && mTSs sc fn ts xs
    | [] => false
end
mutual
def mS (sc : Scope) (fn : Str → Bool) : S → Stmt → Bool
  | .asg t own e, st => match st with
    | .Assign [tg] v _ => mTS tb N sc fn t tg && mE tb N e sc v && (match t with
      | .nm _ => isComp e || noComp v
      | _ => noTuple v)
    | _ => false
  | .asgs ts es, st => match st with
    | .Assign [.Tuple xs _ _] (.Tuple vs _ _) _ => mTSs tb N sc fn (ts.map (·.1)) xs && mEs tb N es sc vs && decide (xs.length = vs.length) && (if isPar ts then parC sc xs vs || (parN sc xs && ((ts.all fun p => !p.2) || decide (xs.length = 2)))
      else parN sc xs || decide (4 ≤ xs.length))
    | _ => false
  | .app i e, st => match st with
    | .Expr (.Call (.Attribute o nm apos) [x] [] cpos) _ => isNm N sc i o && decide (nm = "append") && mthFit o apos cpos [x] && noStar x && mE tb N e sc x
    | _ => false
  | .ext i e, st => match st with
    | .Expr (.Call (.Attribute o nm apos) [x] [] cpos) _ => isNm N sc i o && decide (nm = "extend") && mthFit o apos cpos [x] && noStar x && mE tb N e sc x
    | _ => false
  | .pop t i, st => match st with
    | .Assign [tg] (.Call (.Attribute o nm apos) [] [] cpos) _ => isNm N sc i o && decide (nm = "pop") && (apos.endLine == cpos.line) && mTS tb N sc fn t tg
    | _ => false
  | .aug i o e, st => match st with
    | .AugAssign (.Name y _) p x _ => augOk o && decide (p = opOf o) && decide (N[i]? = some y) && isT sc fn y && mE tb N e sc x
    | _ => false
  | .ret none, st => match st with
    | .Return none _ => true
    | _ => false
  | .ret (some e), st => match st with
    | .Return (some x) _ => mE tb N e sc x
    | _ => false
  | .ife c a b, st => match st with
    | .If x p q _ => mE tb N c sc x && mSs sc fn a p && mSs sc fn b q
    | _ => false
  | .whl c b, st => match st with
    | .While x p [] _ => mE tb N c sc x && mSs sc fn b p
    | _ => false
  | .forr t it lock keep b, st => match st with
    | .For tg x p [] _ => decide lock.Nodup && mTg N sc fn t tg && mIt tb N it t sc tg x && mSs sc fn b p
    | _ => false
  | .brk, st => match st with
    | .Break _ => true
    | _ => false
  | .cnt, st => match st with
    | .Continue _ => true
    | _ => false
  | .pass, st => match st with
    | .Pass _ => true
    | _ => false
  | .frz _, _ => false
def mSs (sc : Scope) (fn : Str → Bool) : List S → List Stmt → Bool
  | [], xs => match xs with
    | [] => true
    | _ => false
  | s :: ss, xs => (match s with
      | .frz _ => true
      | _ => false) && mSs sc fn ss xs || (match xs with
      | x :: xs => mS sc fn s x && mSs sc fn ss xs
      | [] => false)
end
end
end Ev
/-! EvE7: the checker is right about statements. -/
namespace Ev
open PySem PySem.Spec PyProof.Rows L2
open Tr
variable {c : Cs}
theorem tS_le {m m' : Fm → Tr Fl} (h : ∀ f P, All (m' f) P → All (m f) P) {D : Ends} {σ : L2.St} {H : Hp} (q : tS c m' D σ H) : tS c m D σ H := by
  obtain ⟨g0, H0, L, gs, g, f, S, k⟩ := q
  exact ⟨g0, H0, L, gs, g, f, S, h _ _ k⟩
/-! ### exchanged stores -/
theorem sw_no {e : Expr} (h : noComp e = true) (t : Option Expr) (l : Nat) (env : Env) : swapsWith e t l env = pure false := by
  cases e <;> first | rfl | cases h
theorem sw_tg {e tg : Expr} (h : isName tg = false) (l : Nat) (env : Env) : swapsWith e (some tg) l env = pure false := by
  cases e <;> first | rfl | (cases tg <;> first | rfl | cases h)
theorem sw_comp {sc : Scope} {env : Env} (he : env.scope = sc) (hk : sc.kind = .function) {y : Str} {py : Pos} {elt : Expr} {gs : List Comprehension} {scope : Scope} {p : Pos} (l : Nat) :
    swapsWith (.ListComp elt gs scope p) (some (.Name y py)) l env = pure (swB sc (.Name y py) (.ListComp elt gs scope p)) := by
  have hb : env.blockKind = .function := by unfold Env.blockKind; rw [he, hk]; rfl
  have ky : env.kindOf y = sc.names.lookup y := by unfold Env.kindOf; rw [he]
  have e : (sc.names.lookup y == some NameKind.local) = decide (sc.names.lookup y = some NameKind.local) := by
    cases h : sc.names.lookup y with
    | none => rfl
    | some k => cases k <;> rfl
  unfold swapsWith swB
  simp only [hb, ky, Expr.pos, e]
  rfl
theorem st_none {tg v : Expr} (h : noTuple v = true) (env : Env) : swappedStores [tg] v env = pure none := by
  cases tg <;> cases v <;> first | rfl | cases h
theorem st_nm {tg v : Expr} (h : isName tg = true) (env : Env) : swappedStores [tg] v env = pure none := by
  cases tg <;> first | rfl | cases h
section
variable {X : Cx} {G : Pg} {tb : Tb} {n : Nat} {N : List Str} {sc : Scope} {fn : Str → Bool}
theorem parL_names {sc : Scope} {env : Env} (he : env.scope = sc) {l : Nat} {f : Expr → Option Str} : ∀ {ts : List Expr}, parL sc l ts = true → (∀ x p, f (.Name x p) = if env.kindOf x == some .local && p.line == l then some x else none) →
    ts.filterMap f = nmOf ts
  | [], _, _ => rfl
  | e :: r, h, hf => by
    cases e with
    | Name x p =>
      simp only [parL, Bool.and_eq_true, decide_eq_true_eq] at h
      obtain ⟨⟨h1, h2⟩, h3⟩ := h
      have k : env.kindOf x = some .local := by unfold Env.kindOf; rw [he, h1]
      rw [List.filterMap_cons, hf, parL_names he h3 hf]
      simp only [k, h2, nmOf]
      rfl
    | _ => simp [parL] at h
theorem parL_len {sc : Scope} {l : Nat} : ∀ {ts : List Expr}, parL sc l ts = true → (nmOf ts).length = ts.length ∧ ∀ x ∈ nmOf ts, sc.names.lookup x = some .local
  | [], _ => ⟨rfl, by simp [nmOf]⟩
  | e :: r, h => by
    cases e with
    | Name x p =>
      simp only [parL, Bool.and_eq_true, decide_eq_true_eq] at h
      obtain ⟨⟨h1, h2⟩, h3⟩ := h
      obtain ⟨i2, i3⟩ := parL_len h3
      refine ⟨by rw [nmOf, List.length_cons, i2]; rfl, fun y hy => ?_⟩
      rw [nmOf, List.mem_cons] at hy
      rcases hy with rfl | hy
      · exact h1
      · exact i3 y hy
    | _ => simp [parL] at h
theorem parL_not {sc : Scope} {env : Env} (he : env.scope = sc) {l : Nat} {f : Expr → Option Str} (hf : ∀ x p, f (.Name x p) = if env.kindOf x == some .local && p.line == l then some x else none) (hf2 : ∀ e, isName e = false → f e = none) : ∀ {ts : List Expr}, parL sc l ts = false →
    ((ts.filterMap f).length != ts.length) = true
  | [], h => by cases h
  | e :: r, h => by
    have le : ∀ (r : List Expr), (r.filterMap f).length ≤ r.length := fun r => List.length_filterMap_le _ _
    have le := le r
    cases hn : isName e with
    | true =>
      cases e with
      | Name x p =>
        rw [List.filterMap_cons, hf]
        by_cases h1 : (env.kindOf x == some .local && p.line == l) = true
        · have h2 : parL sc l r = false := by
            cases hr : parL sc l r with
            | false => rfl
            | true =>
              simp only [Bool.and_eq_true] at h1
              have k : sc.names.lookup x = some .local := by
                have := eq_of_beq h1.1
                unfold Env.kindOf at this
                rw [he] at this
                exact this
              simp [parL, k, h1.2, hr] at h
          have ih := parL_not he hf hf2 h2
          simp only [h1, if_true, List.length_cons]
          simp only [bne_iff_ne, ne_eq] at ih ⊢
          omega
        · simp only [h1, Bool.false_eq_true, if_false, List.length_cons]
          simp only [bne_iff_ne, ne_eq]
          omega
      | _ => cases hn
    | false =>
      rw [List.filterMap_cons, hf2 e hn]
      simp only [List.length_cons, bne_iff_ne, ne_eq]
      omega
theorem noStar_any {f : Expr → Bool} (hf : ∀ e, noStar e = true → f e = false) {vs : List Expr} (h : vs.all noStar = true) : vs.any f = false := by
  induction vs with
  | nil => rfl
  | cons v vs ih =>
    rw [List.all_cons, Bool.and_eq_true] at h
    rw [List.any_cons, ih h.2, Bool.or_false]
    exact hf v h.1
theorem lineOf_eq (ts : List Expr) : ((ts.head?.map (·.pos.line)).getD 0) = lineOf ts := by cases ts <;> rfl
theorem dups_of : ∀ {xs : List Str}, xs.Nodup → xs.eraseDups = xs
  | [], _ => rfl
  | x :: xs, h => by
    rw [List.nodup_cons] at h
    have e : xs.filter (fun b => !b == x) = xs := by
      rw [List.filter_eq_self]
      intro b hb
      simp only [Bool.not_eq_true', beq_eq_false_iff_ne, ne_eq]
      exact fun z => h.1 (z ▸ hb)
    rw [List.eraseDups_cons, e, dups_of h.2]
theorem st_par {env : Env} (he : env.scope = sc) (hk : sc.kind = .function) {ts vs : List Expr} {k k2 : Nat} {p p2 : Pos} (h : parC sc ts vs = true) (hl : ts.length = vs.length) (h2 : ts.length = 2 ∨ ts.length = 3) (hs : vs.all noStar = true) :
    swappedStores [.Tuple ts k p] (.Tuple vs k2 p2) env = pure (some (nmOf ts)) := by
  unfold parC at h
  simp only [Bool.and_eq_true, Bool.not_eq_true', decide_eq_true_eq] at h
  obtain ⟨⟨⟨a1, a2⟩, a3⟩, a4⟩ := h
  have hb : env.blockKind = .function := by unfold Env.blockKind; rw [he, hk]; rfl
  obtain ⟨b2, _⟩ := parL_len a1
  unfold swappedStores
  have c1 : (!(ts.length == 2 || ts.length == 3) || vs.length != ts.length || env.blockKind != .function) = false := by
    rw [hb, ← hl]
    rcases h2 with h2 | h2 <;> rw [h2] <;> rfl
  have c2 : ((nmOf ts).length != ts.length || (nmOf ts).eraseDups.length != (nmOf ts).length) = false := by
    rw [b2, dups_of a2, b2]
    simp
  simp only [c1, lineOf_eq, a3, a4]
  rw [noStar_any ?_ hs, parL_names (env := env) he a1 ?_]
  · simp only [c2]
    rfl
  · intro x p; rfl
  · intro e h; cases e <;> first | rfl | cases h
theorem st_parN {env : Env} (he : env.scope = sc) {ts vs : List Expr} {k k2 : Nat} {p p2 : Pos} (h : parN sc ts = true ∨ 4 ≤ ts.length) (hs : vs.all noStar = true) :
    swappedStores [.Tuple ts k p] (.Tuple vs k2 p2) env = pure none := by
  unfold swappedStores
  by_cases c1 : (!(ts.length == 2 || ts.length == 3) || vs.length != ts.length || env.blockKind != .function) = true
  · simp only [c1]
    rfl
  · rcases h with h | h
    · have h : parL sc (lineOf ts) ts = false := by simpa [parN] using h
      simp only [c1, lineOf_eq]
      rw [noStar_any ?_ hs, parL_not (env := env) he ?_ ?_ h]
      · rfl
      · intro x p; rfl
      · intro e h; cases e <;> first | rfl | cases h
      · intro e h; cases e <;> first | rfl | cases h
    · exfalso
      apply c1
      have e2 : (ts.length == 2) = false := by simp; omega
      have e3 : (ts.length == 3) = false := by simp; omega
      rw [e2, e3]
      rfl
end
end Ev
/-! EvE8: the checker is right about statements: all of them. -/
namespace Ev
open PySem PySem.Spec PyProof.Rows L2
open Tr
variable {c : Cs}
section
variable {X : Cx} {G : Pg} {tb : Tb} {n : Nat} {N : List Str} {sc : Scope} {fn : Str → Bool}
mutual
theorem kTS (K : Ct X c G tb n N sc fn) : ∀ (t : T) {x : Expr}, mTS tb N sc fn t x = true → PG X x (tG c (fun d f => asgD G (callF G n) t d f)) ∧ notStar x = true ∧ (isName x = isNmT t)
  | .nm i, x, h => by
    simp only [mTS] at h
    split at h
    · simp only [Bool.and_eq_true, decide_eq_true_eq] at h
      obtain ⟨h1, h2⟩ := isT_of h.2 K.sc K.fn
      simp only [asgD]
      exact ⟨g_nm K.nd (by rw [K.N]; exact h.1) h1 h2, rfl, rfl⟩
    · cases h
  | .tup ts, x, h => by
    simp only [mTS] at h
    split at h
    · obtain ⟨h1, h2, h3⟩ := kTSs K ts h
      obtain ⟨a1, a2, a3⟩ := assignEach_tup (env := X.env) h2
      refine ⟨?_, rfl, rfl⟩
      simp only [asgD]
      exact g_tup K.fit ts.length h1 (by rw [a2, h3]) a3
    · cases h
  | .sub i k, x, h => by
    simp only [mTS] at h
    split at h
    · simp only [Bool.and_eq_true] at h
      obtain ⟨y, p, rfl, e, hv⟩ := isNm_of h.1.1
      obtain ⟨h1, h2, h3⟩ := isV_of hv K.sc
      simp only [asgD]
      exact ⟨g_sub K.fit h.1.2 (pe_var (by rw [K.N]; exact e) h1 h2 h3) (kE k K h.2).1, rfl, rfl⟩
    · cases h
theorem kTSs (K : Ct X c G tb n N sc fn) : ∀ (ts : List T) {xs : List Expr}, mTSs tb N sc fn ts xs = true → PGs X xs (tGs c (fun ds f => asgDs G (callF G n) ts ds f)) ∧ xs.all notStar = true ∧ xs.length = ts.length
  | [], xs, h => by
    simp only [mTSs] at h
    split at h
    · simp only [asgDs]
      exact ⟨g_nil, rfl, rfl⟩
    · cases h
  | t :: ts, xs, h => by
    simp only [mTSs] at h
    split at h
    · rename_i x xs
      simp only [Bool.and_eq_true] at h
      obtain ⟨h1, h2, _⟩ := kTS K t h.1
      obtain ⟨i1, i2, i3⟩ := kTSs K ts h.2
      have h4 : (x :: xs).all notStar = true := by rw [List.all_cons, h2, i2]; rfl
      refine ⟨?_, h4, by rw [List.length_cons, i3]; rfl⟩
      simp only [asgDs]
      refine g_cons ?_ h1 i1
      rw [(assignEach_tup h4).1, List.map_cons, (assignEach_tup i2).1]
    · cases h
end
/-- names at once, none kept: one after another -/
theorem parT_asgDs {call : Nat → List A → Tr A} : ∀ {ts : List (T × Bool)} {as : List A} {ds : List D} {f f' : Fm}, (ts.all fun p => !p.2) = true → cleans as = some ds → parT ts as f = some f' → asgDs G call (ts.map (·.1)) ds f = .ret f' ∧ ds.length = ts.length
  | [], as, ds, f, f', _, hc, h => by
    cases as with
    | nil =>
      simp only [cleans, Option.some.injEq] at hc
      subst hc
      simp only [parT, Option.some.injEq] at h
      subst h
      exact ⟨by simp only [List.map_nil, asgDs], rfl⟩
    | cons _ _ => simp [parT] at h
  | (t, o) :: ts, as, ds, f, f', ho, hc, h => by
    rw [List.all_cons, Bool.and_eq_true] at ho
    have ho1 : o = false := by have := ho.1; simpa using this
    subst ho1
    cases t with
    | nm i =>
      cases as with
      | nil => simp [parT] at h
      | cons a as =>
        simp only [cleans] at hc
        split at hc
        · rename_i d ds' h1 h2
          simp only [Option.some.injEq] at hc
          subst hc
          simp only [parT] at h
          split at h
          · rename_i f1 e1
            obtain ⟨i1, i2⟩ := parT_asgDs ho.2 h2 h
            refine ⟨?_, by rw [List.length_cons, i2]; rfl⟩
            have e2 : f.put false i (cl d) = some f1 := by
              unfold A.clean at h1
              unfold Fm.put at e1 ⊢
              cases hf : f[i]? with
              | none => rw [hf] at e1; cases e1
              | some o =>
                rw [hf] at e1
                cases ht : a.t <;> rw [ht] at h1 e1 <;> simp at h1
                · subst h1
                  exact e1
                · subst h1
                  simpa using e1
            simp only [List.map_cons, asgDs, asgD, e2]
            exact i1
          · cases h
        · cases hc
    | tup _ => cases as <;> simp [parT] at h
    | sub _ _ => cases as <;> simp [parT] at h
theorem isPar_len {ts : List (T × Bool)} (h : isPar ts = true) : ts.length ≤ 3 := by
  unfold isPar at h
  split at h <;> first | (simp; done) | cases h
theorem mTS_nm {i : Nat} {x : Expr} (h : mTS tb N sc fn (.nm i) x = true) : ∃ y p, x = .Name y p ∧ N[i]? = some y := by
  simp only [mTS] at h
  split at h
  · simp only [Bool.and_eq_true, decide_eq_true_eq] at h
    exact ⟨_, _, rfl, h.1⟩
  · cases h
theorem kPar (K : Ct X c G tb n N sc fn) (hk : sc.kind = .function) {ts : List (T × Bool)} {es : List E} {xs vs : List Expr} {k k2 : Nat} {p p2 pos : Pos} (hp : isPar ts = true) (hx : mTSs tb N sc fn (ts.map (·.1)) xs = true) (hv : mEs tb N es sc vs = true) (hl : xs.length = vs.length) (hc : parC sc xs vs = true) :
    PS X (.Assign [.Tuple xs k p] (.Tuple vs k2 p2) pos) (tS c fun f => (evEs G (callF G n) es f).bind fun as => match cleans as with
      | some _ => (ofO (parT ts as f)).bind fun f' => .ret (.nx f')
      | none => .stuck) := by
  have hs := (kEs es K hv).2
  unfold isPar at hp
  split at hp
  · rename_i i o1 j o2
    simp only [List.map_cons, List.map_nil] at hx
    match xs, hx, hl, hc with
    | [x, y], hx, hl, hc =>
      simp only [mTSs, Bool.and_eq_true] at hx
      obtain ⟨x, px, rfl, hx1⟩ := mTS_nm hx.1
      obtain ⟨y, py, rfl, hx2⟩ := mTS_nm hx.2.1
      match vs, es, hv, hl, hs, hc with
      | [a, b], [e1, e2], hv, hl, hs, hc =>
        simp only [mEs, Bool.and_eq_true] at hv
        have hw := st_par (env := X.env) (k := k) (k2 := k2) (p := p) (p2 := p2) K.sc hk hc hl (.inl rfl) hs
        have hloc := (parL_len (by unfold parC at hc; simp only [Bool.and_eq_true] at hc; exact hc.1.1.1)).2
        have hnd : ([x, y] : List Str).Nodup := by unfold parC at hc; simp only [Bool.and_eq_true, decide_eq_true_eq] at hc; exact hc.1.1.2
        have hij : i ≠ j := fun z => by
          subst z
          rw [hx1] at hx2
          cases hx2
          simp at hnd
        refine PS.imp (s_par2 (o1 := o1) (o2 := o2) K.fit.calm K.nd (by rw [K.N]; exact hx1) (by rw [K.N]; exact hx2) hij (by rw [K.sc]; exact hloc x (by simp [nmOf])) (by rw [K.sc]; exact hloc y (by simp [nmOf])) (kE e1 K hv.1.2).1 (kE e2 K hv.2.1.2).1 hv.1.1 hv.2.1.1 hw rfl) fun D σ H => tS_le fun f P hq => ?_
        simp only [evEs] at hq
        exact all_bind.mpr ((all_bind.mp (all_bind.mp hq)).mono fun a ha => all_bind.mpr ((all_bind.mp (all_bind.mp ha)).mono fun b hb => hb))
      | [_, _], [], hv, hl, hs, hc => simp [mEs] at hv
      | [_, _], [_], hv, hl, hs, hc => simp [mEs] at hv
      | [_, _], _ :: _ :: _ :: _, hv, hl, hs, hc => simp [mEs] at hv
    | [], hx, hl, hc => simp [mTSs] at hx
    | [_], hx, hl, hc => simp [mTSs] at hx
    | _ :: _ :: _ :: _, hx, hl, hc => simp [mTSs] at hx
  · rename_i i o1 j o2 l o3
    simp only [List.map_cons, List.map_nil] at hx
    match xs, hx, hl, hc with
    | [x, y, z], hx, hl, hc =>
      simp only [mTSs, Bool.and_eq_true] at hx
      obtain ⟨x, px, rfl, hx1⟩ := mTS_nm hx.1
      obtain ⟨y, py, rfl, hx2⟩ := mTS_nm hx.2.1
      obtain ⟨z, pz, rfl, hx3⟩ := mTS_nm hx.2.2.1
      match vs, es, hv, hl, hs, hc with
      | [a, b, d], [e1, e2, e3], hv, hl, hs, hc =>
        simp only [mEs, Bool.and_eq_true] at hv
        have hw := st_par (env := X.env) (k := k) (k2 := k2) (p := p) (p2 := p2) K.sc hk hc hl (.inr rfl) hs
        have hloc := (parL_len (by unfold parC at hc; simp only [Bool.and_eq_true] at hc; exact hc.1.1.1)).2
        have hnd : ([x, y, z] : List Str).Nodup := by unfold parC at hc; simp only [Bool.and_eq_true, decide_eq_true_eq] at hc; exact hc.1.1.2
        simp only [List.nodup_cons, List.mem_cons, List.not_mem_nil, or_false, not_or, List.nodup_nil, and_true, not_false_eq_true] at hnd
        have hij : i ≠ j := fun w => by
          subst w
          rw [hx1] at hx2
          cases hx2
          exact hnd.1.1 rfl
        have hil : i ≠ l := fun w => by
          subst w
          rw [hx1] at hx3
          cases hx3
          exact hnd.1.2 rfl
        have hjl : j ≠ l := fun w => by
          subst w
          rw [hx2] at hx3
          cases hx3
          exact hnd.2 rfl
        refine PS.imp (s_par3 (o1 := o1) (o2 := o2) (o3 := o3) K.fit.calm K.nd (by rw [K.N]; exact hx1) (by rw [K.N]; exact hx2) (by rw [K.N]; exact hx3) hij hil hjl (by rw [K.sc]; exact hloc x (by simp [nmOf])) (by rw [K.sc]; exact hloc y (by simp [nmOf])) (by rw [K.sc]; exact hloc z (by simp [nmOf])) (kE e1 K hv.1.2).1 (kE e2 K hv.2.1.2).1 (kE e3 K hv.2.2.1.2).1 hv.1.1 hv.2.1.1 hv.2.2.1.1 hw rfl) fun D σ H => tS_le fun f P hq => ?_
        simp only [evEs] at hq
        exact all_bind.mpr ((all_bind.mp (all_bind.mp hq)).mono fun a ha => all_bind.mpr ((all_bind.mp (all_bind.mp ha)).mono fun b hb => all_bind.mpr ((all_bind.mp (all_bind.mp hb)).mono fun d hd => hd)))
      | [_, _, _], [], hv, hl, hs, hc => simp [mEs] at hv
      | [_, _, _], [_], hv, hl, hs, hc => simp [mEs] at hv
      | [_, _, _], [_, _], hv, hl, hs, hc => simp [mEs] at hv
      | [_, _, _], _ :: _ :: _ :: _ :: _, hv, hl, hs, hc => simp [mEs] at hv
    | [], hx, hl, hc => simp [mTSs] at hx
    | [_], hx, hl, hc => simp [mTSs] at hx
    | [_, _], hx, hl, hc => simp [mTSs] at hx
    | _ :: _ :: _ :: _ :: _, hx, hl, hc => simp [mTSs] at hx
  · cases hp
/-- two names, stored from the left -/
theorem kPar2n (K : Ct X c G tb n N sc fn) {ts : List (T × Bool)} {es : List E} {xs vs : List Expr} {k k2 : Nat} {p p2 pos : Pos} (hp : isPar ts = true) (hx : mTSs tb N sc fn (ts.map (·.1)) xs = true) (hv : mEs tb N es sc vs = true) (hl : xs.length = vs.length) (h2 : xs.length = 2) (hc : parN sc xs = true) :
    PS X (.Assign [.Tuple xs k p] (.Tuple vs k2 p2) pos) (tS c fun f => (evEs G (callF G n) es f).bind fun as => match cleans as with
      | some _ => (ofO (parT ts as f)).bind fun f' => .ret (.nx f')
      | none => .stuck) := by
  have hs := (kEs es K hv).2
  unfold isPar at hp
  split at hp
  · rename_i i o1 j o2
    simp only [List.map_cons, List.map_nil] at hx
    match xs, hx, hl, hc, h2 with
    | [x, y], hx, hl, hc, h2 =>
      simp only [mTSs, Bool.and_eq_true] at hx
      obtain ⟨x, px, rfl, hx1⟩ := mTS_nm hx.1
      obtain ⟨y, py, rfl, hx2⟩ := mTS_nm hx.2.1
      have l1 := hx.1
      have l2 := hx.2.1
      simp only [mTS, Bool.and_eq_true, decide_eq_true_eq] at l1 l2
      obtain ⟨a1, a2⟩ := isT_of l1.2 K.sc K.fn
      obtain ⟨b1, b2⟩ := isT_of l2.2 K.sc K.fn
      match vs, es, hv, hl, hs, hc with
      | [a, b], [e1, e2], hv, hl, hs, hc =>
        simp only [mEs, Bool.and_eq_true] at hv
        have hw := st_parN (env := X.env) (k := k) (k2 := k2) (p := p) (p2 := p2) K.sc (.inl hc) hs
        refine PS.imp (s_par2n (o1 := o1) (o2 := o2) K.fit.calm K.nd (by rw [K.N]; exact hx1) (by rw [K.N]; exact hx2) a1 a2 b1 b2 (kE e1 K hv.1.2).1 (kE e2 K hv.2.1.2).1 hv.1.1 hv.2.1.1 hw) fun D σ H => tS_le fun f P hq => ?_
        simp only [evEs] at hq
        exact all_bind.mpr ((all_bind.mp (all_bind.mp hq)).mono fun a ha => all_bind.mpr ((all_bind.mp (all_bind.mp ha)).mono fun b hb => hb))
      | [_, _], [], hv, hl, hs, hc => simp [mEs] at hv
      | [_, _], [_], hv, hl, hs, hc => simp [mEs] at hv
      | [_, _], _ :: _ :: _ :: _, hv, hl, hs, hc => simp [mEs] at hv
  · rename_i i o1 j o2 l o3
    simp only [List.map_cons, List.map_nil] at hx
    match xs, hx, h2 with
    | [x, y], hx, h2 => simp [mTSs] at hx
  · cases hp
/-- name = [..] on the name's line: the stores are exchanged -/
theorem kSetC (K : Ct X c G tb n N sc fn) (hk : sc.kind = .function) {i : Nat} {own : List Nat} {gs : List Gen} {elt : E} {y : Str} {py spos : Pos} {x : Expr} {o : Bool} (hy : N[i]? = some y) (h : mE tb N (.comp own gs elt) sc x = true) (hs : swB sc (.Name y py) x = true) :
    PS X (.Assign [.Name y py] x spos) (tAsg (tM c fun f => evE G (callF G n) (.comp own gs elt) f) (gName i)) := by
  simp only [mE] at h
  split at h
  · rename_i el gens scope pos
    have hsw : swapsWith (.ListComp el gens scope pos) (some (.Name y py)) spos.line X.env = pure true := by rw [sw_comp K.sc hk, hs]
    have hyl : X.env.scope.names.lookup y = some .local := by
      simp only [swB, Bool.and_eq_true, decide_eq_true_eq] at hs
      rw [K.sc]
      exact hs.1.1
    simp only [Bool.and_eq_true] at h
    obtain ⟨⟨⟨h1, h0⟩, h2⟩, h3⟩ := h
    have ok : BlkOk X.N X.env.scope scope (ownOf N own) := by rw [K.N, K.sc]; exact blkOk_by h1
    match gs, h0, h2 with
    | [.mk t it ifs], h0, h2 =>
      obtain ⟨tg, iter, ix, rest, rfl, a1, a2, a3, a4, a5⟩ := mGs_of h2
      have := mGs_nil a5
      subst this
      simp only [if_true] at a2
      obtain ⟨b1, b2, b3⟩ := kIt it t K a2
      refine PS.imp (ps_setLc K.fit.calm K.nd (by rw [K.N]; exact hy) hyl hsw b1 ok (fun s H C cl fp => (k_tg (K.blk s H scope C cl fp) a1).1) (fun s H C cl fp => kIfs ifs (K.blk s H scope C cl fp) a3) (fun s H C cl fp => (kE elt (K.blk s H scope C cl fp) h3).1) (fun v => b3 _ v)) fun D σ H q => ?_
      unfold tAsg at q ⊢
      rw [own_map]
      refine lc1 b2 a4 ?_
      simp only [evE, evGens] at q
      exact q
    | [.mk t it ifs, .mk t1 it1 ifs1], h0, h2 =>
      obtain ⟨tg, iter, ix, rest, rfl, a1, a2, a3, a4, a5⟩ := mGs_of h2
      obtain ⟨tg1, iter1, ix1, rest1, rfl, c1, c2, c3, c4, c5⟩ := mGs_of a5
      have := mGs_nil c5
      subst this
      simp only [if_true] at a2
      simp only [Bool.false_eq_true, if_false] at c2
      obtain ⟨b1, b2, b3⟩ := kIt it t K a2
      have d3 : ∀ env v, foldedSetIterable iter1 env v = pure v := noSet_fold (mIt_noSet c2)
      refine PS.imp (ps_setLc2 (vs1 := t1.names) K.fit.calm K.nd (by rw [K.N]; exact hy) hyl hsw b1 ok (by rw [own_map]; exact c4) (fun s H C cl fp => (k_tg (K.blk s H scope C cl fp) a1).1) (fun s H C cl fp => kIfs ifs (K.blk s H scope C cl fp) a3)
        (fun s H C cl fp => (kIt it1 t1 (K.blk s H scope C cl fp) c2).1) (fun s H C cl fp => (k_tg (K.blk s H scope C cl fp) c1).1) (fun s H C cl fp => kIfs ifs1 (K.blk s H scope C cl fp) c3)
        (fun s H C cl fp => (kE elt (K.blk s H scope C cl fp) h3).1) (fun v => b3 _ v) d3) fun D σ H q => ?_
      unfold tAsg at q ⊢
      rw [own_map]
      refine lc2 b2 a4 (wk_tup c2) ?_
      simp only [evE, evGens] at q
      exact q
    | [], h0, h2 => simp at h0
    | _ :: _ :: _ :: _, h0, h2 => simp at h0
  · cases h
end
end Ev
/-! EvE9: the checker is right about bodies. -/
namespace Ev
open PySem PySem.Spec PyProof.Rows L2
open Tr
variable {c : Cs}
section
variable {X : Cx} {G : Pg} {tb : Tb} {n : Nat} {N : List Str} {sc : Scope} {fn : Str → Bool}
theorem kVarOf (K : Ct X c G tb n N sc fn) {i : Nat} {o : Expr} (h : isNm N sc i o = true) : ∃ y p, o = .Name y p ∧ X.N[i]? = some y ∧ Vis X.env.scope y ∧ (y == ("__debug__" : Str)) = false ∧ (y == ("__classdict__" : Str)) = false := by
  obtain ⟨y, p, rfl, e, hv⟩ := isNm_of h
  obtain ⟨h1, h2, h3⟩ := isV_of hv K.sc
  exact ⟨y, p, rfl, by rw [K.N]; exact e, h1, h2, h3⟩
theorem evS_whl {call : Nat → List A → Tr A} {cc : E} {b : List S} (f : Fm) : evS G call (.whl cc b) f = whl (fun f => (evE G call cc f).bind fun x => boolT x.d) (fun f => evSs G call b f) WF f := by
  rw [evS]
theorem tS_fun {x : Stmt} {m m' : Fm → Tr Fl} (h : PS X x (tS c m)) (e : ∀ f, m f = m' f) : PS X x (tS c m') := (funext e : m = m') ▸ h
theorem whl_fun {x : Stmt} {A A' : Fm → Tr Bool} {B B' : Fm → Tr Fl} {k : Nat} (h : PS X x (tS c (whl A B k))) (e1 : A = A') (e2 : B = B') : PS X x (tS c fun f => whl A' B' k f) := by subst e1 e2; exact h
theorem kWhl0 {cc : E} {b : List S} {e : Expr} {p : List Stmt} {pos : Pos} (hp : PassesOwn (model X.prog X.w) X.A X.env X.xe)  (h : PT X e (tB' c (mT fun f => evE G (callF G n) cc f))) (hb : PSs X p (tS c fun f => evSs G (callF G n) b f)) :
    PS X (.While e p [] pos) (tS c fun f => whl (fun f => (evE G (callF G n) cc f).bind fun x => boolT x.d) (fun f => evSs G (callF G n) b f) WF f) :=
  whl_fun (s_whl (pos := pos) hp h hb) rfl rfl
theorem sw_sole {tg v : Expr} {l : Nat} {env : Env} (h : swapsWith v (some tg) l env = pure false) : swapsWithSole [tg] v l env = pure false := h
theorem isName_of {x : Expr} (h : isName x = true) : ∃ y p, x = .Name y p := by
  cases x <;> first | exact ⟨_, _, rfl⟩ | cases h
theorem isComp_of {e : E} (h : isComp e = true) : ∃ a b d, e = .comp a b d := by
  cases e <;> first | exact ⟨_, _, _, rfl⟩ | cases h
theorem kAsgN (K : Ct X c G tb n N sc fn) (hk : sc.kind = .function) {i : Nat} {own : Bool} {e : E} {tg v : Expr} {pos : Pos} (h1 : mTS tb N sc fn (.nm i) tg = true) (h2 : mE tb N e sc v = true) (h3 : (isComp e || noComp v) = true) :
    PS X (.Assign [tg] v pos) (tS c fun f => (evE G (callF G n) e f).bind fun a => (ofO (f.put own i a)).bind fun f' => .ret (.nx f')) := by
  simp only [mTS] at h1
  split at h1
  · rename_i y p
    simp only [Bool.and_eq_true, decide_eq_true_eq] at h1
    obtain ⟨hl, hf⟩ := isT_of h1.2 K.sc K.fn
    have hi : X.N[i]? = some y := by rw [K.N]; exact h1.1
    have he := (kE e K h2).1
    cases hc : isComp e with
    | false =>
      rw [hc, Bool.false_or] at h3
      exact PS.imp (ps_set K.nd hi hl he (sw_no h3 _ _ _) hf) fun D σ H q => asg_nm q
    | true =>
      obtain ⟨ow, gs, elt, rfl⟩ := isComp_of hc
      have h2' := h2
      simp only [mE] at h2'
      split at h2'
      · rename_i el gens scope ps
        cases hs : swB sc (.Name y p) (.ListComp el gens scope ps) with
        | true => exact PS.imp (kSetC K hk (o := own) h1.1 h2 hs) fun D σ H q => asg_nm q
        | false => exact PS.imp (ps_set K.nd hi hl he (by rw [sw_comp K.sc hk, hs]) hf) fun D σ H q => asg_nm q
      · cases h2'
  · cases h1
theorem kAsgT (K : Ct X c G tb n N sc fn) {t : T} {tg v : Expr} {pos : Pos} {me : Fm → Tr A} (hn : isNmT t = false) (h1 : mTS tb N sc fn t tg = true) (he : PE X v (tM c me)) (hw : swappedStores [tg] v X.env = pure none) :
    PS X (.Assign [tg] v pos) (tS c fun f => (me f).bind fun a => (match a.clean with
      | some d => asgD G (callF G n) t d f
      | none => .stuck).bind fun f' => .ret (.nx f')) := by
  obtain ⟨a1, a2, a3⟩ := kTS K t h1
  have hh : (assignEach [tg] X.env).map (·.2) = [assign tg X.env] := (assignEach_tup (env := X.env) (es := [tg]) (by rw [List.all_cons, a2]; rfl)).1
  exact PS.imp (ps_asg he a1 (sw_tg (by rw [a3]; exact hn) _ _) hw hh) fun D σ H q => asg_cl q
def flatS : S → Bool
  | .ife _ _ _ => false
  | .whl _ _ => false
  | .forr _ _ _ _ _ => false
  | _ => true
theorem kS0 (K : Ct X c G tb n N sc fn) (hk : sc.kind = .function) : ∀ (s : S) {x : Stmt}, flatS s = true → mS tb N sc fn s x = true → PS X x (tS c fun f => evS G (callF G n) s f)
  | .asg (.nm i) own e, x, _, h => by
    simp only [mS] at h
    split at h
    · simp only [Bool.and_eq_true] at h
      simp only [evS]
      exact kAsgN K hk h.1.1 h.1.2 h.2
    · cases h
  | .asg (.tup ts) own e, x, _, h => by
    simp only [mS] at h
    split at h
    · simp only [Bool.and_eq_true] at h
      simp only [evS]
      exact kAsgT K rfl h.1.1 (kE e K h.1.2).1 (st_none h.2 _)
    · cases h
  | .asg (.sub i k) own e, x, _, h => by
    simp only [mS] at h
    split at h
    · simp only [Bool.and_eq_true] at h
      simp only [evS]
      exact kAsgT K rfl h.1.1 (kE e K h.1.2).1 (st_none h.2 _)
    · cases h
  | .asgs ts es, x, _, h => by
    simp only [mS] at h
    split at h
    · rename_i xs k p vs k2 p2 pos
      simp only [Bool.and_eq_true, decide_eq_true_eq] at h
      obtain ⟨⟨⟨h1, h2⟩, h3⟩, h4⟩ := h
      obtain ⟨ha, hs⟩ := kEs es K h2
      have hT : mTS tb N sc fn (.tup (ts.map (·.1))) (.Tuple xs k p) = true := by simp only [mTS]; exact h1
      simp only [evS]
      by_cases hpar : isPar ts = true
      · rw [if_pos hpar] at h4
        rw [Bool.or_eq_true, Bool.and_eq_true] at h4
        have cv : PS X (.Assign [.Tuple xs k p] (.Tuple vs k2 p2) pos) (tS c fun f => (evEs G (callF G n) es f).bind fun as => match cleans as with
            | some _ => (ofO (parT ts as f)).bind fun f' => .ret (.nx f')
            | none => .stuck) → PS X (.Assign [.Tuple xs k p] (.Tuple vs k2 p2) pos) (tS c fun f => (evEs G (callF G n) es f).bind fun as => match cleans as with
            | some ds => if isPar ts = true then (ofO (parT ts as f)).bind fun f' => .ret (.nx f') else if ds.length ≤ line then (asgD G (callF G n) (.tup (ts.map (·.1))) (.tup ds) f).bind fun f' => .ret (.nx f') else .stuck
            | none => .stuck) := fun q => by
          refine PS.imp q fun D σ H => tS_le fun f P hq => ?_
          refine all_bind.mpr ((all_bind.mp hq).mono fun as has => ?_)
          cases hc : cleans as with
          | none => rw [hc] at has; exact has
          | some ds => rw [hc] at has; simp only [hpar, if_true] at has; exact has
        rcases h4 with h4 | ⟨h4, h5⟩
        · exact cv (kPar K hk hpar h1 h2 h3 h4)
        rw [Bool.or_eq_true, decide_eq_true_eq] at h5
        rcases h5 with h5 | h5
        rotate_left
        · exact cv (kPar2n K hpar h1 h2 h3 h5 h4)
        · refine PS.imp (kAsgT K rfl hT (e_tup ha) (st_parN K.sc (.inl h4) hs)) fun D σ H => tS_le fun f P hq => ?_
          refine all_bind.mpr (all_bind.mpr ((all_bind.mp hq).mono fun as has => ?_))
          cases hc : cleans as with
          | none => rw [hc] at has; exact has
          | some ds =>
            rw [hc] at has
            simp only [hpar, if_true] at has
            obtain ⟨f', e1, q⟩ := all_ofO.mp (all_bind.mp has)
            obtain ⟨e2, e3⟩ := parT_asgDs (G := G) (call := callF G n) h5 hc e1
            have := isPar_len hpar
            have hl : ds.length ≤ line := by unfold line; omega
            show All (if ds.length ≤ line then Tr.ret (cl (.tup ds)) else .stuck) _
            rw [if_pos hl]
            show All ((asgD G (callF G n) (.tup (ts.map (·.1))) (.tup ds) f).bind fun f' => .ret (.nx f')) P
            simp only [asgD]
            rw [if_pos (by rw [List.length_map]; exact e3), e2]
            exact q
      · rw [if_neg hpar] at h4
        rw [Bool.or_eq_true, decide_eq_true_eq] at h4
        refine PS.imp (kAsgT K rfl hT (e_tup ha) (st_parN K.sc h4 hs)) fun D σ H => tS_le fun f P hq => ?_
        refine all_bind.mpr (all_bind.mpr ((all_bind.mp hq).mono fun as has => ?_))
        cases hc : cleans as with
        | none => rw [hc] at has; exact has
        | some ds =>
          rw [hc] at has
          simp only [hpar] at has
          by_cases hl : ds.length ≤ line
          · show All (if ds.length ≤ line then Tr.ret (cl (.tup ds)) else .stuck) _
            rw [if_pos hl]
            simp only [hl, if_true] at has
            exact has
          · simp only [hl, if_false] at has
            exact has.elim
    · cases h
  | .app i e, x, _, h => by
    simp only [mS] at h
    split at h
    · simp only [Bool.and_eq_true, decide_eq_true_eq] at h
      obtain ⟨⟨⟨⟨h1, rfl⟩, h2⟩, h3⟩, h4⟩ := h
      obtain ⟨y, p, rfl, a1, a2, a3, a4⟩ := kVarOf K h1
      simp only [evS]
      exact s_app a1 a2 a3 a4 (kE e K h4).1 h3 h2 rfl
    · cases h
  | .ext i e, x, _, h => by
    simp only [mS] at h
    split at h
    · simp only [Bool.and_eq_true, decide_eq_true_eq] at h
      obtain ⟨⟨⟨⟨h1, rfl⟩, h2⟩, h3⟩, h4⟩ := h
      obtain ⟨y, p, rfl, a1, a2, a3, a4⟩ := kVarOf K h1
      simp only [evS]
      exact s_ext a1 a2 a3 a4 (kE e K h4).1 h3 h2 rfl
    · cases h
  | .pop t i, x, _, h => by
    simp only [mS] at h
    split at h
    · rename_i tg o nm apos cpos pos
      simp only [Bool.and_eq_true, decide_eq_true_eq] at h
      obtain ⟨⟨⟨h1, rfl⟩, h2⟩, h3⟩ := h
      obtain ⟨y, p, rfl, a1, a2, a3, a4⟩ := kVarOf K h1
      obtain ⟨b1, b2, b3⟩ := kTS K t h3
      simp only [evS]
      exact s_pop K.fit a1 a2 a3 a4 h2 b1 (sw_sole (sw_no (e := .Call (.Attribute (.Name y p) "pop" apos) [] [] cpos) rfl (some tg) pos.line X.env)) (st_none rfl _) (assignEach_tup (env := X.env) (es := [tg]) (by rw [List.all_cons, b2]; rfl)).1
    · cases h
  | .aug i o e, x, _, h => by
    simp only [mS] at h
    split at h
    · simp only [Bool.and_eq_true, decide_eq_true_eq] at h
      obtain ⟨⟨⟨⟨h1, rfl⟩, h2⟩, h3⟩, h4⟩ := h
      obtain ⟨hl, hf⟩ := isT_of h3 K.sc K.fn
      simp only [evS]
      exact s_aug o h1 K.nd (by rw [K.N]; exact h2) hl hf (kE e K h4).1
    · cases h
  | .ret none, x, _, h => by
    simp only [mS] at h
    split at h
    · simp only [evS]
      exact s_retN
    · cases h
  | .ret (some e), x, _, h => by
    simp only [mS] at h
    split at h
    · simp only [evS]
      exact s_ret (kE e K h).1
    · cases h
  | .brk, x, _, h => by
    simp only [mS] at h
    split at h
    · simp only [evS]
      exact s_brk
    · cases h
  | .cnt, x, _, h => by
    simp only [mS] at h
    split at h
    · simp only [evS]
      exact s_cnt
    · cases h
  | .pass, x, _, h => by
    simp only [mS] at h
    split at h
    · simp only [evS]
      exact s_pass
    · cases h
  | .frz _, x, _, h => by simp [mS] at h
  | .ife _ _ _, x, h0, h => by cases h0
  | .whl _ _, x, h0, h => by cases h0
  | .forr _ _ _ _ _, x, h0, h => by cases h0
mutual
theorem kS (K : Ct X c G tb n N sc fn) (hk : sc.kind = .function) (hp : PassesOwn (model X.prog X.w) X.A X.env X.xe) : ∀ (s : S) {x : Stmt}, mS tb N sc fn s x = true → PS X x (tS c fun f => evS G (callF G n) s f)
  | .ife cc a b, x, h => by
    simp only [mS] at h
    split at h
    · simp only [Bool.and_eq_true] at h
      simp only [evS]
      exact s_ife (kE cc K h.1.1).2 (kSs K hk hp a h.1.2) (kSs K hk hp b h.2)
    · cases h
  | .whl cc b, x, h => by
    simp only [mS] at h
    split at h
    · simp only [Bool.and_eq_true] at h
      exact tS_fun (kWhl0 hp (kE cc K h.1).2 (kSs K hk hp b h.2)) fun f => (evS_whl f).symm
    · cases h
  | .forr t it lock keep b, x, h => by
    simp only [mS] at h
    split at h
    · simp only [Bool.and_eq_true, decide_eq_true_eq] at h
      obtain ⟨⟨⟨h1, h2⟩, h3⟩, h4⟩ := h
      obtain ⟨b1, b2, b3⟩ := kIt it t K h3
      simp only [evS]
      exact s_forr hp K.fit.calm h1 keep b2 b1 (k_tg K h2).1 (kSs K hk hp b h4) (fun v => b3 _ v)
    · cases h
  | .asg t o e, x, h => kS0 K hk _ rfl h
  | .asgs ts es, x, h => kS0 K hk _ rfl h
  | .app i e, x, h => kS0 K hk _ rfl h
  | .ext i e, x, h => kS0 K hk _ rfl h
  | .pop t i, x, h => kS0 K hk _ rfl h
  | .aug i o e, x, h => kS0 K hk _ rfl h
  | .ret e, x, h => kS0 K hk _ rfl h
  | .brk, x, h => kS0 K hk _ rfl h
  | .cnt, x, h => kS0 K hk _ rfl h
  | .pass, x, h => kS0 K hk _ rfl h
  | .frz i, x, h => kS0 K hk _ rfl h
theorem kSs (K : Ct X c G tb n N sc fn) (hk : sc.kind = .function) (hp : PassesOwn (model X.prog X.w) X.A X.env X.xe) : ∀ (ss : List S) {xs : List Stmt}, mSs tb N sc fn ss xs = true → PSs X xs (tS c fun f => evSs G (callF G n) ss f)
  | [], xs, h => by
    simp only [mSs] at h
    split at h
    · simp only [evSs]
      exact s_nil
    · cases h
  | s :: ss, xs, h => by
    simp only [mSs] at h
    rw [Bool.or_eq_true, Bool.and_eq_true] at h
    rcases h with ⟨h1, h2⟩ | h
    · split at h1
      · simp only [evSs, evS]
        exact s_frz (kSs K hk hp ss h2)
      · cases h1
    · split at h
      · simp only [Bool.and_eq_true] at h
        simp only [evSs]
        exact s_cons (kS K hk hp s h.1) (kSs K hk hp ss h.2)
      · cases h
end
end
end Ev
/-! EvE10: defs bind their arguments; the defs of a module. -/
namespace Ev
open PySem PySem.Spec PyProof.Rows L2
open Tr
def BindOk (a : Arguments) (ps : List Str) : Prop := ∀ (x qual : Str) (body : List Stmt) (scope : Scope) (kV doc pm : Value) (an : Option Addr) (cdv ct : Value) (us : List Value), us.length = ps.length → bindArgs (PySem.W.fnOf x qual a body scope .none kV doc pm an cdv ct) ⟨us, []⟩ = pure (ps.zip us)
theorem zip_lookup : ∀ {ns : List Str} {us : List Value}, us.length = ns.length → ∀ n ∈ ns, ∃ u, (ns.zip us).lookup n = some u
  | [], us, _, n, h => by cases h
  | m :: ns, [], h, _, _ => by cases h
  | m :: ns, u :: us, h, n, hn => by
    rw [List.zip_cons_cons, List.lookup_cons]
    by_cases e : n = m
    · subst e
      exact ⟨u, by simp⟩
    · rw [List.mem_cons] at hn
      obtain ⟨w, hw⟩ := zip_lookup (ns := ns) (us := us) (by simpa using h) n (hn.resolve_left e)
      refine ⟨w, ?_⟩
      have : (n == m) = false := by simp [e]
      rw [this]
      exact hw
theorem zip_binds : ∀ {ns : List Str} {us : List Value}, ns.Nodup → us.length = ns.length → (ns.filterMap fun n => ((ns.zip us).lookup n).map (n, ·)) = ns.zip us := by
  have key : ∀ (ns : List Str) (us : List Value) (sl : List (Str × Value)), us.length = ns.length → (∀ (i : Nat) (n : Str) (u : Value), (ns.zip us)[i]? = some (n, u) → sl.lookup n = some u) → (ns.filterMap fun n => (sl.lookup n).map (n, ·)) = ns.zip us := by
    intro ns
    induction ns with
    | nil => intros; rfl
    | cons m ns ih =>
      intro us sl hl h
      cases us with
      | nil => cases hl
      | cons u us =>
        rw [List.zip_cons_cons, List.filterMap_cons, h 0 m u rfl]
        simp only [Option.map_some]
        rw [ih us sl (by simpa using hl) fun i n w hw => h (i + 1) n w (by simpa using hw)]
  intro ns us nd hl
  refine key ns us _ hl fun i n u h => ?_
  induction ns generalizing us i with
  | nil => simp at h
  | cons m ns ih =>
    cases us with
    | nil => cases hl
    | cons w us =>
      rw [List.nodup_cons] at nd
      rw [List.zip_cons_cons] at h ⊢
      rw [List.lookup_cons]
      cases i with
      | zero =>
        simp only [List.getElem?_cons_zero, Option.some.injEq, Prod.mk.injEq] at h
        obtain ⟨rfl, rfl⟩ := h
        simp
      | succ i =>
        simp only [List.getElem?_cons_succ] at h
        have hm : n ∈ ns := (List.of_mem_zip (List.mem_of_getElem? h)).1
        have : (n == m) = false := by
          simp only [beq_eq_false_iff_ne, ne_eq]
          exact fun z => nd.1 (z ▸ hm)
        rw [this]
        exact ih nd.2 (by simpa using hl) i h
theorem bindOk_gen (as : List Arg) (nd : (as.map (·.arg)).Nodup) : BindOk ⟨[], as, none, [], [], none, []⟩ (as.map (·.arg)) := by
  intro x qual body scope kV doc pm an cdv ct us hl
  have h1 : ((as.map (·.arg)).filter fun n => (((as.map (·.arg)).zip us).lookup n).isNone) = [] := by
    rw [List.filter_eq_nil_iff]
    intro n hn
    obtain ⟨u, hu⟩ := zip_lookup hl n hn
    rw [hu]
    simp
  have h2 := zip_binds nd hl
  have h3 : ¬ us.length > (as.map (·.arg)).length := by omega
  have hl2 : us.length = as.length := by simpa using hl
  unfold bindArgs PySem.W.fnOf
  have e : seqItems? Value.none = pure none := rfl
  simp only [e, pure_bind, List.map_nil, List.nil_append, List.append_nil, List.forIn_nil, h3, decide_false, Bool.false_and]
  simp [h1, h2]
  have h4 : List.take ((List.map (fun x : Arg => x.arg) as).length - (List.drop (0 - (List.map (fun x : Arg => x.arg) as).length) ([] : List Value)).length) (List.map (fun x => x.arg) as) = List.map (fun x => x.arg) as := by
    simp
    exact List.take_of_length_le (by simp)
  rw [if_neg (by rw [h4, h1]; simp)]
  rw [← List.filterMap_map, h2]
/-- parameters: plain ones -/
def plainArgs (a : Arguments) (ps : List Str) : Bool := match a with
  | ⟨[], as, none, [], [], none, []⟩ => decide (as.map (·.arg) = ps) && decide ps.Nodup
  | _ => false
theorem bindOk_of {a : Arguments} {ps : List Str} (h : plainArgs a ps = true) : BindOk a ps := by
  unfold plainArgs at h
  split at h
  · simp only [Bool.and_eq_true, decide_eq_true_eq] at h
    obtain ⟨rfl, h⟩ := h
    exact bindOk_gen _ h
  · cases h
/-- a look at the names of a def's scope -/
def scB (N P : List Str) (sc : Scope) : Bool :=
  decide (sc.kind = .function) && !sc.isCoroutine && !sc.isGenerator && decide N.Nodup && decide (N.take P.length = P) && P.all (fun x => decide (sc.names.lookup x = some .local) || decide (sc.names.lookup x = some .cell)) && sc.names.all (fun y => !decide (y.2 = .free))
theorem scB_of {N P : List Str} {sc : Scope} (h : scB N P sc = true) : FnScope N P sc := by
  unfold scB at h
  simp only [Bool.and_eq_true, Bool.not_eq_true', decide_eq_true_eq, List.all_eq_true, Bool.or_eq_true, decide_eq_false_iff_not] at h
  obtain ⟨⟨⟨⟨⟨⟨h1, h2⟩, h3⟩, h4⟩, h5⟩, h6⟩, h7⟩ := h
  exact ⟨h1, h2, h3, h4, h5, h6, h7⟩
/-- a def is that of the compact syntax -/
def defC (tb : Tb) (N : List Str) (fd : Fd) (d : He.DefD) : Bool := scB N (N.take fd.ps) d.scope && plainArgs d.params (N.take fd.ps) && decide (N.length = fd.n) && decide (fd.ps ≤ fd.n) && mSs tb N d.scope (fun _ => true) fd.body d.body
end Ev
/-! EvE11: the defs of a module keep the evaluator's promise. -/
namespace Ev
open PySem PySem.Spec PyProof.Rows L2
open Tr
/-- what is known of a module -/
structure Md (P : Program) (w : World) (K : PySem.W.Frag) (mg : Str → Option Value) (base : Heap) (c : Cs) (G : Pg) (tb : Tb) (l0 : Nat) : Prop where
  cK : c.K = K
  cw : c.w = w
  fn : ∀ k q, c.fa k = some q → ∃ (N : List Str) (D : Fd) (d : He.DefD) (fd : FuncData), G.fns[k]? = some D ∧ defC tb N D d = true ∧ FunD K d.name d.qual d.params d.body d.scope [] [] q fd
  fns : ∀ k x, tb.fns[k]? = some x → ∃ q, c.fa k = some q ∧ mg x = some (.ref q)
  glb : ∀ (j : Nat) (x : Str), tb.glb[j]? = some x → ∃ d v u, G.glb[j]? = some d ∧ mg x = some u ∧ RelV v u ∧ ∀ (g : Gh) H, BoxOk g H → Rz c g.b0 g.B H d v
  blt : ∀ x ∈ bltNames, mg x = none
  draw : ∃ q fd ps, mg drawName = some (.ref q) ∧ FnOk P w K mg base CX0 l0 q fd ps spDraw ∧ Binds K fd ps [] ∧ PySem.W.keepIn K (.ref q) = true
section
variable {P : Program} {w : World} {K : PySem.W.Frag} {mg : Str → Option Value} {base : Heap} {c : Cs} {G : Pg} {tb : Tb} {l0 : Nat}
/-- a callee's slots -/
theorem arg_slots {g : Gh} {H : Hp} {n1 n2 : Nat} : ∀ {as : List A} {vs : List V}, Rns c g H as vs → ∀ (i : Nat) (s : Sl), (as.map argS ++ List.replicate n1 (none : Option Sl))[i]? = some (some s) →
    ∃ v, (vs.map some ++ List.replicate n2 (none : Option V))[i]? = some (some v) ∧ SlOk c { g with M := fun _ => False, L := fun _ => False } H s v ∧ s.k.mine = false
  | _, _, .nil, i, s, h => by
    simp [List.getElem?_replicate] at h
  | a :: as, v :: vs, .cons r k z t, 0, s, h => by
    simp only [List.map_cons, List.cons_append, List.getElem?_cons_zero, Option.some.injEq] at h
    refine ⟨v, by simp, ?_⟩
    unfold argS at h
    cases ht : a.t with
    | cl =>
      rw [ht] at h
      simp only [Option.some.injEq] at h
      subst h
      exact ⟨k a.d (by unfold A.clean; rw [ht]; simp), rfl⟩
    | fr =>
      rw [ht] at h
      simp only [Option.some.injEq] at h
      subst h
      exact ⟨k a.d (by unfold A.clean; rw [ht]; simp), rfl⟩
    | _ =>
      rw [ht] at h
      simp only [Option.some.injEq] at h
      subst h
      refine ⟨?_, rfl⟩
      rcases r with r | ⟨p, e, b, n0, n1, r⟩
      · exact .inl r
      · exact .inr ⟨p, e, b, fun z => z, n0, n1, r⟩
  | a :: as, v :: vs, .cons r k z t, i + 1, s, h => by
    simp only [List.map_cons, List.cons_append, List.getElem?_cons_succ] at h ⊢
    exact arg_slots t i s h
theorem fr_start {g : Gh} {H : Hp} {as : List A} {vs : List V} {N : List Str} {n1 : Nat} (hb : Bars g) (bx : BoxOk g H) (dom : ∀ a, g.B a → H a ≠ none) (r : Rns c g H as vs) (hl : as.length + n1 = N.length) :
    FrS c { g with M := fun _ => False, L := fun _ => False } H [] ⟨[], []⟩ { g with M := fun _ => False, L := fun _ => False } (as.map argS ++ List.replicate n1 none) (L2.start N vs) H where
  fr := {
    len := by
      have := r.length
      unfold L2.start
      simp only [List.length_append, List.length_map, List.length_replicate]
      omega
    slot := fun i s h => by
      obtain ⟨v, h1, h2, _⟩ := arg_slots (n2 := N.length - vs.length) r i s h
      exact ⟨v, h1, h2⟩
    apart := fun i j s t p h1 h2 m1 m2 _ _ => by
      obtain ⟨v, _, _, m⟩ := arg_slots (n2 := 0) r i s h1
      rw [m] at m1
      cases m1
    box := bx
    bars := hb
    dom := dom
    lks := fun a z => z.elim }
  eb := rfl
  ec := rfl
  up := fun a h => h
  new := fun a h => .inl h
  sm := .refl _ _
  mine := fun a z => z.elim
  lk := fun x hx => by cases hx
  dom0 := dom
  gz := fun x hx => by cases hx
  gr := fun x hx => by cases hx
theorem callF_out {n k : Nat} {as : List A} {D : Fd} {Post : A → Prop} (e : G.fns[k]? = some D) (h : All (callF G (n + 1) k as) Post) :
    as.length = D.ps ∧ All (evSs G (callF G n) D.body (as.map argS ++ List.replicate (D.n - D.ps) none)) fun r => match r with
      | .nx _ => Post (cl .non)
      | .rt a => (a.t = .cl ∨ a.t = .fr) ∧ Post a
      | _ => False := by
  rw [callF, e] at h
  dsimp only at h
  by_cases hl : as.length = D.ps
  · rw [if_pos hl] at h
    refine ⟨hl, (all_bind.mp h).mono fun r hr => ?_⟩
    cases r with
    | nx f => exact hr
    | rt a =>
      dsimp only at hr ⊢
      cases ht : a.t <;> rw [ht] at hr <;> first | exact hr.elim | skip
      · exact ⟨.inl rfl, hr⟩
      · exact ⟨.inr rfl, hr⟩
    | _ => exact hr.elim
  · rw [if_neg hl] at h
    exact h.elim
theorem callF_none {n k : Nat} {as : List A} {Post : A → Prop} (e : G.fns[k]? = none) (h : All (callF G (n + 1) k as) Post) : False := by
  rw [callF, e] at h
  exact h
theorem fnsOk (M : Md P w K mg base c G tb l0) : ∀ (n k : Nat) (q : Addr), c.fa k = some q → ∃ (fd : FuncData) (ps : List Str), FnOk P w K mg base CX0 (n + l0) q fd ps (spF c G n k) ∧ Binds K fd ps [] ∧ PySem.W.keepIn K (.ref q) = true
  | 0, k, q, hq => by
    obtain ⟨N, D, d, fd, e1, e2, F⟩ := M.fn k q hq
    unfold defC at e2
    simp only [Bool.and_eq_true, decide_eq_true_eq] at e2
    obtain ⟨⟨⟨⟨h1, h2⟩, h3⟩, h4⟩, h5⟩ := e2
    have no : ∀ {vs H Q E}, spF c G 0 k vs H Q E → False := fun {vs H Q E} ⟨g, as, _, _, _, _, h⟩ => by
      rw [callF] at h
      exact h
    exact ⟨fd, N.take D.ps, ⟨fun vs H Q E h => (no h).elim, fun A outer s H args us vs Q E hr e0 hb r h => (no h).elim⟩, F.bindsN fun kV doc pm an cdv ct us hl => bindOk_of h2 _ _ _ _ kV doc pm an cdv ct us hl, F.kp⟩
  | n + 1, k, q, hq => by
    obtain ⟨N, D, d, fd, e1, e2, F⟩ := M.fn k q hq
    unfold defC at e2
    simp only [Bool.and_eq_true, decide_eq_true_eq] at e2
    obtain ⟨⟨⟨⟨h1, h2⟩, h3⟩, h4⟩, h5⟩ := e2
    have S := scB_of h1
    refine ⟨fd, N.take D.ps, ?_, F.bindsN fun kV doc pm an cdv ct us hl => bindOk_of h2 _ _ _ _ kV doc pm an cdv ct us hl, F.kp⟩
    have key : FnOk P w K mg base CX0 ((n + l0) + 1) q fd (N.take D.ps) (spF c G (n + 1) k) := by
      refine F.ok S (fun vs H Q E h => ?_) fun cdv A outer s H vs Q E hr hsp => ⟨tS c fun f => evSs G (callF G n) D.body f, PSs.nox ?_, ?_⟩
      · obtain ⟨g, as, _, _, _, r, h⟩ := h
        obtain ⟨hl, _⟩ := callF_out e1 h
        rw [r.length, hl, List.length_take, h3]
        omega
      · have C : Ct (cxOf CX0 P w K mg base N d.qual d.scope q cdv A outer s H E).nox c G tb n N d.scope (fun _ => true) := {
          fit := ⟨M.cK, M.cw, rfl, by
            have := hr.un
            show (A.deeper (envOfC d.qual d.scope s.heap.objs.size q cdv)).units + 160 < cLine
            omega⟩
          N := rfl
          nd := S.nd
          sc := rfl
          fn := rfl
          fns := M.fns
          fall := fun k' q' hq' => by
            obtain ⟨fd', ps', a1, a2, a3⟩ := fnsOk M n k' q' hq'
            exact ⟨⟨n + l0, fd', ps', a1, hr, a2⟩, a3⟩
          glb := M.glb
          blt := M.blt
          draw := by
            obtain ⟨q', fd', ps', a0, a1, a2, a3⟩ := M.draw
            exact ⟨q', a0, ⟨⟨l0, fd', ps', a1, hr.mono (Nat.le_add_left _ _), a2⟩, a3⟩⟩ }
        exact kSs C S.kind PassesOwn.never D.body h5
      · obtain ⟨g, as, hb, bx, dom, r, h⟩ := hsp
        obtain ⟨hl, h⟩ := callF_out e1 h
        refine ⟨_, _, _, _, _, _, fr_start (n1 := D.n - D.ps) hb bx dom r (by omega), h.mono fun fl hfl => ?_⟩
        cases fl with
        | nx f' => exact fun g' σ' H' S' => hfl .non H' S'.sm (S'.fr.box.imp fun _ => by rw [S'.eb, S'.ec]; exact id) (by show Rz _ _ _ _ _ _; rw [Rz])
        | rt a =>
          intro v H' s' b' r'
          refine hfl.2 v H' s' b' ?_
          rcases hfl.1 with ht | ht
          · unfold Rn at r' ⊢
            rw [ht] at r' ⊢
            exact r'
          · unfold Rn at r' ⊢
            rw [ht] at r' ⊢
            exact r'
        | _ => exact hfl.elim
    exact key.mono (by omega)
end
end Ev
/-! EvF1: what an expression yields where it stands: a small calculus for the box's defs. -/
namespace Ev
open PySem PySem.Spec PyProof.Rows L2
/-- at σ, H the expression's value is v, H stays -/
def Yl (te : TE) (σ : L2.St) (H : Hp) (v : V) : Prop := ∀ Q : VK, Q v H → te σ H Q
section
variable {σ : L2.St} {H : Hp} {ta tb : TE} {x y v : V} {i j k : Int} {K : PySem.W.Frag}
theorem y_c : Yl (tC v) σ H v := fun Q q => q
theorem y_v {n : Nat} (h : σ[n]? = some (some v)) : Yl (tVar n) σ H v := fun Q q => ⟨v, h, q⟩
theorem y_op0 {g : Int → Int → V} (ha : Yl ta σ H (.int i)) (hb : Yl tb σ H (.int j)) : Yl (tOp (rI0 g) ta tb) σ H (g i j) := fun Q q => ha _ (hb _ ⟨i, j, rfl, rfl, q⟩)
theorem y_op {C : Int → Int → Prop} {g : Int → Int → V} (ha : Yl ta σ H (.int i)) (hb : Yl tb σ H (.int j)) (hc : C i j) : Yl (tOp (rI C g) ta tb) σ H (g i j) := fun Q q => ha _ (hb _ ⟨i, j, rfl, rfl, hc, q⟩)
theorem y_un {g : Int → V} (ha : Yl ta σ H (.int i)) : Yl (tUn (rU g) ta) σ H (g i) := fun Q q => ha _ ⟨i, rfl, q⟩
theorem y_ix {p : Addr} {xs : List V} {n : Nat} (ha : Yl ta σ H (.ref p)) (hb : Yl tb σ H (.int n)) (hp : H p = some (.lst xs)) (hx : xs[n]? = some v) : Yl (tOp (rIxL K) ta tb) σ H v := fun Q q => ha _ (hb _ ⟨p, xs, n, v, rfl, rfl, .inl (.inl hp), atI_nat hx, q⟩)
theorem y_int (ha : Yl ta σ H (.int i)) : Yl (tCB (fun xs H Q => (∃ i, xs = [.int i] ∧ Q (.int i) H) ∨ ∃ k, xs = [.bl k] ∧ Q (.int (if k then 1 else 0)) H) (tCons ta tNil)) σ H (.int i) := fun Q q => ha _ (.inl ⟨i, rfl, q⟩)
theorem y_ifT {tc : TE} {b : Bool} (hc : Yl tc σ H (.bl b)) (h1 : b = true → Yl ta σ H v) (h2 : b = false → Yl tb σ H v) : Yl (tIf (tTest tc) ta tb) σ H v := fun Q q => hc _ ⟨b, rfl, by
  cases b with
  | true => exact h1 rfl Q q
  | false => exact h2 rfl Q q⟩
/-- a name's store, then the rest -/
theorem t_set {n : Nat} {r : TS} {D : Ends} (h : Yl ta σ H v) (hr : r D (σ.set n (some v)) H) : tSeq (tAsg ta (gName n)) r D σ H := h _ hr
theorem t_box {n m : Nat} {r : TS} {D : Ends} {p : Addr} {xs : List V} (h : Yl ta σ H v) (hb : σ[n]? = some (some (.ref p))) (hp : H p = some (.lst xs)) (hm : m < xs.length) (hr : r D σ (upd H p (.lst (xs.set m v)))) :
    tSeq (tAsg ta (gSub (tVar n) (tC (.int m)) rSetL)) r D σ H := h _ ⟨.ref p, hb, p, xs, m, m, rfl, rfl, hp, by
      unfold ixN
      rw [if_pos (by omega), if_pos (by omega)]; simp, hr⟩
theorem t_box1 {n m : Nat} {D : Ends} {p : Addr} {xs : List V} (h : Yl ta σ H v) (hb : σ[n]? = some (some (.ref p))) (hp : H p = some (.lst xs)) (hm : m < xs.length) (hr : D.nx σ (upd H p (.lst (xs.set m v)))) :
    tAsg ta (gSub (tVar n) (tC (.int m)) rSetL) D σ H := h _ ⟨.ref p, hb, p, xs, m, m, rfl, rfl, hp, by
      unfold ixN
      rw [if_pos (by omega), if_pos (by omega)]; simp, hr⟩
theorem t_if {tc : TE} {b : Bool} {t u : TS} {D : Ends} (hc : Yl tc σ H (.bl b)) (h1 : b = true → t D σ H) (h2 : b = false → u D σ H) : tIfS (tTest tc) t u D σ H := hc _ ⟨b, rfl, by
  cases b with
  | true => exact h1 rfl
  | false => exact h2 rfl⟩
end
end Ev
/-! EvF2: the box's defs: load, draw. -/
namespace K70
open Ev PySem PySem.Spec PyProof.Rows L2
abbrev sLoad : Stmt := stOf "_law_load"
abbrev sDraw : Stmt := stOf "_law_draw"
abbrev sBox : Stmt := stOf "_law_box"
abbrev FnP (K : PySem.W.Frag) (x : Str) (st : Stmt) (f : Addr) (fd : FuncData) : Prop := FunD K x x (defArgs st) (defBody st) (defScope st) [] [] f fd
theorem scLoad : FnScope ["box", "cells", "cell", "size", "first", "second"] ["box"] (defScope sLoad) := ⟨rfl, rfl, rfl, by decide +kernel, rfl, by decide +kernel, by decide +kernel⟩
theorem scDraw : FnScope ["box", "many", "digit"] ["box", "many"] (defScope sDraw) := ⟨rfl, rfl, rfl, by decide +kernel, rfl, by decide +kernel, by decide +kernel⟩
theorem scBox : FnScope ["script"] ["script"] (defScope sBox) := ⟨rfl, rfl, rfl, by decide +kernel, rfl, by decide +kernel, by decide +kernel⟩
/-- the box with these parts; the rest as at H -/
def Bx (g : Gh) (H0 H : Hp) (cells : List Int) (x y : Int) : Prop := H g.b0 = some (.lst [.ref g.c0, .int x, .int y]) ∧ H g.c0 = some (.lst (cells.map V.int)) ∧ ∀ a, a ≠ g.b0 → a ≠ g.c0 → H a = H0 a
theorem Bx.ne {g : Gh} {H0 H : Hp} {cells : List Int} {x y : Int} (b : Bx g H0 H cells x y) : g.b0 ≠ g.c0 := fun e => by
  obtain ⟨h1, h2, _⟩ := b
  rw [e, h2] at h1
  cases cells with
  | nil => simp at h1
  | cons c r => simp at h1
theorem Bx.setb {g : Gh} {H0 H : Hp} {cells : List Int} {x y : Int} (b : Bx g H0 H cells x y) (x' y' : Int) : Bx g H0 (upd H g.b0 (.lst [.ref g.c0, .int x', .int y'])) cells x' y' := by
  have ne := b.ne
  obtain ⟨h1, h2, h3⟩ := b
  exact ⟨upd_same, by rw [upd_ne (Ne.symm ne)]; exact h2, fun a z1 z2 => by rw [upd_ne z1]; exact h3 a z1 z2⟩
theorem Bx.setc {g : Gh} {H0 H : Hp} {cells : List Int} {x y : Int} (b : Bx g H0 H cells x y) (cells' : List Int) : Bx g H0 (upd H g.c0 (.lst (cells'.map V.int))) cells' x y := by
  have ne := b.ne
  obtain ⟨h1, h2, h3⟩ := b
  exact ⟨by rw [upd_ne ne]; exact h1, upd_same, fun a z1 z2 => by rw [upd_ne z2]; exact h3 a z1 z2⟩
theorem Bx.sm {g : Gh} {H0 H : Hp} {cells cells0 : List Int} {x y x0 y0 : Int} (b : Bx g H0 H cells x y) (b0 : Bx g H0 H0 cells0 x0 y0) : Sm g H0 H := fun a o e => by
  by_cases h1 : a = g.b0
  · subst h1
    rw [b0.1] at e
    cases e
    exact .inl ⟨.inl rfl, trivial⟩
  · by_cases h2 : a = g.c0
    · subst h2
      rw [b0.2.1] at e
      cases e
      exact .inl ⟨.inr rfl, trivial⟩
    · exact .inr (.inl (by rw [b.2.2 a h1 h2]; exact e))
def spLoad : Sp := fun vs H Q _ => ∃ (g : Gh) (cells : List Int) (x y : Int), vs = [.ref g.b0] ∧ Bx g H H cells x y ∧ cells.length ≤ 63 ∧ 0 ≤ y ∧ y < 2147483648 ∧
  ∀ (r : Int) H' cells' y', 0 ≤ r → Bx g H H' cells' x y' → cells'.length ≤ 63 → 0 ≤ y' → y' < 2147483648 → Q (.int r) H'
abbrev rAdd : R2 := rI0 fun i j => .int (i + j)
abbrev rSub : R2 := rI0 fun i j => .int (i - j)
abbrev rMul : R2 := rI CMul fun i j => .int (i * j)
abbrev rMod : R2 := rI (fun _ j => 0 < j) fun i j => .int (i % j)
abbrev rDiv : R2 := rI CDiv fun i j => .int (i / j)
abbrev rGt : R2 := rI0 fun i j => .bl (decide (j < i))
abbrev rGe : R2 := rI0 fun i j => .bl (decide (j ≤ i))
abbrev rLt : R2 := rI0 fun i j => .bl (decide (i < j))
abbrev tI (e : TE) : TE := tCB (fun xs H Q => (∃ i, xs = [.int i] ∧ Q (.int i) H) ∨ ∃ k, xs = [.bl k] ∧ Q (.int (if k then 1 else 0)) H) (tCons e tNil)
abbrev tN (i : Int) : TE := tC (.int i)
abbrev tL (K : PySem.W.Frag) (e : TE) : TE := tCB (fun xs H Q => ∃ x n, xs = [x] ∧ LenV K x H n ∧ Q (.int n) H) (tCons e tNil)
abbrev bx (K : PySem.W.Frag) (k : Int) : TE := tOp (rIxL K) (tVar 0) (tN k)
abbrev gB (k : Int) : TG := gSub (tVar 0) (tN k) rSetL
def tPop : TE := fun σ H Q => tVar 1 σ H fun x H1 => (∃ p vs, x = .ref p ∧ H1 p = some (.lst vs)) ∧ tCons (tN 0) tNil σ H1 fun xs H2 => rPopAt x xs H2 Q
def t_tail (K : PySem.W.Frag) : TS := tSeq (tAsg (tOp rMod (tI (tOp rAdd (tOp rMul (bx K 2) (tN 48271)) (tN 17))) (tN 2147483629)) (gName 4)) <|
  tSeq (tAsg (tOp rMod (tI (tOp rAdd (tOp rMul (tVar 4) (tN 69621)) (tN 5))) (tN 2147483587)) (gName 5)) <|
  tSeq (tAsg (tOp rMod (tI (tOp rAdd (tOp rMul (tVar 5) (tN 40692)) (tN 3))) (tN 2147483563)) (gB 2)) <|
  tRet (tOp rAdd (tOp rAdd (tOp rMul (tVar 4) (tN 4611686014132420609)) (tOp rMul (tVar 5) (tN 2147483647))) (bx K 2))
def t_read (K : PySem.W.Frag) : TS := tSeq (tAsg (tI tPop) (gName 2)) <|
  tSeq (tAsg (tIf (tTest (tOp rGe (tVar 2) (tN 0))) (tOp rMul (tN 2) (tVar 2)) (tOp rSub (tOp rMul (tUn (rU fun i => .int (-i)) (tN 2)) (tVar 2)) (tN 1))) (gName 3)) <|
  tSeq (tIfS (tTest (tOp rGe (tVar 3) (tN 1000000000000000000))) (tRet (tVar 3)) tNext) <|
  tAsg (tOp rMod (tI (tOp rAdd (tOp rAdd (tOp rMul (bx K 2) (tN 69621)) (tOp rMul (tVar 3) (tN 48271))) (tN 11))) (tN 2147483647)) (gB 2)
def t_load (K : PySem.W.Frag) : TS := tSeq (tAsg (bx K 0) (gName 1)) (tSeq (tIfS (tTest (tOp rGt (tL K (tVar 1)) (tN 0))) (t_read K) tNext) (t_tail K))
theorem y_len {K : PySem.W.Frag} {σ : L2.St} {H : Hp} {ta : TE} {p : Addr} {xs : List V} (ha : Yl ta σ H (.ref p)) (hp : H p = some (.lst xs)) : Yl (tL K ta) σ H (.int xs.length) := fun Q q => ha _ ⟨_, _, rfl, .inl ⟨xs, .inl (.inl hp), rfl⟩, q⟩
theorem t_any {te : TE} {n : Nat} {r : TS} {D : Ends} {σ : L2.St} {H : Hp} (h : te σ H fun v H1 => r D (σ.set n (some v)) H1) : tSeq (tAsg te (gName n)) r D σ H := h
theorem t_nx {D : Ends} {σ : L2.St} {H : Hp} (h : D.nx σ H) : tNext D σ H := h
theorem cmul {i j : Int} (h : absSmall j = true) : CMul i j := .inr (absSmall_iff h)
theorem rd_tail {K : PySem.W.Frag} {g : Gh} {H0 H : Hp} {cells : List Int} {x y : Int} {D : Ends} {v1 v2 v3 : Option V} (b : Bx g H0 H cells x y) (y0 : 0 ≤ y)
    (q : ∀ (r : Int) H' y', 0 ≤ r → Bx g H0 H' cells x y' → 0 ≤ y' → y' < 2147483648 → D.rt (.int r) H') : t_tail K D [some (.ref g.b0), v1, v2, v3, none, none] H := by
  refine t_set (y_op (y_int (y_op0 (y_op (y_ix (n := 2) (y_v rfl) y_c b.1 rfl) y_c (cmul rfl)) y_c)) y_c (by decide)) ?_
  refine t_set (y_op (y_int (y_op0 (y_op (y_v rfl) y_c (cmul rfl)) y_c)) y_c (by decide)) ?_
  refine t_box (m := 2) (y_op (y_int (y_op0 (y_op (y_v rfl) y_c (cmul rfl)) y_c)) y_c (by decide)) rfl b.1 (by show 2 < 3; omega) ?_
  have b2 := b.setb x (((((y * 48271 + 17) % 2147483629) * 69621 + 5) % 2147483587 * 40692 + 3) % 2147483563)
  refine y_op0 (y_op0 (y_op (y_v rfl) y_c (cmul rfl)) (y_op (y_v rfl) y_c (cmul rfl))) (y_ix (n := 2) (y_v rfl) y_c b2.1 rfl) _ ?_
  exact q _ _ _ (by omega) b2 (by omega) (by omega)
theorem rd_load {K : PySem.W.Frag} {g : Gh} {H : Hp} {cells : List Int} {x y : Int} {D : Ends} (b : Bx g H H cells x y) (hl : cells.length ≤ 63) (y0 : 0 ≤ y) (y1 : y < 2147483648)
    (q : ∀ (r : Int) H' cells' y', 0 ≤ r → Bx g H H' cells' x y' → cells'.length ≤ 63 → 0 ≤ y' → y' < 2147483648 → D.rt (.int r) H') : t_load K D [some (.ref g.b0), none, none, none, none, none] H := by
  refine t_set (v := .ref g.c0) (y_ix (n := 0) (y_v rfl) y_c b.1 rfl) ?_
  refine t_if (D := { D with nx := t_tail K D }) (y_op0 (y_len (y_v rfl) b.2.1) y_c) (fun hb => ?_) fun hb => rd_tail b y0 fun r H' y' h1 h2 h3 h4 => q r H' cells y' h1 h2 hl h3 h4
  cases cells with
  | nil => simp at hb
  | cons cl cs =>
    have hl' : cs.length ≤ 63 := by simp at hl; omega
    have b1 := b.setc cs
    have pop : ∀ (Q : VK), Q (.int cl) (upd H g.c0 (.lst (cs.map V.int))) → tI tPop [some (.ref g.b0), some (.ref g.c0), none, none, none, none] H Q := fun Q hq => ⟨_, rfl, ⟨_, _, rfl, b.2.1⟩, _, _, 0, 0, _, rfl, rfl, b.2.1, by decide, by decide, by unfold seqIndex?; simp, rfl, .inl ⟨cl, rfl, hq⟩⟩
    refine t_any (pop _ ?_)
    have sz : ∀ (Q : VK) (H1 : Hp), Q (.int (if 0 ≤ cl then 2 * cl else -2 * cl - 1)) H1 → tIf (tTest (tOp rGe (tVar 2) (tN 0))) (tOp rMul (tN 2) (tVar 2)) (tOp rSub (tOp rMul (tUn (rU fun i => .int (-i)) (tN 2)) (tVar 2)) (tN 1)) [some (.ref g.b0), some (.ref g.c0), some (.int cl), none, none, none] H1 Q := fun Q H1 hq => by
      refine y_ifT (v := .int (if 0 ≤ cl then 2 * cl else -2 * cl - 1)) (y_op0 (y_v rfl) y_c) (fun h => ?_) (fun h => ?_) Q hq
      · rw [if_pos (by simpa using h)]
        exact y_op y_c (y_v rfl) (.inl (by decide))
      · rw [if_neg (by simpa using h)]
        exact y_op0 (y_op (y_un y_c) (y_v rfl) (.inl (by decide))) y_c
    refine t_any (sz _ _ ?_)
    have s0 : 0 ≤ (if 0 ≤ cl then 2 * cl else -2 * cl - 1) := by split <;> omega
    generalize (if 0 ≤ cl then 2 * cl else -2 * cl - 1) = sv at s0 ⊢
    refine t_if (y_op0 (y_v rfl) y_c) (fun _ => ?_) fun _ => ?_
    · exact y_v rfl _ (q sv _ cs y s0 b1 hl' y0 y1)
    · refine t_nx ?_
      dsimp only
      refine t_box1 (m := 2) (v := .int ((y * 69621 + sv * 48271 + 11) % 2147483647)) (y_op (C := fun _ j => 0 < j) (i := y * 69621 + sv * 48271 + 11) (j := 2147483647) (y_int (y_op0 (y_op0 (y_op (y_ix (n := 2) (y_v rfl) y_c b1.1 rfl) y_c (cmul rfl)) (y_op (y_v rfl) y_c (cmul rfl))) y_c)) y_c (by decide)) rfl b1.1 (by show 2 < 3; omega) ?_
      have b2 := b1.setb x ((y * 69621 + sv * 48271 + 11) % 2147483647)
      exact rd_tail b2 (by omega) fun r H' y' h1 h2 h3 h4 => q r H' cs y' h1 h2 hl' h3 h4
section
variable {P : Program} {w : World} {K : PySem.W.Frag} {mg : Str → Option Value} {base : Heap} {f fL : Addr} {fd fdL : FuncData}
theorem ok_load (F : FnP K "_law_load" sLoad f fd) (gl : mg "len" = none) (gi : mg "int" = none) : FnOk P w K mg base CX0 1 f fd ["box"] spLoad := by
  refine F.ok scLoad (fun vs H Q E h => ?_) fun cdv A outer s H vs Q E hr h => ⟨t_load K, PSs.nox ?_, ?_⟩
  · obtain ⟨g, cells, x, y, rfl, _⟩ := h
    rfl
  · refine pss_cons (ps_set (i := 1) scLoad.nd rfl (Or.inl rfl) (pe_ix ix_list (pv 0) pe_int (fun _ _ => rfl))) ?_
    refine pss_cons (ps_if (pt_cmpR op_gt (pe_callB call_len rfl gl boot_len (pa_cons (pv 1) pa_nil)) pe_int (nomark _)) ?_ pss_nil) ?_
    · refine pss_cons (ps_set (i := 2) scLoad.nd rfl (Or.inl rfl) (pe_callTy call_int1 rfl gi rfl (pa_cons (pe_bmG ty_list PySem.F.plainAttrs_list PySem.F.slot_list_pop PySem.F.type_list_pop mt_popAt (pv 1) (pa_cons pe_int pa_nil) rfl) pa_nil))) ?_
      refine pss_cons (ps_set (i := 3) scLoad.nd rfl (Or.inl rfl) (pe_ifExp (pt_cmpR op_ge (pv 2) pe_int (nomark _)) (pe_op op_mul pe_int (pv 2)) (pe_op op_sub (pe_op op_mul (pe_un un_neg pe_int) (pv 2)) pe_int))) ?_
      refine pss_cons (ps_if (pt_cmpR op_ge (pv 3) pe_int (nomark _)) (pss_one (ps_ret (pv 3))) pss_nil) ?_
      exact pss_one (ps_asg (pe_op op_mod (pe_callTy call_int1 rfl gi rfl (pa_cons (pe_op op_add (pe_op op_add (pe_op op_mul (pe_ix ix_list (pv 0) pe_int (fun _ _ => rfl)) pe_int) (pe_op op_mul (pv 3) pe_int)) pe_int) pa_nil)) pe_int) (pg_sub (pv 0) pe_int set_list))
    · refine pss_cons (ps_set (i := 4) scLoad.nd rfl (Or.inl rfl) (pe_op op_mod (pe_callTy call_int1 rfl gi rfl (pa_cons (pe_op op_add (pe_op op_mul (pe_ix ix_list (pv 0) pe_int (fun _ _ => rfl)) pe_int) pe_int) pa_nil)) pe_int)) ?_
      refine pss_cons (ps_set (i := 5) scLoad.nd rfl (Or.inl rfl) (pe_op op_mod (pe_callTy call_int1 rfl gi rfl (pa_cons (pe_op op_add (pe_op op_mul (pv 4) pe_int) pe_int) pa_nil)) pe_int)) ?_
      refine pss_cons (ps_asg (pe_op op_mod (pe_callTy call_int1 rfl gi rfl (pa_cons (pe_op op_add (pe_op op_mul (pv 5) pe_int) pe_int) pa_nil)) pe_int) (pg_sub (pv 0) pe_int set_list)) ?_
      exact pss_one (ps_ret (pe_op op_add (pe_op op_add (pe_op op_mul (pv 4) pe_int) (pe_op op_mul (pv 5) pe_int)) (pe_ix ix_list (pv 0) pe_int (fun _ _ => rfl))))
  · obtain ⟨g, cells, x, y, rfl, b, hl, y0, y1, q⟩ := h
    exact rd_load b hl y0 y1 q
def t_draw (K : PySem.W.Frag) : TS := tSeq (tIfS (tTest (tOp rLt (bx K 1) (tVar 1))) (tAsg (tCall spLoad [] E0 (tCons (tVar 0) tNil)) (gB 1)) tNext) <|
  tSeq (tAsg (tOp rMod (tI (bx K 1)) (tVar 1)) (gName 2)) <| tSeq (tAsg (tOp rDiv (bx K 1) (tVar 1)) (gB 1)) <| tRet (tVar 2)
theorem rd_draw {K : PySem.W.Frag} {g : Gh} {H : Hp} {cells : List Int} {x y m : Int} {D : Ends} (b : Bx g H H cells x y) (hl : cells.length ≤ 63) (x0 : 0 ≤ x) (y0 : 0 ≤ y) (y1 : y < 2147483648) (m0 : 0 < m) (m1 : m < 1000000)
    (q : ∀ (d : Int) H' cells' x' y', 0 ≤ d → d < m → Bx g H H' cells' x' y' → cells'.length ≤ 63 → 0 ≤ x' → 0 ≤ y' → y' < 2147483648 → D.rt (.int d) H') : t_draw K D [some (.ref g.b0), some (.int m), none] H := by
  have rest : ∀ (H1 : Hp) (cells1 : List Int) (x1 y' : Int), Bx g H H1 cells1 x1 y' → cells1.length ≤ 63 → 0 ≤ x1 → 0 ≤ y' → y' < 2147483648 →
      (tSeq (tAsg (tOp rMod (tI (bx K 1)) (tVar 1)) (gName 2)) <| tSeq (tAsg (tOp rDiv (bx K 1) (tVar 1)) (gB 1)) <| tRet (tVar 2)) D [some (.ref g.b0), some (.int m), none] H1 := fun H1 cells1 x1 y' b1 h1 h2 h3 h4 => by
    refine t_set (y_op (C := fun _ j => 0 < j) (y_int (y_ix (n := 1) (y_v rfl) y_c b1.1 rfl)) (y_v rfl) m0) ?_
    refine t_box (m := 1) (y_op (C := CDiv) (y_ix (n := 1) (y_v rfl) y_c b1.1 rfl) (y_v rfl) ⟨m0, by omega⟩) rfl b1.1 (by show 1 < 3; omega) ?_
    have b2 := b1.setb (x1 / m) y'
    exact y_v rfl _ (q (x1 % m) _ cells1 _ _ (Int.emod_nonneg _ (by omega)) (Int.emod_lt_of_pos _ m0) b2 h1 (Int.ediv_nonneg h2 (by omega)) h3 h4)
  refine t_if (y_op0 (y_ix (n := 1) (y_v rfl) y_c b.1 rfl) (y_v rfl)) (fun _ => ?_) fun _ => t_nx (rest H cells x y b hl x0 y0 y1)
  refine ⟨_, rfl, g, cells, x, y, rfl, b, hl, y0, y1, fun r H' cells' y' h1 h2 h3 h4 h5 => ?_⟩
  exact ⟨.ref g.b0, rfl, g.b0, _, 1, 1, rfl, rfl, h2.1, rfl, rest _ _ _ _ (h2.setb r y') h3 h1 h4 h5⟩
theorem ok_draw (F : FnP K "_law_draw" sDraw f fd) (FL : FnP K "_law_load" sLoad fL fdL) (gL : mg "_law_load" = some (.ref fL)) (gl : mg "len" = none) (gi : mg "int" = none) : FnOk P w K mg base CX0 2 f fd ["box", "many"] spDraw := by
  have GL : FnOk P w K mg base CX0 1 fL fdL ["box"] spLoad := ok_load FL gl gi
  have bL : Binds K fdL ["box"] [] := FL.bindsN fun _ _ _ _ _ _ us hl => match us, hl with | [_], _ => rfl
  refine F.ok scDraw (fun vs H Q E h => ?_) fun cdv A outer s H vs Q E hr h => ⟨t_draw K, PSs.nox ?_, ?_⟩
  · obtain ⟨g, m, rfl, _⟩ := h
    rfl
  · refine pss_cons (ps_if (pt_cmpR op_lt (pe_ix ix_list (pv 0) pe_int (fun _ _ => rfl)) (pv 1) (nomark _)) (pss_one (ps_asg (pe_call GL hr rfl gL FL.kp bL .nil pass0 (pa_cons (pv 0) pa_nil)) (pg_sub (pv 0) pe_int set_list))) pss_nil) ?_
    refine pss_cons (ps_set (i := 2) scDraw.nd rfl (Or.inl rfl) (pe_op op_mod (pe_callTy call_int1 rfl gi rfl (pa_cons (pe_ix ix_list (pv 0) pe_int (fun _ _ => rfl)) pa_nil)) (pv 1))) ?_
    refine pss_cons (ps_asg (pe_op op_fdiv (pe_ix ix_list (pv 0) pe_int (fun _ _ => rfl)) (pv 1)) (pg_sub (pv 0) pe_int set_list)) ?_
    exact pss_one (ps_ret (pv 2))
  · obtain ⟨g, m, rfl, hb, ⟨cells, x, y, h1, h2, h3, h4, h5, h6⟩, m0, m1, q⟩ := h
    have b : Bx g H H cells x y := ⟨h1, h2, fun _ _ _ => rfl⟩
    refine rd_draw b h3 h4 h5 h6 m0 m1 fun d H' cells' x' y' d0 d1 b' c1 c2 c3 c4 => ?_
    have e : d = ((d.toNat : Nat) : Int) := by omega
    rw [e]
    exact q d.toNat H' (by omega) (b'.sm b) ⟨cells', x', y', b'.1, b'.2.1, c1, c2, c3, c4⟩
end
end K70
/-! EvF3: the box is made. -/
namespace K70
open Ev PySem PySem.Spec PyProof.Rows L2
def spBox (K : PySem.W.Frag) : Sp := fun vs H Q _ => ∃ (a : Addr) (ns : List Int), vs = [.ref a] ∧ SqL K H a (ns.map V.int) ∧ ns.length ≤ 63 ∧
  ∀ (g : Gh) H' (cells : List Int) (y : Int), H g.b0 = none → H g.c0 = none → Same H H' → Bx g H' H' cells 0 y → cells.length ≤ 63 → 0 ≤ y → y < 2147483648 → Q (.ref g.b0) H'
section
variable {P : Program} {w : World} {K : PySem.W.Frag} {mg : Str → Option Value} {base : Heap} {f fL : Addr} {fd fdL : FuncData}
theorem cut_map (ns : List Int) (lo hi : Option Int) : ∃ cells : List Int, cutV (ns.map V.int) lo hi = cells.map V.int ∧ cells.length ≤ ns.length := by
  unfold cutV
  refine ⟨_, by rw [← List.map_drop, ← List.map_take], ?_⟩
  rw [List.length_take, List.length_drop]
  omega
def rListOf (K : PySem.W.Frag) : List V → Hp → VK → Prop := fun xs H Q => ∃ p ys, xs = [.ref p] ∧ (SqL K H p ys ∨ SqT K H p ys) ∧ ∀ l, H l = none → Q (.ref l) (upd H l (.lst ys))
def t_bx (K : PySem.W.Frag) : TS := tRet (tLst (tCons (tCB (rListOf K) (tCons (L2.tSl (rSlL K) (tVar 0) tNoPart (tPart (tN 63))) tNil)) (tCons (tN 0) (tCons (tOp rAdd (tN 4711) (tL K (tVar 0))) tNil))))
theorem ok_box (F : FnP K "_law_box" sBox f fd) (gl : mg "len" = none) (gi : mg "list" = none) : FnOk P w K mg base CX0 1 f fd ["script"] (spBox K) := by
  refine F.ok scBox (fun vs H Q E h => ?_) fun cdv A outer s H vs Q E hr h => ⟨t_bx K, PSs.nox ?_, ?_⟩
  · obtain ⟨a, ns, rfl, _⟩ := h
    rfl
  · exact pss_one (ps_ret (pe_lst (pa_cons (pe_callTy call_list_of rfl gi rfl (pa_cons (pe_slice sl_list (pv 0) po_none (po_some pe_int)) pa_nil)) (pa_cons pe_int (pa_cons (pe_op op_add pe_int (pe_callB call_len rfl gl boot_len (pa_cons (pv 0) pa_nil))) pa_nil)))))
  · obtain ⟨a, ns, rfl, hS, hl, q⟩ := h
    obtain ⟨cells, ec, el⟩ := cut_map ns none (some 63)
    refine ⟨_, rfl, 63, rfl, a, _, rfl, hS, fun p1 e1 => ?_⟩
    refine ⟨p1, _, rfl, .inl (.inl (.inl upd_same)), fun p2 e2 => ?_⟩
    have s1 : Same H (upd H p1 (.lst (cutV (ns.map V.int) none (some 63)))) := same_new e1
    have s2 := s1.trans (same_new (o := .lst (cutV (ns.map V.int) none (some 63))) e2)
    refine y_op0 (i := 4711) (j := (ns.length : Int)) y_c (fun Q' q' => ⟨_, rfl, _, _, rfl, .inl ⟨_, s2.seq hS, by rw [List.length_map]⟩, q'⟩) _ ?_
    refine ⟨by show 3 ≤ sizeLine; decide, fun p3 e3 => ?_⟩
    have s3 := s2.trans (same_new (o := .lst [.ref p2, .int 0, .int (4711 + (ns.length : Int))]) e3)
    have n23 : p2 ≠ p3 := fun z => by
      subst z
      rw [upd_same] at e3
      cases e3
    have h3 : H p3 = none := s2.free e3
    have h2 : H p2 = none := s1.free e2
    refine q ⟨p3, p2, fun a => a = p3 ∨ a = p2, fun _ => False, fun _ => False⟩ _ cells (4711 + (ns.length : Int)) h3 h2 s3 ⟨upd_same, ?_, fun _ _ _ => rfl⟩ (by omega) (by omega) (by omega)
    show upd _ p3 _ p2 = _
    rw [upd_ne n23, upd_same, ec]
end
end K70
/-! EvF4: the law's own def. -/
namespace K70
open Ev PySem PySem.Spec PyProof.Rows L2
open Ev.Tr
abbrev sLaw : Stmt := stOf "law"
def spLaw (K : PySem.W.Frag) : Sp := fun vs H Q _ => ∃ (a : Addr) (ns : List Int), vs = [.ref a] ∧ SqL K H a (ns.map V.int) ∧ ns.length ≤ 63 ∧ ∀ H', Q (.bl true) H'
def lawPost : Fl → Prop
  | .rt a => a = cl (.bl true)
  | _ => False
/-- the law's frame behind its first statement -/
def fr0 (n b : Nat) : Fm := (List.replicate n none).set b (some ⟨.box, .cl⟩)
theorem fr0_start {c : Cs} {g : Gh} {H : Hp} {n b : Nat} {σ : L2.St} (bx : BoxOk g H) (hb : Bars g) (dom : ∀ a, g.B a → H a ≠ none) (hl : n = σ.length) (hs : σ[b]? = some (some (.ref g.b0))) (hM : ∀ a, ¬ g.M a) (hL : ∀ a, ¬ g.L a) :
    FrS c g H [] ⟨[], []⟩ g (fr0 n b) σ H := by
  have key : ∀ (i : Nat) (s : Sl), (fr0 n b)[i]? = some (some s) → i = b ∧ s = ⟨.box, .cl⟩ := fun i s h => by
    unfold fr0 at h
    rw [List.getElem?_set] at h
    by_cases e : b = i
    · subst e
      rw [if_pos rfl] at h
      split at h
      · simp only [Option.some.injEq] at h
        exact ⟨rfl, h.symm⟩
      · cases h
    · rw [if_neg e, List.getElem?_replicate] at h
      split at h <;> simp at h
  exact {
    fr := {
      len := by unfold fr0; rw [List.length_set, List.length_replicate, hl]
      slot := fun i s h => by
        obtain ⟨rfl, rfl⟩ := key i s h
        exact ⟨_, hs, by show Rz c g.b0 g.B H .box _; rw [Rz]⟩
      apart := fun i j s t p h1 h2 m1 m2 _ _ => by
        obtain ⟨rfl, rfl⟩ := key i s h1
        cases m1
      box := bx
      bars := hb
      dom := dom
      lks := fun a z => (hL a z).elim }
    eb := rfl
    ec := rfl
    up := fun a h => h
    new := fun a h => .inl h
    sm := .refl _ _
    mine := fun a z => (hM a z).elim
    lk := fun x hx => by cases hx
    dom0 := dom
    gz := fun x hx => by cases hx
    gr := fun x hx => by cases hx }
section
variable {P : Program} {w : World} {K : PySem.W.Frag} {mg : Str → Option Value} {base : Heap} {f fB : Addr} {fd fdB : FuncData} {c : Cs} {G : Pg} {tb : Tb} {n : Nat} {N : List Str} {b : Nat} {body : List S} {rest : List Stmt} {py p0 p1 p2 p3 : Pos}
theorem ok_law (M : Md P w K mg base c G tb 2) (FB : FnP K "_law_box" sBox fB fdB) (gB : mg "_law_box" = some (.ref fB)) (gl : mg "len" = none) (gi : mg "list" = none) (F : FnP K "law" sLaw f fd)
    (hb : defBody sLaw = .Assign [.Name "box" p0] (.Call (.Name "_law_box" p1) [.Name "script" p2] [] p3) py :: rest) (S : FnScope N ["script"] (defScope sLaw)) (h1 : N[b]? = some ("box" : Str)) (h0 : 0 < b) (hs : (defScope sLaw).names.lookup ("script" : Str) = some .local) (hbx : isT (defScope sLaw) (fun _ => true) "box" = true) (hlb : (defScope sLaw).names.lookup ("_law_box" : Str) = some .globalImplicit) (chk : mSs tb N (defScope sLaw) (fun _ => true) body rest = true)
    (run : All (evSs G (callF G n) body (fr0 N.length b)) lawPost) : FnOk P w K mg base CX0 ((n + 2) + 1) f fd ["script"] (spLaw K) := by
  have GB : FnOk P w K mg base CX0 1 fB fdB ["script"] (spBox K) := ok_box FB gl gi
  have bB : Binds K fdB ["script"] [] := FB.bindsN fun _ _ _ _ _ _ us hl => match us, hl with | [_], _ => rfl
  have N0 : N[0]? = some ("script" : Str) := by
    have := S.pre
    cases N with
    | nil => simp at this
    | cons x r => simp at this; rw [this]; rfl
  have hbl : b < N.length := (List.getElem?_eq_some_iff.mp h1).1
  refine F.ok S (fun vs H Q E h => ?_) fun cdv A outer s H vs Q E hr h => ⟨tSeq (tAsg (tCall (spBox K) [] E0 (tCons (tVar 0) tNil)) (gName b)) (tS c fun f => evSs G (callF G n) body f), PSs.nox ?_, ?_⟩
  · obtain ⟨a, ns, rfl, _⟩ := h
    rfl
  · rw [hb]
    obtain ⟨t1, t2⟩ := isT_of (X := (cxOf CX0 P w K mg base N "law" (defScope sLaw) f cdv A outer s H E).nox) hbx rfl rfl
    refine pss_cons (ps_set S.nd h1 t1 (pe_call GB (hr.mono (by omega)) hlb gB FB.kp bB .nil pass0 (pa_cons (pe_var N0 (.inl hs)) pa_nil)) rfl t2) ?_
    have C : Ct (cxOf CX0 P w K mg base N "law" (defScope sLaw) f cdv A outer s H E).nox c G tb n N (defScope sLaw) (fun _ => true) := {
      fit := ⟨M.cK, M.cw, rfl, by
        have := hr.un
        show (A.deeper (envOfC "law" (defScope sLaw) s.heap.objs.size f cdv)).units + 160 < cLine
        omega⟩
      N := rfl
      nd := S.nd
      sc := rfl
      fn := rfl
      fns := M.fns
      fall := fun k' q' hq' => by
        obtain ⟨fd', ps', a1, a2, a3⟩ := fnsOk M n k' q' hq'
        exact ⟨⟨n + 2, fd', ps', a1, hr, a2⟩, a3⟩
      glb := M.glb
      blt := M.blt
      draw := by
        obtain ⟨q', fd', ps', a0, a1, a2, a3⟩ := M.draw
        exact ⟨q', a0, ⟨⟨2, fd', ps', a1, hr.mono (Nat.le_add_left _ _), a2⟩, a3⟩⟩ }
    exact kSs C S.kind PassesOwn.never body chk
  · obtain ⟨a, ns, rfl, hS, hl, q⟩ := h
    have hσ : (L2.start N [V.ref a]).length = N.length := by
      unfold L2.start
      simp
      omega
    refine ⟨.ref a, by unfold L2.start; simp, a, ns, rfl, hS, hl, fun g H' cells y e1 e2 sm bx hl' y0 y1 => ?_⟩
    refine ⟨⟨g.b0, g.c0, fun a => a = g.b0 ∨ a = g.c0, fun _ => False, fun _ => False⟩, H', [], ⟨[], []⟩, _, fr0 N.length b, fr0_start ⟨cells, 0, y, bx.1, bx.2.1, hl', by omega, y0, y1⟩ ⟨.inl rfl, .inr rfl⟩ (fun a z => ?_) (by rw [List.length_set, hσ]) (by rw [List.getElem?_set_self (by rw [hσ]; exact hbl)]) (fun _ z => z) (fun _ z => z), run.mono fun fl hfl => ?_⟩
    · rcases z with z | z
      · rw [z, bx.1]; simp
      · rw [z, bx.2.1]; simp
    · cases fl with
      | rt x =>
        have hx : x = cl (.bl true) := hfl
        subst hx
        intro v H2 s2 b2 r2
        have r2 : Rz c g.b0 (fun a => a = g.b0 ∨ a = g.c0) H2 (.bl true) v := r2
        rw [Rz] at r2
        rw [r2]
        exact q H2
      | _ => exact hfl.elim
end
end K70
/-! EvG1: runs reckoned; what a run of statements leaves as it was; data that are the same. -/
namespace Ev
open Tr
theorem allB_all {α : Type} {P : α → Bool} : ∀ {t : Tr α}, t.allB P = true → All t fun a => P a = true
  | .ret a, h => h
  | .ask m k, h => by
    simp only [Tr.allB, Bool.and_eq_true, decide_eq_true_eq, List.all_eq_true] at h
    exact ⟨h.1, fun d hd => allB_all (h.2 d (List.mem_range.mpr hd))⟩
  | .stuck, h => by cases h
theorem All.and {α : Type} {P Q : α → Prop} : ∀ {t : Tr α}, All t P → All t Q → All t fun a => P a ∧ Q a
  | .ret a, h, h' => ⟨h, h'⟩
  | .ask m k, h, h' => ⟨h.1, fun d hd => All.and (h.2 d hd) (h'.2 d hd)⟩
  | .stuck, h, _ => h
/-! ### the same data -/
mutual
def D.same : D → D → Bool
  | .non, .non => true
  | .bl a, .bl b => a == b
  | .int i, .int j => decide (i = j)
  | .str x, .str y => eqNats x y
  | .lst xs, .lst ys => D.sames xs ys
  | .tup xs, .tup ys => D.sames xs ys
  | .fn f, .fn g => f == g
  | .box, .box => true
  | _, _ => false
def D.sames : List D → List D → Bool
  | [], [] => true
  | x :: xs, y :: ys => D.same x y && D.sames xs ys
  | _, _ => false
end
theorem eqNats_of : ∀ {x y : List Nat}, eqNats x y = true → x = y
  | [], [], _ => rfl
  | [], _ :: _, h => by cases h
  | _ :: _, [], h => by cases h
  | a :: as, b :: bs, h => by
    simp only [eqNats, Bool.and_eq_true, beq_iff_eq] at h
    rw [h.1, eqNats_of h.2]
mutual
theorem D.same_of : ∀ {x y : D}, D.same x y = true → x = y
  | .non, y, h => by cases y <;> simp [D.same] at h; rfl
  | .bl a, y, h => by cases y <;> simp [D.same] at h; rw [h]
  | .int a, y, h => by cases y <;> simp [D.same] at h; rw [h]
  | .str a, y, h => by cases y <;> simp [D.same] at h; rw [eqNats_of h]
  | .lst a, y, h => by cases y <;> simp [D.same] at h; rw [D.sames_of h]
  | .tup a, y, h => by cases y <;> simp [D.same] at h; rw [D.sames_of h]
  | .fn a, y, h => by cases y <;> simp [D.same] at h; rw [h]
  | .box, y, h => by cases y <;> simp [D.same] at h; rfl
  | .dct a, y, h => by cases y <;> simp [D.same] at h
theorem D.sames_of : ∀ {x y : List D}, D.sames x y = true → x = y
  | [], [], _ => rfl
  | [], _ :: _, h => by simp [D.sames] at h
  | _ :: _, [], h => by simp [D.sames] at h
  | a :: as, b :: bs, h => by
    simp only [D.sames, Bool.and_eq_true] at h
    rw [D.same_of h.1, D.sames_of h.2]
end
/-! ### what is not written stays -/
def wrT : T → Option (List Nat)
  | .nm i => some [i]
  | _ => none
mutual
/-- the slots written, of the plainest statements -/
def wrS : S → Option (List Nat)
  | .asg (.nm i) _ _ => some [i]
  | .ife _ a b => match wrSs a, wrSs b with
    | some x, some y => some (x ++ y)
    | _, _ => none
  | .ret _ => some []
  | .forr t _ [] none b => match wrSs b with
    | some x => some (T.names t ++ x)
    | none => none
  | _ => none
def wrSs : List S → Option (List Nat)
  | [] => some []
  | s :: ss => match wrS s, wrSs ss with
    | some x, some y => some (x ++ y)
    | _, _ => none
end
/-- behind r all slots but ws are those of f -/
def Kept (f : Fm) (ws : List Nat) : Fl → Prop
  | .nx f' => f'.length = f.length ∧ ∀ i, i ∉ ws → f'[i]? = f[i]?
  | .bk f' => f'.length = f.length ∧ ∀ i, i ∉ ws → f'[i]? = f[i]?
  | .ct f' => f'.length = f.length ∧ ∀ i, i ∉ ws → f'[i]? = f[i]?
  | .rt _ => True
theorem Kept.more {f : Fm} {ws ws' : List Nat} (h : ∀ i ∈ ws, i ∈ ws') : ∀ {r : Fl}, Kept f ws r → Kept f ws' r
  | .nx _, k => ⟨k.1, fun i hi => k.2 i fun z => hi (h i z)⟩
  | .bk _, k => ⟨k.1, fun i hi => k.2 i fun z => hi (h i z)⟩
  | .ct _, k => ⟨k.1, fun i hi => k.2 i fun z => hi (h i z)⟩
  | .rt _, _ => trivial
theorem Kept.trans {f f1 : Fm} {ws : List Nat} (h : f1.length = f.length ∧ ∀ i, i ∉ ws → f1[i]? = f[i]?) : ∀ {r : Fl}, Kept f1 ws r → Kept f ws r
  | .nx _, k => ⟨k.1.trans h.1, fun i hi => (k.2 i hi).trans (h.2 i hi)⟩
  | .bk _, k => ⟨k.1.trans h.1, fun i hi => (k.2 i hi).trans (h.2 i hi)⟩
  | .ct _, k => ⟨k.1.trans h.1, fun i hi => (k.2 i hi).trans (h.2 i hi)⟩
  | .rt _, _ => trivial
theorem put_kept {f f' : Fm} {own : Bool} {i : Nat} {a : A} (h : f.put own i a = some f') : f'.length = f.length ∧ ∀ j, j ≠ i → f'[j]? = f[j]? := by
  unfold Fm.put at h
  have fin : ∀ x, f' = f.set i x → f'.length = f.length ∧ ∀ j, j ≠ i → f'[j]? = f[j]? := fun x e => by
    subst e
    exact ⟨List.length_set, fun j hj => List.getElem?_set_ne (Ne.symm hj)⟩
  split at h
  · cases h
  · split at h
    · cases h
    · split at h <;> first | (simp only [Option.some.injEq] at h; exact fin _ h.symm) | cases h
mutual
theorem bindT_kept : ∀ {t : T} {d : D} {f f' : Fm}, bindT t d f = some f' → f'.length = f.length ∧ ∀ j, j ∉ T.names t → f'[j]? = f[j]?
  | .nm i, d, f, f', h => by
    rw [bindT] at h
    obtain ⟨h1, h2⟩ := put_kept h
    exact ⟨h1, fun j hj => h2 j (by simpa [T.names] using hj)⟩
  | .tup ts, d, f, f', h => by
    cases d with
    | tup ds =>
      simp only [bindT] at h
      rw [T.names]
      exact bindTs_kept h
    | _ => simp [bindT] at h
  | .sub _ _, d, f, f', h => by rw [bindT] at h; cases h
theorem bindTs_kept : ∀ {ts : List T} {ds : List D} {f f' : Fm}, bindTs ts ds f = some f' → f'.length = f.length ∧ ∀ j, j ∉ T.namess ts → f'[j]? = f[j]?
  | [], ds, f, f', h => by
    cases ds with
    | nil =>
      simp only [bindTs, Option.some.injEq] at h
      subst h
      exact ⟨rfl, fun _ _ => rfl⟩
    | cons _ _ => simp [bindTs] at h
  | t :: ts, ds, f, f', h => by
    cases ds with
    | nil => simp [bindTs] at h
    | cons d ds =>
      simp only [bindTs] at h
      split at h
      · rename_i f1 e1
        obtain ⟨a1, a2⟩ := bindT_kept e1
        obtain ⟨b1, b2⟩ := bindTs_kept h
        refine ⟨b1.trans a1, fun j hj => ?_⟩
        rw [T.namess, List.mem_append, not_or] at hj
        rw [b2 j hj.2, a2 j hj.1]
      · cases h
end
section
variable {G : Pg} {call : Nat → List A → Tr A}
theorem forL_kept {t : T} {b : Fm → Tr Fl} {ws : List Nat} (hb : ∀ f P, All (b f) P → All (b f) fun r => P r ∧ Kept f ws r) : ∀ (xs : List D) {f : Fm} {P : Fl → Prop}, All (forL (bindT t) none b xs f) P →
    All (forL (bindT t) none b xs f) fun r => P r ∧ Kept f (T.names t ++ ws) r
  | [], f, P, h => by
    rw [forL] at h ⊢
    exact ⟨h, rfl, fun _ _ => rfl⟩
  | x :: xs, f, P, h => by
    rw [forL] at h ⊢
    cases e : bindT t x f with
    | none => rw [e] at h; exact h.elim
    | some f1 =>
      rw [e] at h
      dsimp only at h ⊢
      obtain ⟨a1, a2⟩ := bindT_kept e
      have a : f1.length = f.length ∧ ∀ i, i ∉ T.names t ++ ws → f1[i]? = f[i]? := ⟨a1, fun i hi => a2 i fun z => hi (List.mem_append_left _ z)⟩
      refine all_bind.mpr ((hb f1 _ (all_bind.mp h)).mono fun r ⟨hr, kr⟩ => ?_)
      have kr := (kr.more (ws' := T.names t ++ ws) fun i hi => List.mem_append_right _ hi).trans a
      cases r with
      | nx f' => exact (forL_kept hb xs hr).mono fun r' ⟨h1, h2⟩ => ⟨h1, h2.trans kr⟩
      | ct f' => exact (forL_kept hb xs hr).mono fun r' ⟨h1, h2⟩ => ⟨h1, h2.trans kr⟩
      | bk f' => exact ⟨hr, kr⟩
      | rt a => exact ⟨hr, trivial⟩
mutual
theorem wrS_kept : ∀ (s : S) {ws : List Nat}, wrS s = some ws → ∀ f P, All (evS G call s f) P → All (evS G call s f) fun r => P r ∧ Kept f ws r
  | .asg (.nm i) own e, ws, hw, f, P, h => by
    simp only [wrS, Option.some.injEq] at hw
    subst hw
    simp only [evS] at h ⊢
    refine all_bind.mpr ((all_bind.mp h).mono fun a ha => ?_)
    obtain ⟨f', e1, q⟩ := all_ofO.mp (all_bind.mp ha)
    refine all_bind.mpr (all_ofO.mpr ⟨f', e1, q, ?_⟩)
    obtain ⟨k1, k2⟩ := put_kept e1
    exact ⟨k1, fun j hj => k2 j (by simpa using hj)⟩
  | .asg (.tup _) _ _, ws, hw, f, P, h => by simp [wrS] at hw
  | .asg (.sub _ _) _ _, ws, hw, f, P, h => by simp [wrS] at hw
  | .ife c a b, ws, hw, f, P, h => by
    simp only [wrS] at hw
    split at hw
    · rename_i x y e1 e2
      simp only [Option.some.injEq] at hw
      subst hw
      simp only [evS] at h ⊢
      refine all_bind.mpr ((all_bind.mp h).mono fun t ht => ?_)
      cases t with
      | true => exact (wrSs_kept a e1 f _ ht).mono fun r ⟨h1, h2⟩ => ⟨h1, h2.more fun i hi => List.mem_append_left _ hi⟩
      | false => exact (wrSs_kept b e2 f _ ht).mono fun r ⟨h1, h2⟩ => ⟨h1, h2.more fun i hi => List.mem_append_right _ hi⟩
    · cases hw
  | .ret none, ws, hw, f, P, h => by
    simp only [evS] at h ⊢
    exact ⟨h, trivial⟩
  | .ret (some e), ws, hw, f, P, h => by
    simp only [evS] at h ⊢
    refine all_bind.mpr ((all_bind.mp h).mono fun a ha => ?_)
    cases ht : a.t <;> rw [ht] at ha <;> first | exact ⟨ha, trivial⟩ | exact ha.elim
  | .forr t it [] none b, ws, hw, f, P, h => by
    simp only [wrS] at hw
    split at hw
    · rename_i x e1
      simp only [Option.some.injEq] at hw
      subst hw
      simp only [evS] at h ⊢
      obtain ⟨f1, e2, h⟩ := all_ofO.mp (all_bind.mp h)
      simp only [lockAll, Option.some.injEq] at e2
      subst e2
      refine all_bind.mpr (all_ofO.mpr ⟨f, rfl, ?_⟩)
      refine all_bind.mpr ((all_bind.mp h).mono fun as has => ?_)
      split at has
      · rename_i hc
        rw [if_pos hc]
        obtain ⟨xs, e3, q⟩ := all_ofO.mp (all_bind.mp has)
        refine all_bind.mpr (all_ofO.mpr ⟨xs, e3, ?_⟩)
        refine all_bind.mpr ((forL_kept (fun f P => wrSs_kept b e1 f P) xs (all_bind.mp q)).mono fun r ⟨h1, h2⟩ => ?_)
        cases r with
        | nx f' =>
          simp only [unlockFl, unlockAll] at h1 ⊢
          exact ⟨h1, h2⟩
        | rt a => exact ⟨h1, trivial⟩
        | bk f' => exact h1.elim
        | ct f' => exact h1.elim
      · exact has.elim
    · cases hw
  | .forr t it [] (some _) b, ws, hw, f, P, h => by simp [wrS] at hw
  | .forr t it (_ :: _) k b, ws, hw, f, P, h => by simp [wrS] at hw
  | .asgs _ _, ws, hw, f, P, h => by simp [wrS] at hw
  | .app _ _, ws, hw, f, P, h => by simp [wrS] at hw
  | .ext _ _, ws, hw, f, P, h => by simp [wrS] at hw
  | .pop _ _, ws, hw, f, P, h => by simp [wrS] at hw
  | .aug _ _ _, ws, hw, f, P, h => by simp [wrS] at hw
  | .whl _ _, ws, hw, f, P, h => by simp [wrS] at hw
  | .brk, ws, hw, f, P, h => by simp [wrS] at hw
  | .cnt, ws, hw, f, P, h => by simp [wrS] at hw
  | .pass, ws, hw, f, P, h => by simp [wrS] at hw
  | .frz _, ws, hw, f, P, h => by simp [wrS] at hw
theorem wrSs_kept : ∀ (ss : List S) {ws : List Nat}, wrSs ss = some ws → ∀ f P, All (evSs G call ss f) P → All (evSs G call ss f) fun r => P r ∧ Kept f ws r
  | [], ws, hw, f, P, h => by
    simp only [evSs] at h ⊢
    exact ⟨h, rfl, fun _ _ => rfl⟩
  | s :: ss, ws, hw, f, P, h => by
    simp only [wrSs] at hw
    split at hw
    · rename_i x y e1 e2
      simp only [Option.some.injEq] at hw
      subst hw
      simp only [evSs] at h ⊢
      refine all_bind.mpr ((wrS_kept s e1 f _ (all_bind.mp h)).mono fun r ⟨h1, h2⟩ => ?_)
      have h2 := h2.more (ws' := x ++ y) fun i hi => List.mem_append_left _ hi
      cases r with
      | nx f' => exact (wrSs_kept ss e2 f' _ h1).mono fun r' ⟨h3, h4⟩ => ⟨h3, (h4.more fun i hi => List.mem_append_right _ hi).trans h2⟩
      | rt a => exact ⟨h1, trivial⟩
      | bk f' => exact ⟨h1, h2⟩
      | ct f' => exact ⟨h1, h2⟩
    · cases hw
end
end
/-- the slots that are kept, alone -/
theorem keepOnly_eq {f f0 : Fm} {ks : List Nat} (hl : f.length = f0.length) (h : ∀ i ∈ ks, f[i]? = f0[i]?) (hn : f.all (fun s => !isLk s) = true) (h0 : ∀ i, i < f0.length → i ∉ ks → f0[i]? = some none) : keepOnly f ks = f0 := by
  unfold keepOnly
  apply List.ext_getElem?
  intro i
  rw [List.getElem?_mapIdx]
  by_cases hi : i < f0.length
  · have hf : i < f.length := hl ▸ hi
    rw [List.getElem?_eq_getElem hf]
    simp only [Option.map_some]
    have hk : isLk f[i] = false := by
      rw [List.all_eq_true] at hn
      have := hn f[i] (List.getElem_mem hf)
      simpa using this
    rw [hk, Bool.or_false]
    by_cases hm : i ∈ ks
    · rw [if_pos (List.elem_iff.mpr hm), ← h i hm, List.getElem?_eq_getElem hf]
    · rw [if_neg (fun z => hm (List.elem_iff.mp z)), h0 i hi hm]
  · rw [List.getElem?_eq_none (by omega), List.getElem?_eq_none (by omega)]
    rfl
end Ev
/-! EvG2: calls whose answer is known from a table. -/
namespace Ev
open Tr
mutual
def D.hsh : D → Nat
  | .non => 1
  | .bl b => if b then 3 else 2
  | .int i => 5 + i.natAbs % 97
  | .str s => hs 7 s
  | .lst xs => D.hshs xs 11
  | .tup xs => D.hshs xs 13
  | _ => 4
def D.hshs : List D → Nat → Nat
  | [], h => h
  | x :: xs, h => D.hshs xs ((h * 37 + D.hsh x) % 100003)
/-- a text's -/
def hs : Nat → List Nat → Nat
  | h, [] => h
  | h, c :: r => hs ((h * 31 + c) % 100003) r
end
/-- v is in the table -/
def inTab (tab : List (List D)) (v : D) : Bool := (tab.getD (D.hsh v % tab.length) []).any fun u => D.same v u
theorem inTab_of {tab : List (List D)} {v : D} (h : inTab tab v = true) : ∃ b ∈ tab, v ∈ b := by
  unfold inTab at h
  rw [List.any_eq_true] at h
  obtain ⟨u, hu, e⟩ := h
  have := D.same_of e
  subst this
  rw [List.getD_eq_getElem?_getD] at hu
  cases hb : tab[D.hsh v % tab.length]? with
  | none => rw [hb] at hu; simp at hu
  | some b =>
    rw [hb] at hu
    exact ⟨b, List.mem_of_getElem? hb, hu⟩
def isF : Tr A → Bool
  | .ret ⟨.bl false, .cl⟩ => true
  | _ => false
theorem isF_eq {t : Tr A} (h : isF t = true) : t = .ret (cl (.bl false)) := by
  unfold isF at h
  split at h
  · rfl
  · cases h
/-- one argument -/
def memo1 (tab : List (List D)) (ix : Nat) (call : Nat → List A → Tr A) : Nat → List A → Tr A := fun g as => match as with
  | [⟨v, .cl⟩] => if g == ix then (if inTab tab v then .ret (cl (.bl false)) else call g as) else call g as
  | _ => call g as
/-- two -/
def memo2 (tab : List (List D)) (ix : Nat) (call : Nat → List A → Tr A) : Nat → List A → Tr A := fun g as => match as with
  | [⟨v, .cl⟩, ⟨p, .cl⟩] => if g == ix then (if inTab tab v then .ret (cl (.bl false)) else call g as) else call g as
  | _ => call g as
theorem memo1_eq {tab : List (List D)} {ix : Nat} {call : Nat → List A → Tr A} (h : (tab.all fun b => b.all fun v => isF (call ix [cl v])) = true) : memo1 tab ix call = call := by
  funext g as
  unfold memo1
  split
  · rename_i v
    split
    · rename_i hg
      split
      · rename_i hv
        obtain ⟨b, hb, hm⟩ := inTab_of hv
        have e : g = ix := eq_of_beq hg
        subst e
        exact (isF_eq (List.all_eq_true.mp (List.all_eq_true.mp h b hb) v hm)).symm
      · rfl
    · rfl
  · rfl
theorem memo2_eq {tab : List (List D)} {ix : Nat} {call : Nat → List A → Tr A} (h : ∀ p : D, (tab.all fun b => b.all fun v => isF (call ix [cl v, cl p])) = true) : memo2 tab ix call = call := by
  funext g as
  unfold memo2
  split
  · rename_i v p
    split
    · rename_i hg
      split
      · rename_i hv
        obtain ⟨b, hb, hm⟩ := inTab_of hv
        have e : g = ix := eq_of_beq hg
        subst e
        exact (isF_eq (List.all_eq_true.mp (List.all_eq_true.mp (h p) b hb) v hm)).symm
      · rfl
    · rfl
  · rfl
def isNx : Fl → Bool
  | .nx f => f.all fun s => !isLk s
  | _ => false
def isRtT : Fl → Bool
  | .rt ⟨.bl true, .cl⟩ => true
  | _ => false
theorem isRtT_eq {r : Fl} (h : isRtT r = true) : r = .rt (cl (.bl true)) := by
  unfold isRtT at h
  split at h
  · rfl
  · cases h
/-- a turn of a loop that keeps ks alone: back to f0 -/
theorem turn_back {G : Pg} {call : Nat → List A → Tr A} {b : List S} {f f0 : Fm} {ks ws : List Nat} (hw : wrSs b = some ws) (hl : f.length = f0.length) (hk : ∀ i ∈ ks, i ∉ ws ∧ f[i]? = f0[i]?) (h0 : ∀ i, i < f0.length → i ∉ ks → f0[i]? = some none)
    (h : (evSs G call b f).allB isNx = true) : All (evSs G call b f) fun r => ∃ f', r = .nx f' ∧ keepOnly f' ks = f0 := by
  refine (wrSs_kept b hw f _ (allB_all h)).mono fun r ⟨h1, h2⟩ => ?_
  cases r with
  | nx f' => exact ⟨f', rfl, keepOnly_eq (h2.1.trans hl) (fun i hi => (h2.2 i (hk i hi).1).trans (hk i hi).2) h1 h0⟩
  | _ => cases h1
/-- a loop all of whose turns come back to f0, from f0 on -/
theorem loop_back {bind : D → Fm → Option Fm} {b : Fm → Tr Fl} {f0 : Fm} {ks : List Nat} : ∀ (xs : List D), (∀ x ∈ xs, ∃ f1, bind x f0 = some f1 ∧ All (b f1) fun r => ∃ f', r = .nx f' ∧ keepOnly f' ks = f0) →
    All (forL bind (some ks) b xs f0) fun r => r = .nx f0
  | [], _ => by rw [forL]; exact rfl
  | x :: xs, h => by
    rw [forL]
    obtain ⟨f1, e1, h1⟩ := h x List.mem_cons_self
    rw [e1]
    refine all_bind.mpr (h1.mono fun r ⟨f', e, k⟩ => ?_)
    subst e
    show All (forL bind (some ks) b xs (keepOnly f' ks)) _
    rw [k]
    exact loop_back xs fun y hy => h y (List.mem_cons_of_mem _ hy)
theorem loop_two {bind : D → Fm → Option Fm} {b : Fm → Tr Fl} {f f0 f1 f2 : Fm} {ks : List Nat} {x1 x2 : D} (e1 : bind x1 f = some f1) (h1 : All (b f1) fun r => ∃ f', r = .nx f' ∧ keepOnly f' ks = f0) (e2 : bind x2 f0 = some f2) (h2 : All (b f2) fun r => ∃ f', r = .nx f' ∧ keepOnly f' ks = f0) :
    All (forL bind (some ks) b [x1, x2] f) fun r => r = .nx f0 := by
  rw [forL, e1]
  refine all_bind.mpr (h1.mono fun r ⟨f', e, k⟩ => ?_)
  subst e
  show All (forL bind (some ks) b [x2] (keepOnly f' ks)) _
  rw [k]
  exact loop_back _ fun x hx => by
    rw [List.mem_singleton] at hx
    subst hx
    exact ⟨f2, e2, h2⟩
theorem evSs_app {G : Pg} {call : Nat → List A → Tr A} : ∀ (xs ys : List S) (f : Fm), evSs G call (xs ++ ys) f = (evSs G call xs f).bind fun r => match r with
    | .nx f' => evSs G call ys f'
    | r => .ret r
  | [], ys, f => by simp only [List.nil_append, evSs]; rfl
  | x :: xs, ys, f => by
    simp only [List.cons_append, evSs]
    rw [bind_assoc]
    congr 1
    funext r
    cases r with
    | nx f' => exact evSs_app xs ys f'
    | _ => rfl
/-- a body of one statement -/
theorem one_stmt {G : Pg} {call : Nat → List A → Tr A} {s : S} {f f0 : Fm} {ks : List Nat} (h : All (evS G call s f) fun r => r = .nx f0) (hk : keepOnly f0 ks = f0) : All (evSs G call [s] f) fun r => ∃ f', r = .nx f' ∧ keepOnly f' ks = f0 := by
  simp only [evSs]
  refine all_bind.mpr (h.mono fun r e => ?_)
  subst e
  exact ⟨f0, rfl, hk⟩
theorem three_parts {G : Pg} {call : Nat → List A → Tr A} {xs ys : List S} {s : S} {f f0 : Fm} {P : Fl → Prop} (h1 : evSs G call xs f = .ret (.nx f0)) (h2 : All (evS G call s f0) fun r => r = .nx f0) (h3 : All (evSs G call ys f0) P) : All (evSs G call (xs ++ s :: ys) f) P := by
  rw [evSs_app, h1]
  show All (evSs G call (s :: ys) f0) P
  simp only [evSs]
  refine all_bind.mpr (h2.mono fun r e => ?_)
  subst e
  exact h3
theorem forr_run {G : Pg} {call : Nat → List A → Tr A} {t : T} {it : It} {keep : Option (List Nat)} {b : List S} {f f0 : Fm} {as : List A} {xs : List D} (hit : evItA G call it f = .ret as) (hno : as.all (fun a => decide (a.t ≠ .ow)) = true) (hxs : itemsA it (as.map A.d) = some xs)
    (h : All (forL (bindT t) keep (fun f => evSs G call b f) xs f) fun r => r = .nx f0) : All (evS G call (.forr t it [] keep b) f) fun r => r = .nx f0 := by
  simp only [evS]
  refine all_bind.mpr (all_ofO.mpr ⟨f, rfl, ?_⟩)
  rw [hit]
  show All (if as.all (fun a => decide (a.t ≠ .ow)) = true then _ else _) _
  rw [if_pos hno]
  refine all_bind.mpr (all_ofO.mpr ⟨xs, hxs, ?_⟩)
  refine all_bind.mpr (h.mono fun r e => ?_)
  subst e
  simp only [unlockFl, unlockAll]
  exact rfl
theorem none_of {f0 : Fm} {ks : List Nat} {n : Nat} (h : ((List.range n).all fun i => decide (i ∈ ks) || (match f0[i]? with
    | some none => true
    | _ => false)) = true) : ∀ i, i < n → i ∉ ks → f0[i]? = some none := fun i hi hk => by
  have := List.all_eq_true.mp h i (List.mem_range.mpr hi)
  rw [Bool.or_eq_true, decide_eq_true_eq] at this
  rcases this with z | z
  · exact absurd z hk
  · split at z
    · assumption
    · cases z
/-! ### question by question -/
/-- the run behind an answer -/
def sub {α : Type} (w : Nat) : Tr α → Tr α
  | .ask _ f => f w
  | t => t
def askN {α : Type} : Tr α → Nat
  | .ask m _ => m
  | _ => 0
theorem all_sub {α : Type} {P : α → Bool} {n : Nat} : ∀ {t : Tr α}, askN t = n + 1 → (∀ w, w < n + 1 → (sub w t).allB P = true) → t.allB P = true
  | .ret _, h, _ => by cases h
  | .stuck, h, _ => by cases h
  | .ask m k, h, hs => by
    have h : m = n + 1 := h
    subst h
    simp only [Tr.allB, Bool.and_eq_true, decide_eq_true_eq, List.all_eq_true]
    exact ⟨Nat.succ_pos n, fun d hd => hs d (List.mem_range.mp hd)⟩
theorem all_sub1 {α : Type} {P : α → Bool} {t : Tr α} (h : askN t = 1) (h0 : (sub 0 t).allB P = true) : t.allB P = true := all_sub h fun w hw => match w, hw with
  | 0, _ => h0
  | _ + 1, h => absurd h (by omega)
theorem all_sub2 {α : Type} {P : α → Bool} {t : Tr α} (h : askN t = 2) (h0 : (sub 0 t).allB P = true) (h1 : (sub 1 t).allB P = true) : t.allB P = true := all_sub h fun w hw => match w, hw with
  | 0, _ => h0
  | 1, _ => h1
  | _ + 2, h => absurd h (by omega)
theorem all_sub3 {α : Type} {P : α → Bool} {t : Tr α} (h : askN t = 3) (h0 : (sub 0 t).allB P = true) (h1 : (sub 1 t).allB P = true) (h2 : (sub 2 t).allB P = true) : t.allB P = true := all_sub h fun w hw => match w, hw with
  | 0, _ => h0
  | 1, _ => h1
  | 2, _ => h2
  | _ + 3, h => absurd h (by omega)
theorem inner_gen {G : Pg} {call : Nat → List A → Tr A} {inLoop : S} {t : T} {inIt : It} {ks : List Nat} {inner : List S} {f F0 fT fA : Fm} {a : A} {xT xA : D} (e : inLoop = .forr t inIt [] (some ks) inner) (h1 : evItA G call inIt f = .ret [a]) (ho : decide (a.t ≠ .ow) = true) (h2 : itemsA inIt [a.d] = some [xT, xA])
    (b1 : bindT t xT f = some fT) (t1 : All (evSs G call inner fT) fun r => ∃ f', r = .nx f' ∧ keepOnly f' ks = F0) (b2 : bindT t xA F0 = some fA) (t2 : All (evSs G call inner fA) fun r => ∃ f', r = .nx f' ∧ keepOnly f' ks = F0) :
    All (evS G call inLoop f) fun r => r = .nx F0 := by
  rw [e]
  exact forr_run h1 (by simp only [List.all_cons, List.all_nil, Bool.and_true]; exact ho) h2 (loop_two b1 t1 b2 t2)
theorem outer_gen {G : Pg} {call : Nat → List A → Tr A} {outer inLoop : S} {t : T} {it : It} {ks : List Nat} {F0 : Fm} {fI : D → Fm} {a : A} {ds : List D} (e : outer = .forr t it [] (some ks) [inLoop]) (h1 : evItA G call it F0 = .ret [a]) (ho : decide (a.t ≠ .ow) = true) (h2 : itemsA it [a.d] = some ds)
    (b : ∀ x, bindT t x F0 = some (fI x)) (hi : ∀ x, All (evS G call inLoop (fI x)) fun r => r = .nx F0) (k0 : keepOnly F0 ks = F0) : All (evS G call outer F0) fun r => r = .nx F0 := by
  rw [e]
  exact forr_run h1 (by simp only [List.all_cons, List.all_nil, Bool.and_true]; exact ho) h2 (loop_back _ fun x hx => ⟨fI x, b x, one_stmt (hi x) k0⟩)
theorem run_gen {G : Pg} {call : Nat → List A → Tr A} {body xs ys : List S} {outer : S} {f F0 : Fm} {P : Fl → Prop} (e : body = xs ++ (outer :: ys)) (h1 : evSs G call xs f = .ret (.nx F0)) (h2 : All (evS G call outer F0) fun r => r = .nx F0) (h3 : All (evSs G call ys F0) P) : All (evSs G call body f) P := by
  rw [e]
  exact three_parts h1 h2 h3
theorem all_rtT {t : Tr Fl} (h : t.allB isRtT = true) : All t fun r => r = .rt (cl (.bl true)) := (allB_all h).mono fun _ h => isRtT_eq h
theorem run_gen2 {G : Pg} {call : Nat → List A → Tr A} {body xs ys : List S} {outer : S} {f F0 : Fm} (e : body = xs ++ (outer :: ys)) (h1 : evSs G call xs f = .ret (.nx F0)) (h2 : All (evS G call outer F0) fun r => r = .nx F0) (h3 : (evSs G call ys F0).allB isRtT = true) :
    ∃ t : Tr Fl, t = evSs G call body f ∧ All t fun r => r = .rt (cl (.bl true)) := ⟨_, rfl, run_gen e h1 h2 (all_rtT h3)⟩
end Ev
namespace K70
open Ev
/-- 0 -/
def f_is_name : Fd := ⟨1, 2, [.ife (.or [.not (.isi (.var 0) .str), .not (.cmp (.cst (.int 1)) [.le, .le] [.bi .len [.var 0], .cst (.int 8)]), .cmp (.var 0) [.in_] [.glb 0]]) [.ret (some (.cst (.bl false)))] [],
  .ret (some (.and [.cmp (.idx (.var 0) (.cst (.int 0))) [.in_] [.glb 1], .bi .all [.comp [1] [.mk (.nm 1) (.of (.var 0)) []] (.or [.cmp (.var 1) [.in_] [.glb 1], .cmp (.var 1) [.in_] [.glb 2]])]]))]⟩
/-- 1 -/
def f_is_whole : Fd := ⟨1, 1, [.ret (some (.and [.isi (.var 0) .int, .not (.isi (.var 0) .bool)]))]⟩
/-- 2 -/
def f_is_number : Fd := ⟨3, 3, [.ret (some (.and [.isi (.var 0) .int, .not (.isi (.var 0) .bool), .cmp (.var 1) [.le, .le] [.var 0, .var 2]]))]⟩
/-- 3 -/
def f_is_ascending : Fd := ⟨1, 2, [.ret (some (.bi .all [.comp [1] [.mk (.nm 1) (.rng [.bin .sub (.bi .len [.var 0]) (.cst (.int 1))]) []] (.cmp (.idx (.var 0) (.var 1)) [.lt] [.idx (.var 0) (.bin .add (.var 1) (.cst (.int 1)))])]))]⟩
/-- 4 -/
def f_is_sign : Fd := ⟨1, 1, [.ret (some (.and [.isi (.var 0) .str, .cmp (.bi .len [.var 0]) [.eq] [.cst (.int 1)], .or [.cmp (.var 0) [.in_] [.glb 1], .cmp (.var 0) [.in_] [.glb 2], .cmp (.var 0) [.in_] [.glb 3]]]))]⟩
/-- 5 -/
def f_is_text : Fd := ⟨1, 2, [.ret (some (.and [.isi (.var 0) .str, .cmp (.bi .len [.var 0]) [.le] [.glb 6], .bi .all [.comp [1] [.mk (.nm 1) (.of (.var 0)) []] (.call 4 [.var 1])]]))]⟩
/-- 6 -/
def f_is_symbol : Fd := ⟨1, 1, [.ife (.or [.not (.isi (.var 0) .tuple), .cmp (.bi .len [.var 0]) [.ne] [.cst (.int 2)], .not (.isi (.idx (.var 0) (.cst (.int 0))) .str)]) [.ret (some (.cst (.bl false)))] [],
  .ret (some (.ife (.cmp (.idx (.var 0) (.cst (.int 0))) [.eq] [.glb 7]) (.call 0 [.idx (.var 0) (.cst (.int 1))]) (.and [.cmp (.idx (.var 0) (.cst (.int 0))) [.eq] [.glb 8], .call 4 [.idx (.var 0) (.cst (.int 1))]])))]⟩
/-- 7 -/
def f_is_rule : Fd := ⟨1, 2, [.ife (.or [.not (.isi (.var 0) .tuple), .cmp (.bi .len [.var 0]) [.ne] [.cst (.int 2)], .not (.call 0 [.idx (.var 0) (.cst (.int 0))])]) [.ret (some (.cst (.bl false)))] [],
  .ret (some (.and [.isi (.idx (.var 0) (.cst (.int 1))) .tuple, .cmp (.bi .len [.idx (.var 0) (.cst (.int 1))]) [.le] [.glb 5], .bi .all [.comp [1] [.mk (.nm 1) (.of (.idx (.var 0) (.cst (.int 1)))) []] (.call 6 [.var 1])]]))]⟩
/-- 8 -/
def f_is_grammar : Fd := ⟨1, 6, [.ife (.or [.not (.isi (.var 0) .tuple), .cmp (.bi .len [.var 0]) [.ne] [.cst (.int 2)], .not (.call 0 [.idx (.var 0) (.cst (.int 0))]), .not (.isi (.idx (.var 0) (.cst (.int 1))) .tuple)]) [.ret (some (.cst (.bl false)))] [],
  .ife (.or [.not (.cmp (.cst (.int 1)) [.le, .le] [.bi .len [.idx (.var 0) (.cst (.int 1))], .glb 4]), .not (.bi .all [.comp [1] [.mk (.nm 1) (.of (.idx (.var 0) (.cst (.int 1)))) []] (.call 7 [.var 1])])]) [.ret (some (.cst (.bl false)))] [],
  .asg (.nm 2) false (.comp [1] [.mk (.nm 1) (.of (.idx (.var 0) (.cst (.int 1)))) []] (.idx (.var 1) (.cst (.int 0)))),
  .asg (.nm 3) false (.bin .add (.lst [.idx (.var 0) (.cst (.int 0))]) (.comp [1, 4] [.mk (.nm 1) (.of (.idx (.var 0) (.cst (.int 1)))) [], .mk (.nm 4) (.of (.idx (.var 1) (.cst (.int 1)))) [.cmp (.idx (.var 4) (.cst (.int 0))) [.eq] [.glb 7]]] (.idx (.var 4) (.cst (.int 1))))),
  .ret (some (.and [.cmp (.bi .lenSet [.idx (.var 0) (.cst (.int 1))]) [.eq] [.bi .len [.idx (.var 0) (.cst (.int 1))]], .bi .all [.comp [5] [.mk (.nm 5) (.of (.var 3)) []] (.cmp (.var 5) [.in_] [.var 2])]]))]⟩
/-- 9 -/
def f_sorts_of : Fd := ⟨1, 2, [.ret (some (.bi .tuple [.bi .sortedSet [.comp [1] [.mk (.nm 1) (.of (.idx (.var 0) (.cst (.int 1)))) []] (.idx (.var 1) (.cst (.int 0)))]]))]⟩
/-- 10 -/
def f_rules_for : Fd := ⟨2, 4, [.ret (some (.bi .tuple [.comp [2, 3] [.mk (.tup [.nm 2, .nm 3]) (.enm (.idx (.var 0) (.cst (.int 1)))) [.cmp (.idx (.var 3) (.cst (.int 0))) [.eq] [.var 1]]] (.var 2)]))]⟩
/-- 11 -/
def f_is_tree : Fd := ⟨3, 6, [.ife (.or [.not (.isi (.var 2) .tuple), .cmp (.bi .len [.var 2]) [.ne] [.cst (.int 2)], .not (.isi (.idx (.var 2) (.cst (.int 0))) .int), .isi (.idx (.var 2) (.cst (.int 0))) .bool]) [.ret (some (.cst (.bl false)))] [],
  .ife (.or [.not (.cmp (.cst (.int 0)) [.le, .lt] [.idx (.var 2) (.cst (.int 0)), .bi .len [.idx (.var 0) (.cst (.int 1))]]), .cmp (.idx (.idx (.idx (.var 0) (.cst (.int 1))) (.idx (.var 2) (.cst (.int 0)))) (.cst (.int 0))) [.ne] [.var 1], .not (.isi (.idx (.var 2) (.cst (.int 1))) .tuple)]) [.ret (some (.cst (.bl false)))] [],
  .asg (.nm 3) false (.idx (.idx (.idx (.var 0) (.cst (.int 1))) (.idx (.var 2) (.cst (.int 0)))) (.cst (.int 1))),
  .ife (.cmp (.bi .len [.idx (.var 2) (.cst (.int 1))]) [.ne] [.bi .len [.var 3]]) [.ret (some (.cst (.bl false)))] [],
  .ret (some (.bi .all [.comp [4, 5] [.mk (.tup [.nm 4, .nm 5]) (.zip [.var 3, .idx (.var 2) (.cst (.int 1))]) []] (.call 12 [.var 0, .var 4, .var 5])]))]⟩
/-- 12 -/
def f_is_part : Fd := ⟨3, 3, [.ife (.cmp (.idx (.var 1) (.cst (.int 0))) [.eq] [.glb 8]) [.ret (some (.and [.isi (.var 2) .str, .cmp (.var 2) [.eq] [.idx (.var 1) (.cst (.int 1))]]))] [],
  .ret (some (.call 11 [.var 0, .idx (.var 1) (.cst (.int 1)), .var 2]))]⟩
/-- 13 -/
def f_text_of : Fd := ⟨1, 2, [.ret (some (.ife (.isi (.var 0) .str) (.var 0) (.mth .join (.cst (.str [])) [.comp [1] [.mk (.nm 1) (.of (.idx (.var 0) (.cst (.int 1)))) []] (.call 13 [.var 1])])))]⟩
/-- 14 -/
def f_size_of : Fd := ⟨1, 2, [.ret (some (.ife (.isi (.var 0) .str) (.cst (.int 0)) (.bin .add (.cst (.int 1)) (.bi .sum [.comp [1] [.mk (.nm 1) (.of (.idx (.var 0) (.cst (.int 1)))) []] (.call 14 [.var 1])]))))]⟩
/-- 15 -/
def f_tree_key : Fd := ⟨1, 3, [.ret (some (.ife (.isi (.var 0) .str) (.tup []) (.bin .add (.tup [.idx (.var 0) (.cst (.int 0))]) (.bi .tuple [.comp [1, 2] [.mk (.nm 1) (.of (.idx (.var 0) (.cst (.int 1)))) [], .mk (.nm 2) (.of (.call 15 [.var 1])) []] (.var 2)]))))]⟩
/-- 16 -/
def f_sorts_in : Fd := ⟨1, 2, [.ret (some (.comp [1] [.mk (.nm 1) (.of (.idx (.var 0) (.cst (.int 1)))) [.cmp (.idx (.var 1) (.cst (.int 0))) [.eq] [.glb 7]]] (.idx (.var 1) (.cst (.int 1)))))]⟩
/-- 17 -/
def f_order_of : Fd := ⟨1, 1, [.ret (some (.tup [.call 14 [.var 0], .call 15 [.var 0]]))]⟩
/-- 18 -/
def f_tree_by : Fd := ⟨3, 4, [.ret (some (.tup [.var 1, .bi .tuple [.comp [3] [.mk (.nm 3) (.of (.idx (.idx (.idx (.var 0) (.cst (.int 1))) (.var 1)) (.cst (.int 1)))) []] (.ife (.cmp (.idx (.var 3) (.cst (.int 0))) [.eq] [.glb 7]) (.idx (.var 2) (.idx (.var 3) (.cst (.int 1)))) (.idx (.var 3) (.cst (.int 1))))]]))]⟩
/-- 19 -/
def f_least_trees_by : Fd := ⟨2, 8, [.asgs [(.nm 2, true), (.nm 3, false)] [.dct [], .cst (.bl true)],
  .whl (.var 3) [.asg (.nm 3) false (.cst (.bl false)),
  .forr (.nm 4) (.of (.var 1)) [] none [.asg (.nm 5) false (.idx (.idx (.idx (.var 0) (.cst (.int 1))) (.var 4)) (.cst (.int 0))),
  .ife (.bi .all [.comp [6] [.mk (.nm 6) (.of (.call 16 [.idx (.idx (.var 0) (.cst (.int 1))) (.var 4)])) []] (.cmp (.var 6) [.in_] [.var 2])]) [.asg (.nm 7) false (.call 18 [.var 0, .var 4, .var 2]),
  .ife (.or [.cmp (.var 5) [.notin] [.var 2], .cmp (.call 17 [.var 7]) [.lt] [.call 17 [.idx (.var 2) (.var 5)]]]) [.asgs [(.sub 2 (.var 5), false), (.nm 3, false)] [.var 7, .cst (.bl true)]] []] []]],
  .ret (some (.var 2))]⟩
/-- 20 -/
def f_least_trees_of : Fd := ⟨1, 1, [.ret (some (.call 19 [.var 0, .bit .list (.rng [.bi .len [.idx (.var 0) (.cst (.int 1))]])]))]⟩
/-- 21 -/
def f_fruitful_sorts : Fd := ⟨1, 1, [.ret (some (.bi .tuple [.bi .sorted [.call 20 [.var 0]]]))]⟩
/-- 22 -/
def f_are_sorts : Fd := ⟨2, 3, [.ife (.or [.not (.isi (.var 1) .tuple), .not (.bi .all [.comp [2] [.mk (.nm 2) (.of (.var 1)) []] (.and [.call 0 [.var 2], .cmp (.var 2) [.in_] [.call 9 [.var 0]]])])]) [.ret (some (.cst (.bl false)))] [],
  .ret (some (.call 3 [.var 1]))]⟩
/-- 23 -/
def f_is_barren_paper : Fd := ⟨3, 6, [.ife (.or [.not (.call 22 [.var 0, .var 2]), .cmp (.var 1) [.notin] [.var 2]]) [.ret (some (.cst (.bl false)))] [],
  .asg (.nm 3) false (.comp [4] [.mk (.nm 4) (.of (.idx (.var 0) (.cst (.int 1)))) [.cmp (.idx (.var 4) (.cst (.int 0))) [.in_] [.var 2]]] (.var 4)),
  .ret (some (.bi .all [.comp [4] [.mk (.nm 4) (.of (.var 3)) []] (.bi .any [.comp [5] [.mk (.nm 5) (.of (.call 16 [.var 4])) []] (.cmp (.var 5) [.in_] [.var 2])])]))]⟩
/-- 24 -/
def f_fruitful_rules : Fd := ⟨1, 5, [.asg (.nm 1) false (.call 21 [.var 0]),
  .ret (some (.comp [2, 3] [.mk (.tup [.nm 2, .nm 3]) (.enm (.idx (.var 0) (.cst (.int 1)))) [.bi .all [.comp [4] [.mk (.nm 4) (.of (.call 16 [.var 3])) []] (.cmp (.var 4) [.in_] [.var 1])]]] (.var 2)))]⟩
/-- 25 -/
def f_steps_from : Fd := ⟨2, 7, [.asgs [(.nm 2, false), (.nm 3, true)] [.call 24 [.var 0], .lst []],
  .forr (.nm 4) (.of (.call 10 [.var 0, .var 1])) [] none [.forr (.tup [.nm 5, .nm 6]) (.enm (.idx (.idx (.idx (.var 0) (.cst (.int 1))) (.var 4)) (.cst (.int 1)))) [] none [.ife (.and [.cmp (.var 4) [.in_] [.var 2], .cmp (.idx (.var 6) (.cst (.int 0))) [.eq] [.glb 7]]) [.app 3 (.tup [.tup [.var 4, .var 5], .idx (.var 6) (.cst (.int 1))])] []]],
  .ret (some (.var 3))]⟩
/-- 26 -/
def f_is_step : Fd := ⟨2, 3, [.ife (.or [.not (.isi (.var 1) .tuple), .cmp (.bi .len [.var 1]) [.ne] [.cst (.int 2)], .not (.call 2 [.idx (.var 1) (.cst (.int 0)), .cst (.int 0), .bin .sub (.bi .len [.idx (.var 0) (.cst (.int 1))]) (.cst (.int 1))])]) [.ret (some (.cst (.bl false)))] [],
  .asg (.nm 2) false (.idx (.idx (.idx (.var 0) (.cst (.int 1))) (.idx (.var 1) (.cst (.int 0)))) (.cst (.int 1))),
  .ret (some (.and [.call 2 [.idx (.var 1) (.cst (.int 1)), .cst (.int 0), .bin .sub (.bi .len [.var 2]) (.cst (.int 1))], .cmp (.idx (.idx (.var 2) (.idx (.var 1) (.cst (.int 1)))) (.cst (.int 0))) [.eq] [.glb 7]]))]⟩
/-- 27 -/
def f_is_way : Fd := ⟨3, 8, [.ife (.or [.not (.isi (.var 2) .tuple), .not (.bi .all [.comp [3] [.mk (.nm 3) (.of (.var 2)) []] (.call 26 [.var 0, .var 3])])]) [.ret (some (.cst (.bl false)))] [],
  .asgs [(.nm 4, false), (.nm 5, false)] [.call 24 [.var 0], .idx (.var 0) (.cst (.int 0))],
  .forr (.tup [.nm 6, .nm 7]) (.of (.var 2)) [] none [.ife (.or [.cmp (.var 6) [.notin] [.var 4], .cmp (.idx (.idx (.idx (.var 0) (.cst (.int 1))) (.var 6)) (.cst (.int 0))) [.ne] [.var 5]]) [.ret (some (.cst (.bl false)))] [],
  .asg (.nm 5) false (.idx (.idx (.idx (.idx (.idx (.var 0) (.cst (.int 1))) (.var 6)) (.cst (.int 1))) (.var 7)) (.cst (.int 1)))],
  .ret (some (.cmp (.var 5) [.eq] [.var 1]))]⟩
/-- 28 -/
def f_is_closed_paper : Fd := ⟨3, 6, [.ife (.or [.not (.call 22 [.var 0, .var 2]), .cmp (.idx (.var 0) (.cst (.int 0))) [.notin] [.var 2], .cmp (.var 1) [.in_] [.var 2]]) [.ret (some (.cst (.bl false)))] [],
  .ret (some (.bi .all [.comp [3, 4, 5] [.mk (.nm 3) (.of (.var 2)) [], .mk (.tup [.nm 4, .nm 5]) (.of (.call 25 [.var 0, .var 3])) []] (.cmp (.var 5) [.in_] [.var 2])]))]⟩
/-- 29 -/
def f_has_sign : Fd := ⟨1, 2, [.ret (some (.bi .any [.comp [1] [.mk (.nm 1) (.of (.idx (.var 0) (.cst (.int 1)))) []] (.cmp (.idx (.var 1) (.cst (.int 0))) [.eq] [.glb 8])]))]⟩
/-- 30 -/
def f_is_full_paper : Fd := ⟨3, 6, [.ife (.or [.not (.call 22 [.var 0, .var 2]), .cmp (.var 1) [.notin] [.var 2]]) [.ret (some (.cst (.bl false)))] [],
  .asg (.nm 3) false (.comp [4] [.mk (.nm 4) (.of (.idx (.var 0) (.cst (.int 1)))) [.cmp (.idx (.var 4) (.cst (.int 0))) [.in_] [.var 2]]] (.var 4)),
  .ret (some (.bi .all [.comp [4] [.mk (.nm 4) (.of (.var 3)) []] (.or [.call 29 [.var 4], .bi .any [.comp [5] [.mk (.nm 5) (.of (.call 16 [.var 4])) []] (.cmp (.var 5) [.in_] [.var 2])]])]))]⟩
/-- 31 -/
def f_is_form : Fd := ⟨1, 2, [.ife (.or [.not (.isi (.var 0) .tuple), .cmp (.bi .len [.var 0]) [.gt] [.glb 5]]) [.ret (some (.cst (.bl false)))] [],
  .ret (some (.bi .all [.comp [1] [.mk (.nm 1) (.of (.var 0)) []] (.or [.call 31 [.var 1], .call 4 [.var 1]])]))]⟩
/-- 32 -/
def f_fits_symbol : Fd := ⟨3, 3, [.ife (.cmp (.idx (.var 0) (.cst (.int 0))) [.eq] [.glb 8]) [.ret (some (.cmp (.var 1) [.eq] [.idx (.var 0) (.cst (.int 1))]))] [],
  .ret (some (.and [.not (.isi (.var 1) .str), .cmp (.idx (.var 0) (.cst (.int 1))) [.in_] [.var 2]]))]⟩
/-- 33 -/
def f_rules_fitting : Fd := ⟨3, 10, [.asg (.nm 3) true (.lst []),
  .forr (.tup [.nm 4, .tup [.nm 5, .nm 6]]) (.enm (.idx (.var 0) (.cst (.int 1)))) [] none [.ife (.cmp (.bi .len [.var 6]) [.eq] [.bi .len [.var 1]]) [.ife (.bi .all [.comp [7, 8, 9] [.mk (.tup [.nm 7, .nm 8, .nm 9]) (.zip [.var 6, .var 1, .var 2]) []] (.call 32 [.var 7, .var 8, .var 9])]) [.app 3 (.var 4)] []] []],
  .ret (some (.bi .tuple [.var 3]))]⟩
/-- 34 -/
def f_sorts_with_form : Fd := ⟨2, 5, [.asg (.nm 2) false (.comp [3] [.mk (.nm 3) (.of (.var 1)) []] (.ife (.isi (.var 3) .str) (.tup []) (.call 34 [.var 0, .var 3]))),
  .ret (some (.bi .tuple [.bi .sortedSet [.comp [4] [.mk (.nm 4) (.of (.call 33 [.var 0, .var 1, .var 2])) []] (.idx (.idx (.idx (.var 0) (.cst (.int 1))) (.var 4)) (.cst (.int 0)))]]))]⟩
/-- 35 -/
def f_skeletons_of : Fd := ⟨2, 7, [.asg (.nm 2) false (.comp [3, 4] [.mk (.tup [.nm 3, .nm 4]) (.of (.bin .add (.idx (.var 0) (.cst (.int 1))) (.idx (.var 1) (.cst (.int 1))))) []] (.var 4)),
  .asg (.nm 5) false (.comp [4] [.mk (.nm 4) (.of (.var 2)) []] (.bi .tuple [.comp [6] [.mk (.nm 6) (.of (.var 4)) []] (.ife (.cmp (.idx (.var 6) (.cst (.int 0))) [.eq] [.glb 8]) (.idx (.var 6) (.cst (.int 1))) (.cst (.str [])))])),
  .ret (some (.bi .tuple [.bi .sortedSet [.var 5]]))]⟩
/-- 36 -/
def f_sorts_by : Fd := ⟨3, 4, [.ret (some (.bi .tuple [.bi .sortedSet [.comp [3] [.mk (.nm 3) (.of (.call 33 [.var 0, .var 1, .var 2])) []] (.idx (.idx (.idx (.var 0) (.cst (.int 1))) (.var 3)) (.cst (.int 0)))]]))]⟩
/-- 37 -/
def f_filled : Fd := ⟨2, 7, [.asg (.nm 2) false (.lst [.tup []]),
  .forr (.nm 3) (.of (.var 0)) [] none [.asg (.nm 4) false (.ife (.var 3) (.lst [.cst (.non)]) (.bi .sorted [.var 1])),
  .asg (.nm 2) false (.comp [5, 6] [.mk (.nm 5) (.of (.var 2)) [], .mk (.nm 6) (.of (.var 4)) []] (.bin .add (.var 5) (.tup [.var 6])))],
  .ret (some (.var 2))]⟩
/-- 38 -/
def f_pair_by : Fd := ⟨4, 9, [.asg (.nm 4) false (.comp [5] [.mk (.nm 5) (.of (.var 2)) []] (.ife (.var 5) (.var 5) (.tup []))),
  .asg (.nm 6) false (.comp [7] [.mk (.nm 7) (.of (.var 3)) []] (.ife (.cmp (.var 7) [.is] [.cst (.non)]) (.tup []) (.idx (.var 7) (.cst (.int 0))))),
  .asg (.nm 8) false (.comp [7] [.mk (.nm 7) (.of (.var 3)) []] (.ife (.cmp (.var 7) [.is] [.cst (.non)]) (.tup []) (.idx (.var 7) (.cst (.int 1))))),
  .ret (some (.tup [.call 36 [.var 0, .var 4, .var 6], .call 36 [.var 1, .var 4, .var 8]]))]⟩
/-- 39 -/
def f_parts_them : Fd := ⟨3, 3, [.ret (some (.cmp (.cmp (.idx (.var 0) (.cst (.int 0))) [.in_] [.idx (.var 2) (.cst (.int 0))]) [.ne] [.cmp (.idx (.var 1) (.cst (.int 0))) [.in_] [.idx (.var 2) (.cst (.int 1))]]))]⟩
/-- 40 -/
def f_is_sorts : Fd := ⟨2, 5, [.asg (.nm 2) false (.bi .sortedSet [.comp [3] [.mk (.nm 3) (.of (.idx (.var 0) (.cst (.int 1)))) []] (.idx (.var 3) (.cst (.int 0)))]),
  .ife (.or [.not (.isi (.var 1) .tuple), .not (.bi .all [.comp [4] [.mk (.nm 4) (.of (.var 1)) []] (.and [.isi (.var 4) .str, .cmp (.var 4) [.in_] [.var 2]])])]) [.ret (some (.cst (.bl false)))] [],
  .ret (some (.cmp (.bi .list [.var 1]) [.eq] [.bi .sortedSet [.var 1]]))]⟩
/-- 41 -/
def f_is_web_pair : Fd := ⟨3, 3, [.ife (.or [.not (.isi (.var 2) .tuple), .cmp (.bi .len [.var 2]) [.ne] [.cst (.int 2)], .not (.call 40 [.var 0, .idx (.var 2) (.cst (.int 0))]), .not (.call 40 [.var 1, .idx (.var 2) (.cst (.int 1))])]) [.ret (some (.cst (.bl false)))] [],
  .ret (some (.and [.cmp (.var 2) [.ne] [.tup [.tup [], .tup []]], .not (.call 39 [.var 0, .var 1, .var 2])]))]⟩
/-- 42 -/
def f_is_web_paper : Fd := ⟨3, 7, [.ife (.or [.not (.isi (.var 2) .tuple), .not (.bi .all [.comp [3] [.mk (.nm 3) (.of (.var 2)) []] (.call 41 [.var 0, .var 1, .var 3])])]) [.ret (some (.cst (.bl false)))] [],
  .ife (.cmp (.bi .list [.var 2]) [.ne] [.bi .sortedSet [.var 2]]) [.ret (some (.cst (.bl false)))] [],
  .forr (.nm 4) (.of (.call 35 [.var 0, .var 1])) [] none [.asg (.nm 5) false (.comp [6] [.mk (.nm 6) (.of (.call 37 [.var 4, .var 2])) []] (.call 38 [.var 0, .var 1, .var 4, .var 6])),
  .ife (.not (.bi .all [.comp [3] [.mk (.nm 3) (.of (.var 5)) []] (.or [.cmp (.var 3) [.eq] [.tup [.tup [], .tup []]], .cmp (.var 3) [.in_] [.var 2]])])) [.ret (some (.cst (.bl false)))] []],
  .ret (some (.cst (.bl true)))]⟩
/-- 43 -/
def f_ends_of : Fd := ⟨4, 4, [.ife (.cmp (.idx (.var 2) (.cst (.int 0))) [.eq] [.glb 8]) [.ret (some (.ife (.cmp (.slc (.var 1) (some (.var 3)) (some (.bin .add (.var 3) (.cst (.int 1))))) [.eq] [.idx (.var 2) (.cst (.int 1))]) (.lst [.bin .add (.var 3) (.cst (.int 1))]) (.lst [])))] [],
  .ret (some (.bi .sorted [.mth .get (.var 0) [.tup [.idx (.var 2) (.cst (.int 1)), .var 3], .tup []]]))]⟩
/-- 44 -/
def f_ends_behind : Fd := ⟨4, 8, [.asg (.nm 4) false (.lst [.var 3]),
  .forr (.nm 5) (.of (.var 2)) [] none [.asg (.nm 4) false (.bi .sortedSet [.comp [6, 7] [.mk (.nm 6) (.of (.var 4)) [], .mk (.nm 7) (.of (.call 43 [.var 0, .var 1, .var 5, .var 6])) []] (.var 7)])],
  .ret (some (.var 4))]⟩
/-- 45 -/
def f_facts_in : Fd := ⟨2, 9, [.asgs [(.nm 2, true), (.nm 3, false)] [.dct [], .cst (.bl true)],
  .whl (.var 3) [.asg (.nm 3) false (.cst (.bl false)),
  .forr (.tup [.nm 4, .nm 5]) (.of (.idx (.var 0) (.cst (.int 1)))) [] none [.forr (.nm 6) (.rng [.bin .add (.bi .len [.var 1]) (.cst (.int 1))]) [] none [.asg (.nm 7) false (.mth .get (.var 2) [.tup [.var 4, .var 6], .tup []]),
  .asg (.nm 8) false (.bi .tuple [.bi .sortedSet [.bin .add (.bi .list [.var 7]) (.call 44 [.var 2, .var 1, .var 5, .var 6])]]),
  .ife (.cmp (.var 8) [.ne] [.var 7]) [.asgs [(.sub 2 (.tup [.var 4, .var 6]), false), (.nm 3, false)] [.var 8, .cst (.bl true)]] []]]],
  .ret (some (.var 2))]⟩
/-- 46 -/
def f_cuts_between : Fd := ⟨5, 10, [.ife (.not (.var 2)) [.ret (some (.ife (.cmp (.var 3) [.eq] [.var 4]) (.lst [.tup []]) (.lst [])))] [],
  .asg (.nm 5) false (.lst [.tup [.tup [], .var 3]]),
  .forr (.nm 6) (.of (.var 2)) [] none [.asg (.nm 5) false (.comp [7, 8, 9] [.mk (.tup [.nm 7, .nm 8]) (.of (.var 5)) [], .mk (.nm 9) (.of (.call 43 [.var 0, .var 1, .var 6, .var 8])) [.cmp (.var 9) [.le] [.var 4]]] (.tup [.bin .add (.var 7) (.tup [.var 9]), .var 9]))],
  .ret (some (.bi .sorted [.comp [7, 9] [.mk (.tup [.nm 7, .nm 9]) (.of (.var 5)) [.cmp (.var 9) [.eq] [.var 4]]] (.slc (.var 7) none (some (.neg (.cst (.int 1)))))]))]⟩
/-- 47 -/
def f_packings_at : Fd := ⟨4, 10, [.asg (.tup [.nm 4, .nm 5, .nm 6]) false (.var 3),
  .asg (.nm 7) true (.lst []),
  .forr (.nm 8) (.of (.call 10 [.var 0, .var 4])) [] none [.ext 7 (.comp [9] [.mk (.nm 9) (.of (.call 46 [.var 1, .var 2, .idx (.idx (.idx (.var 0) (.cst (.int 1))) (.var 8)) (.cst (.int 1)), .var 5, .var 6])) []] (.tup [.var 8, .var 9]))],
  .ret (some (.bi .tuple [.var 7]))]⟩
/-- 48 -/
def f_nodes_under : Fd := ⟨3, 11, [.asg (.tup [.nm 3, .nm 4]) false (.var 2),
  .asg (.nm 5) false (.idx (.idx (.idx (.var 0) (.cst (.int 1))) (.var 3)) (.cst (.int 1))),
  .asg (.nm 6) false (.bin .add (.bin .add (.tup [.idx (.var 1) (.cst (.int 1))]) (.var 4)) (.tup [.idx (.var 1) (.cst (.int 2))])),
  .asg (.nm 7) false (.ife (.var 5) (.bit .list (.zip [.var 6, .slc (.var 6) (some (.cst (.int 1))) none])) (.lst [])),
  .ret (some (.comp [8, 9, 10] [.mk (.tup [.nm 8, .tup [.nm 9, .nm 10]]) (.zip [.var 5, .var 7]) [.cmp (.idx (.var 8) (.cst (.int 0))) [.ne] [.glb 8]]] (.tup [.idx (.var 8) (.cst (.int 1)), .var 9, .var 10])))]⟩
/-- 49 -/
def f_forest_of : Fd := ⟨2, 9, [.asgs [(.nm 2, false), (.nm 3, false)] [.call 45 [.var 0, .var 1], .tup [.idx (.var 0) (.cst (.int 0)), .cst (.int 0), .bi .len [.var 1]]],
  .ife (.cmp (.idx (.var 3) (.cst (.int 2))) [.notin] [.mth .get (.var 2) [.slc (.var 3) none (some (.cst (.int 2))), .tup []]]) [.ret (some (.tup []))] [],
  .asgs [(.nm 4, true), (.nm 5, true)] [.dct [], .lst [.var 3]],
  .whl (.var 5) [.pop (.nm 6) 5,
  .ife (.cmp (.var 6) [.notin] [.var 4]) [.asg (.sub 4 (.var 6)) false (.call 47 [.var 0, .var 2, .var 1, .var 6]),
  .ext 5 (.comp [7, 8] [.mk (.nm 7) (.of (.idx (.var 4) (.var 6))) [], .mk (.nm 8) (.of (.call 48 [.var 0, .var 6, .var 7])) []] (.var 8))] []],
  .ret (some (.bi .tuple [.bit .sorted (.items (.var 4))]))]⟩
/-- 50 -/
def f_same_kinds : Fd := ⟨2, 4, [.ife (.and [.isi (.var 0) .tuple, .isi (.var 1) .tuple]) [.ret (some (.and [.cmp (.bi .len [.var 0]) [.eq] [.bi .len [.var 1]], .bi .all [.comp [2, 3] [.mk (.tup [.nm 2, .nm 3]) (.zip [.var 0, .var 1]) []] (.call 50 [.var 2, .var 3])]]))] [],
  .ret (some (.and [.cmp (.isi (.var 0) .bool) [.eq] [.isi (.var 1) .bool], .cmp (.var 0) [.eq] [.var 1]]))]⟩
/-- 51 -/
def f_has_in : Fd := ⟨4, 6, [.asg (.nm 4) false (.mth .get (.bi .dict [.var 0]) [.var 2, .tup []]),
  .forr (.nm 5) (.of (.var 4)) [] none [.ife (.and [.cmp (.idx (.var 5) (.cst (.int 0))) [.eq] [.idx (.var 3) (.cst (.int 0))], .call 52 [.var 0, .var 1, .var 2, .var 5, .idx (.var 3) (.cst (.int 1))]]) [.ret (some (.cst (.bl true)))] []],
  .ret (some (.cst (.bl false)))]⟩
/-- 52 -/
def f_parts_fit : Fd := ⟨5, 9, [.asg (.nm 5) false (.comp [6] [.mk (.nm 6) (.of (.var 4)) [.not (.isi (.var 6) .str)]] (.var 6)),
  .asg (.nm 7) false (.call 48 [.var 1, .var 2, .var 3]),
  .ret (some (.bi .all [.comp [8, 6] [.mk (.tup [.nm 8, .nm 6]) (.zip [.var 7, .var 5]) []] (.call 51 [.var 0, .var 1, .var 8, .var 6])]))]⟩
/-- 53 -/
def f_are_costs : Fd := ⟨2, 3, [.ife (.or [.not (.isi (.var 1) .tuple), .cmp (.bi .len [.var 1]) [.ne] [.bi .len [.idx (.var 0) (.cst (.int 1))]]]) [.ret (some (.cst (.bl false)))] [],
  .ret (some (.bi .all [.comp [2] [.mk (.nm 2) (.of (.var 1)) []] (.call 2 [.var 2, .cst (.int 0), .glb 9])]))]⟩
/-- 54 -/
def f_cost_of : Fd := ⟨2, 3, [.ret (some (.ife (.isi (.var 1) .str) (.cst (.int 0)) (.bin .add (.idx (.var 0) (.idx (.var 1) (.cst (.int 0)))) (.bi .sum [.comp [2] [.mk (.nm 2) (.of (.idx (.var 1) (.cst (.int 1)))) []] (.call 54 [.var 0, .var 2])]))))]⟩
/-- 55 -/
def f_packing_cost : Fd := ⟨5, 7, [.asg (.nm 5) false (.call 48 [.var 0, .var 2, .var 3]),
  .ife (.not (.bi .all [.comp [6] [.mk (.nm 6) (.of (.var 5)) []] (.cmp (.var 6) [.in_] [.var 4])])) [.ret (some (.cst (.non)))] [],
  .ret (some (.bin .add (.idx (.var 1) (.idx (.var 3) (.cst (.int 0)))) (.bi .sum [.comp [6] [.mk (.nm 6) (.of (.var 5)) []] (.idx (.var 4) (.var 6))])))]⟩
/-- 56 -/
def f_are_prices : Fd := ⟨4, 11, [.ife (.or [.not (.isi (.var 3) .tuple), .not (.bi .all [.comp [4] [.mk (.nm 4) (.of (.var 3)) []] (.and [.isi (.var 4) .tuple, .cmp (.bi .len [.var 4]) [.eq] [.cst (.int 2)]])])]) [.ret (some (.cst (.bl false)))] [],
  .ife (.not (.call 50 [.bi .tuple [.comp [4] [.mk (.nm 4) (.of (.var 3)) []] (.idx (.var 4) (.cst (.int 0)))], .bi .tuple [.comp [5, 6] [.mk (.tup [.nm 5, .nm 6]) (.of (.var 2)) []] (.var 5)]])) [.ret (some (.cst (.bl false)))] [],
  .ife (.not (.bi .all [.comp [6, 7] [.mk (.tup [.nm 6, .nm 7]) (.of (.var 3)) []] (.and [.isi (.var 7) .int, .not (.isi (.var 7) .bool)])])) [.ret (some (.cst (.bl false)))] [],
  .asg (.nm 8) false (.bi .dict [.var 3]),
  .forr (.tup [.nm 5, .nm 9]) (.of (.var 2)) [] none [.ife (.bi .any [.comp [10] [.mk (.nm 10) (.of (.var 9)) []] (.cmp (.idx (.var 8) (.var 5)) [.gt] [.call 55 [.var 0, .var 1, .var 5, .var 10, .var 8]])]) [.ret (some (.cst (.bl false)))] []],
  .ret (some (.cst (.bl true)))]⟩
/-- 57 -/
def f_first_node : Fd := ⟨2, 5, [.asg (.nm 2) false (.bi .max [.bin .add (.comp [3, 4] [.mk (.tup [.nm 3, .nm 4]) (.of (.var 1)) []] (.idx (.var 3) (.cst (.int 2)))) (.lst [.cst (.int 0)])]),
  .ret (some (.ife (.var 1) (.tup [.idx (.var 0) (.cst (.int 0)), .cst (.int 0), .var 2]) (.cst (.non))))]⟩
/-- 58 -/
def f_is_least : Fd := ⟨5, 6, [.asg (.nm 5) false (.call 57 [.var 0, .var 2]),
  .ife (.or [.cmp (.var 5) [.is] [.cst (.non)], .not (.call 11 [.var 0, .idx (.var 0) (.cst (.int 0)), .var 3]), .not (.call 56 [.var 0, .var 1, .var 2, .var 4])]) [.ret (some (.cst (.bl false)))] [],
  .ret (some (.and [.call 51 [.var 2, .var 0, .var 5, .var 3], .cmp (.idx (.bi .dict [.var 4]) (.var 5)) [.eq] [.call 54 [.var 1, .var 3]]]))]⟩
/-- 59 -/
def f_is_texted : Fd := ⟨1, 1, [.ret (some (.and [.cmp (.bi .len [.var 0]) [.eq] [.cst (.int 2)], .call 8 [.idx (.var 0) (.cst (.int 0))], .call 5 [.idx (.var 0) (.cst (.int 1))]]))]⟩
/-- 60 -/
def f_is_sorted_in : Fd := ⟨1, 1, [.ife (.or [.cmp (.bi .len [.var 0]) [.ne] [.cst (.int 2)], .not (.call 8 [.idx (.var 0) (.cst (.int 0))]), .not (.isi (.idx (.var 0) (.cst (.int 1))) .str)]) [.ret (some (.cst (.bl false)))] [],
  .ret (some (.cmp (.idx (.var 0) (.cst (.int 1))) [.in_] [.call 9 [.idx (.var 0) (.cst (.int 0))]]))]⟩
/-- 61 -/
def f_are_both : Fd := ⟨1, 1, [.ret (some (.and [.cmp (.bi .len [.var 0]) [.eq] [.cst (.int 2)], .call 8 [.idx (.var 0) (.cst (.int 0))], .call 8 [.idx (.var 0) (.cst (.int 1))]]))]⟩
/-- 62 -/
def f_is_costed : Fd := ⟨1, 1, [.ret (some (.and [.cmp (.bi .len [.var 0]) [.eq] [.cst (.int 3)], .call 8 [.idx (.var 0) (.cst (.int 0))], .call 53 [.idx (.var 0) (.cst (.int 0)), .idx (.var 0) (.cst (.int 1))], .call 5 [.idx (.var 0) (.cst (.int 2))]]))]⟩
/-- 63 -/
def f_is_costed_told : Fd := ⟨1, 1, [.ret (some (.and [.cmp (.bi .len [.var 0]) [.eq] [.cst (.int 4)], .call 62 [.slc (.var 0) none (some (.cst (.int 3)))], .call 1 [.idx (.var 0) (.cst (.int 3))], .cmp (.idx (.var 0) (.cst (.int 3))) [.ge] [.cst (.int 0)]]))]⟩
/-- 64 -/
def f_has_word : Fd := ⟨1, 1, [.ret (some (.and [.isi (.var 0) .tuple, .cmp (.var 0) [.ne] [.tup []], .isi (.idx (.var 0) (.cst (.int 0))) .str]))]⟩
/-- 65 -/
def f_is_statement : Fd := ⟨1, 1, [.ret (some (.and [.call 64 [.var 0], .cmp (.idx (.var 0) (.cst (.int 0))) [.in_] [.glb 10], .callv (.idx (.glb 10) (.idx (.var 0) (.cst (.int 0)))) [.slc (.var 0) (some (.cst (.int 1))) none]]))]⟩
/-- 66 -/
def f_is_question : Fd := ⟨1, 1, [.ret (some (.and [.call 64 [.var 0], .cmp (.idx (.var 0) (.cst (.int 0))) [.in_] [.glb 11], .callv (.idx (.glb 11) (.idx (.var 0) (.cst (.int 0)))) [.slc (.var 0) (some (.cst (.int 1))) none]]))]⟩
/-- 67 -/
def f_is_node_in : Fd := ⟨3, 3, [.ife (.or [.not (.isi (.var 2) .tuple), .cmp (.bi .len [.var 2]) [.ne] [.cst (.int 3)], .not (.isi (.idx (.var 2) (.cst (.int 0))) .str)]) [.ret (some (.cst (.bl false)))] [],
  .ife (.or [.cmp (.idx (.var 2) (.cst (.int 0))) [.notin] [.call 9 [.var 0]], .not (.call 2 [.idx (.var 2) (.cst (.int 1)), .cst (.int 0), .bi .len [.var 1]])]) [.ret (some (.cst (.bl false)))] [],
  .ret (some (.call 2 [.idx (.var 2) (.cst (.int 2)), .idx (.var 2) (.cst (.int 1)), .bi .len [.var 1]]))]⟩
/-- 68 -/
def f_facts_by : Fd := ⟨1, 5, [.asg (.nm 1) true (.dct []),
  .forr (.tup [.nm 2, .nm 3, .nm 4]) (.of (.var 0)) [] none [.asg (.sub 1 (.tup [.var 2, .var 3])) false (.bin .add (.mth .get (.var 1) [.tup [.var 2, .var 3], .tup []]) (.tup [.var 4]))],
  .ret (some (.var 1))]⟩
/-- 69 -/
def f_is_shut_set : Fd := ⟨3, 9, [.ife (.or [.not (.isi (.var 2) .tuple), .not (.bi .all [.comp [3] [.mk (.nm 3) (.of (.var 2)) []] (.call 67 [.var 0, .var 1, .var 3])])]) [.ret (some (.cst (.bl false)))] [],
  .ife (.or [.not (.call 3 [.var 2]), .cmp (.tup [.idx (.var 0) (.cst (.int 0)), .cst (.int 0), .bi .len [.var 1]]) [.in_] [.var 2]]) [.ret (some (.cst (.bl false)))] [],
  .asg (.nm 4) false (.call 68 [.var 2]),
  .forr (.tup [.nm 5, .nm 6]) (.of (.idx (.var 0) (.cst (.int 1)))) [] none [.forr (.nm 7) (.rng [.bin .add (.bi .len [.var 1]) (.cst (.int 1))]) [] none [.forr (.nm 8) (.rng [.var 7, .bin .add (.bi .len [.var 1]) (.cst (.int 1))]) [] none [.ife (.and [.cmp (.tup [.var 5, .var 7, .var 8]) [.notin] [.var 2], .call 46 [.var 4, .var 1, .var 6, .var 7, .var 8]]) [.ret (some (.cst (.bl false)))] []]]],
  .ret (some (.cst (.bl true)))]⟩
/-- 70 -/
def f_is_tree_of : Fd := ⟨4, 4, [.ret (some (.and [.call 11 [.var 0, .var 1, .var 3], .cmp (.call 13 [.var 3]) [.eq] [.var 2]]))]⟩
/-- 71 -/
def f_proves_text : Fd := ⟨3, 6, [.asg (.tup [.nm 3, .nm 4]) false (.var 1),
  .ife (.cmp (.var 0) [.eq] [.cst (.str [115, 116, 97, 110, 100, 115, 32, 110, 111, 116])]) [.ret (some (.call 69 [.var 3, .var 4, .var 2]))] [],
  .ife (.cmp (.var 0) [.eq] [.cst (.str [115, 116, 97, 110, 100, 115])]) [.ret (some (.call 70 [.var 3, .idx (.var 3) (.cst (.int 0)), .var 4, .var 2]))] [],
  .ife (.or [.not (.isi (.var 2) .tuple), .cmp (.bi .len [.var 2]) [.ne] [.cst (.int 2)]]) [.ret (some (.cst (.bl false)))] [],
  .ret (some (.and [.bi .all [.comp [5] [.mk (.nm 5) (.of (.var 2)) []] (.call 70 [.var 3, .idx (.var 3) (.cst (.int 0)), .var 4, .var 5])], .cmp (.idx (.var 2) (.cst (.int 0))) [.ne] [.idx (.var 2) (.cst (.int 1))]]))]⟩
/-- 72 -/
def f_proves_sort : Fd := ⟨3, 6, [.asg (.tup [.nm 3, .nm 4]) false (.var 1),
  .ife (.cmp (.var 0) [.eq] [.cst (.str [102, 114, 117, 105, 116, 102, 117, 108])]) [.ret (some (.call 11 [.var 3, .var 4, .var 2]))] [],
  .ife (.cmp (.var 0) [.eq] [.cst (.str [101, 109, 112, 116, 121])]) [.ret (some (.call 70 [.var 3, .var 4, .cst (.str []), .var 2]))] [],
  .asg (.nm 5) false (.dct [.cst (.str [98, 97, 114, 114, 101, 110]), .cst (.fn 23), .cst (.str [114, 101, 97, 99, 104, 101, 100]), .cst (.fn 27), .cst (.str [99, 108, 111, 115, 101, 100, 32, 111, 102, 102]), .cst (.fn 28), .cst (.str [110, 101, 118, 101, 114, 32, 101, 109, 112, 116, 121]), .cst (.fn 30)]),
  .ret (some (.callv (.idx (.var 5) (.var 0)) [.var 3, .var 4, .var 2]))]⟩
/-- 73 -/
def f_proves_forms : Fd := ⟨3, 5, [.asg (.tup [.nm 3, .nm 4]) false (.var 1),
  .ife (.cmp (.var 0) [.eq] [.cst (.str [97, 108, 105, 107, 101])]) [.ret (some (.call 42 [.var 3, .var 4, .var 2]))] [],
  .ife (.not (.call 31 [.var 2])) [.ret (some (.cst (.bl false)))] [],
  .ret (some (.cmp (.cmp (.idx (.var 3) (.cst (.int 0))) [.in_] [.call 34 [.var 3, .var 2]]) [.ne] [.cmp (.idx (.var 4) (.cst (.int 0))) [.in_] [.call 34 [.var 4, .var 2]]]))]⟩
/-- 74 -/
def f_proves_cost : Fd := ⟨5, 6, [.ife (.or [.not (.isi (.var 4) .tuple), .cmp (.bi .len [.var 4]) [.ne] [.cst (.int 2)]]) [.ret (some (.cst (.bl false)))] [],
  .asg (.nm 5) false (.call 49 [.var 0, .var 2]),
  .ife (.or [.cmp (.var 5) [.eq] [.tup []], .not (.call 58 [.var 0, .var 1, .var 5, .idx (.var 4) (.cst (.int 0)), .idx (.var 4) (.cst (.int 1))])]) [.ret (some (.cst (.bl false)))] [],
  .ret (some (.cmp (.call 54 [.var 1, .idx (.var 4) (.cst (.int 0))]) [.eq] [.var 3]))]⟩
/-- 75 -/
def f_proves : Fd := ⟨2, 4, [.ife (.not (.call 65 [.var 0])) [.ret (some (.cst (.bl false)))] [],
  .asgs [(.nm 2, false), (.nm 3, false)] [.idx (.var 0) (.cst (.int 0)), .slc (.var 0) (some (.cst (.int 1))) none],
  .ife (.cmp (.var 2) [.in_] [.tup [.cst (.str [115, 116, 97, 110, 100, 115]), .cst (.str [115, 116, 97, 110, 100, 115, 32, 110, 111, 116]), .cst (.str [100, 111, 117, 98, 116, 101, 100])]]) [.ret (some (.call 71 [.var 2, .var 3, .var 1]))] [],
  .ife (.cmp (.var 2) [.in_] [.tup [.cst (.str [97, 108, 105, 107, 101]), .cst (.str [117, 110, 108, 105, 107, 101])]]) [.ret (some (.call 73 [.var 2, .var 3, .var 1]))] [],
  .ife (.cmp (.var 2) [.eq] [.cst (.str [99, 111, 115, 116, 115])]) [.ret (some (.call 74 [.idx (.var 3) (.cst (.int 0)), .idx (.var 3) (.cst (.int 1)), .idx (.var 3) (.cst (.int 2)), .idx (.var 3) (.cst (.int 3)), .var 1]))] [],
  .ret (some (.call 72 [.var 2, .var 3, .var 1]))]⟩
/-- 76 -/
def f_law_same : Fd := ⟨2, 3, [.ife (.or [.and [.isi (.var 0) .tuple, .isi (.var 1) .tuple], .and [.isi (.var 0) .list, .isi (.var 1) .list]]) [.ret (some (.and [.cmp (.bi .len [.var 0]) [.eq] [.bi .len [.var 1]], .bi .all [.comp [2] [.mk (.nm 2) (.rng [.bi .len [.var 0]]) []] (.call 76 [.idx (.var 0) (.var 2), .idx (.var 1) (.var 2)])]]))] [],
  .ife (.or [.isi (.var 0) .bool, .isi (.var 1) .bool]) [.ret (some (.and [.isi (.var 0) .bool, .isi (.var 1) .bool, .cmp (.var 0) [.eq] [.var 1]]))] [],
  .ife (.or [.and [.isi (.var 0) .int, .isi (.var 1) .int], .and [.isi (.var 0) .str, .isi (.var 1) .str]]) [.ret (some (.cmp (.var 0) [.eq] [.var 1]))] [],
  .ret (some (.and [.cmp (.var 0) [.is] [.cst (.non)], .cmp (.var 1) [.is] [.cst (.non)]]))]⟩
/-- 77 -/
def f_law_grammars : Fd := ⟨0, 6, [.asgs [(.nm 0, false), (.nm 1, false), (.nm 2, false), (.nm 3, false)] [.tup [.cst (.str [115, 111, 114, 116]), .cst (.str [101])], .tup [.cst (.str [115, 111, 114, 116]), .cst (.str [102])], .tup [.cst (.str [115, 105, 103, 110]), .cst (.str [43])], .tup [.cst (.str [115, 105, 103, 110]), .cst (.str [97])]],
  .asg (.nm 4) false (.tup [.cst (.str [101]), .tup [.tup [.cst (.str [101]), .tup [.var 0, .var 2, .var 0]], .tup [.cst (.str [101]), .tup [.var 3]]]]),
  .asg (.nm 5) false (.tup [.cst (.str [101]), .tup [.tup [.cst (.str [101]), .tup [.var 0]], .tup [.cst (.str [101]), .tup []], .tup [.cst (.str [102]), .tup [.var 1, .var 3]], .tup [.cst (.str [101]), .tup [.var 1]], .tup [.cst (.str [103]), .tup [.var 3]]]]),
  .ret (some (.tup [.var 4, .var 5]))]⟩
/-- 78 -/
def f_law_kinds : Fd := ⟨0, 1, [.asg (.nm 0) false (.dct [.cst (.str [115, 116, 97, 110, 100, 115]), .cst (.str [103, 116]), .cst (.str [115, 116, 97, 110, 100, 115, 32, 110, 111, 116]), .cst (.str [103, 116]), .cst (.str [100, 111, 117, 98, 116, 101, 100]), .cst (.str [103, 116]), .cst (.str [102, 114, 117, 105, 116, 102, 117, 108]), .cst (.str [103, 115]), .cst (.str [98, 97, 114, 114, 101, 110]), .cst (.str [103, 115]), .cst (.str [114, 101, 97, 99, 104, 101, 100]), .cst (.str [103, 115]), .cst (.str [99, 108, 111, 115, 101, 100, 32, 111, 102, 102]), .cst (.str [103, 115]), .cst (.str [101, 109, 112, 116, 121]), .cst (.str [103, 115]), .cst (.str [110, 101, 118, 101, 114, 32, 101, 109, 112, 116, 121]), .cst (.str [103, 115]), .cst (.str [97, 108, 105, 107, 101]), .cst (.str [103, 103]), .cst (.str [117, 110, 108, 105, 107, 101]), .cst (.str [103, 103]), .cst (.str [99, 111, 115, 116, 115]), .cst (.str [103, 99, 116, 110])]),
  .ret (some (.tup [.var 0, .dct [.cst (.str [115, 116, 97, 110, 100]), .cst (.str [103, 116]), .cst (.str [102, 114, 117, 105, 116]), .cst (.str [103, 115]), .cst (.str [114, 101, 97, 99, 104]), .cst (.str [103, 115]), .cst (.str [101, 109, 112, 116, 121]), .cst (.str [103, 115]), .cst (.str [97, 108, 105, 107, 101]), .cst (.str [103, 103]), .cst (.str [99, 111, 115, 116]), .cst (.str [103, 99, 116])]]))]⟩
/-- 79 -/
def f_law_good : Fd := ⟨0, 2, [.asg (.tup [.nm 0, .nm 1]) false (.call 77 []),
  .ret (some (.dct [.cst (.str [103]), .lst [.var 0], .cst (.str [116]), .lst [.cst (.str []), .cst (.str [97, 43, 97]), .cst (.str [40, 97, 41])], .cst (.str [115]), .lst [.cst (.str [101])], .cst (.str [99]), .lst [.tup [.cst (.int 0), .cst (.int 0)], .tup [.cst (.int 3), .cst (.int 1000)]], .cst (.str [110]), .lst [.cst (.int 0), .cst (.int 5), .bin .shl (.cst (.int 1)) (.cst (.int 70))]]))]⟩
/-- 80 -/
def f_law_bad : Fd := ⟨0, 2, [.asg (.tup [.nm 0, .nm 1]) false (.call 77 []),
  .ret (some (.dct [.cst (.str [103]), .lst [.cst (.non), .tup [], .tup [.cst (.str [101]), .tup []], .tup [.cst (.str [102]), .idx (.var 0) (.cst (.int 1))], .tup [.cst (.str [101]), .bin .add (.idx (.var 0) (.cst (.int 1))) (.slc (.idx (.var 0) (.cst (.int 1))) none (some (.cst (.int 1))))], .tup [.cst (.str [101]), .bin .add (.idx (.var 0) (.cst (.int 1))) (.tup [.tup [.cst (.str [101]), .tup [.tup [.cst (.str [115, 111, 114, 116]), .cst (.str [120])]]]])], .cst (.str [101])], .cst (.str [116]), .lst [.cst (.non), .cst (.str [97, 32, 98]), .cst (.str [65]), .bin .mul (.cst (.str [97])) (.cst (.int 61)), .tup [.cst (.str [97])], .cst (.int 0)], .cst (.str [115]), .lst [.cst (.str [120]), .cst (.str []), .cst (.non), .cst (.int 0), .tup [.cst (.str [101])]], .cst (.str [99]), .lst [.tup [], .tup [.cst (.int 0)], .tup [.cst (.int 0), .neg (.cst (.int 1))], .tup [.cst (.int 0), .cst (.int 1001)], .tup [.cst (.int 0), .cst (.bl true)], .cst (.non), .tup [.cst (.int 0), .cst (.int 0), .cst (.int 0)]], .cst (.str [110]), .lst [.neg (.cst (.int 1)), .cst (.non), .cst (.bl true), .cst (.str [48])]]))]⟩
/-- 81 -/
def f_law_rows : Fd := ⟨0, 8, [.asg (.tup [.nm 0, .nm 1]) false (.call 77 []),
  .asg (.nm 2) false (.tup [.cst (.int 0), .tup [.tup [.cst (.int 1), .tup [.cst (.str [97])]], .cst (.str [43]), .tup [.cst (.int 1), .tup [.cst (.str [97])]]]]),
  .asgs [(.nm 3, false), (.nm 4, false)] [.tup [.cst (.int 0), .tup [.var 2, .cst (.str [43]), .tup [.cst (.int 1), .tup [.cst (.str [97])]]]], .tup [.cst (.int 0), .tup [.tup [.cst (.int 1), .tup [.cst (.str [97])]], .cst (.str [43]), .var 2]]],
  .asg (.nm 5) false (.tup [.cst (.str [112]), .tup [.tup [.cst (.str [112]), .tup [.tup [.cst (.str [115, 105, 103, 110]), .cst (.str [97])]]], .tup [.cst (.str [112]), .tup [.tup [.cst (.str [115, 111, 114, 116]), .cst (.str [112])], .tup [.cst (.str [115, 105, 103, 110]), .cst (.str [43])], .tup [.cst (.str [115, 111, 114, 116]), .cst (.str [113])]]], .tup [.cst (.str [113]), .tup [.tup [.cst (.str [115, 111, 114, 116]), .cst (.str [112])]]]]]),
  .asg (.nm 6) false (.lst [.tup [.tup [.cst (.str [115, 116, 97, 110, 100, 115]), .var 0, .cst (.str [97, 43, 97])], .var 2, .cst (.bl true)], .tup [.tup [.cst (.str [115, 116, 97, 110, 100, 115]), .var 0, .cst (.str [97])], .var 2, .cst (.bl false)], .tup [.tup [.cst (.str [115, 116, 97, 110, 100, 115]), .var 0, .cst (.str [97])], .tup [.cst (.int 1), .tup [.cst (.str [97])]], .cst (.bl true)], .tup [.tup [.cst (.str [115, 116, 97, 110, 100, 115]), .var 0, .cst (.str [97, 43])], .var 2, .cst (.bl false)], .tup [.tup [.cst (.str [115, 116, 97, 110, 100, 115, 32, 110, 111, 116]), .var 0, .cst (.str [97, 43])], .tup [.tup [.cst (.str [101]), .cst (.int 0), .cst (.int 1)]], .cst (.bl true)], .tup [.tup [.cst (.str [115, 116, 97, 110, 100, 115, 32, 110, 111, 116]), .var 0, .cst (.str [97, 43])], .tup [], .cst (.bl false)], .tup [.tup [.cst (.str [115, 116, 97, 110, 100, 115, 32, 110, 111, 116]), .var 0, .cst (.str [97, 43])], .tup [.tup [.cst (.str [101]), .cst (.int 0), .cst (.int 1)], .tup [.cst (.str [101]), .cst (.int 0), .cst (.int 2)]], .cst (.bl false)], .tup [.tup [.cst (.str [115, 116, 97, 110, 100, 115, 32, 110, 111, 116]), .var 0, .cst (.str [97, 43])], .tup [.tup [.cst (.str [101]), .cst (.int 0), .cst (.int 0)], .tup [.cst (.str [101]), .cst (.int 0), .cst (.int 1)]], .cst (.bl true)], .tup [.tup [.cst (.str [115, 116, 97, 110, 100, 115, 32, 110, 111, 116]), .var 0, .cst (.str [97, 43, 97])], .tup [.tup [.cst (.str [101]), .cst (.int 0), .cst (.int 1)], .tup [.cst (.str [101]), .cst (.int 2), .cst (.int 3)]], .cst (.bl false)], .tup [.tup [.cst (.str [115, 116, 97, 110, 100, 115, 32, 110, 111, 116]), .var 0, .cst (.str [43])], .tup [], .cst (.bl true)], .tup [.tup [.cst (.str [115, 116, 97, 110, 100, 115, 32, 110, 111, 116]), .var 0, .cst (.str [43])], .tup [.tup [.cst (.str [101]), .cst (.int 1), .cst (.int 0)]], .cst (.bl false)]]),
  .asg (.nm 6) false (.bin .add (.var 6) (.lst [.tup [.tup [.cst (.str [100, 111, 117, 98, 116, 101, 100]), .var 0, .cst (.str [97, 43, 97, 43, 97])], .tup [.var 3, .var 4], .cst (.bl true)], .tup [.tup [.cst (.str [100, 111, 117, 98, 116, 101, 100]), .var 0, .cst (.str [97, 43, 97, 43, 97])], .tup [.var 4, .var 3], .cst (.bl true)], .tup [.tup [.cst (.str [100, 111, 117, 98, 116, 101, 100]), .var 0, .cst (.str [97, 43, 97, 43, 97])], .tup [.var 3, .var 3], .cst (.bl false)], .tup [.tup [.cst (.str [100, 111, 117, 98, 116, 101, 100]), .var 0, .cst (.str [97, 43, 97])], .tup [.var 2, .var 2], .cst (.bl false)], .tup [.tup [.cst (.str [100, 111, 117, 98, 116, 101, 100]), .var 1, .cst (.str [])], .tup [.tup [.cst (.int 1), .tup []], .tup [.cst (.int 0), .tup [.tup [.cst (.int 1), .tup []]]]], .cst (.bl true)]])),
  .asg (.nm 6) false (.bin .add (.var 6) (.lst [.tup [.tup [.cst (.str [102, 114, 117, 105, 116, 102, 117, 108]), .var 1, .cst (.str [103])], .tup [.cst (.int 4), .tup [.cst (.str [97])]], .cst (.bl true)], .tup [.tup [.cst (.str [102, 114, 117, 105, 116, 102, 117, 108]), .var 1, .cst (.str [101])], .tup [.cst (.int 4), .tup [.cst (.str [97])]], .cst (.bl false)], .tup [.tup [.cst (.str [98, 97, 114, 114, 101, 110]), .var 1, .cst (.str [102])], .tup [.cst (.str [102])], .cst (.bl true)], .tup [.tup [.cst (.str [98, 97, 114, 114, 101, 110]), .var 1, .cst (.str [101])], .tup [.cst (.str [101]), .cst (.str [102])], .cst (.bl false)], .tup [.tup [.cst (.str [98, 97, 114, 114, 101, 110]), .var 1, .cst (.str [101])], .tup [.cst (.str [101])], .cst (.bl false)], .tup [.tup [.cst (.str [99, 108, 111, 115, 101, 100, 32, 111, 102, 102]), .var 1, .cst (.str [103])], .tup [.cst (.str [101])], .cst (.bl true)], .tup [.tup [.cst (.str [99, 108, 111, 115, 101, 100, 32, 111, 102, 102]), .var 1, .cst (.str [103])], .tup [.cst (.str [101]), .cst (.str [103])], .cst (.bl false)], .tup [.tup [.cst (.str [114, 101, 97, 99, 104, 101, 100]), .var 0, .cst (.str [101])], .tup [], .cst (.bl true)], .tup [.tup [.cst (.str [114, 101, 97, 99, 104, 101, 100]), .var 0, .cst (.str [101])], .tup [.tup [.cst (.int 0), .cst (.int 0)]], .cst (.bl true)], .tup [.tup [.cst (.str [114, 101, 97, 99, 104, 101, 100]), .var 1, .cst (.str [103])], .tup [], .cst (.bl false)], .tup [.tup [.cst (.str [101, 109, 112, 116, 121]), .var 1, .cst (.str [101])], .tup [.cst (.int 0), .tup [.tup [.cst (.int 1), .tup []]]], .cst (.bl true)], .tup [.tup [.cst (.str [101, 109, 112, 116, 121]), .var 1, .cst (.str [101])], .tup [.cst (.int 1), .tup []], .cst (.bl true)], .tup [.tup [.cst (.str [110, 101, 118, 101, 114, 32, 101, 109, 112, 116, 121]), .var 1, .cst (.str [103])], .tup [.cst (.str [103])], .cst (.bl true)], .tup [.tup [.cst (.str [110, 101, 118, 101, 114, 32, 101, 109, 112, 116, 121]), .var 1, .cst (.str [101])], .tup [.cst (.str [101])], .cst (.bl false)], .tup [.tup [.cst (.str [110, 101, 118, 101, 114, 32, 101, 109, 112, 116, 121]), .var 0, .cst (.str [101])], .tup [.cst (.str [101])], .cst (.bl true)]])),
  .asg (.nm 6) false (.bin .add (.var 6) (.lst [.tup [.tup [.cst (.str [117, 110, 108, 105, 107, 101]), .var 0, .var 1], .tup [.cst (.str [97])], .cst (.bl true)], .tup [.tup [.cst (.str [117, 110, 108, 105, 107, 101]), .var 0, .var 1], .tup [], .cst (.bl true)], .tup [.tup [.cst (.str [117, 110, 108, 105, 107, 101]), .var 0, .var 0], .tup [.cst (.str [97])], .cst (.bl false)], .tup [.tup [.cst (.str [117, 110, 108, 105, 107, 101]), .var 0, .var 1], .tup [.tup [.cst (.str [97])], .cst (.str [43])], .cst (.bl false)], .tup [.tup [.cst (.str [97, 108, 105, 107, 101]), .var 0, .var 0], .tup [.tup [.tup [.cst (.str [101])], .tup [.cst (.str [101])]]], .cst (.bl true)], .tup [.tup [.cst (.str [97, 108, 105, 107, 101]), .var 0, .var 1], .tup [], .cst (.bl false)], .tup [.tup [.cst (.str [117, 110, 108, 105, 107, 101]), .var 0, .var 5], .tup [.tup [.cst (.str [97])], .cst (.str [43]), .tup [.cst (.str [97])]], .cst (.bl true)], .tup [.tup [.cst (.str [117, 110, 108, 105, 107, 101]), .var 0, .var 5], .tup [.tup [.cst (.str [97])], .cst (.str [43]), .tup [.tup [.cst (.str [97])]]], .cst (.bl true)], .tup [.tup [.cst (.str [117, 110, 108, 105, 107, 101]), .var 0, .var 5], .tup [.cst (.str [97])], .cst (.bl false)]])),
  .asg (.nm 7) false (.tup [.tup [.tup [.cst (.str [101]), .cst (.int 0), .cst (.int 1)], .cst (.int 2)], .tup [.tup [.cst (.str [101]), .cst (.int 0), .cst (.int 3)], .cst (.int 9)], .tup [.tup [.cst (.str [101]), .cst (.int 2), .cst (.int 3)], .cst (.int 2)]]),
  .ret (some (.bin .add (.var 6) (.lst [.tup [.tup [.cst (.str [99, 111, 115, 116, 115]), .var 0, .tup [.cst (.int 5), .cst (.int 2)], .cst (.str [97, 43, 97]), .cst (.int 9)], .tup [.var 2, .var 7], .cst (.bl true)], .tup [.tup [.cst (.str [99, 111, 115, 116, 115]), .var 0, .tup [.cst (.int 5), .cst (.int 2)], .cst (.str [97, 43, 97]), .cst (.int 8)], .tup [.var 2, .var 7], .cst (.bl false)], .tup [.tup [.cst (.str [99, 111, 115, 116, 115]), .var 0, .tup [.cst (.int 5), .cst (.int 2)], .cst (.str [97, 43, 97]), .cst (.int 9)], .tup [.var 2, .tup [.tup [.tup [.cst (.str [101]), .cst (.int 0), .cst (.int 1)], .cst (.int 2)], .tup [.tup [.cst (.str [101]), .cst (.int 0), .cst (.int 3)], .cst (.int 8)], .tup [.tup [.cst (.str [101]), .cst (.int 2), .cst (.int 3)], .cst (.int 2)]]], .cst (.bl false)], .tup [.tup [.cst (.str [99, 111, 115, 116, 115]), .var 0, .tup [.cst (.int 5), .cst (.int 2)], .cst (.str [97, 43, 97]), .cst (.int 9)], .tup [.var 2, .tup [.tup [.tup [.cst (.str [101]), .cst (.int 0), .cst (.int 1)], .cst (.int 3)], .tup [.tup [.cst (.str [101]), .cst (.int 0), .cst (.int 3)], .cst (.int 9)], .tup [.tup [.cst (.str [101]), .cst (.int 2), .cst (.int 3)], .cst (.int 2)]]], .cst (.bl false)], .tup [.tup [.cst (.str [99, 111, 115, 116, 115]), .var 0, .tup [.cst (.int 5), .cst (.int 2)], .cst (.str [97, 43]), .cst (.int 0)], .tup [.var 2, .tup []], .cst (.bl false)], .tup [.tup [.cst (.str [99, 111, 115, 116, 115]), .var 0, .tup [.cst (.int 5), .cst (.int 2)], .cst (.str [97, 43, 97]), .cst (.int 9)], .tup [.var 2, .slc (.var 7) none (some (.cst (.int 2)))], .cst (.bl false)]])))]⟩
/-- the law behind its first statement; slots 0=script 1=box 2=told 3=asked 4=good 5=bad 6=turn 7=kinds 8=judge 9=word 10=sorts 11=parts 12=sort 13=k 14=others 15=wrong 16=value 17=paper 18=statement 19=due 20=other 21=sums 22=odd -/
def law_body : List S := [.asg (.tup [.nm 2, .nm 3]) false (.call 78 []),
  .asgs [(.nm 4, false), (.nm 5, false)] [.call 79 [], .call 80 []],
  .forr (.nm 6) (.rng [.cst (.int 6)]) [] (some [1, 2, 3, 4, 5]) [.forr (.tup [.nm 7, .nm 8]) (.of (.tup [.tup [.var 2, .cst (.fn 65)], .tup [.var 3, .cst (.fn 66)]])) [] (some [1, 2, 3, 4, 5]) [.asg (.nm 9) false (.idx (.bi .sorted [.var 7]) (.draw (.var 1) (.bi .len [.var 7]))),
  .asg (.nm 10) false (.idx (.var 7) (.var 9)),
  .asg (.nm 11) false (.bi .tuple [.comp [12] [.mk (.nm 12) (.of (.var 10)) []] (.idx (.idx (.var 4) (.var 12)) (.draw (.var 1) (.bi .len [.idx (.var 4) (.var 12)])))]),
  .ife (.cmp (.callv (.var 8) [.bin .add (.tup [.var 9]) (.var 11)]) [.isnot] [.cst (.bl true)]) [.ret (some (.cst (.bl false)))] [],
  .asg (.nm 13) false (.draw (.var 1) (.bi .len [.var 11])),
  .asg (.nm 14) false (.idx (.var 5) (.idx (.var 10) (.var 13))),
  .asg (.nm 15) false (.lst [.bin .add (.bin .add (.bin .add (.tup [.var 9]) (.slc (.var 11) none (some (.var 13)))) (.tup [.idx (.var 14) (.draw (.var 1) (.bi .len [.var 14]))])) (.slc (.var 11) (some (.bin .add (.var 13) (.cst (.int 1)))) none), .bin .add (.bin .add (.tup [.var 9]) (.var 11)) (.tup [.cst (.non)]), .bin .add (.tup [.var 9]) (.slc (.var 11) (some (.cst (.int 1))) none), .bin .add (.tup [.bin .add (.var 9) (.cst (.str [122]))]) (.var 11), .bin .add (.tup [.cst (.non)]) (.var 11), .var 11, .cst (.non), .tup [], .var 9]),
  .forr (.nm 16) (.of (.tup [.idx (.var 15) (.cst (.int 0)), .idx (.var 15) (.bin .add (.cst (.int 1)) (.draw (.var 1) (.cst (.int 8))))])) [] none [.ife (.cmp (.callv (.var 8) [.var 16]) [.isnot] [.cst (.bl false)]) [.ret (some (.cst (.bl false)))] [],
  .ife (.and [.cmp (.bi .len [.var 7]) [.eq] [.cst (.int 12)], .bi .any [.comp [17] [.mk (.nm 17) (.of (.tup [.tup [], .cst (.int 0), .cst (.non), .tup [.tup [], .tup []]])) []] (.cmp (.call 75 [.var 16, .var 17]) [.isnot] [.cst (.bl false)])]]) [.ret (some (.cst (.bl false)))] []]]],
  .forr (.tup [.nm 18, .nm 17, .nm 19]) (.of (.call 81 [])) [] none [.ife (.not (.call 76 [.call 75 [.var 18, .var 17], .var 19])) [.ret (some (.cst (.bl false)))] [],
  .ife (.bi .any [.comp [20] [.mk (.nm 20) (.of (.tup [.neg (.cst (.int 5)), .cst (.bl true), .cst (.str [112, 97, 112, 101, 114]), .tup [.var 17, .var 17, .var 17, .var 17], .tup [.tup [.var 17], .var 17, .cst (.non)]])) []] (.cmp (.call 75 [.var 18, .var 20]) [.isnot] [.cst (.bl false)])]) [.ret (some (.cst (.bl false)))] []],
  .asg (.tup [.nm 21, .nm 22]) false (.call 77 []),
  .ret (some (.bi .all [.comp [16, 19] [.mk (.tup [.nm 16, .nm 19]) (.of (.tup [.tup [.tup [.tup [.cst (.str [101]), .cst (.int 0), .cst (.int 1)]], .cst (.bl true)], .tup [.tup [.tup [.cst (.str [101]), .cst (.int 0), .cst (.int 1)], .tup [.cst (.str [101]), .cst (.int 0), .cst (.int 1)]], .cst (.bl false)], .tup [.tup [.tup [.cst (.str [101]), .cst (.int 1), .cst (.int 1)], .tup [.cst (.str [101]), .cst (.int 0), .cst (.int 1)]], .cst (.bl false)], .tup [.tup [.tup [.cst (.str [120]), .cst (.int 0), .cst (.int 1)]], .cst (.bl false)], .tup [.tup [.tup [.cst (.str [101]), .cst (.int 0), .cst (.int 3)]], .cst (.bl false)], .tup [.cst (.non), .cst (.bl false)], .tup [.tup [.cst (.str [101])], .cst (.bl false)], .tup [.tup [.tup [.cst (.int 0), .cst (.int 0), .cst (.int 1)]], .cst (.bl false)]])) []] (.call 76 [.call 69 [.var 21, .cst (.str [97, 43]), .var 16], .var 19])]))]
def law_n : Nat := 23
def law_box : Nat := 1
def pg : Pg := ⟨[f_is_name, f_is_whole, f_is_number, f_is_ascending, f_is_sign, f_is_text, f_is_symbol, f_is_rule, f_is_grammar, f_sorts_of, f_rules_for, f_is_tree, f_is_part, f_text_of, f_size_of, f_tree_key, f_sorts_in, f_order_of, f_tree_by, f_least_trees_by, f_least_trees_of, f_fruitful_sorts, f_are_sorts, f_is_barren_paper, f_fruitful_rules, f_steps_from, f_is_step, f_is_way, f_is_closed_paper, f_has_sign, f_is_full_paper, f_is_form, f_fits_symbol, f_rules_fitting, f_sorts_with_form, f_skeletons_of, f_sorts_by, f_filled, f_pair_by, f_parts_them, f_is_sorts, f_is_web_pair, f_is_web_paper, f_ends_of, f_ends_behind, f_facts_in, f_cuts_between, f_packings_at, f_nodes_under, f_forest_of, f_same_kinds, f_has_in, f_parts_fit, f_are_costs, f_cost_of, f_packing_cost, f_are_prices, f_first_node, f_is_least, f_is_texted, f_is_sorted_in, f_are_both, f_is_costed, f_is_costed_told, f_has_word, f_is_statement, f_is_question, f_is_node_in, f_facts_by, f_is_shut_set, f_is_tree_of, f_proves_text, f_proves_sort, f_proves_forms, f_proves_cost, f_proves, f_law_same, f_law_grammars, f_law_kinds, f_law_good, f_law_bad, f_law_rows],
  glbD⟩
def slots : List (List PySem.Str) := [[.ofString "value", .ofString "sign"],
  [.ofString "value"],
  [.ofString "value", .ofString "least", .ofString "most"],
  [.ofString "rows", .ofString "k"],
  [.ofString "value"],
  [.ofString "value", .ofString "sign"],
  [.ofString "value"],
  [.ofString "value", .ofString "part"],
  [.ofString "value", .ofString "rule", .ofString "sorts", .ofString "used", .ofString "part", .ofString "sort"],
  [.ofString "grammar", .ofString "rule"],
  [.ofString "grammar", .ofString "sort", .ofString "k", .ofString "rule"],
  [.ofString "grammar", .ofString "sort", .ofString "value", .ofString "symbols", .ofString "symbol", .ofString "part"],
  [.ofString "grammar", .ofString "symbol", .ofString "value"],
  [.ofString "tree", .ofString "part"],
  [.ofString "tree", .ofString "part"],
  [.ofString "tree", .ofString "part", .ofString "k"],
  [.ofString "rule", .ofString "symbol"],
  [.ofString "tree"],
  [.ofString "grammar", .ofString "k", .ofString "known", .ofString "part"],
  [.ofString "grammar", .ofString "rules", .ofString "known", .ofString "grown", .ofString "k", .ofString "sort", .ofString "other", .ofString "tree"],
  [.ofString "grammar"],
  [.ofString "grammar"],
  [.ofString "grammar", .ofString "value", .ofString "sort"],
  [.ofString "grammar", .ofString "sort", .ofString "value", .ofString "rules", .ofString "rule", .ofString "other"],
  [.ofString "grammar", .ofString "fruitful", .ofString "k", .ofString "rule", .ofString "sort"],
  [.ofString "grammar", .ofString "sort", .ofString "good", .ofString "found", .ofString "k", .ofString "place", .ofString "symbol"],
  [.ofString "grammar", .ofString "value", .ofString "symbols"],
  [.ofString "grammar", .ofString "sort", .ofString "value", .ofString "step", .ofString "good", .ofString "here", .ofString "k", .ofString "place"],
  [.ofString "grammar", .ofString "sort", .ofString "value", .ofString "here", .ofString "_", .ofString "other"],
  [.ofString "rule", .ofString "symbol"],
  [.ofString "grammar", .ofString "sort", .ofString "value", .ofString "rules", .ofString "rule", .ofString "other"],
  [.ofString "value", .ofString "part"],
  [.ofString "symbol", .ofString "part", .ofString "sorts"],
  [.ofString "grammar", .ofString "parts", .ofString "told", .ofString "found", .ofString "k", .ofString "_", .ofString "symbols", .ofString "symbol", .ofString "part", .ofString "sorts"],
  [.ofString "grammar", .ofString "form", .ofString "told", .ofString "part", .ofString "k"],
  [.ofString "one", .ofString "other", .ofString "rows", .ofString "_", .ofString "symbols", .ofString "told", .ofString "symbol"],
  [.ofString "grammar", .ofString "parts", .ofString "told", .ofString "k"],
  [.ofString "skeleton", .ofString "known", .ofString "rows", .ofString "sign", .ofString "choices", .ofString "row", .ofString "pair"],
  [.ofString "one", .ofString "other", .ofString "skeleton", .ofString "row", .ofString "parts", .ofString "sign", .ofString "mine", .ofString "pair", .ofString "yours"],
  [.ofString "one", .ofString "other", .ofString "pair"],
  [.ofString "grammar", .ofString "value", .ofString "names", .ofString "rule", .ofString "sort"],
  [.ofString "one", .ofString "other", .ofString "value"],
  [.ofString "one", .ofString "other", .ofString "value", .ofString "pair", .ofString "skeleton", .ofString "told", .ofString "row"],
  [.ofString "facts", .ofString "text", .ofString "symbol", .ofString "place"],
  [.ofString "facts", .ofString "text", .ofString "symbols", .ofString "place", .ofString "here", .ofString "symbol", .ofString "at", .ofString "end"],
  [.ofString "grammar", .ofString "text", .ofString "facts", .ofString "grown", .ofString "sort", .ofString "symbols", .ofString "place", .ofString "known", .ofString "later"],
  [.ofString "facts", .ofString "text", .ofString "symbols", .ofString "first", .ofString "last", .ofString "rows", .ofString "symbol", .ofString "cuts", .ofString "at", .ofString "end"],
  [.ofString "grammar", .ofString "facts", .ofString "text", .ofString "node", .ofString "sort", .ofString "first", .ofString "last", .ofString "found", .ofString "k", .ofString "cuts"],
  [.ofString "grammar", .ofString "node", .ofString "packing", .ofString "k", .ofString "cuts", .ofString "symbols", .ofString "bounds", .ofString "places", .ofString "symbol", .ofString "a", .ofString "b"],
  [.ofString "grammar", .ofString "text", .ofString "facts", .ofString "root", .ofString "found", .ofString "here", .ofString "node", .ofString "packing", .ofString "under"],
  [.ofString "one", .ofString "other", .ofString "a", .ofString "b"],
  [.ofString "forest", .ofString "grammar", .ofString "node", .ofString "tree", .ofString "told", .ofString "packing"],
  [.ofString "forest", .ofString "grammar", .ofString "node", .ofString "packing", .ofString "parts", .ofString "trees", .ofString "part", .ofString "unders", .ofString "under"],
  [.ofString "grammar", .ofString "value", .ofString "cost"],
  [.ofString "costs", .ofString "tree", .ofString "part"],
  [.ofString "grammar", .ofString "costs", .ofString "node", .ofString "packing", .ofString "known", .ofString "unders", .ofString "under"],
  [.ofString "grammar", .ofString "costs", .ofString "forest", .ofString "value", .ofString "pair", .ofString "node", .ofString "_", .ofString "price", .ofString "known", .ofString "packings", .ofString "packing"],
  [.ofString "grammar", .ofString "forest", .ofString "last", .ofString "node", .ofString "_"],
  [.ofString "grammar", .ofString "costs", .ofString "forest", .ofString "value", .ofString "prices", .ofString "root"],
  [.ofString "parts"],
  [.ofString "parts"],
  [.ofString "parts"],
  [.ofString "parts"],
  [.ofString "parts"],
  [.ofString "value"],
  [.ofString "value"],
  [.ofString "value"],
  [.ofString "grammar", .ofString "text", .ofString "value"],
  [.ofString "nodes", .ofString "found", .ofString "sort", .ofString "first", .ofString "last"],
  [.ofString "grammar", .ofString "text", .ofString "value", .ofString "node", .ofString "facts", .ofString "sort", .ofString "symbols", .ofString "first", .ofString "last"],
  [.ofString "grammar", .ofString "sort", .ofString "text", .ofString "value"],
  [.ofString "word", .ofString "parts", .ofString "paper", .ofString "grammar", .ofString "text", .ofString "tree"],
  [.ofString "word", .ofString "parts", .ofString "paper", .ofString "grammar", .ofString "sort", .ofString "judges"],
  [.ofString "word", .ofString "parts", .ofString "paper", .ofString "one", .ofString "other"],
  [.ofString "grammar", .ofString "costs", .ofString "text", .ofString "number", .ofString "paper", .ofString "forest"],
  [.ofString "statement", .ofString "paper", .ofString "word", .ofString "parts"],
  [.ofString "a", .ofString "b", .ofString "k"],
  [.ofString "e", .ofString "f", .ofString "plus", .ofString "a", .ofString "sums", .ofString "odd"],
  [.ofString "told"],
  [.ofString "sums", .ofString "odd"],
  [.ofString "sums", .ofString "odd"],
  [.ofString "sums", .ofString "odd", .ofString "one", .ofString "left", .ofString "right", .ofString "other", .ofString "rows", .ofString "prices"]]
def lawSlots : List PySem.Str := [.ofString "script", .ofString "box", .ofString "told", .ofString "asked", .ofString "good", .ofString "bad", .ofString "turn", .ofString "kinds", .ofString "judge", .ofString "word", .ofString "sorts", .ofString "parts", .ofString "sort", .ofString "k", .ofString "others", .ofString "wrong", .ofString "value", .ofString "paper", .ofString "statement", .ofString "due", .ofString "other", .ofString "sums", .ofString "odd"]
open Ev.Tr
def g0 : D := .tup [.str [101], .tup [.tup [.str [101], .tup [.tup [.str [115, 111, 114, 116], .str [101]], .tup [.str [115, 105, 103, 110], .str [43]], .tup [.str [115, 111, 114, 116], .str [101]]]], .tup [.str [101], .tup [.tup [.str [115, 105, 103, 110], .str [97]]]]]]
def s61 : D := .str [97, 97, 97, 97, 97, 97, 97, 97, 97, 97, 97, 97, 97, 97, 97, 97, 97, 97, 97, 97, 97, 97, 97, 97, 97, 97, 97, 97, 97, 97, 97, 97, 97, 97, 97, 97, 97, 97, 97, 97, 97, 97, 97, 97, 97, 97, 97, 97, 97, 97, 97, 97, 97, 97, 97, 97, 97, 97, 97, 97, 97]
def tabT : List (List D) := [[.tup [.str [99, 111, 115, 116, 115], .tup [], .tup [.int 0, .int 0], .str [40, 97, 41], .int 5], .tup [.str [99, 111, 115, 116, 115], g0, .non, .str [40, 97, 41], .int 5], .tup [.str [99, 111, 115, 116, 115], .tup [.str [101], .tup [.tup [.str [101], .tup [.tup [.str [115, 111, 114, 116], .str [101]], .tup [.str [115, 105, 103, 110], .str [43]], .tup [.str [115, 111, 114, 116], .str [101]]]], .tup [.str [101], .tup [.tup [.str [115, 105, 103, 110], .str [97]]]], .tup [.str [101], .tup [.tup [.str [115, 111, 114, 116], .str [120]]]]]], .tup [.int 3, .int 1000], .str [], .int 0], .tup [g0, .tup [.int 3, .int 1000], .str [97, 43, 97], .int 1180591620717411303424]],
  [.tup [.str [97, 108, 105, 107, 101], g0], .non, .tup [.str [99, 111, 115, 116, 115], g0, .tup [.int 0, .int 0], .str [97, 43, 97], .int 0, .non], .tup [.str [100, 111, 117, 98, 116, 101, 100], .str [40, 97, 41]], .tup [.str [101, 109, 112, 116, 121], .tup [.str [102], .tup [.tup [.str [101], .tup [.tup [.str [115, 111, 114, 116], .str [101]], .tup [.str [115, 105, 103, 110], .str [43]], .tup [.str [115, 111, 114, 116], .str [101]]]], .tup [.str [101], .tup [.tup [.str [115, 105, 103, 110], .str [97]]]]]], .str [101]]],
  [.tup [.str [115, 116, 97, 110, 100, 115], .tup [.str [102], .tup [.tup [.str [101], .tup [.tup [.str [115, 111, 114, 116], .str [101]], .tup [.str [115, 105, 103, 110], .str [43]], .tup [.str [115, 111, 114, 116], .str [101]]]], .tup [.str [101], .tup [.tup [.str [115, 105, 103, 110], .str [97]]]]]], .str [40, 97, 41]], .tup [.str [115, 116, 97, 110, 100, 115, 32, 110, 111, 116], g0, .str [97, 43, 97], .non]],
  [.tup [.str [99, 108, 111, 115, 101, 100, 32, 111, 102, 102], .tup [], .str [101]], .tup [.str [99, 111, 115, 116, 115], .tup [.str [101], .tup [.tup [.str [101], .tup [.tup [.str [115, 111, 114, 116], .str [101]], .tup [.str [115, 105, 103, 110], .str [43]], .tup [.str [115, 111, 114, 116], .str [101]]]], .tup [.str [101], .tup [.tup [.str [115, 105, 103, 110], .str [97]]]], .tup [.str [101], .tup [.tup [.str [115, 111, 114, 116], .str [120]]]]]], .tup [.int 0, .int 0], .str [97, 43, 97], .int 5], .tup [.str [99, 111, 115, 116, 115], .str [101], .tup [.int 0, .int 0], .str [97, 43, 97], .int 5], .tup [.str [110, 101, 118, 101, 114, 32, 101, 109, 112, 116, 121], .str [101]], .tup [.str [114, 101, 97, 99, 104, 101, 100], g0, .str [120]], .tup [.str [115, 116, 97, 110, 100, 115], g0, .str [65]], .tup [.str [115, 116, 97, 110, 100, 115, 32, 110, 111, 116], .tup [.str [101], .tup [.tup [.str [101], .tup [.tup [.str [115, 111, 114, 116], .str [101]], .tup [.str [115, 105, 103, 110], .str [43]], .tup [.str [115, 111, 114, 116], .str [101]]]], .tup [.str [101], .tup [.tup [.str [115, 105, 103, 110], .str [97]]]], .tup [.str [101], .tup [.tup [.str [115, 111, 114, 116], .str [120]]]]]], .str [40, 97, 41]], .tup [.str [117, 110, 108, 105, 107, 101], g0, .tup []]],
  [.tup [g0, .tup [.int 0, .int 0], .str [], .int 1180591620717411303424], .tup [.non, g0, .tup [.int 0, .int 0], .str [97, 43, 97], .int 1180591620717411303424], .tup [.str [99, 111, 115, 116, 115], g0, .tup [.int 3, .int 1000], s61, .int 0], .tup [.str [99, 111, 115, 116, 115], .tup [.str [102], .tup [.tup [.str [101], .tup [.tup [.str [115, 111, 114, 116], .str [101]], .tup [.str [115, 105, 103, 110], .str [43]], .tup [.str [115, 111, 114, 116], .str [101]]]], .tup [.str [101], .tup [.tup [.str [115, 105, 103, 110], .str [97]]]]]], .tup [.int 3, .int 1000], .str [97, 43, 97], .int 1180591620717411303424], .tup [.str [99, 111, 115, 116, 115, 122], g0, .tup [.int 3, .int 1000], .str [40, 97, 41], .int 1180591620717411303424], .tup [.str [115, 116, 97, 110, 100, 115], g0, .tup [.str [97]]]],
  [.tup [.str [97, 108, 105, 107, 101], .tup [], g0], .tup [.str [97, 108, 105, 107, 101], g0, .tup [.str [101], .tup [.tup [.str [101], .tup [.tup [.str [115, 111, 114, 116], .str [101]], .tup [.str [115, 105, 103, 110], .str [43]], .tup [.str [115, 111, 114, 116], .str [101]]]], .tup [.str [101], .tup [.tup [.str [115, 105, 103, 110], .str [97]]]], .tup [.str [101], .tup [.tup [.str [115, 111, 114, 116], .str [120]]]]]]], .tup [.str [98, 97, 114, 114, 101, 110], g0, .tup [.str [101]]], .tup [.str [99, 111, 115, 116, 115], .tup [.int 0, .int 0], .str [97, 43, 97], .int 0], .tup [.str [99, 111, 115, 116, 115], g0, .non, .str [97, 43, 97], .int 0], .tup [.non, g0, .tup [.int 0, .int 0], .str [40, 97, 41], .int 0], .tup [.str [99, 111, 115, 116, 115], .tup [.str [101], .tup [.tup [.str [101], .tup [.tup [.str [115, 111, 114, 116], .str [101]], .tup [.str [115, 105, 103, 110], .str [43]], .tup [.str [115, 111, 114, 116], .str [101]]]], .tup [.str [101], .tup [.tup [.str [115, 105, 103, 110], .str [97]]]], .tup [.str [101], .tup [.tup [.str [115, 111, 114, 116], .str [120]]]]]], .tup [.int 3, .int 1000], .str [], .int 5], .tup [.str [99, 111, 115, 116, 115], g0, .tup [.int 3, .int 1000], .str [97, 43, 97], .int 0, .non], .tup [.str [99, 111, 115, 116, 115], .tup [.str [102], .tup [.tup [.str [101], .tup [.tup [.str [115, 111, 114, 116], .str [101]], .tup [.str [115, 105, 103, 110], .str [43]], .tup [.str [115, 111, 114, 116], .str [101]]]], .tup [.str [101], .tup [.tup [.str [115, 105, 103, 110], .str [97]]]]]], .tup [.int 3, .int 1000], .str [40, 97, 41], .int 0], .tup [.str [100, 111, 117, 98, 116, 101, 100], .tup [.str [101], .tup [.tup [.str [101], .tup [.tup [.str [115, 111, 114, 116], .str [101]], .tup [.str [115, 105, 103, 110], .str [43]], .tup [.str [115, 111, 114, 116], .str [101]]]], .tup [.str [101], .tup [.tup [.str [115, 105, 103, 110], .str [97]]]], .tup [.str [101], .tup [.tup [.str [115, 111, 114, 116], .str [120]]]]]], .str [40, 97, 41]], .tup [.str [115, 116, 97, 110, 100, 115], g0, s61]],
  [.tup [.str [99, 108, 111, 115, 101, 100, 32, 111, 102, 102], g0, .non], .tup [g0, .tup [.int 0, .int 0], .str [97, 43, 97], .int 0], .tup [.str [99, 111, 115, 116, 115], g0, .tup [.int 3, .int 1000], .str [], .int 0, .non], .tup [.non, g0, .tup [.int 3, .int 1000], .str [], .int 1180591620717411303424], .tup [.str [99, 111, 115, 116, 115], g0, .tup [.int 3, .int 1000], .str [40, 97, 41], .non]],
  [.str [99, 111, 115, 116, 115], .tup [.str [99, 111, 115, 116, 115], .tup [.str [101], .tup [.tup [.str [101], .tup [.tup [.str [115, 111, 114, 116], .str [101]], .tup [.str [115, 105, 103, 110], .str [43]], .tup [.str [115, 111, 114, 116], .str [101]]]], .tup [.str [101], .tup [.tup [.str [115, 105, 103, 110], .str [97]]]], .tup [.str [101], .tup [.tup [.str [115, 111, 114, 116], .str [101]], .tup [.str [115, 105, 103, 110], .str [43]], .tup [.str [115, 111, 114, 116], .str [101]]]]]], .tup [.int 0, .int 0], .str [97, 43, 97], .int 1180591620717411303424], .tup [.str [99, 111, 115, 116, 115], .tup [.int 3, .int 1000], .str [], .int 0]],
  [.tup [.str [99, 111, 115, 116, 115], .tup [.str [102], .tup [.tup [.str [101], .tup [.tup [.str [115, 111, 114, 116], .str [101]], .tup [.str [115, 105, 103, 110], .str [43]], .tup [.str [115, 111, 114, 116], .str [101]]]], .tup [.str [101], .tup [.tup [.str [115, 105, 103, 110], .str [97]]]]]], .tup [.int 0, .int 0], .str [], .int 1180591620717411303424], .tup [.str [99, 111, 115, 116, 115], g0, .tup [.int 0], .str [], .int 1180591620717411303424], .tup [.str [99, 111, 115, 116, 115], .tup [.str [101], .tup []], .tup [.int 0, .int 0], .str [40, 97, 41], .int 1180591620717411303424], .tup [.str [99, 111, 115, 116, 115], g0, .tup [.int 3, .int 1000], .str [97, 32, 98], .int 1180591620717411303424], .tup [.str [99, 111, 115, 116, 115], g0, .tup [.int 3, .int 1000], .str [40, 97, 41], .bl true], .tup [.str [110, 101, 118, 101, 114, 32, 101, 109, 112, 116, 121], .non, .str [101]]],
  [.tup [.str [99, 111, 115, 116, 115], g0, .tup [.int 0, .int (-1)], .str [], .int 1180591620717411303424], .tup [.str [99, 111, 115, 116, 115], .non, .tup [.int 0, .int 0], .str [40, 97, 41], .int 1180591620717411303424], .tup [.str [99, 111, 115, 116, 115], g0, .tup [.int 3, .int 1000], s61, .int 5], .tup [.str [99, 111, 115, 116, 115], .tup [.str [101], .tup [.tup [.str [101], .tup [.tup [.str [115, 111, 114, 116], .str [101]], .tup [.str [115, 105, 103, 110], .str [43]], .tup [.str [115, 111, 114, 116], .str [101]]]], .tup [.str [101], .tup [.tup [.str [115, 105, 103, 110], .str [97]]]], .tup [.str [101], .tup [.tup [.str [115, 111, 114, 116], .str [101]], .tup [.str [115, 105, 103, 110], .str [43]], .tup [.str [115, 111, 114, 116], .str [101]]]]]], .tup [.int 3, .int 1000], .str [], .int 1180591620717411303424], .tup [.str [100, 111, 117, 98, 116, 101, 100], .tup [.str [101], .tup [.tup [.str [101], .tup [.tup [.str [115, 111, 114, 116], .str [101]], .tup [.str [115, 105, 103, 110], .str [43]], .tup [.str [115, 111, 114, 116], .str [101]]]], .tup [.str [101], .tup [.tup [.str [115, 105, 103, 110], .str [97]]]], .tup [.str [101], .tup [.tup [.str [115, 111, 114, 116], .str [120]]]]]], .str [97, 43, 97]], .tup [.str [101, 109, 112, 116, 121], g0, .tup [.str [101]]], .tup [.str [115, 116, 97, 110, 100, 115, 122], g0, .str [40, 97, 41]]],
  [.tup [.str [99, 108, 111, 115, 101, 100, 32, 111, 102, 102], g0, .str [101], .non], .tup [.str [99, 108, 111, 115, 101, 100, 32, 111, 102, 102], .str [101]], .tup [.str [99, 108, 111, 115, 101, 100, 32, 111, 102, 102], g0, .int 0], .tup [.str [99, 111, 115, 116, 115], .tup [.int 0, .int 0], .str [97, 43, 97], .int 5], .tup [.str [99, 111, 115, 116, 115], g0, .non, .str [97, 43, 97], .int 5], .tup [.non, g0, .tup [.int 0, .int 0], .str [40, 97, 41], .int 5], .tup [.str [99, 111, 115, 116, 115], .tup [.str [102], .tup [.tup [.str [101], .tup [.tup [.str [115, 111, 114, 116], .str [101]], .tup [.str [115, 105, 103, 110], .str [43]], .tup [.str [115, 111, 114, 116], .str [101]]]], .tup [.str [101], .tup [.tup [.str [115, 105, 103, 110], .str [97]]]]]], .tup [.int 3, .int 1000], .str [40, 97, 41], .int 5], .tup [.str [110, 101, 118, 101, 114, 32, 101, 109, 112, 116, 121], .tup [.str [101], .tup []], .str [101]]],
  [.tup [g0, .tup [.int 0, .int 0], .str [97, 43, 97], .int 5], .tup [.str [99, 111, 115, 116, 115], g0, .tup [.int 3, .int 1000], .str [40, 97, 41], .int (-1)], .str [115, 116, 97, 110, 100, 115]],
  [.tup [.str [99, 108, 111, 115, 101, 100, 32, 111, 102, 102], g0, .str []], .tup [.str [99, 111, 115, 116, 115], g0, .tup [], .str [], .int 1180591620717411303424], .tup [.str [99, 111, 115, 116, 115], .tup [.int 3, .int 1000], .str [], .int 5], .tup [.str [115, 116, 97, 110, 100, 115], .tup [], .str [40, 97, 41]]],
  [.tup [], .tup [.str [99, 111, 115, 116, 115], g0, .tup [.int 3, .int 1000], .int 0, .int 0], .tup [g0, .str [97, 43, 97]], .tup [.str [115, 116, 97, 110, 100, 115, 122], g0, .str [97, 43, 97]]],
  [.tup [.str [99, 111, 115, 116, 115], g0, .tup [.int 3, .int 1000], .str [40, 97, 41], .str [48]], .tup [.str [100, 111, 117, 98, 116, 101, 100], .str [101], .str []], .tup [.str [102, 114, 117, 105, 116, 102, 117, 108], .tup [.str [102], .tup [.tup [.str [101], .tup [.tup [.str [115, 111, 114, 116], .str [101]], .tup [.str [115, 105, 103, 110], .str [43]], .tup [.str [115, 111, 114, 116], .str [101]]]], .tup [.str [101], .tup [.tup [.str [115, 105, 103, 110], .str [97]]]]]], .str [101]], .tup [.str [117, 110, 108, 105, 107, 101], g0, .tup [.str [101], .tup [.tup [.str [101], .tup [.tup [.str [115, 111, 114, 116], .str [101]], .tup [.str [115, 105, 103, 110], .str [43]], .tup [.str [115, 111, 114, 116], .str [101]]]], .tup [.str [101], .tup [.tup [.str [115, 105, 103, 110], .str [97]]]], .tup [.str [101], .tup [.tup [.str [115, 111, 114, 116], .str [101]], .tup [.str [115, 105, 103, 110], .str [43]], .tup [.str [115, 111, 114, 116], .str [101]]]]]]]],
  [.tup [.str [114, 101, 97, 99, 104, 101, 100], .tup [.str [101], .tup [.tup [.str [101], .tup [.tup [.str [115, 111, 114, 116], .str [101]], .tup [.str [115, 105, 103, 110], .str [43]], .tup [.str [115, 111, 114, 116], .str [101]]]], .tup [.str [101], .tup [.tup [.str [115, 105, 103, 110], .str [97]]]], .tup [.str [101], .tup [.tup [.str [115, 111, 114, 116], .str [101]], .tup [.str [115, 105, 103, 110], .str [43]], .tup [.str [115, 111, 114, 116], .str [101]]]]]], .str [101]], .tup [.str [115, 116, 97, 110, 100, 115], .tup [.str [101], .tup [.tup [.str [101], .tup [.tup [.str [115, 111, 114, 116], .str [101]], .tup [.str [115, 105, 103, 110], .str [43]], .tup [.str [115, 111, 114, 116], .str [101]]]], .tup [.str [101], .tup [.tup [.str [115, 105, 103, 110], .str [97]]]], .tup [.str [101], .tup [.tup [.str [115, 111, 114, 116], .str [101]], .tup [.str [115, 105, 103, 110], .str [43]], .tup [.str [115, 111, 114, 116], .str [101]]]]]], .str []], .tup [.str [115, 116, 97, 110, 100, 115, 32, 110, 111, 116], .str [101], .str [97, 43, 97]]],
  [.tup [.str [99, 111, 115, 116, 115], g0, .tup [.int 3, .int 1000], .str [97, 43, 97], .non], .tup [.str [115, 116, 97, 110, 100, 115], .tup [], .str [97, 43, 97]], .tup [.str [115, 116, 97, 110, 100, 115, 32, 110, 111, 116], .tup [.str [102], .tup [.tup [.str [101], .tup [.tup [.str [115, 111, 114, 116], .str [101]], .tup [.str [115, 105, 103, 110], .str [43]], .tup [.str [115, 111, 114, 116], .str [101]]]], .tup [.str [101], .tup [.tup [.str [115, 105, 103, 110], .str [97]]]]]], .str []]],
  [.tup [.str [99, 111, 115, 116, 115], g0, .tup [.int 0, .int 1001], .str [97, 43, 97], .int 1180591620717411303424], .tup [.str [99, 111, 115, 116, 115], g0, .tup [.int 3, .int 1000], .non, .int 1180591620717411303424], .tup [.str [100, 111, 117, 98, 116, 101, 100], .tup [.str [101], .tup [.tup [.str [101], .tup [.tup [.str [115, 111, 114, 116], .str [101]], .tup [.str [115, 105, 103, 110], .str [43]], .tup [.str [115, 111, 114, 116], .str [101]]]], .tup [.str [101], .tup [.tup [.str [115, 105, 103, 110], .str [97]]]], .tup [.str [101], .tup [.tup [.str [115, 111, 114, 116], .str [101]], .tup [.str [115, 105, 103, 110], .str [43]], .tup [.str [115, 111, 114, 116], .str [101]]]]]], .str [40, 97, 41]]],
  [.tup [.str [99, 111, 115, 116, 115], g0, .tup [.int 0, .int 1001], .str [40, 97, 41], .int 0], .tup [.str [99, 111, 115, 116, 115], g0, .tup [.int 3, .int 1000], .int 0, .int 5], .tup [.str [99, 111, 115, 116, 115], g0, .tup [.int 3, .int 1000], .str [97, 43, 97], .bl true], .tup [.str [100, 111, 117, 98, 116, 101, 100], .tup [.str [102], .tup [.tup [.str [101], .tup [.tup [.str [115, 111, 114, 116], .str [101]], .tup [.str [115, 105, 103, 110], .str [43]], .tup [.str [115, 111, 114, 116], .str [101]]]], .tup [.str [101], .tup [.tup [.str [115, 105, 103, 110], .str [97]]]]]], .str []], .tup [.str [100, 111, 117, 98, 116, 101, 100, 122], g0, .str [97, 43, 97]]],
  [.tup [.str [99, 111, 115, 116, 115], .tup [], .tup [.int 0, .int 0], .str [40, 97, 41], .int 1180591620717411303424], .tup [.str [99, 111, 115, 116, 115], g0, .non, .str [40, 97, 41], .int 1180591620717411303424]],
  [.tup [.str [99, 111, 115, 116, 115], g0, .tup [.int 0, .int 0], .str [], .non], .tup [.str [99, 111, 115, 116, 115, 122], g0, .tup [.int 0, .int 0], .str [97, 43, 97], .int 0], .tup [.str [99, 111, 115, 116, 115], g0, .tup [.int 3, .int 1000], .str [40, 97, 41], .int 5, .non], .tup [.str [117, 110, 108, 105, 107, 101], .tup [.str [101], .tup [.tup [.str [101], .tup [.tup [.str [115, 111, 114, 116], .str [101]], .tup [.str [115, 105, 103, 110], .str [43]], .tup [.str [115, 111, 114, 116], .str [101]]]], .tup [.str [101], .tup [.tup [.str [115, 105, 103, 110], .str [97]]]], .tup [.str [101], .tup [.tup [.str [115, 111, 114, 116], .str [101]], .tup [.str [115, 105, 103, 110], .str [43]], .tup [.str [115, 111, 114, 116], .str [101]]]]]], g0]],
  [.tup [.str [99, 111, 115, 116, 115], g0, .tup [.int 3, .int 1000], .str [97, 43, 97], .int (-1)]],
  [.tup [.str [99, 111, 115, 116, 115], g0, .tup [.int 0, .int 0], .str [], .bl true], .tup [.str [99, 111, 115, 116, 115], .tup [.str [101], .tup [.tup [.str [101], .tup [.tup [.str [115, 111, 114, 116], .str [101]], .tup [.str [115, 105, 103, 110], .str [43]], .tup [.str [115, 111, 114, 116], .str [101]]]], .tup [.str [101], .tup [.tup [.str [115, 105, 103, 110], .str [97]]]], .tup [.str [101], .tup [.tup [.str [115, 111, 114, 116], .str [120]]]]]], .tup [.int 0, .int 0], .str [97, 43, 97], .int 1180591620717411303424], .tup [.str [99, 111, 115, 116, 115], .str [101], .tup [.int 0, .int 0], .str [97, 43, 97], .int 1180591620717411303424], .tup [.str [99, 111, 115, 116, 115], g0, .tup [.int 3, .int 1000], .str [65], .int 0], .tup [.str [99, 111, 115, 116, 115], .tup [.str [101], .tup []], .tup [.int 3, .int 1000], .str [97, 43, 97], .int 0], .tup [.str [102, 114, 117, 105, 116, 102, 117, 108], g0, .tup [.str [101]]]],
  [.tup [.str [99, 111, 115, 116, 115], .tup [.str [101], .tup [.tup [.str [101], .tup [.tup [.str [115, 111, 114, 116], .str [101]], .tup [.str [115, 105, 103, 110], .str [43]], .tup [.str [115, 111, 114, 116], .str [101]]]], .tup [.str [101], .tup [.tup [.str [115, 105, 103, 110], .str [97]]]], .tup [.str [101], .tup [.tup [.str [115, 111, 114, 116], .str [120]]]]]], .tup [.int 0, .int 0], .str [40, 97, 41], .int 0], .tup [.str [99, 111, 115, 116, 115], .str [101], .tup [.int 0, .int 0], .str [40, 97, 41], .int 0], .tup [.str [99, 111, 115, 116, 115], g0, .tup [.int 0, .int 1001], .str [40, 97, 41], .int 5], .tup [.str [99, 111, 115, 116, 115], .non, .tup [.int 3, .int 1000], .str [97, 43, 97], .int 0], .tup [.str [110, 101, 118, 101, 114, 32, 101, 109, 112, 116, 121], g0, .str [120]], .tup [.str [115, 116, 97, 110, 100, 115, 32, 110, 111, 116], .non, .str [40, 97, 41]]],
  [.tup [.str [99, 108, 111, 115, 101, 100, 32, 111, 102, 102], .str [101], .str [101]], .tup [.str [99, 111, 115, 116, 115], g0, .tup [.int 3, .int 1000], .tup [.str [97]], .int 0], .tup [.str [99, 111, 115, 116, 115], .tup [.str [101], .tup [.tup [.str [101], .tup [.tup [.str [115, 111, 114, 116], .str [101]], .tup [.str [115, 105, 103, 110], .str [43]], .tup [.str [115, 111, 114, 116], .str [101]]]], .tup [.str [101], .tup [.tup [.str [115, 105, 103, 110], .str [97]]]], .tup [.str [101], .tup [.tup [.str [115, 111, 114, 116], .str [120]]]]]], .tup [.int 3, .int 1000], .str [], .int 1180591620717411303424], .tup [.str [99, 111, 115, 116, 115], g0, .tup [.int 3, .int 1000], .str [97, 43, 97], .str [48]], .tup [.str [100, 111, 117, 98, 116, 101, 100], g0, .str [], .non], .str [101, 109, 112, 116, 121], .tup [.str [101, 109, 112, 116, 121], .tup [.str [101], .tup [.tup [.str [101], .tup [.tup [.str [115, 111, 114, 116], .str [101]], .tup [.str [115, 105, 103, 110], .str [43]], .tup [.str [115, 111, 114, 116], .str [101]]]], .tup [.str [101], .tup [.tup [.str [115, 105, 103, 110], .str [97]]]], .tup [.str [101], .tup [.tup [.str [115, 111, 114, 116], .str [120]]]]]], .str [101]], .tup [.str [102, 114, 117, 105, 116, 102, 117, 108], .tup [], .str [101]]],
  [.tup [.str [99, 111, 115, 116, 115], g0, .tup [.int 0, .int 0], .str [], .int (-1)], .tup [.str [99, 111, 115, 116, 115, 122], g0, .tup [.int 0, .int 0], .str [97, 43, 97], .int 5], .tup [.str [99, 111, 115, 116, 115], g0, .tup [.int 0, .bl true], .str [40, 97, 41], .int 0], .tup [.str [100, 111, 117, 98, 116, 101, 100], .non, .str [40, 97, 41]], .tup [.str [115, 116, 97, 110, 100, 115, 32, 110, 111, 116], .tup [.str [101], .tup []], .str [40, 97, 41]]],
  [.tup [.str [97, 108, 105, 107, 101], .str [101], g0], .tup [.str [99, 111, 115, 116, 115], .tup [.str [101], .tup []], .tup [.int 0, .int 0], .str [], .int 0], .tup [.str [115, 116, 97, 110, 100, 115, 32, 110, 111, 116], .tup [], .str []], .tup [.str [117, 110, 108, 105, 107, 101], g0, .tup [.str [102], .tup [.tup [.str [101], .tup [.tup [.str [115, 111, 114, 116], .str [101]], .tup [.str [115, 105, 103, 110], .str [43]], .tup [.str [115, 111, 114, 116], .str [101]]]], .tup [.str [101], .tup [.tup [.str [115, 105, 103, 110], .str [97]]]]]]]],
  [.tup [.str [99, 111, 115, 116, 115], .non, .tup [.int 0, .int 0], .str [], .int 0], .tup [.str [99, 111, 115, 116, 115], g0, .tup [.int 0, .int 0, .int 0], .str [97, 43, 97], .int 0], .tup [.str [99, 111, 115, 116, 115], g0, .tup [.int 3, .int 1000], .str [65], .int 5], .tup [.str [99, 111, 115, 116, 115], .tup [.str [101], .tup []], .tup [.int 3, .int 1000], .str [97, 43, 97], .int 5], .tup [.str [100, 111, 117, 98, 116, 101, 100], .tup [.str [101], .tup []], .str [40, 97, 41]]],
  [.tup [.str [99, 108, 111, 115, 101, 100, 32, 111, 102, 102], .tup [.str [102], .tup [.tup [.str [101], .tup [.tup [.str [115, 111, 114, 116], .str [101]], .tup [.str [115, 105, 103, 110], .str [43]], .tup [.str [115, 111, 114, 116], .str [101]]]], .tup [.str [101], .tup [.tup [.str [115, 105, 103, 110], .str [97]]]]]], .str [101]], .tup [.str [99, 111, 115, 116, 115], g0, .tup [.int 0, .int 0], .str [], .str [48]], .tup [.str [99, 111, 115, 116, 115], .tup [.str [101], .tup [.tup [.str [101], .tup [.tup [.str [115, 111, 114, 116], .str [101]], .tup [.str [115, 105, 103, 110], .str [43]], .tup [.str [115, 111, 114, 116], .str [101]]]], .tup [.str [101], .tup [.tup [.str [115, 105, 103, 110], .str [97]]]], .tup [.str [101], .tup [.tup [.str [115, 111, 114, 116], .str [120]]]]]], .tup [.int 0, .int 0], .str [40, 97, 41], .int 5], .tup [.str [99, 111, 115, 116, 115], .str [101], .tup [.int 0, .int 0], .str [40, 97, 41], .int 5], .tup [.str [99, 111, 115, 116, 115], g0, .tup [.int 3, .int 1000], s61, .int 1180591620717411303424], .tup [.str [99, 111, 115, 116, 115], .non, .tup [.int 3, .int 1000], .str [97, 43, 97], .int 5], .tup [.str [115, 116, 97, 110, 100, 115, 32, 110, 111, 116, 122], g0, .str [97, 43, 97]]],
  [.tup [.str [99, 111, 115, 116, 115], .tup [.int 0, .int 0], .str [97, 43, 97], .int 1180591620717411303424], .tup [.str [99, 111, 115, 116, 115], g0, .non, .str [97, 43, 97], .int 1180591620717411303424], .tup [.non, g0, .tup [.int 0, .int 0], .str [40, 97, 41], .int 1180591620717411303424], .tup [.str [99, 111, 115, 116, 115], g0, .tup [.int 3, .int 1000], .tup [.str [97]], .int 5], .tup [.str [99, 111, 115, 116, 115], .tup [.str [102], .tup [.tup [.str [101], .tup [.tup [.str [115, 111, 114, 116], .str [101]], .tup [.str [115, 105, 103, 110], .str [43]], .tup [.str [115, 111, 114, 116], .str [101]]]], .tup [.str [101], .tup [.tup [.str [115, 105, 103, 110], .str [97]]]]]], .tup [.int 3, .int 1000], .str [40, 97, 41], .int 1180591620717411303424], .tup [.str [100, 111, 117, 98, 116, 101, 100], .non, .str [97, 43, 97]]],
  [.tup [g0, .tup [.int 0, .int 0], .str [97, 43, 97], .int 1180591620717411303424], .tup [.str [99, 111, 115, 116, 115], .tup [.int 0, .int 0], .str [40, 97, 41], .int 0], .tup [.str [99, 111, 115, 116, 115], g0, .tup [.int 0, .bl true], .str [40, 97, 41], .int 5], .tup [.str [110, 101, 118, 101, 114, 32, 101, 109, 112, 116, 121], g0, .str [101], .non]],
  [.tup [.str [98, 97, 114, 114, 101, 110, 122], g0, .str [101]], .tup [.str [99, 111, 115, 116, 115], .tup [.str [101], .tup []], .tup [.int 0, .int 0], .str [], .int 5], .tup [g0, .tup [.int 0, .int 0], .str [40, 97, 41], .int 0], .tup [.str [99, 111, 115, 116, 115], .tup [.int 3, .int 1000], .str [], .int 1180591620717411303424], .tup [.str [100, 111, 117, 98, 116, 101, 100], .tup [.str [101], .tup []], .str [97, 43, 97]]],
  [.str [98, 97, 114, 114, 101, 110], .tup [.str [99, 111, 115, 116, 115], .non, .tup [.int 0, .int 0], .str [], .int 5], .tup [.str [99, 111, 115, 116, 115], g0, .tup [.int 0, .int 0, .int 0], .str [97, 43, 97], .int 5]],
  [.tup [.str [99, 111, 115, 116, 115], .tup [], .tup [.int 3, .int 1000], .str [97, 43, 97], .int 0], .tup [.non, g0, .str [40, 97, 41]], .tup [.str [115, 116, 97, 110, 100, 115], .str [101], .str [40, 97, 41]]],
  [.tup [.str [115, 116, 97, 110, 100, 115, 32, 110, 111, 116], .str [40, 97, 41]], .tup [.str [117, 110, 108, 105, 107, 101], g0, g0, .non]],
  [.tup [.str [99, 111, 115, 116, 115], g0, .tup [.int 0, .bl true], .str [97, 43, 97], .int 0], .tup [.str [99, 111, 115, 116, 115], .tup [.str [102], .tup [.tup [.str [101], .tup [.tup [.str [115, 111, 114, 116], .str [101]], .tup [.str [115, 105, 103, 110], .str [43]], .tup [.str [115, 111, 114, 116], .str [101]]]], .tup [.str [101], .tup [.tup [.str [115, 105, 103, 110], .str [97]]]]]], .tup [.int 0, .int 0], .str [40, 97, 41], .int 0], .tup [.str [99, 111, 115, 116, 115], .tup [.int 0, .int 0], .str [40, 97, 41], .int 5], .tup [.str [99, 111, 115, 116, 115], .str [101], .tup [.int 3, .int 1000], .str [], .int 0], .tup [.str [110, 101, 118, 101, 114, 32, 101, 109, 112, 116, 121], .tup [.str [101], .tup [.tup [.str [101], .tup [.tup [.str [115, 111, 114, 116], .str [101]], .tup [.str [115, 105, 103, 110], .str [43]], .tup [.str [115, 111, 114, 116], .str [101]]]], .tup [.str [101], .tup [.tup [.str [115, 105, 103, 110], .str [97]]]], .tup [.str [101], .tup [.tup [.str [115, 111, 114, 116], .str [101]], .tup [.str [115, 105, 103, 110], .str [43]], .tup [.str [115, 111, 114, 116], .str [101]]]]]], .str [101]], .tup [.str [115, 116, 97, 110, 100, 115], g0, .str [], .non]],
  [.tup [.str [97, 108, 105, 107, 101], g0, .non], .tup [.str [99, 108, 111, 115, 101, 100, 32, 111, 102, 102], g0, .tup [.str [101]]], .tup [.str [99, 111, 115, 116, 115], g0, .tup [.int 0, .int (-1)], .str [40, 97, 41], .int 0], .tup [g0, .tup [.int 0, .int 0], .str [40, 97, 41], .int 5], .tup [.str [99, 111, 115, 116, 115], .tup [.str [101], .tup [.tup [.str [101], .tup [.tup [.str [115, 111, 114, 116], .str [101]], .tup [.str [115, 105, 103, 110], .str [43]], .tup [.str [115, 111, 114, 116], .str [101]]]], .tup [.str [101], .tup [.tup [.str [115, 105, 103, 110], .str [97]]]], .tup [.str [101], .tup [.tup [.str [115, 111, 114, 116], .str [101]], .tup [.str [115, 105, 103, 110], .str [43]], .tup [.str [115, 111, 114, 116], .str [101]]]]]], .tup [.int 3, .int 1000], .str [40, 97, 41], .int 0], .tup [.str [101, 109, 112, 116, 121], g0, .str [101], .non]],
  [.tup [.str [97, 108, 105, 107, 101], g0, g0, .non], .tup [g0, g0], .tup [.str [99, 111, 115, 116, 115], g0, .tup [.int 0, .int 0], .str [], .int 0, .non], .tup [.str [99, 111, 115, 116, 115], .tup [], .tup [.int 0, .int 0], .str [], .int 0], .tup [.str [99, 111, 115, 116, 115], g0, .tup [.int 3, .int 1000], .int 0, .int 1180591620717411303424], .tup [.non, g0, .str [97, 43, 97]], .tup [.str [115, 116, 97, 110, 100, 115], .str [101], .str [97, 43, 97]]],
  [.tup [.str [99, 111, 115, 116, 115], .tup [], .tup [.int 3, .int 1000], .str [97, 43, 97], .int 5], .tup [.str [115, 116, 97, 110, 100, 115, 32, 110, 111, 116], .str [97, 43, 97]]],
  [.tup [.str [99, 111, 115, 116, 115], g0, .tup [], .str [40, 97, 41], .int 0]],
  [.tup [.str [98, 97, 114, 114, 101, 110], .non, .str [101]], .tup [.str [99, 111, 115, 116, 115], g0, .tup [.int 0, .bl true], .str [97, 43, 97], .int 5], .tup [.str [99, 111, 115, 116, 115], .tup [.str [102], .tup [.tup [.str [101], .tup [.tup [.str [115, 111, 114, 116], .str [101]], .tup [.str [115, 105, 103, 110], .str [43]], .tup [.str [115, 111, 114, 116], .str [101]]]], .tup [.str [101], .tup [.tup [.str [115, 105, 103, 110], .str [97]]]]]], .tup [.int 0, .int 0], .str [40, 97, 41], .int 5], .tup [.str [99, 111, 115, 116, 115], .str [101], .tup [.int 3, .int 1000], .str [], .int 5], .tup [.str [100, 111, 117, 98, 116, 101, 100], .str [97, 43, 97]]],
  [.tup [.str [99, 111, 115, 116, 115], g0, .tup [.int 0, .int (-1)], .str [40, 97, 41], .int 5], .tup [.str [99, 111, 115, 116, 115], .tup [.str [101], .tup [.tup [.str [101], .tup [.tup [.str [115, 111, 114, 116], .str [101]], .tup [.str [115, 105, 103, 110], .str [43]], .tup [.str [115, 111, 114, 116], .str [101]]]], .tup [.str [101], .tup [.tup [.str [115, 105, 103, 110], .str [97]]]], .tup [.str [101], .tup [.tup [.str [115, 111, 114, 116], .str [101]], .tup [.str [115, 105, 103, 110], .str [43]], .tup [.str [115, 111, 114, 116], .str [101]]]]]], .tup [.int 3, .int 1000], .str [40, 97, 41], .int 5], .tup [.str [100, 111, 117, 98, 116, 101, 100], .tup [.str [101], .tup [.tup [.str [101], .tup [.tup [.str [115, 111, 114, 116], .str [101]], .tup [.str [115, 105, 103, 110], .str [43]], .tup [.str [115, 111, 114, 116], .str [101]]]], .tup [.str [101], .tup [.tup [.str [115, 105, 103, 110], .str [97]]]], .tup [.str [101], .tup [.tup [.str [115, 111, 114, 116], .str [120]]]]]], .str []], .tup [.str [115, 116, 97, 110, 100, 115], .tup [.str [102], .tup [.tup [.str [101], .tup [.tup [.str [115, 111, 114, 116], .str [101]], .tup [.str [115, 105, 103, 110], .str [43]], .tup [.str [115, 111, 114, 116], .str [101]]]], .tup [.str [101], .tup [.tup [.str [115, 105, 103, 110], .str [97]]]]]], .str [97, 43, 97]]],
  [.tup [.str [99, 111, 115, 116, 115], .tup [], .tup [.int 0, .int 0], .str [], .int 5], .tup [.str [99, 111, 115, 116, 115], g0, .tup [.int 0, .int 1001], .str [40, 97, 41], .int 1180591620717411303424], .tup [.str [115, 116, 97, 110, 100, 115, 32, 110, 111, 116], .tup [.str [101], .tup [.tup [.str [101], .tup [.tup [.str [115, 111, 114, 116], .str [101]], .tup [.str [115, 105, 103, 110], .str [43]], .tup [.str [115, 111, 114, 116], .str [101]]]], .tup [.str [101], .tup [.tup [.str [115, 105, 103, 110], .str [97]]]], .tup [.str [101], .tup [.tup [.str [115, 111, 114, 116], .str [120]]]]]], .str [97, 43, 97]]],
  [.tup [.str [97, 108, 105, 107, 101], g0, .tup [.str [101], .tup []]], .tup [g0, .tup [.int 3, .int 1000], .str [], .int 0], .tup [.non, g0, .tup [.int 3, .int 1000], .str [97, 43, 97], .int 0]],
  [.tup [.str [99, 111, 115, 116, 115, 122], g0, .tup [.int 0, .int 0], .str [97, 43, 97], .int 1180591620717411303424], .tup [.str [99, 111, 115, 116, 115], g0, .tup [], .str [40, 97, 41], .int 5], .tup [.str [101, 109, 112, 116, 121], .non, .str [101]]],
  [.tup [.str [99, 111, 115, 116, 115], .tup [.str [102], .tup [.tup [.str [101], .tup [.tup [.str [115, 111, 114, 116], .str [101]], .tup [.str [115, 105, 103, 110], .str [43]], .tup [.str [115, 111, 114, 116], .str [101]]]], .tup [.str [101], .tup [.tup [.str [115, 105, 103, 110], .str [97]]]]]], .tup [.int 0, .int 0], .str [97, 43, 97], .int 0], .tup [.str [99, 111, 115, 116, 115], g0, .tup [.int 0], .str [97, 43, 97], .int 0], .tup [.str [99, 111, 115, 116, 115, 122], g0, .tup [.int 0, .int 0], .str [40, 97, 41], .int 0], .tup [g0, .str []], .tup [.str [102, 114, 117, 105, 116, 102, 117, 108], .str [101], .str [101]], .tup [.str [115, 116, 97, 110, 100, 115, 122], g0, .str []], .tup [.str [115, 116, 97, 110, 100, 115], .str [40, 97, 41]]],
  [.tup [.str [99, 111, 115, 116, 115], g0, .tup [.int 0, .int (-1)], .str [97, 43, 97], .int 0], .tup [.str [99, 111, 115, 116, 115], g0, .tup [.int 3, .int 1000], .str [65], .int 1180591620717411303424], .tup [.str [99, 111, 115, 116, 115], .tup [.str [101], .tup [.tup [.str [101], .tup [.tup [.str [115, 111, 114, 116], .str [101]], .tup [.str [115, 105, 103, 110], .str [43]], .tup [.str [115, 111, 114, 116], .str [101]]]], .tup [.str [101], .tup [.tup [.str [115, 105, 103, 110], .str [97]]]], .tup [.str [101], .tup [.tup [.str [115, 111, 114, 116], .str [101]], .tup [.str [115, 105, 103, 110], .str [43]], .tup [.str [115, 111, 114, 116], .str [101]]]]]], .tup [.int 3, .int 1000], .str [97, 43, 97], .int 0], .tup [.str [99, 111, 115, 116, 115], .tup [.str [101], .tup []], .tup [.int 3, .int 1000], .str [97, 43, 97], .int 1180591620717411303424], .tup [.str [101, 109, 112, 116, 121], .tup [.str [101], .tup []], .str [101]], .tup [.str [114, 101, 97, 99, 104, 101, 100], g0, .str [101], .non]],
  [.tup [.non, g0, .tup [.int 0, .int 0], .str [], .int 0], .tup [.str [99, 111, 115, 116, 115], .tup [.str [101], .tup [.tup [.str [101], .tup [.tup [.str [115, 111, 114, 116], .str [101]], .tup [.str [115, 105, 103, 110], .str [43]], .tup [.str [115, 111, 114, 116], .str [101]]]], .tup [.str [101], .tup [.tup [.str [115, 105, 103, 110], .str [97]]]], .tup [.str [101], .tup [.tup [.str [115, 111, 114, 116], .str [120]]]]]], .tup [.int 0, .int 0], .str [40, 97, 41], .int 1180591620717411303424], .tup [.str [99, 111, 115, 116, 115], .str [101], .tup [.int 0, .int 0], .str [40, 97, 41], .int 1180591620717411303424], .tup [.str [99, 111, 115, 116, 115], .tup [.str [102], .tup [.tup [.str [101], .tup [.tup [.str [115, 111, 114, 116], .str [101]], .tup [.str [115, 105, 103, 110], .str [43]], .tup [.str [115, 111, 114, 116], .str [101]]]], .tup [.str [101], .tup [.tup [.str [115, 105, 103, 110], .str [97]]]]]], .tup [.int 3, .int 1000], .str [], .int 0], .tup [.str [99, 111, 115, 116, 115], .non, .tup [.int 3, .int 1000], .str [97, 43, 97], .int 1180591620717411303424], .tup [.str [99, 111, 115, 116, 115], .tup [.str [101], .tup []], .tup [.int 3, .int 1000], .str [40, 97, 41], .int 0], .tup [.str [115, 116, 97, 110, 100, 115, 32, 110, 111, 116], .str [101], .str []]],
  [.tup [.str [97, 108, 105, 107, 101], g0, .tup []], .tup [g0, .tup [.int 3, .int 1000], .str [], .int 5], .tup [.str [99, 111, 115, 116, 115], g0, .tup [.int 3, .int 1000], .tup [.str [97]], .int 1180591620717411303424], .tup [.non, g0, .tup [.int 3, .int 1000], .str [97, 43, 97], .int 5], .tup [.str [99, 111, 115, 116, 115], .non, .tup [.int 3, .int 1000], .str [40, 97, 41], .int 0], .tup [.str [114, 101, 97, 99, 104, 101, 100], .tup [], .str [101]], .tup [.str [115, 116, 97, 110, 100, 115], .tup [], .str []]],
  [.tup [.str [99, 111, 115, 116, 115], g0, .tup [.int 0, .int 0], .str [97, 32, 98], .int 0], .tup [.str [99, 111, 115, 116, 115], g0, .tup [], .str [97, 43, 97], .int 0], .tup [.str [99, 111, 115, 116, 115], g0, .tup [.int 0, .bl true], .str [40, 97, 41], .int 1180591620717411303424], .tup [.str [115, 116, 97, 110, 100, 115], .str [97, 43, 97]], .tup [.str [115, 116, 97, 110, 100, 115, 32, 110, 111, 116], g0, .non]],
  [.tup [.str [99, 111, 115, 116, 115], .tup [.str [101], .tup [.tup [.str [101], .tup [.tup [.str [115, 111, 114, 116], .str [101]], .tup [.str [115, 105, 103, 110], .str [43]], .tup [.str [115, 111, 114, 116], .str [101]]]], .tup [.str [101], .tup [.tup [.str [115, 105, 103, 110], .str [97]]]], .tup [.str [101], .tup [.tup [.str [115, 111, 114, 116], .str [101]], .tup [.str [115, 105, 103, 110], .str [43]], .tup [.str [115, 111, 114, 116], .str [101]]]]]], .tup [.int 0, .int 0], .str [], .int 0], .tup [.str [99, 111, 115, 116, 115], .tup [.str [101], .tup []], .tup [.int 0, .int 0], .str [], .int 1180591620717411303424], .tup [.str [99, 111, 115, 116, 115], .tup [.str [102], .tup [.tup [.str [101], .tup [.tup [.str [115, 111, 114, 116], .str [101]], .tup [.str [115, 105, 103, 110], .str [43]], .tup [.str [115, 111, 114, 116], .str [101]]]], .tup [.str [101], .tup [.tup [.str [115, 105, 103, 110], .str [97]]]]]], .tup [.int 0, .int 0], .str [97, 43, 97], .int 5], .tup [.str [99, 111, 115, 116, 115], g0, .tup [.int 0], .str [97, 43, 97], .int 5], .tup [.str [99, 111, 115, 116, 115, 122], g0, .tup [.int 0, .int 0], .str [40, 97, 41], .int 5], .tup [.str [100, 111, 117, 98, 116, 101, 100, 122], g0, .str []], .tup [.str [115, 116, 97, 110, 100, 115, 32, 110, 111, 116], .tup [.str [101], .tup [.tup [.str [101], .tup [.tup [.str [115, 111, 114, 116], .str [101]], .tup [.str [115, 105, 103, 110], .str [43]], .tup [.str [115, 111, 114, 116], .str [101]]]], .tup [.str [101], .tup [.tup [.str [115, 105, 103, 110], .str [97]]]], .tup [.str [101], .tup [.tup [.str [115, 111, 114, 116], .str [101]], .tup [.str [115, 105, 103, 110], .str [43]], .tup [.str [115, 111, 114, 116], .str [101]]]]]], .str [40, 97, 41]]],
  [.tup [.str [99, 108, 111, 115, 101, 100, 32, 111, 102, 102], .tup [.str [101], .tup [.tup [.str [101], .tup [.tup [.str [115, 111, 114, 116], .str [101]], .tup [.str [115, 105, 103, 110], .str [43]], .tup [.str [115, 111, 114, 116], .str [101]]]], .tup [.str [101], .tup [.tup [.str [115, 105, 103, 110], .str [97]]]], .tup [.str [101], .tup [.tup [.str [115, 111, 114, 116], .str [120]]]]]], .str [101]], .tup [.str [99, 111, 115, 116, 115], .non, .tup [.int 0, .int 0], .str [], .int 1180591620717411303424], .tup [.str [99, 111, 115, 116, 115], g0, .tup [.int 0, .int (-1)], .str [97, 43, 97], .int 5], .tup [.str [99, 111, 115, 116, 115], g0, .tup [.int 0, .int 0, .int 0], .str [97, 43, 97], .int 1180591620717411303424], .tup [.str [99, 111, 115, 116, 115], g0, .tup [.int 0, .int 0], .str [40, 97, 41], .int 5, .non], .tup [.str [99, 111, 115, 116, 115], .tup [.str [101], .tup [.tup [.str [101], .tup [.tup [.str [115, 111, 114, 116], .str [101]], .tup [.str [115, 105, 103, 110], .str [43]], .tup [.str [115, 111, 114, 116], .str [101]]]], .tup [.str [101], .tup [.tup [.str [115, 105, 103, 110], .str [97]]]], .tup [.str [101], .tup [.tup [.str [115, 111, 114, 116], .str [101]], .tup [.str [115, 105, 103, 110], .str [43]], .tup [.str [115, 111, 114, 116], .str [101]]]]]], .tup [.int 3, .int 1000], .str [97, 43, 97], .int 5], .tup [.str [100, 111, 117, 98, 116, 101, 100], g0, .non], .tup [.str [114, 101, 97, 99, 104, 101, 100], g0, .non]],
  [.tup [.non, g0, .tup [.int 0, .int 0], .str [], .int 5], .tup [.str [99, 111, 115, 116, 115], g0, .tup [.int 0, .int 0, .int 0], .str [40, 97, 41], .int 0], .tup [.str [99, 111, 115, 116, 115], .tup [.str [102], .tup [.tup [.str [101], .tup [.tup [.str [115, 111, 114, 116], .str [101]], .tup [.str [115, 105, 103, 110], .str [43]], .tup [.str [115, 111, 114, 116], .str [101]]]], .tup [.str [101], .tup [.tup [.str [115, 105, 103, 110], .str [97]]]]]], .tup [.int 3, .int 1000], .str [], .int 5], .tup [.str [99, 111, 115, 116, 115], .tup [.str [101], .tup []], .tup [.int 3, .int 1000], .str [40, 97, 41], .int 5], .str [114, 101, 97, 99, 104, 101, 100], .tup [.str [117, 110, 108, 105, 107, 101], g0, .str [101]]],
  [.tup [.str [97, 108, 105, 107, 101], .tup [.str [101], .tup [.tup [.str [101], .tup [.tup [.str [115, 111, 114, 116], .str [101]], .tup [.str [115, 105, 103, 110], .str [43]], .tup [.str [115, 111, 114, 116], .str [101]]]], .tup [.str [101], .tup [.tup [.str [115, 105, 103, 110], .str [97]]]], .tup [.str [101], .tup [.tup [.str [115, 111, 114, 116], .str [120]]]]]], g0], .tup [.str [99, 111, 115, 116, 115], .non, .tup [.int 3, .int 1000], .str [40, 97, 41], .int 5], .tup [.str [115, 116, 97, 110, 100, 115, 32, 110, 111, 116], g0, .int 0], .tup [.str [117, 110, 108, 105, 107, 101], .tup [], g0], .tup [.str [117, 110, 108, 105, 107, 101], g0, .tup [.str [101], .tup [.tup [.str [101], .tup [.tup [.str [115, 111, 114, 116], .str [101]], .tup [.str [115, 105, 103, 110], .str [43]], .tup [.str [115, 111, 114, 116], .str [101]]]], .tup [.str [101], .tup [.tup [.str [115, 105, 103, 110], .str [97]]]], .tup [.str [101], .tup [.tup [.str [115, 111, 114, 116], .str [120]]]]]]]],
  [.tup [.str [99, 111, 115, 116, 115], g0, .tup [.int 0, .int 0], .str [97, 32, 98], .int 5], .tup [.str [99, 111, 115, 116, 115], g0, .tup [], .str [97, 43, 97], .int 5], .tup [.str [99, 111, 115, 116, 115], .tup [.int 0, .int 0], .str [40, 97, 41], .int 1180591620717411303424], .str [102, 114, 117, 105, 116, 102, 117, 108], .str [110, 101, 118, 101, 114, 32, 101, 109, 112, 116, 121], .tup [.str [115, 116, 97, 110, 100, 115, 32, 110, 111, 116], .tup [.str [101], .tup [.tup [.str [101], .tup [.tup [.str [115, 111, 114, 116], .str [101]], .tup [.str [115, 105, 103, 110], .str [43]], .tup [.str [115, 111, 114, 116], .str [101]]]], .tup [.str [101], .tup [.tup [.str [115, 105, 103, 110], .str [97]]]], .tup [.str [101], .tup [.tup [.str [115, 111, 114, 116], .str [101]], .tup [.str [115, 105, 103, 110], .str [43]], .tup [.str [115, 111, 114, 116], .str [101]]]]]], .str [97, 43, 97]]],
  [.tup [.str [98, 97, 114, 114, 101, 110], .tup [.str [101], .tup [.tup [.str [101], .tup [.tup [.str [115, 111, 114, 116], .str [101]], .tup [.str [115, 105, 103, 110], .str [43]], .tup [.str [115, 111, 114, 116], .str [101]]]], .tup [.str [101], .tup [.tup [.str [115, 105, 103, 110], .str [97]]]], .tup [.str [101], .tup [.tup [.str [115, 111, 114, 116], .str [120]]]]]], .str [101]], .tup [.str [98, 97, 114, 114, 101, 110], g0, .str [120]], .tup [.str [99, 111, 115, 116, 115], .tup [.str [101], .tup [.tup [.str [101], .tup [.tup [.str [115, 111, 114, 116], .str [101]], .tup [.str [115, 105, 103, 110], .str [43]], .tup [.str [115, 111, 114, 116], .str [101]]]], .tup [.str [101], .tup [.tup [.str [115, 105, 103, 110], .str [97]]]], .tup [.str [101], .tup [.tup [.str [115, 111, 114, 116], .str [101]], .tup [.str [115, 105, 103, 110], .str [43]], .tup [.str [115, 111, 114, 116], .str [101]]]]]], .tup [.int 0, .int 0], .str [], .int 5], .tup [g0, .tup [.int 0, .int 0], .str [40, 97, 41], .int 1180591620717411303424], .tup [.str [100, 111, 117, 98, 116, 101, 100], g0, .int 0], .tup [.str [114, 101, 97, 99, 104, 101, 100], g0, .int 0]],
  [.tup [.str [100, 111, 117, 98, 116, 101, 100], .tup [.str [101], .tup [.tup [.str [101], .tup [.tup [.str [115, 111, 114, 116], .str [101]], .tup [.str [115, 105, 103, 110], .str [43]], .tup [.str [115, 111, 114, 116], .str [101]]]], .tup [.str [101], .tup [.tup [.str [115, 105, 103, 110], .str [97]]]], .tup [.str [101], .tup [.tup [.str [115, 111, 114, 116], .str [101]], .tup [.str [115, 105, 103, 110], .str [43]], .tup [.str [115, 111, 114, 116], .str [101]]]]]], .str [97, 43, 97]], .tup [.str [117, 110, 108, 105, 107, 101, 122], g0, g0]],
  [.tup [.str [99, 111, 115, 116, 115], g0, .tup [.int 0, .int 0, .int 0], .str [40, 97, 41], .int 5], .tup [.str [99, 111, 115, 116, 115, 122], g0, .tup [.int 3, .int 1000], .str [], .int 0], .tup [.str [99, 111, 115, 116, 115], .tup [], .tup [.int 3, .int 1000], .str [97, 43, 97], .int 1180591620717411303424], .tup [.str [114, 101, 97, 99, 104, 101, 100], g0, .str []]],
  [.tup [.str [99, 111, 115, 116, 115], g0, .tup [.int 0, .int 0], .non, .int 0], .tup [.str [99, 111, 115, 116, 115], g0, .tup [.int 0, .int 0], .str [97, 43, 97], .int 5, .non], .tup [.str [99, 111, 115, 116, 115], .tup [], .tup [.int 3, .int 1000], .str [40, 97, 41], .int 0], .tup [.str [101, 109, 112, 116, 121], .str [101]]],
  [.tup [.str [99, 111, 115, 116, 115], g0, .tup [.int 0, .bl true], .str [97, 43, 97], .int 1180591620717411303424], .tup [.str [99, 111, 115, 116, 115], .tup [.str [102], .tup [.tup [.str [101], .tup [.tup [.str [115, 111, 114, 116], .str [101]], .tup [.str [115, 105, 103, 110], .str [43]], .tup [.str [115, 111, 114, 116], .str [101]]]], .tup [.str [101], .tup [.tup [.str [115, 105, 103, 110], .str [97]]]]]], .tup [.int 0, .int 0], .str [40, 97, 41], .int 1180591620717411303424], .tup [.str [99, 111, 115, 116, 115], .str [101], .tup [.int 3, .int 1000], .str [], .int 1180591620717411303424], .tup [.str [101, 109, 112, 116, 121], g0, .str [120]]],
  [.tup [.str [99, 111, 115, 116, 115], g0, .tup [.int 0, .int 1001], .str [], .int 0], .tup [.str [99, 111, 115, 116, 115], g0, .tup [.int 0, .int (-1)], .str [40, 97, 41], .int 1180591620717411303424], .tup [.str [99, 111, 115, 116, 115], .tup [.str [101], .tup [.tup [.str [101], .tup [.tup [.str [115, 111, 114, 116], .str [101]], .tup [.str [115, 105, 103, 110], .str [43]], .tup [.str [115, 111, 114, 116], .str [101]]]], .tup [.str [101], .tup [.tup [.str [115, 105, 103, 110], .str [97]]]], .tup [.str [101], .tup [.tup [.str [115, 111, 114, 116], .str [101]], .tup [.str [115, 105, 103, 110], .str [43]], .tup [.str [115, 111, 114, 116], .str [101]]]]]], .tup [.int 3, .int 1000], .str [40, 97, 41], .int 1180591620717411303424], .tup [.str [115, 116, 97, 110, 100, 115], .tup [.str [101], .tup [.tup [.str [101], .tup [.tup [.str [115, 111, 114, 116], .str [101]], .tup [.str [115, 105, 103, 110], .str [43]], .tup [.str [115, 111, 114, 116], .str [101]]]], .tup [.str [101], .tup [.tup [.str [115, 105, 103, 110], .str [97]]]], .tup [.str [101], .tup [.tup [.str [115, 111, 114, 116], .str [120]]]]]], .str [40, 97, 41]], .tup [.str [115, 116, 97, 110, 100, 115, 32, 110, 111, 116, 122], g0, .str []]],
  [.tup [.str [99, 111, 115, 116, 115], .tup [], .tup [.int 0, .int 0], .str [], .int 1180591620717411303424], .tup [.str [99, 111, 115, 116, 115], .tup [.str [101], .tup [.tup [.str [101], .tup [.tup [.str [115, 111, 114, 116], .str [101]], .tup [.str [115, 105, 103, 110], .str [43]], .tup [.str [115, 111, 114, 116], .str [101]]]], .tup [.str [101], .tup [.tup [.str [115, 105, 103, 110], .str [97]]]], .tup [.str [101], .tup [.tup [.str [115, 111, 114, 116], .str [120]]]]]], .tup [.int 3, .int 1000], .str [97, 43, 97], .int 0], .tup [.str [100, 111, 117, 98, 116, 101, 100], .non, .str []]],
  [.tup [.str [99, 111, 115, 116, 115, 122], g0, .tup [.int 3, .int 1000], .str [], .int 5], .tup [.str [99, 111, 115, 116, 115], g0, .tup [.int 3, .int 1000], .str [97, 43, 97], .int 5, .non], .tup [.str [115, 116, 97, 110, 100, 115, 32, 110, 111, 116], .non, .str [97, 43, 97]]],
  [.tup [.str [99, 111, 115, 116, 115], g0, .tup [.int 0, .int 0], .non, .int 5], .tup [.str [99, 111, 115, 116, 115], g0, .tup [], .str [40, 97, 41], .int 1180591620717411303424], .tup [.str [99, 111, 115, 116, 115], g0, .tup [.int 3, .int 1000], .str [], .int 5, .non], .tup [.str [99, 111, 115, 116, 115], .tup [], .tup [.int 3, .int 1000], .str [40, 97, 41], .int 5], .tup [.str [100, 111, 117, 98, 116, 101, 100], .tup [.str [101], .tup []], .str []]],
  [.tup [.str [115, 116, 97, 110, 100, 115], .tup [.str [101], .tup [.tup [.str [101], .tup [.tup [.str [115, 111, 114, 116], .str [101]], .tup [.str [115, 105, 103, 110], .str [43]], .tup [.str [115, 111, 114, 116], .str [101]]]], .tup [.str [101], .tup [.tup [.str [115, 105, 103, 110], .str [97]]]], .tup [.str [101], .tup [.tup [.str [115, 111, 114, 116], .str [120]]]]]], .str [97, 43, 97]], .tup [.str [115, 116, 97, 110, 100, 115, 32, 110, 111, 116], .tup [.str [101], .tup []], .str [97, 43, 97]]],
  [.tup [.str [97, 108, 105, 107, 101], .tup [.str [101], .tup [.tup [.str [101], .tup [.tup [.str [115, 111, 114, 116], .str [101]], .tup [.str [115, 105, 103, 110], .str [43]], .tup [.str [115, 111, 114, 116], .str [101]]]], .tup [.str [101], .tup [.tup [.str [115, 105, 103, 110], .str [97]]]], .tup [.str [101], .tup [.tup [.str [115, 111, 114, 116], .str [101]], .tup [.str [115, 105, 103, 110], .str [43]], .tup [.str [115, 111, 114, 116], .str [101]]]]]], g0], .tup [.str [99, 111, 115, 116, 115], .tup [.str [101], .tup [.tup [.str [101], .tup [.tup [.str [115, 111, 114, 116], .str [101]], .tup [.str [115, 105, 103, 110], .str [43]], .tup [.str [115, 111, 114, 116], .str [101]]]], .tup [.str [101], .tup [.tup [.str [115, 105, 103, 110], .str [97]]]], .tup [.str [101], .tup [.tup [.str [115, 111, 114, 116], .str [120]]]]]], .tup [.int 0, .int 0], .str [], .int 0], .tup [.str [99, 111, 115, 116, 115], g0, .tup [.int 0, .int 1001], .str [], .int 5], .tup [.str [102, 114, 117, 105, 116, 102, 117, 108], g0, .str [101], .non]],
  [.tup [.str [99, 111, 115, 116, 115], .tup [.str [101], .tup [.tup [.str [101], .tup [.tup [.str [115, 111, 114, 116], .str [101]], .tup [.str [115, 105, 103, 110], .str [43]], .tup [.str [115, 111, 114, 116], .str [101]]]], .tup [.str [101], .tup [.tup [.str [115, 105, 103, 110], .str [97]]]], .tup [.str [101], .tup [.tup [.str [115, 111, 114, 116], .str [120]]]]]], .tup [.int 3, .int 1000], .str [97, 43, 97], .int 5]],
  [.tup [.str [98, 97, 114, 114, 101, 110], .tup [.str [101], .tup [.tup [.str [101], .tup [.tup [.str [115, 111, 114, 116], .str [101]], .tup [.str [115, 105, 103, 110], .str [43]], .tup [.str [115, 111, 114, 116], .str [101]]]], .tup [.str [101], .tup [.tup [.str [115, 105, 103, 110], .str [97]]]], .tup [.str [101], .tup [.tup [.str [115, 111, 114, 116], .str [101]], .tup [.str [115, 105, 103, 110], .str [43]], .tup [.str [115, 111, 114, 116], .str [101]]]]]], .str [101]], .tup [g0, .tup [.int 3, .int 1000], .str [], .int 1180591620717411303424], .tup [.non, g0, .tup [.int 3, .int 1000], .str [97, 43, 97], .int 1180591620717411303424], .tup [.str [115, 116, 97, 110, 100, 115, 32, 110, 111, 116], g0, .str [97, 32, 98]]],
  [.tup [.str [97, 108, 105, 107, 101, 122], g0, g0], .tup [.str [99, 111, 115, 116, 115], .tup [.int 3, .int 1000], .str [97, 43, 97], .int 0], .tup [.non, g0, .tup [.int 3, .int 1000], .str [40, 97, 41], .int 0], .tup [.str [110, 101, 118, 101, 114, 32, 101, 109, 112, 116, 121], .tup [], .str [101]]],
  [.tup [.str [99, 111, 115, 116, 115], g0, .tup [.int 0, .int 0], s61, .int 0], .tup [.str [99, 111, 115, 116, 115], .tup [.str [102], .tup [.tup [.str [101], .tup [.tup [.str [115, 111, 114, 116], .str [101]], .tup [.str [115, 105, 103, 110], .str [43]], .tup [.str [115, 111, 114, 116], .str [101]]]], .tup [.str [101], .tup [.tup [.str [115, 105, 103, 110], .str [97]]]]]], .tup [.int 0, .int 0], .str [97, 43, 97], .int 1180591620717411303424], .tup [.str [99, 111, 115, 116, 115], g0, .tup [.int 0], .str [97, 43, 97], .int 1180591620717411303424], .tup [.str [99, 111, 115, 116, 115, 122], g0, .tup [.int 0, .int 0], .str [40, 97, 41], .int 1180591620717411303424], .tup [.non, g0, .str []], .tup [.str [100, 111, 117, 98, 116, 101, 100], g0, .str [97, 32, 98]], .tup [.str [114, 101, 97, 99, 104, 101, 100], .str [101], .str [101]], .tup [.str [115, 116, 97, 110, 100, 115], .str [101], .str []], .tup [.str [115, 116, 97, 110, 100, 115, 32, 110, 111, 116], g0, .str [], .non]],
  [.tup [.str [99, 111, 115, 116, 115], .tup [.str [101], .tup [.tup [.str [101], .tup [.tup [.str [115, 111, 114, 116], .str [101]], .tup [.str [115, 105, 103, 110], .str [43]], .tup [.str [115, 111, 114, 116], .str [101]]]], .tup [.str [101], .tup [.tup [.str [115, 105, 103, 110], .str [97]]]], .tup [.str [101], .tup [.tup [.str [115, 111, 114, 116], .str [120]]]]]], .tup [.int 0, .int 0], .str [], .int 5], .tup [.str [99, 111, 115, 116, 115], g0, .tup [.int 0, .int (-1)], .str [97, 43, 97], .int 1180591620717411303424], .tup [.str [99, 111, 115, 116, 115], g0, .tup [.int 0], .str [40, 97, 41], .int 0], .tup [.str [99, 111, 115, 116, 115], .tup [.str [101], .tup [.tup [.str [101], .tup [.tup [.str [115, 111, 114, 116], .str [101]], .tup [.str [115, 105, 103, 110], .str [43]], .tup [.str [115, 111, 114, 116], .str [101]]]], .tup [.str [101], .tup [.tup [.str [115, 105, 103, 110], .str [97]]]], .tup [.str [101], .tup [.tup [.str [115, 111, 114, 116], .str [101]], .tup [.str [115, 105, 103, 110], .str [43]], .tup [.str [115, 111, 114, 116], .str [101]]]]]], .tup [.int 3, .int 1000], .str [97, 43, 97], .int 1180591620717411303424], .tup [.str [115, 116, 97, 110, 100, 115, 32, 110, 111, 116], .str []], .str [117, 110, 108, 105, 107, 101]],
  [.tup [.str [97, 108, 105, 107, 101], g0, .tup [.str [102], .tup [.tup [.str [101], .tup [.tup [.str [115, 111, 114, 116], .str [101]], .tup [.str [115, 105, 103, 110], .str [43]], .tup [.str [115, 111, 114, 116], .str [101]]]], .tup [.str [101], .tup [.tup [.str [115, 105, 103, 110], .str [97]]]]]]], .tup [.str [99, 108, 111, 115, 101, 100, 32, 111, 102, 102], .non, .str [101]], .tup [.non, g0, .tup [.int 0, .int 0], .str [], .int 1180591620717411303424], .tup [.str [99, 111, 115, 116, 115], g0, .tup [.int 0, .int 0], .str [40, 97, 41], .non], .tup [.str [99, 111, 115, 116, 115], .tup [.str [102], .tup [.tup [.str [101], .tup [.tup [.str [115, 111, 114, 116], .str [101]], .tup [.str [115, 105, 103, 110], .str [43]], .tup [.str [115, 111, 114, 116], .str [101]]]], .tup [.str [101], .tup [.tup [.str [115, 105, 103, 110], .str [97]]]]]], .tup [.int 3, .int 1000], .str [], .int 1180591620717411303424], .tup [.str [99, 111, 115, 116, 115], .tup [.str [101], .tup []], .tup [.int 3, .int 1000], .str [40, 97, 41], .int 1180591620717411303424], .tup [.str [100, 111, 117, 98, 116, 101, 100], .str [101], .str [40, 97, 41]], .tup [.str [101, 109, 112, 116, 121], .tup [.str [101], .tup [.tup [.str [101], .tup [.tup [.str [115, 111, 114, 116], .str [101]], .tup [.str [115, 105, 103, 110], .str [43]], .tup [.str [115, 111, 114, 116], .str [101]]]], .tup [.str [101], .tup [.tup [.str [115, 105, 103, 110], .str [97]]]], .tup [.str [101], .tup [.tup [.str [115, 111, 114, 116], .str [101]], .tup [.str [115, 105, 103, 110], .str [43]], .tup [.str [115, 111, 114, 116], .str [101]]]]]], .str [101]], .tup [.str [110, 101, 118, 101, 114, 32, 101, 109, 112, 116, 121], g0, .non]],
  [.tup [.str [99, 111, 115, 116, 115], .tup [.int 0, .int 0], .str [], .int 0], .tup [.str [99, 111, 115, 116, 115], g0, .non, .str [], .int 0], .tup [.str [99, 111, 115, 116, 115], .non, .tup [.int 3, .int 1000], .str [40, 97, 41], .int 1180591620717411303424], .tup [.str [100, 111, 117, 98, 116, 101, 100], .str []], .tup [.str [102, 114, 117, 105, 116, 102, 117, 108], .tup [.str [101], .tup [.tup [.str [101], .tup [.tup [.str [115, 111, 114, 116], .str [101]], .tup [.str [115, 105, 103, 110], .str [43]], .tup [.str [115, 111, 114, 116], .str [101]]]], .tup [.str [101], .tup [.tup [.str [115, 105, 103, 110], .str [97]]]], .tup [.str [101], .tup [.tup [.str [115, 111, 114, 116], .str [120]]]]]], .str [101]], .tup [.str [102, 114, 117, 105, 116, 102, 117, 108], g0, .str [120]], .tup [.str [115, 116, 97, 110, 100, 115], .tup [.str [101], .tup [.tup [.str [101], .tup [.tup [.str [115, 111, 114, 116], .str [101]], .tup [.str [115, 105, 103, 110], .str [43]], .tup [.str [115, 111, 114, 116], .str [101]]]], .tup [.str [101], .tup [.tup [.str [115, 105, 103, 110], .str [97]]]], .tup [.str [101], .tup [.tup [.str [115, 111, 114, 116], .str [101]], .tup [.str [115, 105, 103, 110], .str [43]], .tup [.str [115, 111, 114, 116], .str [101]]]]]], .str [40, 97, 41]]],
  [.tup [.str [97, 108, 105, 107, 101], .non, g0], .tup [.str [99, 108, 111, 115, 101, 100, 32, 111, 102, 102], .tup [.str [101], .tup []], .str [101]], .tup [.str [99, 111, 115, 116, 115], g0, .tup [.int 0, .int 0], .str [97, 32, 98], .int 1180591620717411303424], .tup [.str [99, 111, 115, 116, 115], g0, .tup [], .str [97, 43, 97], .int 1180591620717411303424], .tup [.str [99, 111, 115, 116, 115], g0, .tup [.int 0, .int 0], .str [40, 97, 41], .bl true], .tup [.str [99, 111, 115, 116, 115], .tup [.int 3, .int 1000], .str [97, 43, 97], .int 5], .tup [.non, g0, .tup [.int 3, .int 1000], .str [40, 97, 41], .int 5], .tup [.str [114, 101, 97, 99, 104, 101, 100], .tup [.str [102], .tup [.tup [.str [101], .tup [.tup [.str [115, 111, 114, 116], .str [101]], .tup [.str [115, 105, 103, 110], .str [43]], .tup [.str [115, 111, 114, 116], .str [101]]]], .tup [.str [101], .tup [.tup [.str [115, 105, 103, 110], .str [97]]]]]], .str [101]], .tup [.str [115, 116, 97, 110, 100, 115], .tup [.str [102], .tup [.tup [.str [101], .tup [.tup [.str [115, 111, 114, 116], .str [101]], .tup [.str [115, 105, 103, 110], .str [43]], .tup [.str [115, 111, 114, 116], .str [101]]]], .tup [.str [101], .tup [.tup [.str [115, 105, 103, 110], .str [97]]]]]], .str []]],
  [.tup [.str [99, 111, 115, 116, 115], g0, .tup [.int 0, .int 0], s61, .int 5], .tup [.str [99, 111, 115, 116, 115], .tup [.str [101], .tup [.tup [.str [101], .tup [.tup [.str [115, 111, 114, 116], .str [101]], .tup [.str [115, 105, 103, 110], .str [43]], .tup [.str [115, 111, 114, 116], .str [101]]]], .tup [.str [101], .tup [.tup [.str [115, 105, 103, 110], .str [97]]]], .tup [.str [101], .tup [.tup [.str [115, 111, 114, 116], .str [101]], .tup [.str [115, 105, 103, 110], .str [43]], .tup [.str [115, 111, 114, 116], .str [101]]]]]], .tup [.int 0, .int 0], .str [], .int 1180591620717411303424], .str [100, 111, 117, 98, 116, 101, 100], .tup [.str [115, 116, 97, 110, 100, 115, 32, 110, 111, 116], .tup [.str [101], .tup [.tup [.str [101], .tup [.tup [.str [115, 111, 114, 116], .str [101]], .tup [.str [115, 105, 103, 110], .str [43]], .tup [.str [115, 111, 114, 116], .str [101]]]], .tup [.str [101], .tup [.tup [.str [115, 105, 103, 110], .str [97]]]], .tup [.str [101], .tup [.tup [.str [115, 111, 114, 116], .str [120]]]]]], .str []], .tup [.str [115, 116, 97, 110, 100, 115, 32, 110, 111, 116], g0, .str [65]], .tup [.str [117, 110, 108, 105, 107, 101], .str [101], g0]],
  [.tup [.str [97, 108, 105, 107, 101], .tup [.str [101], .tup []], g0], .tup [.str [99, 111, 115, 116, 115], g0, .tup [.int 0], .str [40, 97, 41], .int 5], .tup [.str [100, 111, 117, 98, 116, 101, 100], .tup [.str [102], .tup [.tup [.str [101], .tup [.tup [.str [115, 111, 114, 116], .str [101]], .tup [.str [115, 105, 103, 110], .str [43]], .tup [.str [115, 111, 114, 116], .str [101]]]], .tup [.str [101], .tup [.tup [.str [115, 105, 103, 110], .str [97]]]]]], .str [40, 97, 41]], .tup [.str [110, 101, 118, 101, 114, 32, 101, 109, 112, 116, 121], g0, .int 0], .tup [.str [115, 116, 97, 110, 100, 115, 32, 110, 111, 116], g0, .tup [.str [97]]]],
  [.tup [.str [99, 111, 115, 116, 115], g0, .tup [.int 0, .int 0], .str [40, 97, 41], .int (-1)], .tup [.str [99, 111, 115, 116, 115], g0, .tup [.int 0, .int 0, .int 0], .str [40, 97, 41], .int 1180591620717411303424], .tup [.str [100, 111, 117, 98, 116, 101, 100], g0, .str [65]]],
  [.tup [.str [98, 97, 114, 114, 101, 110], .tup [.str [101], .tup []], .str [101]], .tup [.str [99, 111, 115, 116, 115], .tup [.int 0, .int 0], .str [], .int 5], .tup [.str [99, 111, 115, 116, 115], g0, .non, .str [], .int 5], .tup [.str [100, 111, 117, 98, 116, 101, 100], g0, .tup [.str [97]]], .tup [.str [110, 101, 118, 101, 114, 32, 101, 109, 112, 116, 121], g0, .str []]],
  [.tup [.str [99, 111, 115, 116, 115], g0, .tup [.int 0, .int 0], .int 0, .int 0], .tup [.str [100, 111, 117, 98, 116, 101, 100], g0, s61], .tup [.str [117, 110, 108, 105, 107, 101], .tup [.str [102], .tup [.tup [.str [101], .tup [.tup [.str [115, 111, 114, 116], .str [101]], .tup [.str [115, 105, 103, 110], .str [43]], .tup [.str [115, 111, 114, 116], .str [101]]]], .tup [.str [101], .tup [.tup [.str [115, 105, 103, 110], .str [97]]]]]], g0]],
  [.tup [.str [99, 111, 115, 116, 115], g0, .tup [.int 0, .int 0], .str [40, 97, 41], .str [48]]],
  [.tup [.str [115, 116, 97, 110, 100, 115], .non, .str [40, 97, 41]]],
  [.tup [.str [99, 111, 115, 116, 115], g0, .tup [.int 0, .int 0], .str [97, 43, 97], .non], .tup [.str [99, 111, 115, 116, 115, 122], g0, .tup [.int 3, .int 1000], .str [], .int 1180591620717411303424], .tup [.str [114, 101, 97, 99, 104, 101, 100], g0, .tup [.str [101]]], .tup [.str [115, 116, 97, 110, 100, 115], .str []]],
  [.tup [.str [99, 111, 115, 116, 115], g0, .tup [.int 0, .int 0], .non, .int 1180591620717411303424], .tup [.str [99, 111, 115, 116, 115], .tup [], .tup [.int 3, .int 1000], .str [40, 97, 41], .int 1180591620717411303424], .tup [.str [102, 114, 117, 105, 116, 102, 117, 108, 122], g0, .str [101]], .tup [.str [115, 116, 97, 110, 100, 115], .tup [.str [101], .tup []], .str [40, 97, 41]]],
  [.tup [.str [99, 108, 111, 115, 101, 100, 32, 111, 102, 102, 122], g0, .str [101]], .tup [.str [99, 111, 115, 116, 115], g0, .tup [.int 0, .int 0], .int 0, .int 5], .tup [.str [99, 111, 115, 116, 115], g0, .tup [.int 0, .int 0], .str [97, 43, 97], .bl true], .tup [.str [99, 111, 115, 116, 115], g0, .tup [.int 3, .int 1000], .str [], .non], .tup [.str [99, 111, 115, 116, 115, 122], g0, .tup [.int 3, .int 1000], .str [97, 43, 97], .int 0], .tup [.str [99, 111, 115, 116, 115], g0, .tup [.int 3, .int 1000], .str [40, 97, 41], .int 1180591620717411303424, .non], .tup [.str [115, 116, 97, 110, 100, 115, 32, 110, 111, 116], .tup [], .str [40, 97, 41]]],
  [.tup [.str [98, 97, 114, 114, 101, 110], .str [101]], .tup [.str [99, 111, 115, 116, 115], g0, .tup [.int 0, .int 1001], .str [], .int 1180591620717411303424], .tup [.str [102, 114, 117, 105, 116, 102, 117, 108], .tup [.str [101], .tup [.tup [.str [101], .tup [.tup [.str [115, 111, 114, 116], .str [101]], .tup [.str [115, 105, 103, 110], .str [43]], .tup [.str [115, 111, 114, 116], .str [101]]]], .tup [.str [101], .tup [.tup [.str [115, 105, 103, 110], .str [97]]]], .tup [.str [101], .tup [.tup [.str [115, 111, 114, 116], .str [101]], .tup [.str [115, 105, 103, 110], .str [43]], .tup [.str [115, 111, 114, 116], .str [101]]]]]], .str [101]], .tup [.str [115, 116, 97, 110, 100, 115], .non, .str [97, 43, 97]]],
  [.tup [.str [99, 111, 115, 116, 115], g0, .tup [.int 3, .int 1000], .str [], .bl true], .tup [.str [99, 111, 115, 116, 115], .tup [.str [101], .tup [.tup [.str [101], .tup [.tup [.str [115, 111, 114, 116], .str [101]], .tup [.str [115, 105, 103, 110], .str [43]], .tup [.str [115, 111, 114, 116], .str [101]]]], .tup [.str [101], .tup [.tup [.str [115, 105, 103, 110], .str [97]]]], .tup [.str [101], .tup [.tup [.str [115, 111, 114, 116], .str [120]]]]]], .tup [.int 3, .int 1000], .str [97, 43, 97], .int 1180591620717411303424], .tup [.str [100, 111, 117, 98, 116, 101, 100], g0, .str [97, 43, 97], .non], .tup [.str [100, 111, 117, 98, 116, 101, 100], .tup [], .str [40, 97, 41]]],
  [.tup [.str [99, 108, 111, 115, 101, 100, 32, 111, 102, 102], g0, .str [120]], .tup [.str [99, 111, 115, 116, 115], g0, .tup [.int 0, .int 0], .str [97, 43, 97], .int (-1)], .tup [.str [99, 111, 115, 116, 115], .tup [.str [101], .tup [.tup [.str [101], .tup [.tup [.str [115, 111, 114, 116], .str [101]], .tup [.str [115, 105, 103, 110], .str [43]], .tup [.str [115, 111, 114, 116], .str [101]]]], .tup [.str [101], .tup [.tup [.str [115, 105, 103, 110], .str [97]]]], .tup [.str [101], .tup [.tup [.str [115, 111, 114, 116], .str [120]]]]]], .tup [.int 3, .int 1000], .str [40, 97, 41], .int 0], .tup [.str [99, 111, 115, 116, 115], .str [101], .tup [.int 3, .int 1000], .str [40, 97, 41], .int 0], .tup [.str [115, 116, 97, 110, 100, 115], .tup [.str [101], .tup []], .str [97, 43, 97]], .tup [.str [115, 116, 97, 110, 100, 115], g0, .str [40, 97, 41], .non], .tup [.str [115, 116, 97, 110, 100, 115, 32, 110, 111, 116], .tup [.str [101], .tup [.tup [.str [101], .tup [.tup [.str [115, 111, 114, 116], .str [101]], .tup [.str [115, 105, 103, 110], .str [43]], .tup [.str [115, 111, 114, 116], .str [101]]]], .tup [.str [101], .tup [.tup [.str [115, 105, 103, 110], .str [97]]]], .tup [.str [101], .tup [.tup [.str [115, 111, 114, 116], .str [101]], .tup [.str [115, 105, 103, 110], .str [43]], .tup [.str [115, 111, 114, 116], .str [101]]]]]], .str []]],
  [.tup [.str [99, 111, 115, 116, 115, 122], g0, .tup [.int 0, .int 0], .str [], .int 0], .tup [.str [99, 111, 115, 116, 115], g0, .tup [.int 0, .int 0], .str [65], .int 0], .tup [.str [99, 111, 115, 116, 115], .tup [.str [101], .tup []], .tup [.int 0, .int 0], .str [97, 43, 97], .int 0]],
  [.tup [.str [99, 111, 115, 116, 115], .non, .tup [.int 0, .int 0], .str [97, 43, 97], .int 0], .tup [.str [99, 111, 115, 116, 115], g0, .tup [.int 3, .int 1000], .str [], .int (-1)], .tup [.str [99, 111, 115, 116, 115, 122], g0, .tup [.int 3, .int 1000], .str [97, 43, 97], .int 5], .tup [.str [100, 111, 117, 98, 116, 101, 100], .tup [.str [101], .tup [.tup [.str [101], .tup [.tup [.str [115, 111, 114, 116], .str [101]], .tup [.str [115, 105, 103, 110], .str [43]], .tup [.str [115, 111, 114, 116], .str [101]]]], .tup [.str [101], .tup [.tup [.str [115, 105, 103, 110], .str [97]]]], .tup [.str [101], .tup [.tup [.str [115, 111, 114, 116], .str [101]], .tup [.str [115, 105, 103, 110], .str [43]], .tup [.str [115, 111, 114, 116], .str [101]]]]]], .str []]],
  [.tup [.str [99, 111, 115, 116, 115], g0, .tup [.int 0, .int 0], .tup [.str [97]], .int 0], .tup [.str [99, 111, 115, 116, 115], .tup [.str [101], .tup [.tup [.str [101], .tup [.tup [.str [115, 111, 114, 116], .str [101]], .tup [.str [115, 105, 103, 110], .str [43]], .tup [.str [115, 111, 114, 116], .str [101]]]], .tup [.str [101], .tup [.tup [.str [115, 105, 103, 110], .str [97]]]], .tup [.str [101], .tup [.tup [.str [115, 111, 114, 116], .str [120]]]]]], .tup [.int 0, .int 0], .str [], .int 1180591620717411303424], .tup [.str [99, 111, 115, 116, 115], g0, .tup [.int 0, .int 0], .str [97, 43, 97], .str [48]], .tup [.str [99, 111, 115, 116, 115], .tup [.str [101], .tup []], .tup [.int 3, .int 1000], .str [], .int 0], .tup [.str [100, 111, 117, 98, 116, 101, 100], .tup [], .str [97, 43, 97]], .tup [.str [110, 101, 118, 101, 114, 32, 101, 109, 112, 116, 121], .str [101], .str [101]]],
  [.tup [.str [99, 111, 115, 116, 115], .non, .tup [.int 3, .int 1000], .str [], .int 0]],
  [.tup [.str [99, 111, 115, 116, 115], g0, .tup [.int 3, .int 1000], .str [], .str [48]], .tup [.str [99, 111, 115, 116, 115], g0, .tup [.int 3, .int 1000], .str [40, 97, 41], .int 0, .non], .tup [.str [99, 111, 115, 116, 115], .tup [.str [101], .tup [.tup [.str [101], .tup [.tup [.str [115, 111, 114, 116], .str [101]], .tup [.str [115, 105, 103, 110], .str [43]], .tup [.str [115, 111, 114, 116], .str [101]]]], .tup [.str [101], .tup [.tup [.str [115, 105, 103, 110], .str [97]]]], .tup [.str [101], .tup [.tup [.str [115, 111, 114, 116], .str [120]]]]]], .tup [.int 3, .int 1000], .str [40, 97, 41], .int 5], .tup [.str [99, 111, 115, 116, 115], .str [101], .tup [.int 3, .int 1000], .str [40, 97, 41], .int 5], .tup [.str [117, 110, 108, 105, 107, 101], g0, .tup [.str [101], .tup []]]],
  [.tup [.str [99, 111, 115, 116, 115, 122], g0, .tup [.int 0, .int 0], .str [], .int 5], .tup [.str [99, 111, 115, 116, 115], g0, .tup [.int 0, .int 0], .str [65], .int 5], .tup [.str [99, 111, 115, 116, 115], .tup [.str [101], .tup []], .tup [.int 0, .int 0], .str [97, 43, 97], .int 5], .tup [.str [99, 111, 115, 116, 115], .tup [.int 3, .int 1000], .str [97, 43, 97], .int 1180591620717411303424], .tup [.non, g0, .tup [.int 3, .int 1000], .str [40, 97, 41], .int 1180591620717411303424], .tup [.str [102, 114, 117, 105, 116, 102, 117, 108], .non, .str [101]]],
  [.tup [.str [99, 111, 115, 116, 115], g0, .tup [.int 0, .int 0], s61, .int 1180591620717411303424], .tup [.str [99, 111, 115, 116, 115], .non, .tup [.int 0, .int 0], .str [97, 43, 97], .int 5], .tup [.str [99, 111, 115, 116, 115], .tup [.int 3, .int 1000], .str [40, 97, 41], .int 0], .tup [.str [110, 101, 118, 101, 114, 32, 101, 109, 112, 116, 121], .tup [.str [102], .tup [.tup [.str [101], .tup [.tup [.str [115, 111, 114, 116], .str [101]], .tup [.str [115, 105, 103, 110], .str [43]], .tup [.str [115, 111, 114, 116], .str [101]]]], .tup [.str [101], .tup [.tup [.str [115, 105, 103, 110], .str [97]]]]]], .str [101]]],
  [.tup [.str [97, 108, 105, 107, 101], g0, .tup [.str [101], .tup [.tup [.str [101], .tup [.tup [.str [115, 111, 114, 116], .str [101]], .tup [.str [115, 105, 103, 110], .str [43]], .tup [.str [115, 111, 114, 116], .str [101]]]], .tup [.str [101], .tup [.tup [.str [115, 105, 103, 110], .str [97]]]], .tup [.str [101], .tup [.tup [.str [115, 111, 114, 116], .str [101]], .tup [.str [115, 105, 103, 110], .str [43]], .tup [.str [115, 111, 114, 116], .str [101]]]]]]], .tup [.str [99, 111, 115, 116, 115], g0, .tup [.int 0, .int 0, .int 0], .str [], .int 0], .tup [.str [99, 111, 115, 116, 115], g0, .tup [.int 0, .int 0], .str [], .int 5, .non], .tup [.str [99, 111, 115, 116, 115], g0, .tup [.int 0, .int 0], .tup [.str [97]], .int 5], .tup [.str [99, 111, 115, 116, 115], g0, .tup [.int 0], .str [40, 97, 41], .int 1180591620717411303424], .tup [.str [99, 111, 115, 116, 115], .tup [.str [101], .tup []], .tup [.int 3, .int 1000], .str [], .int 5], .tup [g0, .tup [.int 3, .int 1000], .str [40, 97, 41], .int 0], .tup [.str [102, 114, 117, 105, 116, 102, 117, 108], .tup [.str [101], .tup []], .str [101]], .tup [.str [115, 116, 97, 110, 100, 115, 32, 110, 111, 116], .non, .str []]],
  [.tup [.str [99, 111, 115, 116, 115], .non, .tup [.int 3, .int 1000], .str [], .int 5]],
  [.tup [.non, g0, g0], .tup [.str [99, 111, 115, 116, 115], .tup [.int 0, .int 0], .str [], .int 1180591620717411303424], .tup [.str [99, 111, 115, 116, 115], g0, .non, .str [], .int 1180591620717411303424], .tup [.str [99, 111, 115, 116, 115], .str [101], .tup [.int 3, .int 1000], .str [97, 43, 97], .int 0], .tup [.str [114, 101, 97, 99, 104, 101, 100], .tup [.str [101], .tup [.tup [.str [101], .tup [.tup [.str [115, 111, 114, 116], .str [101]], .tup [.str [115, 105, 103, 110], .str [43]], .tup [.str [115, 111, 114, 116], .str [101]]]], .tup [.str [101], .tup [.tup [.str [115, 105, 103, 110], .str [97]]]], .tup [.str [101], .tup [.tup [.str [115, 111, 114, 116], .str [120]]]]]], .str [101]], .tup [.str [115, 116, 97, 110, 100, 115], .tup [.str [101], .tup [.tup [.str [101], .tup [.tup [.str [115, 111, 114, 116], .str [101]], .tup [.str [115, 105, 103, 110], .str [43]], .tup [.str [115, 111, 114, 116], .str [101]]]], .tup [.str [101], .tup [.tup [.str [115, 105, 103, 110], .str [97]]]], .tup [.str [101], .tup [.tup [.str [115, 111, 114, 116], .str [120]]]]]], .str []], .tup [.str [115, 116, 97, 110, 100, 115], g0, .str [97, 43, 97], .non], .tup [.str [115, 116, 97, 110, 100, 115, 32, 110, 111, 116], .tup [.str [101], .tup []], .str []]],
  [.tup [.str [97, 108, 105, 107, 101], g0, .str [101]], .tup [.str [110, 101, 118, 101, 114, 32, 101, 109, 112, 116, 121, 122], g0, .str [101]]],
  [.tup [.str [98, 97, 114, 114, 101, 110], g0, .str [101], .non], .tup [.str [99, 108, 111, 115, 101, 100, 32, 111, 102, 102], .tup [.str [101], .tup [.tup [.str [101], .tup [.tup [.str [115, 111, 114, 116], .str [101]], .tup [.str [115, 105, 103, 110], .str [43]], .tup [.str [115, 111, 114, 116], .str [101]]]], .tup [.str [101], .tup [.tup [.str [115, 105, 103, 110], .str [97]]]], .tup [.str [101], .tup [.tup [.str [115, 111, 114, 116], .str [101]], .tup [.str [115, 105, 103, 110], .str [43]], .tup [.str [115, 111, 114, 116], .str [101]]]]]], .str [101]], .tup [.str [99, 111, 115, 116, 115], .tup [], .tup [.int 0, .int 0], .str [97, 43, 97], .int 0], .tup [.str [99, 111, 115, 116, 115], .tup [.int 3, .int 1000], .str [40, 97, 41], .int 5]],
  [.tup [.str [99, 111, 115, 116, 115], g0, .tup [.int 0, .int 0, .int 0], .str [], .int 5], .tup [g0, .tup [.int 3, .int 1000], .str [40, 97, 41], .int 5]],
  [.tup [g0, .str [101]], .tup [.str [98, 97, 114, 114, 101, 110], .tup [], .str [101]], .tup [.str [99, 111, 115, 116, 115], .str [101], .tup [.int 0, .int 0], .str [], .int 0], .tup [.str [99, 111, 115, 116, 115], .tup [], .tup [.int 3, .int 1000], .str [], .int 0]],
  [.str [99, 108, 111, 115, 101, 100, 32, 111, 102, 102], .tup [.str [99, 111, 115, 116, 115], .tup [.str [101], .tup [.tup [.str [101], .tup [.tup [.str [115, 111, 114, 116], .str [101]], .tup [.str [115, 105, 103, 110], .str [43]], .tup [.str [115, 111, 114, 116], .str [101]]]], .tup [.str [101], .tup [.tup [.str [115, 105, 103, 110], .str [97]]]], .tup [.str [101], .tup [.tup [.str [115, 111, 114, 116], .str [101]], .tup [.str [115, 105, 103, 110], .str [43]], .tup [.str [115, 111, 114, 116], .str [101]]]]]], .tup [.int 0, .int 0], .str [40, 97, 41], .int 0], .tup [.str [99, 111, 115, 116, 115], .str [101], .tup [.int 3, .int 1000], .str [97, 43, 97], .int 5], .tup [.str [110, 101, 118, 101, 114, 32, 101, 109, 112, 116, 121], g0, .tup [.str [101]]], .str [115, 116, 97, 110, 100, 115, 32, 110, 111, 116], .tup [.str [117, 110, 108, 105, 107, 101], .tup [.str [101], .tup [.tup [.str [101], .tup [.tup [.str [115, 111, 114, 116], .str [101]], .tup [.str [115, 105, 103, 110], .str [43]], .tup [.str [115, 111, 114, 116], .str [101]]]], .tup [.str [101], .tup [.tup [.str [115, 105, 103, 110], .str [97]]]], .tup [.str [101], .tup [.tup [.str [115, 111, 114, 116], .str [120]]]]]], g0]],
  [.tup [.str [99, 111, 115, 116, 115], g0, .tup [.int 0, .bl true], .str [], .int 0], .tup [.str [99, 111, 115, 116, 115], g0, .tup [.int 0, .int 0], .int 0, .int 1180591620717411303424], .tup [g0, .str [40, 97, 41]], .tup [.str [117, 110, 108, 105, 107, 101], g0]],
  [.tup [.str [98, 97, 114, 114, 101, 110], g0, .non], .tup [.str [99, 111, 115, 116, 115], .tup [], .tup [.int 0, .int 0], .str [97, 43, 97], .int 5]],
  [.tup [g0, .tup [.int 3, .int 1000], .str [97, 43, 97], .int 0], .tup [.str [101, 109, 112, 116, 121], .tup [], .str [101]], .tup [.str [115, 116, 97, 110, 100, 115, 32, 110, 111, 116], .str [101], .str [40, 97, 41]]],
  [.tup [.str [99, 111, 115, 116, 115], .str [101], .tup [.int 0, .int 0], .str [], .int 5], .tup [.str [99, 111, 115, 116, 115], .tup [], .tup [.int 3, .int 1000], .str [], .int 5], .tup [.str [114, 101, 97, 99, 104, 101, 100, 122], g0, .str [101]]],
  [.tup [.str [99, 111, 115, 116, 115], .tup [.str [101], .tup [.tup [.str [101], .tup [.tup [.str [115, 111, 114, 116], .str [101]], .tup [.str [115, 105, 103, 110], .str [43]], .tup [.str [115, 111, 114, 116], .str [101]]]], .tup [.str [101], .tup [.tup [.str [115, 105, 103, 110], .str [97]]]], .tup [.str [101], .tup [.tup [.str [115, 111, 114, 116], .str [101]], .tup [.str [115, 105, 103, 110], .str [43]], .tup [.str [115, 111, 114, 116], .str [101]]]]]], .tup [.int 0, .int 0], .str [40, 97, 41], .int 5], .tup [.str [115, 116, 97, 110, 100, 115], g0, .non]],
  [.tup [.str [98, 97, 114, 114, 101, 110], g0, .int 0], .tup [.str [99, 111, 115, 116, 115], g0, .tup [.int 0, .bl true], .str [], .int 5], .tup [.str [99, 111, 115, 116, 115, 122], g0, .tup [.int 3, .int 1000], .str [97, 43, 97], .int 1180591620717411303424], .tup [.str [100, 111, 117, 98, 116, 101, 100, 122], g0, .str [40, 97, 41]], .tup [.str [101, 109, 112, 116, 121], g0, .non]],
  [.tup [g0, .tup [.int 0, .int 0], .str [], .int 0], .tup [.non, g0, .tup [.int 0, .int 0], .str [97, 43, 97], .int 0], .tup [.str [99, 111, 115, 116, 115], .tup [.str [102], .tup [.tup [.str [101], .tup [.tup [.str [115, 111, 114, 116], .str [101]], .tup [.str [115, 105, 103, 110], .str [43]], .tup [.str [115, 111, 114, 116], .str [101]]]], .tup [.str [101], .tup [.tup [.str [115, 105, 103, 110], .str [97]]]]]], .tup [.int 3, .int 1000], .str [97, 43, 97], .int 0], .tup [.str [99, 111, 115, 116, 115, 122], g0, .tup [.int 3, .int 1000], .str [40, 97, 41], .int 0], .tup [.str [101, 109, 112, 116, 121, 122], g0, .str [101]], .tup [.str [115, 116, 97, 110, 100, 115, 32, 110, 111, 116], .tup [.str [102], .tup [.tup [.str [101], .tup [.tup [.str [115, 111, 114, 116], .str [101]], .tup [.str [115, 105, 103, 110], .str [43]], .tup [.str [115, 111, 114, 116], .str [101]]]], .tup [.str [101], .tup [.tup [.str [115, 105, 103, 110], .str [97]]]]]], .str [40, 97, 41]]],
  [.tup [.str [98, 97, 114, 114, 101, 110], g0, .str []], .tup [g0, .tup [.int 3, .int 1000], .str [97, 43, 97], .int 5], .tup [.str [102, 114, 117, 105, 116, 102, 117, 108], .str [101]]],
  [.tup [.non, g0, .tup [.int 3, .int 1000], .str [], .int 0], .tup [.str [99, 111, 115, 116, 115], .tup [.str [101], .tup [.tup [.str [101], .tup [.tup [.str [115, 111, 114, 116], .str [101]], .tup [.str [115, 105, 103, 110], .str [43]], .tup [.str [115, 111, 114, 116], .str [101]]]], .tup [.str [101], .tup [.tup [.str [115, 105, 103, 110], .str [97]]]], .tup [.str [101], .tup [.tup [.str [115, 111, 114, 116], .str [120]]]]]], .tup [.int 3, .int 1000], .str [40, 97, 41], .int 1180591620717411303424], .tup [.str [99, 111, 115, 116, 115], .str [101], .tup [.int 3, .int 1000], .str [40, 97, 41], .int 1180591620717411303424], .tup [.str [100, 111, 117, 98, 116, 101, 100], .str [101], .str [97, 43, 97]], .tup [.str [100, 111, 117, 98, 116, 101, 100], g0, .str [40, 97, 41], .non], .tup [.str [115, 116, 97, 110, 100, 115], g0, .int 0]],
  [.tup [.str [99, 111, 115, 116, 115, 122], g0, .tup [.int 0, .int 0], .str [], .int 1180591620717411303424], .tup [.str [99, 111, 115, 116, 115], g0, .tup [.int 0, .int 0], .str [65], .int 1180591620717411303424], .tup [.str [99, 111, 115, 116, 115], .tup [.str [101], .tup [.tup [.str [101], .tup [.tup [.str [115, 111, 114, 116], .str [101]], .tup [.str [115, 105, 103, 110], .str [43]], .tup [.str [115, 111, 114, 116], .str [101]]]], .tup [.str [101], .tup [.tup [.str [115, 105, 103, 110], .str [97]]]], .tup [.str [101], .tup [.tup [.str [115, 111, 114, 116], .str [101]], .tup [.str [115, 105, 103, 110], .str [43]], .tup [.str [115, 111, 114, 116], .str [101]]]]]], .tup [.int 0, .int 0], .str [97, 43, 97], .int 0], .tup [.str [99, 111, 115, 116, 115], .tup [.str [101], .tup []], .tup [.int 0, .int 0], .str [97, 43, 97], .int 1180591620717411303424], .tup [.str [101, 109, 112, 116, 121], g0, .int 0], .tup [.str [115, 116, 97, 110, 100, 115], .tup [.str [101], .tup [.tup [.str [101], .tup [.tup [.str [115, 111, 114, 116], .str [101]], .tup [.str [115, 105, 103, 110], .str [43]], .tup [.str [115, 111, 114, 116], .str [101]]]], .tup [.str [101], .tup [.tup [.str [115, 105, 103, 110], .str [97]]]], .tup [.str [101], .tup [.tup [.str [115, 111, 114, 116], .str [101]], .tup [.str [115, 105, 103, 110], .str [43]], .tup [.str [115, 111, 114, 116], .str [101]]]]]], .str [97, 43, 97]], .tup [.str [115, 116, 97, 110, 100, 115, 32, 110, 111, 116], g0, s61]],
  [.tup [.str [99, 111, 115, 116, 115], .tup [.str [102], .tup [.tup [.str [101], .tup [.tup [.str [115, 111, 114, 116], .str [101]], .tup [.str [115, 105, 103, 110], .str [43]], .tup [.str [115, 111, 114, 116], .str [101]]]], .tup [.str [101], .tup [.tup [.str [115, 105, 103, 110], .str [97]]]]]], .tup [.int 0, .int 0], .str [], .int 0], .tup [.str [99, 111, 115, 116, 115], g0, .tup [.int 0], .str [], .int 0], .tup [.str [99, 111, 115, 116, 115], .non, .tup [.int 0, .int 0], .str [97, 43, 97], .int 1180591620717411303424], .tup [.str [99, 111, 115, 116, 115], .tup [.str [101], .tup []], .tup [.int 0, .int 0], .str [40, 97, 41], .int 0], .tup [.str [99, 111, 115, 116, 115], g0, .tup [.int 3, .int 1000], .str [97, 32, 98], .int 0], .tup [.str [115, 116, 97, 110, 100, 115, 32, 110, 111, 116], .tup [.str [102], .tup [.tup [.str [101], .tup [.tup [.str [115, 111, 114, 116], .str [101]], .tup [.str [115, 105, 103, 110], .str [43]], .tup [.str [115, 111, 114, 116], .str [101]]]], .tup [.str [101], .tup [.tup [.str [115, 105, 103, 110], .str [97]]]]]], .str [97, 43, 97]]],
  [.tup [.str [99, 111, 115, 116, 115], g0, .tup [.int 0, .int (-1)], .str [], .int 0], .tup [g0, .tup [.int 0, .int 0], .str [], .int 5], .tup [.str [99, 111, 115, 116, 115], g0, .tup [.int 0, .int 0], .tup [.str [97]], .int 1180591620717411303424], .tup [.non, g0, .tup [.int 0, .int 0], .str [97, 43, 97], .int 5], .tup [.str [99, 111, 115, 116, 115], .non, .tup [.int 0, .int 0], .str [40, 97, 41], .int 0], .tup [.str [99, 111, 115, 116, 115], .tup [.str [101], .tup [.tup [.str [101], .tup [.tup [.str [115, 111, 114, 116], .str [101]], .tup [.str [115, 105, 103, 110], .str [43]], .tup [.str [115, 111, 114, 116], .str [101]]]], .tup [.str [101], .tup [.tup [.str [115, 105, 103, 110], .str [97]]]], .tup [.str [101], .tup [.tup [.str [115, 111, 114, 116], .str [101]], .tup [.str [115, 105, 103, 110], .str [43]], .tup [.str [115, 111, 114, 116], .str [101]]]]]], .tup [.int 3, .int 1000], .str [], .int 0], .tup [.str [99, 111, 115, 116, 115], .tup [.str [101], .tup []], .tup [.int 3, .int 1000], .str [], .int 1180591620717411303424], .tup [.str [99, 111, 115, 116, 115], .tup [.str [102], .tup [.tup [.str [101], .tup [.tup [.str [115, 111, 114, 116], .str [101]], .tup [.str [115, 105, 103, 110], .str [43]], .tup [.str [115, 111, 114, 116], .str [101]]]], .tup [.str [101], .tup [.tup [.str [115, 105, 103, 110], .str [97]]]]]], .tup [.int 3, .int 1000], .str [97, 43, 97], .int 5], .tup [.str [99, 111, 115, 116, 115, 122], g0, .tup [.int 3, .int 1000], .str [40, 97, 41], .int 5], .tup [.str [101, 109, 112, 116, 121], g0, .str []]],
  [.tup [.str [99, 111, 115, 116, 115], g0, .tup [.int 0, .int 0], .str [40, 97, 41], .int 1180591620717411303424, .non], .tup [.str [99, 111, 115, 116, 115], .non, .tup [.int 3, .int 1000], .str [], .int 1180591620717411303424], .tup [.str [100, 111, 117, 98, 116, 101, 100], .tup [.str [102], .tup [.tup [.str [101], .tup [.tup [.str [115, 111, 114, 116], .str [101]], .tup [.str [115, 105, 103, 110], .str [43]], .tup [.str [115, 111, 114, 116], .str [101]]]], .tup [.str [101], .tup [.tup [.str [115, 105, 103, 110], .str [97]]]]]], .str [97, 43, 97]]],
  [.tup [.non, g0, .tup [.int 3, .int 1000], .str [], .int 5]],
  [.tup [.str [99, 111, 115, 116, 115], g0, .tup [], .str [], .int 0], .tup [.str [99, 111, 115, 116, 115], .tup [.str [101], .tup [.tup [.str [101], .tup [.tup [.str [115, 111, 114, 116], .str [101]], .tup [.str [115, 105, 103, 110], .str [43]], .tup [.str [115, 111, 114, 116], .str [101]]]], .tup [.str [101], .tup [.tup [.str [115, 105, 103, 110], .str [97]]]], .tup [.str [101], .tup [.tup [.str [115, 111, 114, 116], .str [101]], .tup [.str [115, 105, 103, 110], .str [43]], .tup [.str [115, 111, 114, 116], .str [101]]]]]], .tup [.int 0, .int 0], .str [97, 43, 97], .int 5], .tup [.str [110, 101, 118, 101, 114, 32, 101, 109, 112, 116, 121], .tup [.str [101], .tup [.tup [.str [101], .tup [.tup [.str [115, 111, 114, 116], .str [101]], .tup [.str [115, 105, 103, 110], .str [43]], .tup [.str [115, 111, 114, 116], .str [101]]]], .tup [.str [101], .tup [.tup [.str [115, 105, 103, 110], .str [97]]]], .tup [.str [101], .tup [.tup [.str [115, 111, 114, 116], .str [120]]]]]], .str [101]], .tup [.str [114, 101, 97, 99, 104, 101, 100], .non, .str [101]], .tup [.str [115, 116, 97, 110, 100, 115], .non, .str []]],
  [.str [97, 108, 105, 107, 101], .tup [.str [99, 111, 115, 116, 115], .tup [.str [102], .tup [.tup [.str [101], .tup [.tup [.str [115, 111, 114, 116], .str [101]], .tup [.str [115, 105, 103, 110], .str [43]], .tup [.str [115, 111, 114, 116], .str [101]]]], .tup [.str [101], .tup [.tup [.str [115, 105, 103, 110], .str [97]]]]]], .tup [.int 0, .int 0], .str [], .int 5], .tup [.str [99, 111, 115, 116, 115], g0, .tup [.int 0], .str [], .int 5], .tup [.str [99, 111, 115, 116, 115], .tup [.str [101], .tup []], .tup [.int 0, .int 0], .str [40, 97, 41], .int 5], .tup [.str [99, 111, 115, 116, 115], g0, .tup [.int 3, .int 1000], .str [97, 32, 98], .int 5], .tup [.str [99, 111, 115, 116, 115], .tup [.int 3, .int 1000], .str [40, 97, 41], .int 1180591620717411303424], .tup [.str [115, 116, 97, 110, 100, 115, 32, 110, 111, 116, 122], g0, .str [40, 97, 41]]],
  [.tup [.str [99, 111, 115, 116, 115], g0, .tup [.int 0, .int (-1)], .str [], .int 5], .tup [.str [99, 111, 115, 116, 115], g0, .tup [.int 0, .int 0, .int 0], .str [], .int 1180591620717411303424], .tup [.str [99, 111, 115, 116, 115], .non, .tup [.int 0, .int 0], .str [40, 97, 41], .int 5], .tup [.str [99, 111, 115, 116, 115], .tup [.str [101], .tup [.tup [.str [101], .tup [.tup [.str [115, 111, 114, 116], .str [101]], .tup [.str [115, 105, 103, 110], .str [43]], .tup [.str [115, 111, 114, 116], .str [101]]]], .tup [.str [101], .tup [.tup [.str [115, 105, 103, 110], .str [97]]]], .tup [.str [101], .tup [.tup [.str [115, 111, 114, 116], .str [101]], .tup [.str [115, 105, 103, 110], .str [43]], .tup [.str [115, 111, 114, 116], .str [101]]]]]], .tup [.int 3, .int 1000], .str [], .int 5], .tup [g0, .tup [.int 3, .int 1000], .str [40, 97, 41], .int 1180591620717411303424], .tup [.str [114, 101, 97, 99, 104, 101, 100], .tup [.str [101], .tup []], .str [101]], .tup [.str [115, 116, 97, 110, 100, 115], .tup [.str [101], .tup []], .str []]],
  [.tup [.str [117, 110, 108, 105, 107, 101], g0, .non]],
  [.tup [.str [99, 111, 115, 116, 115], .str [101], .tup [.int 3, .int 1000], .str [97, 43, 97], .int 1180591620717411303424], .tup [.str [102, 114, 117, 105, 116, 102, 117, 108], g0, .non], .tup [.str [115, 116, 97, 110, 100, 115, 32, 110, 111, 116], g0, .str [40, 97, 41], .non]],
  [.tup [.str [98, 97, 114, 114, 101, 110], .str [101], .str [101]], .tup [.str [99, 111, 115, 116, 115], g0, .tup [], .str [], .int 5], .tup [.str [99, 111, 115, 116, 115], g0, .tup [.int 0, .int 1001], .str [97, 43, 97], .int 0], .tup [.str [99, 111, 115, 116, 115], g0, .tup [.int 0, .int 0], .str [97, 43, 97], .int 1180591620717411303424, .non], .tup [.str [99, 111, 115, 116, 115], g0, .tup [.int 3, .int 1000], .non, .int 0], .tup [.str [100, 111, 117, 98, 116, 101, 100], .tup [], .str []], .tup [.str [117, 110, 108, 105, 107, 101], .non, g0]],
  [.tup [.str [99, 111, 115, 116, 115], g0, .tup [.int 0, .int 0], .str [], .int 1180591620717411303424, .non], .tup [.str [99, 111, 115, 116, 115], .tup [], .tup [.int 0, .int 0], .str [97, 43, 97], .int 1180591620717411303424], .tup [.str [99, 111, 115, 116, 115], g0, .tup [.int 0, .int 0], .str [40, 97, 41], .int 0, .non], .tup [.str [115, 116, 97, 110, 100, 115, 32, 110, 111, 116], .tup [], .str [97, 43, 97]]],
  [.tup [.str [97, 108, 105, 107, 101], .tup [.str [102], .tup [.tup [.str [101], .tup [.tup [.str [115, 111, 114, 116], .str [101]], .tup [.str [115, 105, 103, 110], .str [43]], .tup [.str [115, 111, 114, 116], .str [101]]]], .tup [.str [101], .tup [.tup [.str [115, 105, 103, 110], .str [97]]]]]], g0], .tup [.str [99, 111, 115, 116, 115], .tup [], .tup [.int 0, .int 0], .str [40, 97, 41], .int 0], .tup [.str [99, 111, 115, 116, 115], g0, .non, .str [40, 97, 41], .int 0], .tup [.str [117, 110, 108, 105, 107, 101], .tup [.str [101], .tup []], g0]],
  [.tup [.non, g0, .str [101]], .tup [.str [99, 111, 115, 116, 115], .str [101], .tup [.int 0, .int 0], .str [], .int 1180591620717411303424], .tup [.str [99, 111, 115, 116, 115], .tup [], .tup [.int 3, .int 1000], .str [], .int 1180591620717411303424], .tup [.str [102, 114, 117, 105, 116, 102, 117, 108], g0, .int 0], .tup [.str [115, 116, 97, 110, 100, 115], g0, .str [97, 32, 98]]],
  [.tup [.str [98, 97, 114, 114, 101, 110], .tup [.str [102], .tup [.tup [.str [101], .tup [.tup [.str [115, 111, 114, 116], .str [101]], .tup [.str [115, 105, 103, 110], .str [43]], .tup [.str [115, 111, 114, 116], .str [101]]]], .tup [.str [101], .tup [.tup [.str [115, 105, 103, 110], .str [97]]]]]], .str [101]], .tup [.str [99, 111, 115, 116, 115], .tup [.str [101], .tup [.tup [.str [101], .tup [.tup [.str [115, 111, 114, 116], .str [101]], .tup [.str [115, 105, 103, 110], .str [43]], .tup [.str [115, 111, 114, 116], .str [101]]]], .tup [.str [101], .tup [.tup [.str [115, 105, 103, 110], .str [97]]]], .tup [.str [101], .tup [.tup [.str [115, 111, 114, 116], .str [101]], .tup [.str [115, 105, 103, 110], .str [43]], .tup [.str [115, 111, 114, 116], .str [101]]]]]], .tup [.int 0, .int 0], .str [40, 97, 41], .int 1180591620717411303424], .tup [.str [99, 111, 115, 116, 115], g0, .tup [.int 3, .int 1000], .str [97, 43, 97], .int 1180591620717411303424, .non], .tup [.str [101, 109, 112, 116, 121], .str [101], .str [101]]],
  [.tup [.str [99, 111, 115, 116, 115], g0, .tup [.int 0, .bl true], .str [], .int 1180591620717411303424], .tup [.str [99, 111, 115, 116, 115], .tup [.str [101], .tup [.tup [.str [101], .tup [.tup [.str [115, 111, 114, 116], .str [101]], .tup [.str [115, 105, 103, 110], .str [43]], .tup [.str [115, 111, 114, 116], .str [101]]]], .tup [.str [101], .tup [.tup [.str [115, 105, 103, 110], .str [97]]]], .tup [.str [101], .tup [.tup [.str [115, 111, 114, 116], .str [120]]]]]], .tup [.int 0, .int 0], .str [97, 43, 97], .int 0], .tup [.str [99, 111, 115, 116, 115], .str [101], .tup [.int 0, .int 0], .str [97, 43, 97], .int 0], .tup [.str [99, 111, 115, 116, 115], g0, .tup [.int 0, .int 1001], .str [97, 43, 97], .int 5], .tup [.str [99, 111, 115, 116, 115], g0, .tup [.int 3, .int 1000], .non, .int 5], .tup [.str [99, 111, 115, 116, 115], g0, .tup [.int 3, .int 1000], .str [], .int 1180591620717411303424, .non], .tup [.str [102, 114, 117, 105, 116, 102, 117, 108], g0, .str []], .tup [.str [114, 101, 97, 99, 104, 101, 100], .str [101]]],
  []]
def tabA : List (List D) := [[.tup [.str [114, 101, 97, 99, 104], .non, .str [101]]],
  [.tup [.str [97, 108, 105, 107, 101], g0], .non, .tup [.str [97, 108, 105, 107, 101], .tup [.str [101], .tup [.tup [.str [101], .tup [.tup [.str [115, 111, 114, 116], .str [101]], .tup [.str [115, 105, 103, 110], .str [43]], .tup [.str [115, 111, 114, 116], .str [101]]]], .tup [.str [101], .tup [.tup [.str [115, 105, 103, 110], .str [97]]]], .tup [.str [101], .tup [.tup [.str [115, 111, 114, 116], .str [101]], .tup [.str [115, 105, 103, 110], .str [43]], .tup [.str [115, 111, 114, 116], .str [101]]]]]], g0], .tup [.str [99, 111, 115, 116], .non, .tup [.int 0, .int 0], .str [97, 43, 97]], .tup [.str [99, 111, 115, 116], g0, .non, .str [40, 97, 41]], .tup [.str [99, 111, 115, 116], g0, .tup [.int 3, .int 1000], .str [], .non], .tup [.str [101, 109, 112, 116, 121], .tup [.str [102], .tup [.tup [.str [101], .tup [.tup [.str [115, 111, 114, 116], .str [101]], .tup [.str [115, 105, 103, 110], .str [43]], .tup [.str [115, 111, 114, 116], .str [101]]]], .tup [.str [101], .tup [.tup [.str [115, 105, 103, 110], .str [97]]]]]], .str [101]], .tup [.str [115, 116, 97, 110, 100], .tup [.str [101], .tup [.tup [.str [101], .tup [.tup [.str [115, 111, 114, 116], .str [101]], .tup [.str [115, 105, 103, 110], .str [43]], .tup [.str [115, 111, 114, 116], .str [101]]]], .tup [.str [101], .tup [.tup [.str [115, 105, 103, 110], .str [97]]]], .tup [.str [101], .tup [.tup [.str [115, 111, 114, 116], .str [101]], .tup [.str [115, 105, 103, 110], .str [43]], .tup [.str [115, 111, 114, 116], .str [101]]]]]], .str [40, 97, 41]]],
  [.tup [.str [99, 111, 115, 116], g0, .tup [.int 0, .int 0], .str [], .non], .tup [.str [99, 111, 115, 116], g0, .tup [.int 0, .int (-1)], .str []], .tup [.str [99, 111, 115, 116], g0, .tup [.int 0, .int 0, .int 0], .str [97, 43, 97]], .tup [.str [99, 111, 115, 116], .non, .tup [.int 3, .int 1000], .str []], .tup [.str [114, 101, 97, 99, 104], .tup [.str [101], .tup []], .str [101]], .tup [.str [115, 116, 97, 110, 100], .tup [.str [102], .tup [.tup [.str [101], .tup [.tup [.str [115, 111, 114, 116], .str [101]], .tup [.str [115, 105, 103, 110], .str [43]], .tup [.str [115, 111, 114, 116], .str [101]]]], .tup [.str [101], .tup [.tup [.str [115, 105, 103, 110], .str [97]]]]]], .str []]],
  [.tup [.str [99, 111, 115, 116], .str [101], .tup [.int 0, .int 0], .str [40, 97, 41]]],
  [.tup [.str [97, 108, 105, 107, 101, 122], g0, g0], .tup [.str [99, 111, 115, 116], g0, .tup [], .str []], .tup [.str [114, 101, 97, 99, 104], .str [101]]],
  [.tup [.str [97, 108, 105, 107, 101], .tup [], g0], .tup [.str [97, 108, 105, 107, 101], g0, .tup [.str [101], .tup [.tup [.str [101], .tup [.tup [.str [115, 111, 114, 116], .str [101]], .tup [.str [115, 105, 103, 110], .str [43]], .tup [.str [115, 111, 114, 116], .str [101]]]], .tup [.str [101], .tup [.tup [.str [115, 105, 103, 110], .str [97]]]], .tup [.str [101], .tup [.tup [.str [115, 111, 114, 116], .str [120]]]]]]], .tup [.str [102, 114, 117, 105, 116], .tup [.str [101], .tup [.tup [.str [101], .tup [.tup [.str [115, 111, 114, 116], .str [101]], .tup [.str [115, 105, 103, 110], .str [43]], .tup [.str [115, 111, 114, 116], .str [101]]]], .tup [.str [101], .tup [.tup [.str [115, 105, 103, 110], .str [97]]]], .tup [.str [101], .tup [.tup [.str [115, 111, 114, 116], .str [120]]]]]], .str [101]], .tup [.str [102, 114, 117, 105, 116], g0, .str [120]], .tup [.non, g0, .str []]],
  [.tup [.str [99, 111, 115, 116], .tup [.str [101], .tup [.tup [.str [101], .tup [.tup [.str [115, 111, 114, 116], .str [101]], .tup [.str [115, 105, 103, 110], .str [43]], .tup [.str [115, 111, 114, 116], .str [101]]]], .tup [.str [101], .tup [.tup [.str [115, 105, 103, 110], .str [97]]]], .tup [.str [101], .tup [.tup [.str [115, 111, 114, 116], .str [120]]]]]], .tup [.int 3, .int 1000], .str [40, 97, 41]]],
  [.tup [.str [97, 108, 105, 107, 101], g0, .tup [.str [102], .tup [.tup [.str [101], .tup [.tup [.str [115, 111, 114, 116], .str [101]], .tup [.str [115, 105, 103, 110], .str [43]], .tup [.str [115, 111, 114, 116], .str [101]]]], .tup [.str [101], .tup [.tup [.str [115, 105, 103, 110], .str [97]]]]]]], .tup [.str [101, 109, 112, 116, 121], .tup [.str [101], .tup [.tup [.str [101], .tup [.tup [.str [115, 111, 114, 116], .str [101]], .tup [.str [115, 105, 103, 110], .str [43]], .tup [.str [115, 111, 114, 116], .str [101]]]], .tup [.str [101], .tup [.tup [.str [115, 105, 103, 110], .str [97]]]], .tup [.str [101], .tup [.tup [.str [115, 111, 114, 116], .str [101]], .tup [.str [115, 105, 103, 110], .str [43]], .tup [.str [115, 111, 114, 116], .str [101]]]]]], .str [101]], .tup [.str [102, 114, 117, 105, 116], .str [101], .str [101]]],
  [.tup [.str [99, 111, 115, 116], g0, .non, .str []], .tup [.str [99, 111, 115, 116], .tup [.int 0, .int 0], .str [40, 97, 41]], .tup [.str [115, 116, 97, 110, 100], .tup [.str [101], .tup [.tup [.str [101], .tup [.tup [.str [115, 111, 114, 116], .str [101]], .tup [.str [115, 105, 103, 110], .str [43]], .tup [.str [115, 111, 114, 116], .str [101]]]], .tup [.str [101], .tup [.tup [.str [115, 105, 103, 110], .str [97]]]], .tup [.str [101], .tup [.tup [.str [115, 111, 114, 116], .str [101]], .tup [.str [115, 105, 103, 110], .str [43]], .tup [.str [115, 111, 114, 116], .str [101]]]]]], .str []]],
  [.tup [.str [97, 108, 105, 107, 101], .non, g0], .tup [.str [99, 111, 115, 116], .tup [.str [101], .tup [.tup [.str [101], .tup [.tup [.str [115, 111, 114, 116], .str [101]], .tup [.str [115, 105, 103, 110], .str [43]], .tup [.str [115, 111, 114, 116], .str [101]]]], .tup [.str [101], .tup [.tup [.str [115, 105, 103, 110], .str [97]]]], .tup [.str [101], .tup [.tup [.str [115, 111, 114, 116], .str [120]]]]]], .tup [.int 0, .int 0], .str []], .tup [.str [101, 109, 112, 116, 121], g0, .tup [.str [101]]], .tup [.str [115, 116, 97, 110, 100], .tup [], .str [97, 43, 97]]],
  [.tup [.str [99, 111, 115, 116], .str [101], .tup [.int 0, .int 0], .str []], .tup [.str [99, 111, 115, 116], g0, .tup [.int 3, .int 1000], .str [97, 32, 98]], .tup [.str [99, 111, 115, 116], .tup [.str [101], .tup [.tup [.str [101], .tup [.tup [.str [115, 111, 114, 116], .str [101]], .tup [.str [115, 105, 103, 110], .str [43]], .tup [.str [115, 111, 114, 116], .str [101]]]], .tup [.str [101], .tup [.tup [.str [115, 105, 103, 110], .str [97]]]], .tup [.str [101], .tup [.tup [.str [115, 111, 114, 116], .str [120]]]]]], .tup [.int 3, .int 1000], .str [97, 43, 97]]],
  [.tup [.str [97, 108, 105, 107, 101], .tup [.str [101], .tup []], g0], .tup [.str [99, 111, 115, 116], .str [101], .tup [.int 3, .int 1000], .str [97, 43, 97]], .tup [.str [102, 114, 117, 105, 116], .tup [.str [102], .tup [.tup [.str [101], .tup [.tup [.str [115, 111, 114, 116], .str [101]], .tup [.str [115, 105, 103, 110], .str [43]], .tup [.str [115, 111, 114, 116], .str [101]]]], .tup [.str [101], .tup [.tup [.str [115, 105, 103, 110], .str [97]]]]]], .str [101]], .tup [.str [115, 116, 97, 110, 100], .str []], .tup [.str [115, 116, 97, 110, 100], .tup [.str [101], .tup []], .str [40, 97, 41]]],
  [.tup [.str [99, 111, 115, 116], .tup [.int 0, .int 0], .str [97, 43, 97]], .tup [.str [99, 111, 115, 116, 122], g0, .tup [.int 3, .int 1000], .str [40, 97, 41]]],
  [.tup [], .tup [.str [99, 111, 115, 116], .tup [], .tup [.int 0, .int 0], .str []], .tup [.str [99, 111, 115, 116], .tup [.str [101], .tup []], .tup [.int 0, .int 0], .str [40, 97, 41]], .tup [.str [99, 111, 115, 116], .tup [.int 3, .int 1000], .str []], .tup [.str [115, 116, 97, 110, 100], .non, .str [97, 43, 97]], .tup [g0, .str [97, 43, 97]]],
  [.tup [.str [99, 111, 115, 116], .tup [], .tup [.int 3, .int 1000], .str [97, 43, 97]]],
  [.tup [.str [99, 111, 115, 116, 122], g0, .tup [.int 0, .int 0], .str []], .tup [.str [115, 116, 97, 110, 100], .tup [.str [101], .tup []], .str [97, 43, 97]]],
  [.tup [.str [99, 111, 115, 116, 122], g0, .tup [.int 3, .int 1000], .str [97, 43, 97]]],
  [.tup [.str [99, 111, 115, 116], .tup [.str [101], .tup []], .tup [.int 0, .int 0], .str [97, 43, 97]], .tup [.str [99, 111, 115, 116], g0, .tup [.int 3, .int 1000], .str [65]], .tup [.non, g0, .tup [.int 3, .int 1000], .str [40, 97, 41]], .tup [.str [102, 114, 117, 105, 116], .tup [.str [101], .tup [.tup [.str [101], .tup [.tup [.str [115, 111, 114, 116], .str [101]], .tup [.str [115, 105, 103, 110], .str [43]], .tup [.str [115, 111, 114, 116], .str [101]]]], .tup [.str [101], .tup [.tup [.str [115, 105, 103, 110], .str [97]]]], .tup [.str [101], .tup [.tup [.str [115, 111, 114, 116], .str [101]], .tup [.str [115, 105, 103, 110], .str [43]], .tup [.str [115, 111, 114, 116], .str [101]]]]]], .str [101]]],
  [.tup [.str [99, 111, 115, 116], .tup [.str [101], .tup []], .tup [.int 3, .int 1000], .str []], .tup [.str [99, 111, 115, 116], g0, .tup [.int 3, .int 1000], .tup [.str [97]]]],
  [.tup [.str [99, 111, 115, 116], g0, .tup [.int 0, .bl true], .str []], .tup [.str [99, 111, 115, 116], g0, .tup [.int 3, .int 1000], s61], .tup [.str [102, 114, 117, 105, 116], .str [101]], .tup [.str [102, 114, 117, 105, 116], g0, .tup [.str [101]]]],
  [.tup [.str [99, 111, 115, 116], .tup [.str [102], .tup [.tup [.str [101], .tup [.tup [.str [115, 111, 114, 116], .str [101]], .tup [.str [115, 105, 103, 110], .str [43]], .tup [.str [115, 111, 114, 116], .str [101]]]], .tup [.str [101], .tup [.tup [.str [115, 105, 103, 110], .str [97]]]]]], .tup [.int 3, .int 1000], .str [40, 97, 41]]],
  [.tup [.non, g0, .tup [.int 3, .int 1000], .str [97, 43, 97]], .tup [.str [99, 111, 115, 116], .tup [.str [101], .tup [.tup [.str [101], .tup [.tup [.str [115, 111, 114, 116], .str [101]], .tup [.str [115, 105, 103, 110], .str [43]], .tup [.str [115, 111, 114, 116], .str [101]]]], .tup [.str [101], .tup [.tup [.str [115, 105, 103, 110], .str [97]]]], .tup [.str [101], .tup [.tup [.str [115, 111, 114, 116], .str [101]], .tup [.str [115, 105, 103, 110], .str [43]], .tup [.str [115, 111, 114, 116], .str [101]]]]]], .tup [.int 3, .int 1000], .str [40, 97, 41]], .tup [.str [102, 114, 117, 105, 116], .tup [], .str [101]]],
  [.tup [.str [114, 101, 97, 99, 104, 122], g0, .str [101]]],
  [.str [99, 111, 115, 116], .tup [.str [99, 111, 115, 116], g0, .tup [.int 0, .int 0], .non], .tup [.non, g0, .tup [.int 0, .int 0], .str [97, 43, 97]], .tup [.str [102, 114, 117, 105, 116, 122], g0, .str [101]]],
  [.tup [.str [99, 111, 115, 116], g0, .tup [.int 0, .int 1001], .str []], .tup [.str [99, 111, 115, 116], .tup [.str [102], .tup [.tup [.str [101], .tup [.tup [.str [115, 111, 114, 116], .str [101]], .tup [.str [115, 105, 103, 110], .str [43]], .tup [.str [115, 111, 114, 116], .str [101]]]], .tup [.str [101], .tup [.tup [.str [115, 105, 103, 110], .str [97]]]]]], .tup [.int 3, .int 1000], .str [97, 43, 97]], .str [101, 109, 112, 116, 121], .tup [.str [101, 109, 112, 116, 121], .tup [.str [101], .tup [.tup [.str [101], .tup [.tup [.str [115, 111, 114, 116], .str [101]], .tup [.str [115, 105, 103, 110], .str [43]], .tup [.str [115, 111, 114, 116], .str [101]]]], .tup [.str [101], .tup [.tup [.str [115, 105, 103, 110], .str [97]]]], .tup [.str [101], .tup [.tup [.str [115, 111, 114, 116], .str [120]]]]]], .str [101]], .tup [.str [115, 116, 97, 110, 100], g0, .str [40, 97, 41], .non], .tup [.str [115, 116, 97, 110, 100, 122], g0, .str [40, 97, 41]]],
  [.tup [g0, .tup [.int 0, .int 0], .str [40, 97, 41]], .tup [.str [99, 111, 115, 116], .tup [.str [101], .tup [.tup [.str [101], .tup [.tup [.str [115, 111, 114, 116], .str [101]], .tup [.str [115, 105, 103, 110], .str [43]], .tup [.str [115, 111, 114, 116], .str [101]]]], .tup [.str [101], .tup [.tup [.str [115, 105, 103, 110], .str [97]]]], .tup [.str [101], .tup [.tup [.str [115, 111, 114, 116], .str [101]], .tup [.str [115, 105, 103, 110], .str [43]], .tup [.str [115, 111, 114, 116], .str [101]]]]]], .tup [.int 3, .int 1000], .str [97, 43, 97]], .tup [.str [102, 114, 117, 105, 116], .non, .str [101]], .tup [.str [115, 116, 97, 110, 100], .tup [.str [101], .tup [.tup [.str [101], .tup [.tup [.str [115, 111, 114, 116], .str [101]], .tup [.str [115, 105, 103, 110], .str [43]], .tup [.str [115, 111, 114, 116], .str [101]]]], .tup [.str [101], .tup [.tup [.str [115, 105, 103, 110], .str [97]]]], .tup [.str [101], .tup [.tup [.str [115, 111, 114, 116], .str [120]]]]]], .str []]],
  [.tup [.str [97, 108, 105, 107, 101], .str [101], g0], .tup [.str [99, 111, 115, 116], .tup [.str [102], .tup [.tup [.str [101], .tup [.tup [.str [115, 111, 114, 116], .str [101]], .tup [.str [115, 105, 103, 110], .str [43]], .tup [.str [115, 111, 114, 116], .str [101]]]], .tup [.str [101], .tup [.tup [.str [115, 105, 103, 110], .str [97]]]]]], .tup [.int 0, .int 0], .str [97, 43, 97]], .tup [.str [99, 111, 115, 116], g0, .tup [.int 0], .str [40, 97, 41]]],
  [.tup [.str [99, 111, 115, 116], g0, .tup [.int 0, .int 0], .int 0], .tup [.str [102, 114, 117, 105, 116], .tup [.str [101], .tup []], .str [101]]],
  [.tup [.str [99, 111, 115, 116], g0, .tup [.int 0, .int 0], .str [97, 43, 97], .non], .tup [.str [114, 101, 97, 99, 104], g0, .non]],
  [.tup [g0, .tup [.int 0, .int 0], .str [97, 43, 97]]],
  [.tup [.str [97, 108, 105, 107, 101], g0, .tup [.str [101], .tup [.tup [.str [101], .tup [.tup [.str [115, 111, 114, 116], .str [101]], .tup [.str [115, 105, 103, 110], .str [43]], .tup [.str [115, 111, 114, 116], .str [101]]]], .tup [.str [101], .tup [.tup [.str [115, 105, 103, 110], .str [97]]]], .tup [.str [101], .tup [.tup [.str [115, 111, 114, 116], .str [101]], .tup [.str [115, 105, 103, 110], .str [43]], .tup [.str [115, 111, 114, 116], .str [101]]]]]]], .tup [.str [99, 111, 115, 116], g0, .tup [.int 0], .str [97, 43, 97]], .tup [.str [99, 111, 115, 116], g0, .tup [.int 0, .int (-1)], .str [40, 97, 41]], .tup [g0, .tup [.int 3, .int 1000], .str []], .tup [.str [99, 111, 115, 116], .non, .tup [.int 3, .int 1000], .str [40, 97, 41]], .str [102, 114, 117, 105, 116], .tup [.str [115, 116, 97, 110, 100], .str [101], .str [97, 43, 97]]],
  [.tup [.str [115, 116, 97, 110, 100, 122], g0, .str []]],
  [.tup [.non, g0, g0], .tup [.str [114, 101, 97, 99, 104], g0, .int 0]],
  [.tup [.str [97, 108, 105, 107, 101], g0, .str [101]], .tup [.str [99, 111, 115, 116], .non, .tup [.int 0, .int 0], .str []], .tup [.str [99, 111, 115, 116], g0, .tup [.int 0], .str []], .tup [.non, g0, .str [40, 97, 41]]],
  [.tup [.str [99, 111, 115, 116], g0, .tup [.int 0, .int 0, .int 0], .str []], .tup [.str [99, 111, 115, 116], g0, .tup [.int 0, .int (-1)], .str [97, 43, 97]], .tup [.str [99, 111, 115, 116], .non, .tup [.int 3, .int 1000], .str [97, 43, 97]], .tup [.str [114, 101, 97, 99, 104], g0, .str []], .tup [.str [115, 116, 97, 110, 100], g0, .str [97, 43, 97], .non], .tup [.str [115, 116, 97, 110, 100], .tup [], .str [40, 97, 41]]],
  [.tup [.str [115, 116, 97, 110, 100], g0, .non]],
  [.tup [.str [97, 108, 105, 107, 101], g0, .non], .tup [.str [99, 111, 115, 116], g0, .tup [], .str [97, 43, 97]], .tup [.str [99, 111, 115, 116], .str [101], .tup [.int 3, .int 1000], .str [40, 97, 41]], .tup [.str [101, 109, 112, 116, 121], g0, .str [101], .non], .tup [g0, .str [101]]],
  [.tup [.str [97, 108, 105, 107, 101], g0, g0, .non], .tup [g0, g0], .tup [.str [99, 111, 115, 116], .tup [.str [101], .tup [.tup [.str [101], .tup [.tup [.str [115, 111, 114, 116], .str [101]], .tup [.str [115, 105, 103, 110], .str [43]], .tup [.str [115, 111, 114, 116], .str [101]]]], .tup [.str [101], .tup [.tup [.str [115, 105, 103, 110], .str [97]]]], .tup [.str [101], .tup [.tup [.str [115, 111, 114, 116], .str [120]]]]]], .tup [.int 0, .int 0], .str [40, 97, 41]], .tup [.str [115, 116, 97, 110, 100], g0, .str [], .non], .tup [.non, g0, .str [97, 43, 97]]],
  [.tup [.str [115, 116, 97, 110, 100], .non, .str [40, 97, 41]], .tup [g0, .str [40, 97, 41]]],
  [.tup [.str [99, 111, 115, 116], .tup [], .tup [.int 3, .int 1000], .str [40, 97, 41]], .tup [.str [115, 116, 97, 110, 100], g0, .int 0], .tup [.str [115, 116, 97, 110, 100], .str [40, 97, 41]]],
  [.tup [.str [99, 111, 115, 116], g0, .non, .str [97, 43, 97]], .tup [.str [101, 109, 112, 116, 121], .tup [], .str [101]], .tup [.str [115, 116, 97, 110, 100], .tup [.str [101], .tup [.tup [.str [101], .tup [.tup [.str [115, 111, 114, 116], .str [101]], .tup [.str [115, 105, 103, 110], .str [43]], .tup [.str [115, 111, 114, 116], .str [101]]]], .tup [.str [101], .tup [.tup [.str [115, 105, 103, 110], .str [97]]]], .tup [.str [101], .tup [.tup [.str [115, 111, 114, 116], .str [101]], .tup [.str [115, 105, 103, 110], .str [43]], .tup [.str [115, 111, 114, 116], .str [101]]]]]], .str [97, 43, 97]]],
  [.tup [.str [99, 111, 115, 116], g0, .tup [.int 0, .int 0], .str [97, 32, 98]], .tup [.str [99, 111, 115, 116], .tup [.str [101], .tup [.tup [.str [101], .tup [.tup [.str [115, 111, 114, 116], .str [101]], .tup [.str [115, 105, 103, 110], .str [43]], .tup [.str [115, 111, 114, 116], .str [101]]]], .tup [.str [101], .tup [.tup [.str [115, 105, 103, 110], .str [97]]]], .tup [.str [101], .tup [.tup [.str [115, 111, 114, 116], .str [120]]]]]], .tup [.int 0, .int 0], .str [97, 43, 97]], .tup [.str [99, 111, 115, 116], .tup [], .tup [.int 0, .int 0], .str [40, 97, 41]], .tup [.str [99, 111, 115, 116], .tup [.int 3, .int 1000], .str [40, 97, 41]], .tup [.str [115, 116, 97, 110, 100], .tup [], .str []]],
  [.tup [.str [99, 111, 115, 116], .str [101], .tup [.int 0, .int 0], .str [97, 43, 97]], .tup [.str [99, 111, 115, 116], .tup [.str [101], .tup [.tup [.str [101], .tup [.tup [.str [115, 111, 114, 116], .str [101]], .tup [.str [115, 105, 103, 110], .str [43]], .tup [.str [115, 111, 114, 116], .str [101]]]], .tup [.str [101], .tup [.tup [.str [115, 105, 103, 110], .str [97]]]], .tup [.str [101], .tup [.tup [.str [115, 111, 114, 116], .str [120]]]]]], .tup [.int 3, .int 1000], .str []]],
  [.tup [.str [97, 108, 105, 107, 101], g0, .tup [.str [101], .tup []]], .tup [.str [99, 111, 115, 116, 122], g0, .tup [.int 0, .int 0], .str [40, 97, 41]], .tup [.str [99, 111, 115, 116], .str [101], .tup [.int 3, .int 1000], .str []], .tup [.str [101, 109, 112, 116, 121], g0, .non], .tup [.str [115, 116, 97, 110, 100], .str [97, 43, 97]]],
  [.tup [.str [99, 111, 115, 116], .tup [.int 0, .int 0], .str []], .tup [.str [101, 109, 112, 116, 121], .non, .str [101]], .tup [.str [101, 109, 112, 116, 121, 122], g0, .str [101]], .tup [.str [114, 101, 97, 99, 104], .tup [.str [101], .tup [.tup [.str [101], .tup [.tup [.str [115, 111, 114, 116], .str [101]], .tup [.str [115, 105, 103, 110], .str [43]], .tup [.str [115, 111, 114, 116], .str [101]]]], .tup [.str [101], .tup [.tup [.str [115, 105, 103, 110], .str [97]]]], .tup [.str [101], .tup [.tup [.str [115, 111, 114, 116], .str [120]]]]]], .str [101]], .tup [.str [114, 101, 97, 99, 104], g0, .str [120]]],
  [.tup [.str [99, 111, 115, 116], .tup [], .tup [.int 0, .int 0], .str [97, 43, 97]], .tup [.str [99, 111, 115, 116], .tup [.int 3, .int 1000], .str [97, 43, 97]], .tup [.str [115, 116, 97, 110, 100], .non, .str []], .tup [g0, .str []]],
  [.tup [.str [99, 111, 115, 116], .tup [], .tup [.int 3, .int 1000], .str []], .tup [.str [99, 111, 115, 116], .tup [.str [101], .tup []], .tup [.int 3, .int 1000], .str [40, 97, 41]], .tup [.str [101, 109, 112, 116, 121], .tup [.str [101], .tup []], .str [101]], .tup [.str [102, 114, 117, 105, 116], g0, .str [101], .non], .tup [.str [114, 101, 97, 99, 104], .str [101], .str [101]]],
  [.tup [.str [99, 111, 115, 116, 122], g0, .tup [.int 0, .int 0], .str [97, 43, 97]], .tup [.str [99, 111, 115, 116], g0, .tup [.int 0, .bl true], .str [40, 97, 41]], .tup [.str [101, 109, 112, 116, 121], g0, .int 0], .tup [.str [115, 116, 97, 110, 100], .tup [.str [101], .tup []], .str []]],
  [.tup [.str [97, 108, 105, 107, 101], g0, .tup []], .tup [.str [99, 111, 115, 116], g0, .tup [.int 0, .int 0], .str [65]], .tup [.non, g0, .tup [.int 0, .int 0], .str [40, 97, 41]], .tup [.str [99, 111, 115, 116, 122], g0, .tup [.int 3, .int 1000], .str []]],
  [.tup [.str [99, 111, 115, 116], .tup [.str [101], .tup []], .tup [.int 0, .int 0], .str []], .tup [.str [99, 111, 115, 116], g0, .tup [.int 0, .int 0], .tup [.str [97]]], .tup [.str [101, 109, 112, 116, 121], g0, .str []]],
  [.tup [.str [99, 111, 115, 116], g0, .tup [.int 0, .int 0], s61], .tup [.str [99, 111, 115, 116], .tup [.str [101], .tup []], .tup [.int 3, .int 1000], .str [97, 43, 97]], .tup [.str [114, 101, 97, 99, 104], .tup [.str [102], .tup [.tup [.str [101], .tup [.tup [.str [115, 111, 114, 116], .str [101]], .tup [.str [115, 105, 103, 110], .str [43]], .tup [.str [115, 111, 114, 116], .str [101]]]], .tup [.str [101], .tup [.tup [.str [115, 105, 103, 110], .str [97]]]]]], .str [101]]],
  [.tup [.str [99, 111, 115, 116], g0, .tup [.int 0, .bl true], .str [97, 43, 97]], .tup [.str [99, 111, 115, 116], .tup [.str [102], .tup [.tup [.str [101], .tup [.tup [.str [115, 111, 114, 116], .str [101]], .tup [.str [115, 105, 103, 110], .str [43]], .tup [.str [115, 111, 114, 116], .str [101]]]], .tup [.str [101], .tup [.tup [.str [115, 105, 103, 110], .str [97]]]]]], .tup [.int 0, .int 0], .str [40, 97, 41]]],
  [.tup [.str [99, 111, 115, 116], .tup [.str [101], .tup [.tup [.str [101], .tup [.tup [.str [115, 111, 114, 116], .str [101]], .tup [.str [115, 105, 103, 110], .str [43]], .tup [.str [115, 111, 114, 116], .str [101]]]], .tup [.str [101], .tup [.tup [.str [115, 105, 103, 110], .str [97]]]], .tup [.str [101], .tup [.tup [.str [115, 111, 114, 116], .str [101]], .tup [.str [115, 105, 103, 110], .str [43]], .tup [.str [115, 111, 114, 116], .str [101]]]]]], .tup [.int 0, .int 0], .str [40, 97, 41]], .tup [.str [99, 111, 115, 116], g0, .tup [.int 0, .int 1001], .str [40, 97, 41]], .tup [.str [99, 111, 115, 116], g0, .tup [.int 3, .int 1000], .str [40, 97, 41], .non]],
  [.str [97, 108, 105, 107, 101], .tup [.str [97, 108, 105, 107, 101], .tup [.str [101], .tup [.tup [.str [101], .tup [.tup [.str [115, 111, 114, 116], .str [101]], .tup [.str [115, 105, 103, 110], .str [43]], .tup [.str [115, 111, 114, 116], .str [101]]]], .tup [.str [101], .tup [.tup [.str [115, 105, 103, 110], .str [97]]]], .tup [.str [101], .tup [.tup [.str [115, 111, 114, 116], .str [120]]]]]], g0], .tup [.str [99, 111, 115, 116], g0, .tup [.int 0, .int 0], .str [40, 97, 41], .non], .tup [.non, g0, .tup [.int 3, .int 1000], .str []], .tup [.str [102, 114, 117, 105, 116], g0, .non], .tup [.str [115, 116, 97, 110, 100], g0, .str [97, 32, 98]], .tup [.str [115, 116, 97, 110, 100], .tup [.str [101], .tup [.tup [.str [101], .tup [.tup [.str [115, 111, 114, 116], .str [101]], .tup [.str [115, 105, 103, 110], .str [43]], .tup [.str [115, 111, 114, 116], .str [101]]]], .tup [.str [101], .tup [.tup [.str [115, 105, 103, 110], .str [97]]]], .tup [.str [101], .tup [.tup [.str [115, 111, 114, 116], .str [120]]]]]], .str [40, 97, 41]]],
  [],
  [.tup [.non, g0, .tup [.int 0, .int 0], .str []], .tup [.str [115, 116, 97, 110, 100], .str [101], .str [40, 97, 41]]],
  [.tup [.str [99, 111, 115, 116], .tup [.str [101], .tup [.tup [.str [101], .tup [.tup [.str [115, 111, 114, 116], .str [101]], .tup [.str [115, 105, 103, 110], .str [43]], .tup [.str [115, 111, 114, 116], .str [101]]]], .tup [.str [101], .tup [.tup [.str [115, 105, 103, 110], .str [97]]]], .tup [.str [101], .tup [.tup [.str [115, 111, 114, 116], .str [101]], .tup [.str [115, 105, 103, 110], .str [43]], .tup [.str [115, 111, 114, 116], .str [101]]]]]], .tup [.int 0, .int 0], .str [97, 43, 97]], .tup [.str [99, 111, 115, 116], g0, .tup [.int 0, .int 1001], .str [97, 43, 97]], .tup [.str [99, 111, 115, 116], .tup [.str [102], .tup [.tup [.str [101], .tup [.tup [.str [115, 111, 114, 116], .str [101]], .tup [.str [115, 105, 103, 110], .str [43]], .tup [.str [115, 111, 114, 116], .str [101]]]], .tup [.str [101], .tup [.tup [.str [115, 105, 103, 110], .str [97]]]]]], .tup [.int 3, .int 1000], .str []], .tup [.str [99, 111, 115, 116], g0, .tup [.int 3, .int 1000], .non], .tup [.str [114, 101, 97, 99, 104], .tup [.str [101], .tup [.tup [.str [101], .tup [.tup [.str [115, 111, 114, 116], .str [101]], .tup [.str [115, 105, 103, 110], .str [43]], .tup [.str [115, 111, 114, 116], .str [101]]]], .tup [.str [101], .tup [.tup [.str [115, 105, 103, 110], .str [97]]]], .tup [.str [101], .tup [.tup [.str [115, 111, 114, 116], .str [101]], .tup [.str [115, 105, 103, 110], .str [43]], .tup [.str [115, 111, 114, 116], .str [101]]]]]], .str [101]], .str [115, 116, 97, 110, 100]],
  [.tup [.str [99, 111, 115, 116], .tup [.str [101], .tup [.tup [.str [101], .tup [.tup [.str [115, 111, 114, 116], .str [101]], .tup [.str [115, 105, 103, 110], .str [43]], .tup [.str [115, 111, 114, 116], .str [101]]]], .tup [.str [101], .tup [.tup [.str [115, 105, 103, 110], .str [97]]]], .tup [.str [101], .tup [.tup [.str [115, 111, 114, 116], .str [101]], .tup [.str [115, 105, 103, 110], .str [43]], .tup [.str [115, 111, 114, 116], .str [101]]]]]], .tup [.int 3, .int 1000], .str []], .tup [.str [102, 114, 117, 105, 116], g0, .int 0], .tup [.str [115, 116, 97, 110, 100], .tup [.str [101], .tup [.tup [.str [101], .tup [.tup [.str [115, 111, 114, 116], .str [101]], .tup [.str [115, 105, 103, 110], .str [43]], .tup [.str [115, 111, 114, 116], .str [101]]]], .tup [.str [101], .tup [.tup [.str [115, 105, 103, 110], .str [97]]]], .tup [.str [101], .tup [.tup [.str [115, 111, 114, 116], .str [120]]]]]], .str [97, 43, 97]]],
  [.tup [.str [99, 111, 115, 116], .tup [.str [102], .tup [.tup [.str [101], .tup [.tup [.str [115, 111, 114, 116], .str [101]], .tup [.str [115, 105, 103, 110], .str [43]], .tup [.str [115, 111, 114, 116], .str [101]]]], .tup [.str [101], .tup [.tup [.str [115, 105, 103, 110], .str [97]]]]]], .tup [.int 0, .int 0], .str []], .tup [g0, .tup [.int 3, .int 1000], .str [40, 97, 41]], .tup [.str [101, 109, 112, 116, 121], .str [101]], .tup [.str [114, 101, 97, 99, 104], g0, .str [101], .non], .tup [.str [114, 101, 97, 99, 104], g0, .tup [.str [101]]]],
  [.tup [.str [97, 108, 105, 107, 101], .tup [.str [102], .tup [.tup [.str [101], .tup [.tup [.str [115, 111, 114, 116], .str [101]], .tup [.str [115, 105, 103, 110], .str [43]], .tup [.str [115, 111, 114, 116], .str [101]]]], .tup [.str [101], .tup [.tup [.str [115, 105, 103, 110], .str [97]]]]]], g0], .tup [.str [99, 111, 115, 116], .tup [.str [101], .tup [.tup [.str [101], .tup [.tup [.str [115, 111, 114, 116], .str [101]], .tup [.str [115, 105, 103, 110], .str [43]], .tup [.str [115, 111, 114, 116], .str [101]]]], .tup [.str [101], .tup [.tup [.str [115, 105, 103, 110], .str [97]]]], .tup [.str [101], .tup [.tup [.str [115, 111, 114, 116], .str [101]], .tup [.str [115, 105, 103, 110], .str [43]], .tup [.str [115, 111, 114, 116], .str [101]]]]]], .tup [.int 0, .int 0], .str []], .tup [.str [101, 109, 112, 116, 121], g0, .str [120]], .tup [.str [102, 114, 117, 105, 116], g0, .str []], .tup [.str [115, 116, 97, 110, 100], .tup [.str [102], .tup [.tup [.str [101], .tup [.tup [.str [115, 111, 114, 116], .str [101]], .tup [.str [115, 105, 103, 110], .str [43]], .tup [.str [115, 111, 114, 116], .str [101]]]], .tup [.str [101], .tup [.tup [.str [115, 105, 103, 110], .str [97]]]]]], .str [40, 97, 41]]],
  [.tup [.str [99, 111, 115, 116], g0, .tup [.int 3, .int 1000], .int 0], .tup [.non, g0, .str [101]], .tup [.str [114, 101, 97, 99, 104], .tup [], .str [101]], .tup [.str [115, 116, 97, 110, 100], g0, .str [65]]],
  [.tup [g0, .tup [.int 0, .int 0], .str []], .tup [.str [99, 111, 115, 116], .non, .tup [.int 0, .int 0], .str [40, 97, 41]], .tup [.str [99, 111, 115, 116], g0, .tup [], .str [40, 97, 41]], .tup [.str [101, 109, 112, 116, 121], .str [101], .str [101]], .tup [.str [115, 116, 97, 110, 100], g0, .tup [.str [97]]]],
  [.tup [.str [99, 111, 115, 116], g0, .tup [.int 0, .int 0, .int 0], .str [40, 97, 41]], .tup [.str [99, 111, 115, 116], g0, .tup [.int 3, .int 1000], .str [97, 43, 97], .non], .tup [g0, .tup [.int 3, .int 1000], .str [97, 43, 97]], .tup [.str [115, 116, 97, 110, 100], .str [101], .str []], .tup [.str [115, 116, 97, 110, 100], g0, s61]],
  [.str [114, 101, 97, 99, 104], .tup [.str [115, 116, 97, 110, 100, 122], g0, .str [97, 43, 97]], .tup [.str [115, 116, 97, 110, 100], .tup [.str [102], .tup [.tup [.str [101], .tup [.tup [.str [115, 111, 114, 116], .str [101]], .tup [.str [115, 105, 103, 110], .str [43]], .tup [.str [115, 111, 114, 116], .str [101]]]], .tup [.str [101], .tup [.tup [.str [115, 105, 103, 110], .str [97]]]]]], .str [97, 43, 97]]]]
def F0 : Fm := [none, some ⟨.box, .cl⟩, some ⟨.dct [(.str [115, 116, 97, 110, 100, 115], .str [103, 116]), (.str [115, 116, 97, 110, 100, 115, 32, 110, 111, 116], .str [103, 116]), (.str [100, 111, 117, 98, 116, 101, 100], .str [103, 116]), (.str [102, 114, 117, 105, 116, 102, 117, 108], .str [103, 115]), (.str [98, 97, 114, 114, 101, 110], .str [103, 115]), (.str [114, 101, 97, 99, 104, 101, 100], .str [103, 115]), (.str [99, 108, 111, 115, 101, 100, 32, 111, 102, 102], .str [103, 115]), (.str [101, 109, 112, 116, 121], .str [103, 115]), (.str [110, 101, 118, 101, 114, 32, 101, 109, 112, 116, 121], .str [103, 115]), (.str [97, 108, 105, 107, 101], .str [103, 103]), (.str [117, 110, 108, 105, 107, 101], .str [103, 103]), (.str [99, 111, 115, 116, 115], .str [103, 99, 116, 110])], .cl⟩, some ⟨.dct [(.str [115, 116, 97, 110, 100], .str [103, 116]), (.str [102, 114, 117, 105, 116], .str [103, 115]), (.str [114, 101, 97, 99, 104], .str [103, 115]), (.str [101, 109, 112, 116, 121], .str [103, 115]), (.str [97, 108, 105, 107, 101], .str [103, 103]), (.str [99, 111, 115, 116], .str [103, 99, 116])], .cl⟩, some ⟨.dct [(.str [103], .lst [g0]), (.str [116], .lst [.str [], .str [97, 43, 97], .str [40, 97, 41]]), (.str [115], .lst [.str [101]]), (.str [99], .lst [.tup [.int 0, .int 0], .tup [.int 3, .int 1000]]), (.str [110], .lst [.int 0, .int 5, .int 1180591620717411303424])], .cl⟩, some ⟨.dct [(.str [103], .lst [.non, .tup [], .tup [.str [101], .tup []], .tup [.str [102], .tup [.tup [.str [101], .tup [.tup [.str [115, 111, 114, 116], .str [101]], .tup [.str [115, 105, 103, 110], .str [43]], .tup [.str [115, 111, 114, 116], .str [101]]]], .tup [.str [101], .tup [.tup [.str [115, 105, 103, 110], .str [97]]]]]], .tup [.str [101], .tup [.tup [.str [101], .tup [.tup [.str [115, 111, 114, 116], .str [101]], .tup [.str [115, 105, 103, 110], .str [43]], .tup [.str [115, 111, 114, 116], .str [101]]]], .tup [.str [101], .tup [.tup [.str [115, 105, 103, 110], .str [97]]]], .tup [.str [101], .tup [.tup [.str [115, 111, 114, 116], .str [101]], .tup [.str [115, 105, 103, 110], .str [43]], .tup [.str [115, 111, 114, 116], .str [101]]]]]], .tup [.str [101], .tup [.tup [.str [101], .tup [.tup [.str [115, 111, 114, 116], .str [101]], .tup [.str [115, 105, 103, 110], .str [43]], .tup [.str [115, 111, 114, 116], .str [101]]]], .tup [.str [101], .tup [.tup [.str [115, 105, 103, 110], .str [97]]]], .tup [.str [101], .tup [.tup [.str [115, 111, 114, 116], .str [120]]]]]], .str [101]]), (.str [116], .lst [.non, .str [97, 32, 98], .str [65], s61, .tup [.str [97]], .int 0]), (.str [115], .lst [.str [120], .str [], .non, .int 0, .tup [.str [101]]]), (.str [99], .lst [.tup [], .tup [.int 0], .tup [.int 0, .int (-1)], .tup [.int 0, .int 1001], .tup [.int 0, .bl true], .non, .tup [.int 0, .int 0, .int 0]]), (.str [110], .lst [.int (-1), .non, .bl true, .str [48]])], .cl⟩, none, none, none, none, none, none, none, none, none, none, none, none, none, none, none, none, none]
abbrev L : Nat := 60
abbrev ks : List Nat := [1, 2, 3, 4, 5]
theorem okT1 : (tabT.all fun b => b.all fun v => isF (callF pg L 65 [cl v])) = true := by decide +kernel
theorem okT2 : ∀ p : D, (tabT.all fun b => b.all fun v => isF (callF pg L 75 [cl v, cl p])) = true := by
  intro p
  kernel_rfl
theorem okA1 : (tabA.all fun b => b.all fun v => isF (callF pg L 66 [cl v])) = true := by decide +kernel
def callT : Nat → List A → Tr A := memo2 tabT 75 (memo1 tabT 65 (memo1 tabA 66 (callF pg L)))
theorem callT_eq : callT = callF pg L := by
  unfold callT
  rw [memo1_eq okA1, memo1_eq okT1, memo2_eq okT2]
def outer : S := law_body.getD 2 .pass
def inLoop : S := match outer with
  | .forr _ _ _ _ [s] => s
  | _ => .pass
def inner : List S := match inLoop with
  | .forr _ _ _ _ b => b
  | _ => []
def inIt : It := match inLoop with
  | .forr _ i _ _ _ => i
  | _ => .rng []
def slotD (i : Nat) : D := match F0.getD i none with
  | some s => s.d
  | none => .non
def told : D := slotD 2
def asked : D := slotD 3
def fI (i : D) : Fm := F0.set 6 (some ⟨i, .cl⟩)
def fT (i : D) : Fm := ((fI i).set 7 (some ⟨told, .cl⟩)).set 8 (some ⟨.fn 65, .cl⟩)
def fA : Fm := (F0.set 7 (some ⟨asked, .cl⟩)).set 8 (some ⟨.fn 66, .cl⟩)
def tT (i : D) : Tr Fl := evSs pg callT inner (fT i)
theorem tw0 (i : D) : (sub 0 (tT i)).allB isNx = true := by kernel_rfl
theorem tw1 (i : D) : (sub 1 (tT i)).allB isNx = true := by kernel_rfl
theorem tw2 (i : D) : (sub 2 (tT i)).allB isNx = true := by kernel_rfl
theorem tw4 (i : D) : (sub 4 (tT i)).allB isNx = true := by kernel_rfl
theorem tw5 (i : D) : (sub 5 (tT i)).allB isNx = true := by kernel_rfl
theorem tw6 (i : D) : (sub 6 (tT i)).allB isNx = true := by kernel_rfl
theorem tw7 (i : D) : (sub 7 (tT i)).allB isNx = true := by kernel_rfl
theorem tw8 (i : D) : (sub 8 (tT i)).allB isNx = true := by kernel_rfl
theorem tw9 (i : D) : (sub 9 (tT i)).allB isNx = true := by kernel_rfl
theorem tw10 (i : D) : (sub 10 (tT i)).allB isNx = true := by kernel_rfl
theorem tw11 (i : D) : (sub 11 (tT i)).allB isNx = true := by kernel_rfl
theorem tc000 (i : D) : (sub 0 (sub 0 (sub 0 (sub 0 (sub 3 (tT i)))))).allB isNx = true := by kernel_rfl
theorem tc001 (i : D) : (sub 1 (sub 0 (sub 0 (sub 0 (sub 3 (tT i)))))).allB isNx = true := by kernel_rfl
theorem tc002 (i : D) : (sub 2 (sub 0 (sub 0 (sub 0 (sub 3 (tT i)))))).allB isNx = true := by kernel_rfl
theorem tc00 (i : D) : (sub 0 (sub 0 (sub 0 (sub 3 (tT i))))).allB isNx = true := all_sub3 (by kernel_rfl) (tc000 i) (tc001 i) (tc002 i)
theorem tc010 (i : D) : (sub 0 (sub 1 (sub 0 (sub 0 (sub 3 (tT i)))))).allB isNx = true := by kernel_rfl
theorem tc011 (i : D) : (sub 1 (sub 1 (sub 0 (sub 0 (sub 3 (tT i)))))).allB isNx = true := by kernel_rfl
theorem tc012 (i : D) : (sub 2 (sub 1 (sub 0 (sub 0 (sub 3 (tT i)))))).allB isNx = true := by kernel_rfl
theorem tc01 (i : D) : (sub 1 (sub 0 (sub 0 (sub 3 (tT i))))).allB isNx = true := all_sub3 (by kernel_rfl) (tc010 i) (tc011 i) (tc012 i)
theorem tc020 (i : D) : (sub 0 (sub 2 (sub 0 (sub 0 (sub 3 (tT i)))))).allB isNx = true := by kernel_rfl
theorem tc021 (i : D) : (sub 1 (sub 2 (sub 0 (sub 0 (sub 3 (tT i)))))).allB isNx = true := by kernel_rfl
theorem tc022 (i : D) : (sub 2 (sub 2 (sub 0 (sub 0 (sub 3 (tT i)))))).allB isNx = true := by kernel_rfl
theorem tc02 (i : D) : (sub 2 (sub 0 (sub 0 (sub 3 (tT i))))).allB isNx = true := all_sub3 (by kernel_rfl) (tc020 i) (tc021 i) (tc022 i)
theorem tc0 (i : D) : (sub 0 (sub 0 (sub 3 (tT i)))).allB isNx = true := all_sub3 (by kernel_rfl) (tc00 i) (tc01 i) (tc02 i)
theorem tc100 (i : D) : (sub 0 (sub 0 (sub 1 (sub 0 (sub 3 (tT i)))))).allB isNx = true := by kernel_rfl
theorem tc101 (i : D) : (sub 1 (sub 0 (sub 1 (sub 0 (sub 3 (tT i)))))).allB isNx = true := by kernel_rfl
theorem tc102 (i : D) : (sub 2 (sub 0 (sub 1 (sub 0 (sub 3 (tT i)))))).allB isNx = true := by kernel_rfl
theorem tc10 (i : D) : (sub 0 (sub 1 (sub 0 (sub 3 (tT i))))).allB isNx = true := all_sub3 (by kernel_rfl) (tc100 i) (tc101 i) (tc102 i)
theorem tc110 (i : D) : (sub 0 (sub 1 (sub 1 (sub 0 (sub 3 (tT i)))))).allB isNx = true := by kernel_rfl
theorem tc111 (i : D) : (sub 1 (sub 1 (sub 1 (sub 0 (sub 3 (tT i)))))).allB isNx = true := by kernel_rfl
theorem tc112 (i : D) : (sub 2 (sub 1 (sub 1 (sub 0 (sub 3 (tT i)))))).allB isNx = true := by kernel_rfl
theorem tc11 (i : D) : (sub 1 (sub 1 (sub 0 (sub 3 (tT i))))).allB isNx = true := all_sub3 (by kernel_rfl) (tc110 i) (tc111 i) (tc112 i)
theorem tc120 (i : D) : (sub 0 (sub 2 (sub 1 (sub 0 (sub 3 (tT i)))))).allB isNx = true := by kernel_rfl
theorem tc121 (i : D) : (sub 1 (sub 2 (sub 1 (sub 0 (sub 3 (tT i)))))).allB isNx = true := by kernel_rfl
theorem tc122 (i : D) : (sub 2 (sub 2 (sub 1 (sub 0 (sub 3 (tT i)))))).allB isNx = true := by kernel_rfl
theorem tc12 (i : D) : (sub 2 (sub 1 (sub 0 (sub 3 (tT i))))).allB isNx = true := all_sub3 (by kernel_rfl) (tc120 i) (tc121 i) (tc122 i)
theorem tc1 (i : D) : (sub 1 (sub 0 (sub 3 (tT i)))).allB isNx = true := all_sub3 (by kernel_rfl) (tc10 i) (tc11 i) (tc12 i)
theorem tw3 (i : D) : (sub 3 (tT i)).allB isNx = true := all_sub1 (by kernel_rfl) (all_sub2 (by kernel_rfl) (tc0 i) (tc1 i))
theorem tellT : ∀ i : D, (evSs pg callT inner (fT i)).allB isNx = true := fun i => all_sub (n := 11) (t := tT i) (by kernel_rfl) fun w hw => match w, hw with
  | 0, _ => tw0 i
  | 1, _ => tw1 i
  | 2, _ => tw2 i
  | 3, _ => tw3 i
  | 4, _ => tw4 i
  | 5, _ => tw5 i
  | 6, _ => tw6 i
  | 7, _ => tw7 i
  | 8, _ => tw8 i
  | 9, _ => tw9 i
  | 10, _ => tw10 i
  | 11, _ => tw11 i
  | _ + 12, h => absurd h (by omega)
theorem tellA : (evSs pg callT inner fA).allB isNx = true := by decide +kernel
theorem run12 : evSs pg (callF pg L) (law_body.take 2) ((List.replicate 23 none).set 1 (some ⟨.box, .cl⟩)) = .ret (.nx F0) := by kernel_rfl
theorem rest_ok : (evSs pg (callF pg L) (law_body.drop 3) F0).allB isRtT = true := by decide +kernel
def wsI : List Nat := (wrSs inner).getD []
theorem wsI_eq : wrSs inner = some wsI := by kernel_rfl
theorem none0 : ∀ i, i < F0.length → i ∉ ks → F0[i]? = some none := none_of (by decide +kernel)
theorem keptT (d : D) : ∀ i ∈ ks, i ∉ wsI ∧ (fT d)[i]? = F0[i]? := by
  intro i hi
  simp only [ks, List.mem_cons, List.not_mem_nil, or_false] at hi
  rcases hi with rfl | rfl | rfl | rfl | rfl <;> exact ⟨by decide +kernel, rfl⟩
theorem keptA : ∀ i ∈ ks, i ∉ wsI ∧ fA[i]? = F0[i]? := by
  intro i hi
  simp only [ks, List.mem_cons, List.not_mem_nil, or_false] at hi
  rcases hi with rfl | rfl | rfl | rfl | rfl <;> exact ⟨by decide +kernel, rfl⟩
theorem keep0 : keepOnly F0 ks = F0 := keepOnly_eq rfl (fun _ _ => rfl) (by decide +kernel) none0
theorem inLoop_eq : inLoop = .forr (.tup [.nm 7, .nm 8]) inIt [] (some ks) inner := by kernel_rfl
theorem outer_eq : outer = .forr (.nm 6) (.rng [.cst (.int 6)]) [] (some ks) [inLoop] := by kernel_rfl
theorem body_eq : law_body = law_body.take 2 ++ (outer :: law_body.drop 3) := by kernel_rfl
def xT : D := .tup [told, .fn 65]
def xA : D := .tup [asked, .fn 66]
theorem it1 (i : D) : evItA pg (callF pg L) inIt (fI i) = .ret [cl (.tup [xT, xA])] := by kernel_rfl
theorem it2 : itemsA inIt [.tup [xT, xA]] = some [xT, xA] := by kernel_rfl
theorem it3 : evItA pg (callF pg L) (.rng [.cst (.int 6)]) F0 = .ret [cl (.int 6)] := by kernel_rfl
theorem it4 : itemsA (.rng [.cst (.int 6)]) [.int 6] = some [.int 0, .int 1, .int 2, .int 3, .int 4, .int 5] := by kernel_rfl
theorem b1 (i : D) : bindT (.tup [.nm 7, .nm 8]) xT (fI i) = some (fT i) := by kernel_rfl
theorem b2 : bindT (.tup [.nm 7, .nm 8]) xA F0 = some fA := by kernel_rfl
theorem b3 (x : D) : bindT (.nm 6) x F0 = some (fI x) := by kernel_rfl
theorem lenT (i : D) : (fT i).length = F0.length := by kernel_rfl
theorem lenA : fA.length = F0.length := by kernel_rfl
theorem tellT' (i : D) : (evSs pg (callF pg L) inner (fT i)).allB isNx = true := callT_eq ▸ tellT i
theorem tellA' : (evSs pg (callF pg L) inner fA).allB isNx = true := callT_eq ▸ tellA
theorem turnT (i : D) : All (evSs pg (callF pg L) inner (fT i)) fun r => ∃ f', r = .nx f' ∧ keepOnly f' ks = F0 := turn_back wsI_eq (lenT i) (keptT i) none0 (tellT' i)
theorem turnA : All (evSs pg (callF pg L) inner fA) fun r => ∃ f', r = .nx f' ∧ keepOnly f' ks = F0 := turn_back wsI_eq lenA keptA none0 tellA'
theorem ow1 (d : D) : decide ((cl d).t ≠ .ow) = true := rfl
theorem inner_run (i : D) : All (evS pg (callF pg L) inLoop (fI i)) fun r => r = .nx F0 := inner_gen inLoop_eq (it1 i) (ow1 _) it2 (b1 i) (turnT i) b2 turnA
theorem outer_run : All (evS pg (callF pg L) outer F0) fun r => r = .nx F0 := outer_gen outer_eq it3 (ow1 _) it4 b3 inner_run keep0
theorem run : ∃ t : Tr Fl, t = evSs pg (callF pg L) law_body ((List.replicate 23 none).set 1 (some ⟨.box, .cl⟩)) ∧ All t fun r => r = .rt (cl (.bl true)) := run_gen2 body_eq run12 outer_run rest_ok
end K70
/-! EvH1: what the head tells, for the evaluator's module. -/
namespace Ev
open PySem PySem.Spec PyProof.Rows L2
theorem glbTabs_mem : ∀ {l : List (Str × D)} {x : Str} {kvs : List (D × D)}, (x, D.dct kvs) ∈ l → ((fun K => He.ga K x, kvs.map fun p => keyS p.1) : He.Tab) ∈ glbTabs l
  | [], _, _, h => by cases h
  | (y, d) :: r, x, kvs, h => by
    rcases List.mem_cons.mp h with e | h
    · cases e
      exact List.mem_cons_self
    · have := glbTabs_mem h
      cases d <;> first | exact this | exact List.mem_cons_of_mem _ this
theorem litV_rz {c : Cs} {b0 : Addr} {B : Addr → Prop} {H : Hp} : ∀ {d : D}, d.leaf = true → Rz c b0 B H d (litV d)
  | .int i, _ => by rw [Rz]; rfl
  | .str z, _ => by rw [Rz]; rfl
  | .non, h => by simp [D.leaf] at h
  | .bl _, h => by simp [D.leaf] at h
  | .lst _, h => by simp [D.leaf] at h
  | .tup _, h => by simp [D.leaf] at h
  | .dct _, h => by simp [D.leaf] at h
  | .fn _, h => by simp [D.leaf] at h
  | .box, h => by simp [D.leaf] at h
theorem litVs_rz {c : Cs} {b0 : Addr} {B : Addr → Prop} {H : Hp} : ∀ {ds : List D}, (ds.all fun d => d.leaf) = true → Rzs c b0 B H ds (ds.map litV)
  | [], _ => .nil
  | d :: ds, h => by
    rw [List.all_cons, Bool.and_eq_true] at h
    exact .cons (litV_rz h.1) (litVs_rz h.2)
theorem fnV_rz {c : Cs} {K : PySem.W.Frag} {fnNames : List Str} (hc : ∀ k, c.fa k = (fnNames[k]?).map (He.ga K)) {b0 : Addr} {B : Addr → Prop} {H : Hp} {d : D} (h : isFnD fnNames d = true) : Rz c b0 B H d (fnV K fnNames d) := by
  cases d with
  | fn k =>
    have hk : k < fnNames.length := of_decide_eq_true h
    rw [Rz]
    refine ⟨He.ga K fnNames[k], by rw [hc, List.getElem?_eq_getElem hk]; rfl, ?_⟩
    show (match fnNames[k]? with
    | some x => V.ref (He.ga K x)
    | none => .non) = _
    rw [List.getElem?_eq_getElem hk]
  | _ => cases h
theorem rows_rz {c : Cs} {K : PySem.W.Frag} {fnNames : List Str} (hc : ∀ k, c.fa k = (fnNames[k]?).map (He.ga K)) {b0 : Addr} {B : Addr → Prop} {H : Hp} : ∀ {kvs : List (D × D)}, (kvs.all fun p => isStrD p.1 && isFnD fnNames p.2) = true →
    Rzd c b0 B H kvs (kvs.map fun p => (V.str (keyS p.1), fnV K fnNames p.2))
  | [], _ => by rw [List.map_nil, Rzd]
  | p :: kvs, h => by
    rw [List.all_cons, Bool.and_eq_true, Bool.and_eq_true] at h
    rw [List.map_cons, Rzd]
    refine ⟨_, _, _, rfl, ?_, fnV_rz hc h.1.2, rows_rz hc h.2⟩
    obtain ⟨k, v⟩ := p
    have h1 := h.1.1
    cases k with
    | str z => rw [Rz]; rfl
    | _ => cases h1
theorem rows_es {P : Params} {K : PySem.W.Frag} {fnNames : List Str} : ∀ {kvs : List (D × D)} {es : List DictEntry}, es.map He.keyOf = He.keysIn P (kvs.map fun p => keyS p.1) → Vals (kvs.map fun p => fnV K fnNames p.2) (es.map (·.val)) →
    Paired (fun (r : V × V) (e : DictEntry) => RelV r.1 e.key ∧ RelV r.2 e.val) (kvs.map fun p => (V.str (keyS p.1), fnV K fnNames p.2)) es
  | [], [], _, _ => .nil
  | [], _ :: _, h, _ => by cases h
  | _ :: _, [], h, _ => by cases h
  | p :: kvs, e :: es, h, hv => by
    have h0 : He.keyOf e :: es.map He.keyOf = some (keyS p.1, PyData.keyHash P (keyS p.1)) :: He.keysIn P (kvs.map fun p => keyS p.1) := h
    injection h0 with h1 h2
    cases hv with
    | cons v1 v2 =>
      refine .cons ⟨?_, v1⟩ (rows_es h2 v2)
      unfold He.keyOf at h1
      split at h1
      · rename_i x t q
        have h3 := Option.some.inj h1
        obtain ⟨h4, _⟩ := Prod.mk.inj h3
        rw [h4] at q
        exact ⟨t, q⟩
      · cases h1
theorem dicW_all {P : Params} {K : PySem.W.Frag} {a : Addr} {ks : List Str} (h : He.dicW K a = some (He.keysIn P ks)) : ∃ es n, K.lookup a = some ⟨.type "dict", none, .dict es n, #[]⟩ ∧ es.toList.map He.keyOf = He.keysIn P ks ∧ (a == sysModules) = false := by
  unfold He.dicW at h
  split at h
  · rename_i c es n sl q
    split at h
    · rename_i z
      obtain ⟨z1, z2⟩ := He.ba z
      obtain ⟨z3, z4⟩ := He.ba z2
      have e1 : c = "dict" := of_decide_eq_true z1
      have e2 : sl = #[] := Array.isEmpty_iff.mp z3
      subst e1 e2
      exact ⟨es, n, q, Option.some.inj h, by simpa using z4⟩
    · cases h
  · cases h
theorem glb_of {c : Cs} {K : PySem.W.Frag} {w : World} {fnNames : List Str} {h : Heap} {mg : Str → Option Value} (X : K.In h) (G : h.Ns mainGlobals mg) (cK : c.K = K) (cw : c.w = w) (hc : ∀ k, c.fa k = (fnNames[k]?).map (He.ga K)) {x : Str} {d : D} (ok : glbOk K fnNames x d = true)
    (tab : ∀ kvs, d = .dct kvs → He.dicW K (He.ga K x) = some (He.keysIn w.params (kvs.map fun p => keyS p.1))) :
    ∃ v u, mg x = some u ∧ RelV v u ∧ ∀ (g : Gh) H, BoxOk g H → Rz c g.b0 g.B H d v := by
  cases d with
  | int i =>
    obtain ⟨t, e⟩ := He.int_ok X G ok
    exact ⟨.int i, _, e, ⟨t, rfl⟩, fun g H _ => by rw [Rz]⟩
  | str z =>
    obtain ⟨t, e⟩ := He.str_ok X G ok
    exact ⟨.str (toStr z), _, e, ⟨t, rfl⟩, fun g H _ => by rw [Rz]⟩
  | tup ds =>
    unfold glbOk at ok
    simp only [Bool.and_eq_true] at ok
    obtain ⟨⟨o1, o2⟩, o3⟩ := ok
    refine ⟨.ref (He.ga K x), _, He.glo_ok X G o1, rfl, fun g H _ => ?_⟩
    rw [Rz]
    refine ⟨He.ga K x, ds.map litV, rfl, ?_, litVs_rz o2⟩
    split at o3
    · rename_i ty its n sl q
      simp only [Bool.and_eq_true, decide_eq_true_eq] at o3
      obtain ⟨rfl, o4, o5⟩ := o3
      exact .inr ⟨_, its, n, by rw [cK]; exact q, rfl, rfl, rfl, o4, He.relAll_ok o5⟩
    · cases o3
  | dct kvs =>
    unfold glbOk at ok
    simp only [Bool.and_eq_true, decide_eq_true_eq] at ok
    obtain ⟨⟨⟨⟨o1, o2⟩, o3⟩, o4⟩, o5⟩ := ok
    obtain ⟨es, n, q, hk, hs⟩ := dicW_all (tab kvs rfl)
    rw [q] at o5
    refine ⟨.ref (He.ga K x), _, He.glo_ok X G o1, rfl, fun g H _ => ?_⟩
    rw [Rz]
    refine ⟨He.ga K x, _, rfl, ⟨hs, by rw [sizeLine_eq]; omega, .inr ⟨es, n, by rw [cK]; exact q, by rw [cw]; exact He.keysLit_of hk, ?_, rows_es hk (He.relAll_ok o5), fun p hp => ?_⟩⟩, rows_rz hc o2⟩
    · rw [List.map_map]
      have e : (kvs.map ((fun r : V × V => r.1) ∘ fun p : D × D => (V.str (keyS p.1), fnV K fnNames p.2))) = (kvs.map fun p => keyS p.1).map V.str := by rw [List.map_map]; rfl
      rw [e]
      exact List.Pairwise.map _ (fun a b n e => n (by cases e; rfl)) o4
    · have := List.all_eq_true.mp o2 p hp
      rw [Bool.and_eq_true] at this
      have h1 := this.1
      obtain ⟨k, v⟩ := p
      cases k with
      | str z => rfl
      | _ => cases h1
  | _ => cases ok
/-! ### the module -/
/-- the defs are those of the compact syntax -/
def fnChk (tb : Tb) (slots : List (List Str)) (fns : List Fd) (defs : List He.DefD) (k : Nat) : Bool := match tb.fns[k]?, slots[k]?, fns[k]?, defs[k]? with
  | some x, some N, some D, some d => decide (d.at_ = (x, none)) && d.dfl.isEmpty && d.kwd.isEmpty && defC tb N D d
  | _, _, _, _ => false
theorem md_of {P : Program} {w : World} {K : PySem.W.Frag} {h base : Heap} {mg : Str → Option Value} {G : Pg} {tb : Tb} {l0 : Nat} {slots : List (List Str)} {defs : List He.DefD} {fa : List He.Fa} {fn : List He.DefD} {ts : List He.Tab} {ex : PySem.W.Frag → Bool}
    (X : K.In h) (Gs : h.Ns mainGlobals mg) (says : He.SaysX fa fn ts [] ex w h K) (gx : ∀ K, ex K = true → ∀ q ∈ tb.glb.zip G.glb, glbOk K tb.fns q.1 q.2 = true) (gl : tb.glb.length = G.glb.length) (tx : ∀ t ∈ glbTabs (tb.glb.zip G.glb), t ∈ ts)
    (hf : ∀ x ∈ tb.fns, He.Fa.glo x ∈ fa) (hb : ∀ x ∈ bltNames, He.Fa.free x ∈ fa) (hd : ∀ d ∈ defs, d ∈ fn) (chk : ∀ k, k < tb.fns.length → fnChk tb slots G.fns defs k = true)
    (draw : ∃ q fd ps, mg drawName = some (.ref q) ∧ FnOk P w K mg base CX0 l0 q fd ps spDraw ∧ Binds K fd ps [] ∧ PySem.W.keepIn K (.ref q) = true) :
    Md P w K mg base ⟨w, K, fun k => (tb.fns[k]?).map (He.ga K)⟩ G tb l0 where
  cK := rfl
  cw := rfl
  fn := fun k q e => by
    obtain ⟨x, ex, rfl⟩ := Option.map_eq_some_iff.mp e
    have hk : k < tb.fns.length := (List.getElem?_eq_some_iff.mp ex).1
    have hc := chk k hk
    unfold fnChk at hc
    split at hc
    · rename_i x' N D d e1 e2 e3 e4
      rw [ex] at e1
      cases e1
      simp only [Bool.and_eq_true, decide_eq_true_eq] at hc
      obtain ⟨⟨⟨h1, h2⟩, h3⟩, h4⟩ := hc
      obtain ⟨fd, F⟩ := He.SaysD.defs says.t.d (hd d (List.mem_of_getElem? e4))
      have d1 : d.dvs K = [] := by unfold He.DefD.dvs; rw [List.isEmpty_iff.mp h2]; rfl
      have d2 : d.kws K = [] := by unfold He.DefD.kws; rw [List.isEmpty_iff.mp h3]; rfl
      rw [d1, d2, h1] at F
      exact ⟨N, D, d, fd, e3, h4, F⟩
    · cases hc
  fns := fun k x e => ⟨He.ga K x, by show (tb.fns[k]?).map _ = _; rw [e]; rfl, He.glo_ok X Gs (He.SaysD.facts says.t.d (hf x (List.mem_of_getElem? e)))⟩
  glb := fun j x e => by
    have hj : j < tb.glb.length := (List.getElem?_eq_some_iff.mp e).1
    have hj2 : j < G.glb.length := by rw [← gl]; exact hj
    have m : (x, G.glb[j]) ∈ tb.glb.zip G.glb := by
      refine List.mem_of_getElem? (i := j) ?_
      rw [List.getElem?_zip_eq_some]
      exact ⟨e, List.getElem?_eq_getElem hj2⟩
    obtain ⟨v, u, h1, h2, h3⟩ := glb_of (c := ⟨w, K, fun k => (tb.fns[k]?).map (He.ga K)⟩) (w := w) X Gs rfl rfl (fun _ => rfl) (gx K says.more _ m) fun kvs ed => by
      have mt := tx _ (glbTabs_mem (x := x) (kvs := kvs) (by rw [← ed]; exact m))
      have e := congrArg (fun z : He.AlT => z.2) says.t
      have e : ts.map (fun t => He.dicW K (t.1 K)) = ts.map fun t => some (He.keysIn w.params t.2) := e
      obtain ⟨i, hi⟩ := List.mem_iff_getElem?.mp mt
      have e2 : (ts.map fun t => He.dicW K (t.1 K))[i]? = (ts.map fun t => some (He.keysIn w.params t.2))[i]? := by rw [e]
      rw [List.getElem?_map, List.getElem?_map, hi] at e2
      exact Option.some.inj e2
    exact ⟨_, v, u, List.getElem?_eq_getElem hj2, h1, h2, h3⟩
  blt := fun x hx => He.free_ok X Gs (He.SaysD.facts says.t.d (hb x hx))
  draw := draw
end Ev
/-! EvH2: the law's text is that of the compact syntax. -/
namespace K70
open Ev PySem PySem.Spec PyProof.Rows L2
def tb : Tb := ⟨fnNames, glbNames⟩
theorem chkAll : ((List.range fnNames.length).all fun k => fnChk tb slots pg.fns defs k) = true := by decide +kernel
theorem chk (k : Nat) (h : k < tb.fns.length) : fnChk tb slots pg.fns defs k = true := List.all_eq_true.mp chkAll k (List.mem_range.mpr h)
theorem scLaw : FnScope lawSlots ["script"] (defScope sLaw) := ⟨rfl, rfl, rfl, by decide +kernel, rfl, by decide +kernel, by decide +kernel⟩
end K70
namespace K70
open Ev PySem PySem.Spec PyProof.Rows L2
def isHd : List Stmt → Bool
  | .Assign [.Name b _] (.Call (.Name f _) [.Name s _] [] _) _ :: _ => decide (b = "box") && decide (f = "_law_box") && decide (s = "script")
  | _ => false
theorem isHd_of {l : List Stmt} (h : isHd l = true) : ∃ py p0 p1 p2 p3 rest, l = .Assign [.Name "box" p0] (.Call (.Name "_law_box" p1) [.Name "script" p2] [] p3) py :: rest := by
  unfold isHd at h
  split at h
  · simp only [Bool.and_eq_true, decide_eq_true_eq] at h
    obtain ⟨⟨rfl, rfl⟩, rfl⟩ := h
    exact ⟨_, _, _, _, _, _, rfl⟩
  · cases h
theorem law_hd : isHd (L2.defBody sLaw) = true := by decide +kernel
theorem law_rest : mSs tb lawSlots (defScope sLaw) (fun _ => true) law_body (L2.defBody sLaw).tail = true := by decide +kernel
theorem law_shape : ∃ py p0 p1 p2 p3 rest, L2.defBody sLaw = .Assign [.Name "box" p0] (.Call (.Name "_law_box" p1) [.Name "script" p2] [] p3) py :: rest ∧ mSs tb lawSlots (defScope sLaw) (fun _ => true) law_body rest = true := by
  have h := law_rest
  obtain ⟨py, p0, p1, p2, p3, rest, e⟩ := isHd_of law_hd
  generalize L2.defBody sLaw = l at h e
  subst e
  exact ⟨py, p0, p1, p2, p3, rest, rfl, h⟩
theorem n_box : lawSlots[1]? = some ("box" : Str) := by decide +kernel
theorem n_script : (defScope sLaw).names.lookup ("script" : Str) = some .local := by decide +kernel
theorem n_isbox : isT (defScope sLaw) (fun _ => true) "box" = true := by decide +kernel
theorem n_lbox : (defScope sLaw).names.lookup ("_law_box" : Str) = some .globalImplicit := by decide +kernel
theorem n_glb : tb.glb.length = pg.glb.length := by decide +kernel
theorem mem_box {x : Str} (h : x ∈ boxNames) : dOf x ∈ hFn ∧ He.Fa.glo x ∈ hFa := ⟨List.mem_append_right _ (List.mem_map_of_mem h), List.mem_append_right _ (List.mem_map_of_mem h)⟩
theorem a_law : plainArgs (defArgs sLaw) ["script"] = true := by decide +kernel
theorem a_draw : plainArgs (defArgs sDraw) ["box", "many"] = true := by decide +kernel
theorem tb_glb : tb.glb = glbNames := rfl
theorem tb_fns : tb.fns = fnNames := rfl
theorem ts_eq : hTs = glbTabs (glbNames.zip pg.glb) := rfl
theorem l_len : lawSlots.length = 23 := by decide +kernel
theorem L_eq : L = 60 := rfl
theorem run60 : ∃ t : Tr Fl, t = evSs pg (callF pg 60) law_body (fr0 lawSlots.length 1) ∧ Tr.All t lawPost := by
  obtain ⟨t, e, h⟩ := run
  refine ⟨t, ?_, h.mono fun r hr => by subst hr; exact rfl⟩
  rw [L_eq] at e
  rw [l_len]
  exact e
theorem facts_gen {slots : List (List Str)} {pg : Pg} {tb : Tb} {lawSlots : List Str} {law_body : List S} {fnNames glbNames : List Str} {defs hFn : List He.DefD} {hFa : List He.Fa} {hTs : List He.Tab} {hEx : PySem.W.Frag → Bool}
    (tb_fns : tb.fns = fnNames) (tb_glb : tb.glb = glbNames) (ts_eq : hTs = glbTabs (glbNames.zip pg.glb)) (ex_eq : ∀ K, hEx K = true → ∀ q ∈ glbNames.zip pg.glb, glbOk K fnNames q.1 q.2 = true) (n_glb : tb.glb.length = pg.glb.length)
    (fa_fn : ∀ x ∈ fnNames, He.Fa.glo x ∈ hFa) (fa_bl : ∀ x ∈ bltNames, He.Fa.free x ∈ hFa) (mem_box : ∀ {x : Str}, x ∈ boxNames → dOf x ∈ hFn ∧ He.Fa.glo x ∈ hFa) (fn_d : ∀ d ∈ defs, d ∈ hFn)
    (chk : ∀ k, k < tb.fns.length → fnChk tb slots pg.fns defs k = true)
    (law_shape : ∃ py p0 p1 p2 p3 rest, L2.defBody sLaw = .Assign [.Name "box" p0] (.Call (.Name "_law_box" p1) [.Name "script" p2] [] p3) py :: rest ∧ mSs tb lawSlots (defScope sLaw) (fun _ => true) law_body rest = true)
    (scLaw : FnScope lawSlots ["script"] (defScope sLaw)) (n_box : lawSlots[1]? = some ("box" : Str)) (n_script : (defScope sLaw).names.lookup ("script" : Str) = some .local) (n_isbox : isT (defScope sLaw) (fun _ => true) "box" = true)
    (n_lbox : (defScope sLaw).names.lookup ("_law_box" : Str) = some .globalImplicit) (a_law : plainArgs (defArgs sLaw) ["script"] = true) (a_draw : plainArgs (defArgs sDraw) ["box", "many"] = true)
    (run60 : ∃ t : Tr Fl, t = evSs pg (callF pg 60) law_body (fr0 lawSlots.length 1) ∧ Tr.All t lawPost)
    {P : Program} {w : World} {K : PySem.W.Frag} {h : Heap} {mg : Str → Option Value} {f : Addr} (X : K.In h) (G : h.Ns mainGlobals mg) (hf : mg ("law" : Str) = some (.ref f)) (c : He.SaysX hFa hFn hTs [] hEx w h K) :
    ∃ fd : FuncData, (∀ (s : Shared) (v : Value), BindsTo s fd ⟨[v], []⟩ [("script", v)]) ∧ ∀ base : Heap, K.In base → base.Ns mainGlobals mg → FnOk P w K mg base CX0 63 f fd ["script"] (spLaw K) := by
  have free : ∀ {x : Str}, x ∈ bltNames → mg x = none := fun hx => He.free_ok X G (He.SaysD.facts c.t.d (fa_bl _ hx))
  have glo : ∀ {x : Str}, x ∈ boxNames → mg x = some (.ref (He.ga K x)) := fun hx => He.glo_ok X G (He.SaysD.facts c.t.d (mem_box hx).2)
  have fnp : ∀ {x : Str}, x ∈ boxNames → ∃ fd, FnP K x (stOf x) (He.ga K x) fd := fun {x} hx => He.SaysD.defs c.t.d (d := dOf x) (mem_box hx).1
  have m0 : ("_law_box" : Str) ∈ boxNames := .head _
  have m1 : ("_law_load" : Str) ∈ boxNames := .tail _ (.head _)
  have m2 : ("_law_draw" : Str) ∈ boxNames := .tail _ (.tail _ (.head _))
  have m3 : ("law" : Str) ∈ boxNames := .tail _ (.tail _ (.tail _ (.head _)))
  have ln : mg "len" = none := free (by simp [bltNames])
  have it : mg "int" = none := free (by simp [bltNames])
  have li : mg "list" = none := free (by simp [bltNames])
  obtain ⟨fd0, F0⟩ := fnp m0
  obtain ⟨fd1, F1⟩ := fnp m1
  obtain ⟨fd2, F2⟩ := fnp m2
  obtain ⟨fd3, F3⟩ := fnp m3
  have e := hf.symm.trans (glo m3)
  cases e
  have b := FunD.bindsA (ps := ["script"]) F3 fun kV doc pm an cdv ct us hl => bindOk_of a_law _ _ _ _ kV doc pm an cdv ct us hl
  refine ⟨fd3, fun s v => b s [v] rfl, fun base _ _ => ?_⟩
  have M : Md P w K mg base ⟨w, K, fun k => (tb.fns[k]?).map (He.ga K)⟩ pg tb 2 := md_of (slots := slots) (defs := defs) X G c (fun K hx q hq => by rw [tb_fns]; rw [tb_glb] at hq; exact ex_eq K hx q hq) n_glb (fun t ht => ts_eq ▸ tb_glb ▸ ht)
    (fun x hx => fa_fn x (tb_fns ▸ hx)) fa_bl fn_d chk
    ⟨He.ga K "_law_draw", fd2, ["box", "many"], glo m2, ok_draw F2 F1 (glo m1) ln it, F2.bindsN fun kV doc pm an cdv ct us hl => bindOk_of a_draw _ _ _ _ kV doc pm an cdv ct us hl, F2.kp⟩
  obtain ⟨py, p0, p1, p2, p3, rest, hb, hc⟩ := law_shape
  obtain ⟨t60, e60, r60⟩ := run60
  subst e60
  exact ok_law (n := 60) (b := 1) (body := law_body) M F0 (glo m0) ln li F3 hb scLaw n_box Nat.one_pos n_script n_isbox n_lbox hc r60
theorem facts {P : Program} {w : World} {K : PySem.W.Frag} {h : Heap} {mg : Str → Option Value} {f : Addr} (X : K.In h) (G : h.Ns mainGlobals mg) (hf : mg ("law" : Str) = some (.ref f)) (c : He.SaysX hFa hFn hTs [] hEx w h K) :
    ∃ fd : FuncData, (∀ (s : Shared) (v : Value), BindsTo s fd ⟨[v], []⟩ [("script", v)]) ∧ ∀ base : Heap, K.In base → base.Ns mainGlobals mg → FnOk P w K mg base CX0 63 f fd ["script"] (spLaw K) :=
  facts_gen (slots := slots) (pg := pg) (tb := tb) (lawSlots := lawSlots) (law_body := law_body) (fnNames := fnNames) (glbNames := glbNames) (defs := defs) (hFn := hFn) (hFa := hFa) (hTs := hTs) (hEx := hEx)
    tb_fns tb_glb ts_eq (fun K hx q hq => List.all_eq_true.mp hx q hq) n_glb (fun x hx => List.mem_append_left _ (List.mem_append_left _ (List.mem_map_of_mem hx))) (fun x hx => List.mem_append_left _ (List.mem_append_right _ (List.mem_map_of_mem hx)))
    mem_box (fun d hd => List.mem_append_left _ hd) chk law_shape scLaw n_box n_script n_isbox n_lbox a_law a_draw run60 X G hf c
end K70
/-! EvH3: the head of the law. -/
namespace K70
open Ev PySem PySem.Spec PyProof.Rows L2
theorem runH (w : World) : HandSHeadRun.RunEq R (PySem.W.view R.prog [lawAt]) hk ob 4000 loose w :=
  PySem.W.byRow2 "special-get-raises" (P := fun w => HandSHeadRun.RunEq R (PySem.W.view R.prog [lawAt]) hk ob 4000 loose w) run0 run1 w
end K70
/-! EvH5: the law holds. -/
open PySem PySem.W PySem.Calls PyProof.Rows
theorem PySem.Challenge.cw_alltreestold_k70_whole_statements_holds : PySem.Challenge.rw_alltreestold_k70_whole_statements.Holds := by
  w_on; o_law
  refine HandSHeadRun.head_any (r := K70.R) (q := view K70.R.prog [K70.lawAt]) (H := K70.hk) (ob := K70.ob) (M := 4000) (loose := K70.loose) (d := HandSHeadRun.topDef K70.R.prog K70.lawAt) (kwd := []) K70.ob_eq
    (by kernel_rfl) (fun s => by kernel_rfl) K70.runH (by kernel_rfl) (by kernel_rfl) (by kernel_rfl) (by rfl) (by first | assumption | decide +kernel) (by decide +kernel) ⟨rfl, rfl, rfl, rfl, rfl, by decide +kernel⟩ ?hw ?hc
  case hw => w_witness2
  case hc =>
    refine L2.walk_ofE (l := PySem.Challenge.rw_alltreestold_k70_whole_statements) (n := 63) (k := 63) (x := "script") (CX := L2.CX0) rfl (by decide) (by kernel_rfl) ⟨rfl, by decide, by decide⟩ ?F (fun _ _ _ _ z => z)
    intro w mg fa h Y G hmg0
    obtain ⟨K, KX, c⟩ := Y
    have hmg : mg ("law" : PySem.Str) = some (.ref fa) := by
      have e : (HandSHeadRun.topDef K70.R.prog K70.lawAt).name = ("law" : PySem.Str) := by kernel_rfl
      rw [← e]
      exact hmg0
    obtain ⟨fd, hb, hF⟩ := K70.facts (P := (PySem.Challenge.rw_alltreestold_k70_whole_statements).prog) (w := w) KX G hmg c
    exact ⟨K, fd, K70.spLaw K, KX, hb, fun H a ns hl _ hS => ⟨a, ns, rfl, hS, hl, fun _ => rfl⟩, hF⟩
